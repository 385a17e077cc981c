import PyProof.Rows.All
import Wide.All
import OpenK.AllK
import Wide.FinOn
import Lean
import PySem.Challenge.RW_xm0951_01
open PySem PySem.W PySem.Calls PyProof.Rows
set_option Elab.async false
set_option maxRecDepth 100000
set_option maxHeartbeats 8000000
namespace Mine
/-- the booted objects, as a tree -/
noncomputable def bootT (P : Params) : BT :=
  .node (boot_o_0 P) (.node (boot_o_1 P) (.node (boot_o_3 P) (.node (boot_o_7 P) .nil .nil) .nil) (.node (boot_o_5 P) (.node (boot_o_9 P) .nil .nil) .nil))
    (.node (boot_o_2 P) (.node (boot_o_4 P) (.node (boot_o_8 P) .nil .nil) .nil) (.node (boot_o_6 P) (.node (boot_o_10 P) .nil .nil) .nil))
/-- the top's run over a heap that is a tree -/
noncomputable def runT (st : SharedT → Thread → Option (SharedT × Thread)) (ok thr : Thread → Bool) (n : Nat) : SharedT → Thread → Option SharedT :=
  Nat.rec (fun _ _ => none) (fun _ ih s t => match thr t with
    | true => some s
    | false => match ok t with
      | false => none
      | true => match st s t with
        | some (s', t') => ih s' t'
        | none => none) n
theorem runT_of {tb : String → Option Builtin} {p : Program} {w : World} {n₀ : Nat} {ann : Option Value} : ∀ {n : Nat} {s s' : SharedT} {t : Thread},
    runT (stepT (denote tb) p w) (stepOk n₀ ann) through n s t = some s' → topRun tb p w n₀ ann n s.abs t = some s'.abs
  | 0, _, _, _, h => by cases h
  | n + 1, s, s', t, h => by
    have h : (match through t with
      | true => some s
      | false => match stepOk n₀ ann t with
        | false => none
        | true => match stepT (denote tb) p w s t with
          | some (s', t') => runT (stepT (denote tb) p w) (stepOk n₀ ann) through n s' t'
          | none => none) = some s' := h
    unfold topRun
    cases h1 : through t with
    | true => rw [h1] at h; cases h; rfl
    | false =>
      rw [h1] at h
      dsimp only at h ⊢
      cases h2 : stepOk n₀ ann t with
      | false => rw [h2] at h; cases h
      | true =>
        rw [h2] at h
        dsimp only at h ⊢
        cases h3 : stepT (denote tb) p w s t with
        | none => rw [h3] at h; cases h
        | some r =>
          obtain ⟨s₂, t₂⟩ := r
          rw [h3] at h
          dsimp only at h
          rw [stepT_spec h3]
          exact runT_of h
/-- the top's run and the looks behind it, in one: from the booted heap -/
theorem left_once {p q : Program} {loose : List Str} {Xt : Shared → Bool} {α : Type} {Yf : Shared → α} {Ya : World → α} {N m₀ M : Nat} {ann : Option Value}
    (e : opening p = plainProg p.main.scope.names) (hN : Nat.ble 600 N = true) (f : ∀ s, fenceModules? p s = some s)
    (size : ∀ w : World, ((boot_heap w.params).isNs mainGlobals, (boot_heap w.params).objs.size, (boot_heap w.params).nsMap mainGlobals "__annotations__") = (true, m₀, ann))
    (le : Nat.ble M N = true)
    (run : ∀ w : World, (fun os => (runT (stepT (denote treeTable) p w) (stepOk m₀ ann) through M ⟨bootT w.params, 11, {}, Array.mk [], boot_drawn, boot_toks, os⟩ (topStub p)).map fun s =>
        (staticsOk (importedModules p.main.body) (boot_heap w.params) s.abs.heap && namesBound p s.abs.heap && gensDone s.abs && laidKept (boot_heap w.params) s.abs.heap,
          openSeen q loose (importedModules p.main.body) Xt true s.abs, Yf s.abs)) = fun _ => some (true, openGood q loose, Ya w)) : LeftO p q loose Xt Yf Ya N := fun w => by
  obtain ⟨⟨h, gs, d, k, os⟩, e1, e2⟩ := Option.map_eq_some_iff.mp (boot_open e hN f w)
  obtain ⟨rfl, rfl, rfl, rfl⟩ : h = boot_heap w.params ∧ gs = Array.mk [] ∧ d = boot_drawn ∧ k = boot_toks := by simpa using e2
  obtain ⟨z1, z2, z3⟩ : _ ∧ _ ∧ _ := by simpa only [Prod.mk.injEq] using size w
  obtain ⟨sT, rT, e3⟩ := Option.map_eq_some_iff.mp (congrFun (run w) os)
  have r : topRun treeTable p w m₀ ann M ⟨boot_heap w.params, Array.mk [], boot_drawn, boot_toks, os⟩ (topStub p) = some sT.abs := by
    have z : (⟨boot_heap w.params, Array.mk [], boot_drawn, boot_toks, os⟩ : Shared) = SharedT.abs ⟨bootT w.params, 11, {}, Array.mk [], boot_drawn, boot_toks, os⟩ := by kernel_rfl
    rw [z]
    exact runT_of rT
  generalize sT.abs = s₁ at r e3
  obtain ⟨l1, l2, l3⟩ : _ ∧ _ ∧ _ := by simpa only [Prod.mk.injEq] using e3
  have r2 := topRun_mono (N - M) _ _ _ _ r
  rw [show M + (N - M) = N by have := Nat.le_of_ble_eq_true le; omega] at r2
  have t : topFrom treeTable p w N ⟨boot_heap w.params, Array.mk [], boot_drawn, boot_toks, os⟩ = some s₁ := by
    unfold topFrom
    dsimp only
    rw [z1, z2, z3, r2]
    show (match staticsOk (importedModules p.main.body) (boot_heap w.params) s₁.heap && namesBound p s₁.heap && gensDone s₁ && laidKept (boot_heap w.params) s₁.heap with | true => _ | false => _) = _
    rw [l1]
  unfold openEnds
  rw [e1]
  show (topFrom treeTable p w N _).map _ = _
  rw [t]
  exact congrArg some (Prod.ext l2 l3)
/-- the text behind its lines that only name the module -/
noncomputable def vw : Program := PySem.W.view PySem.Challenge.rw_xm0951_01.row.prog [1, 2, 3, 4, 5, 6, 7, 8, 9, 10, 11, 12, 13, 14, 16, 17, 18, 19, 20, 21, 22, 23, 24, 25, 26, 27, 28, 29, 31, 32, 34, 36, 38]
theorem said : OpenLaw.wellSaid PySem.Challenge.rw_xm0951_01 = true := by
  rewrite [PySem.W.Fast.te9446332074065402090]
  kernel_rfl
local macro_rules | `(tactic| o_law) => `(tactic| refine holds_law Mine.said fun said => ?_)
local macro_rules | `(tactic| o_head $H:term) => `(tactic| (
  refine holds_open (q := Mine.vw) (loose := [Str.ofString "SnobolError"]) (Xt := fun s => xlAt Mine.vw [] s && recOk (RowW.records (OpenRow.toRowW (OpenLaw.row PySem.Challenge.rw_xm0951_01))) s) (XP := XL Mine.vw []) (Yf := Hook.obs $H) (Ya := Hook.val $H) (YP := Hook.says $H) (N := 6326) ?hl (Hook.of $H) (Hook.keeps $H) (fun s e => xl_of s (Bool.and_eq_true_iff.mp e).1) XL.keeps (by rfl) (by rfl) (by rfl) (fun s e => recFacts_of (Bool.and_eq_true_iff.mp e).2) (by rfl) (by first | assumption | decide +kernel) (by decide +kernel) ⟨rfl, rfl, rfl, rfl, rfl, by decide +kernel⟩ ?hw ?hc
  (case hl =>
    refine left_once (m₀ := 11) (M := 3200) (ann := some (.ref 6)) ?he (by decide) ?hf ?hs (by decide) ?hr
    (case he => kernel_rfl)
    (case hf => intro s; kernel_rfl)
    (case hs => intro w; rewrite [PySem.W.Fast.te8920871248978507458]; kernel_rfl)
    (case hr => intro w; rewrite [PySem.W.Fast.te10156331382660048174, PySem.W.Fast.te11892475500146522536, PySem.W.Fast.te14364793385576792824, PySem.W.Fast.te6613529449190102663, PySem.W.Fast.te4187177175401517315, PySem.W.Fast.te5923862056798008813]; kernel_rfl))))
open_top hd for PySem.Challenge.rw_xm0951_01
end Mine
open PySem PySem.W PySem.Calls PyProof.Rows
local macro_rules | `(tactic| walk_at "mine step") => `(tactic| first | (k_unfold; (try dsimp only)) | (k_end; kc_close) | walk1 | (dsimp only; walk1) | (leave1; (try dsimp only)))
local macro_rules | `(tactic| walk_at "mine enter") => `(tactic| (
  refine wpAny_call ?_
  k_dflt (refine' code_defG (news := []) ?k1 ?k2 ?k3 ?k4 ?k5 ?kA ?kF ?kK ?k6 ?k7 ?k8 ?k9 ?kB ?_ ?c2 ?c3 ?c4 ?c5; (case kA => exact rfl); (case kF => exact rfl); (case kK => assumption); (case k1 => k_asm); (case k2 => k_asm); (case k3 => k_asm); (case k4 => exact News.nil); (case k5 => k_asm); (case k6 => k_is); (case k7 => k_is); (case k8 => ktr_room); (case k9 => exact BindsTo.of_eq rfl); (case c5 => decide); (case kB => exact locs rfl); (case c2 => exact rfl); (case c3 => exact rfl); (case c4 => exact rfl); k_whole; intro g' L' h' FG' F' N' B' X' T' kG'; (try dsimp only); (try k_lift B'); (try k_fold))))
open PySem PySem.W PySem.Calls PyProof.Rows
set_option Elab.async false
set_option maxRecDepth 100000
set_option maxHeartbeats 8000000
namespace Mine
noncomputable abbrev PG : Program := PySem.Challenge.rw_xm0951_01.row.prog
noncomputable abbrev LG : List Str := looseW vw [Str.ofString "SnobolError"]

/-- what stands at a call -/
structure At (w : World) (mean : ExcName → Option Value) (mg mb : Str → Option Value) (dp un : Nat) (cs : Scope) (outer : List Env) (A₀ : Around) (base h₀ : Heap) (L : Addr) (m : Str → Option Value) (news : List (Addr × Obj)) (h : Heap) (z : Nat) : Prop where
  B : Below A₀ base outer h₀
  F : Fr h₀ L h m
  X : (hd.heap_1 w.params).In h₀
  N : News h₀ L h news
  T : Top vw LG mean mg mb h₀
  k : cs.kind = .function
  d : dp + z < recursionLimit
  u : un + 10 * z < cLine

noncomputable abbrev Ret (h₀ : Heap) (L : Addr) (m : Str → Option Value) (news : List (Addr × Obj)) (s : Shared) (Q : Value → Shared → Prop) (v : Value) (nw : List (Addr × Obj)) : Prop :=
  ∀ h' tk', Fr h₀ L h' m → News h₀ L h' (nw ++ news) → Q v { s with heap := h', toks := tk' }

theorem news_keep {h₀ h h' g : Heap} {L L' : Addr} {m' : Str → Option Value} {news nw : List (Addr × Obj)} (N : News h₀ L h news) (G : GSub h g []) (F' : Fr g L' h' m') (N' : News h₀ L h' nw) : News h₀ L h' (nw ++ news) := fun p hp => by
  rcases List.mem_append.mp hp with q | q
  · exact N' p q
  · exact ⟨F'.keep _ _ (G _ _ (N p q).1 (by simp)), (N p q).2⟩

noncomputable abbrev Fresh (nw news : List (Addr × Obj)) : Prop := ∀ q ∈ nw, ∀ p ∈ news, p.1 ≠ q.1
noncomputable abbrev RetN (h₀ : Heap) (L : Addr) (m : Str → Option Value) (news : List (Addr × Obj)) (s : Shared) (Q : Value → Shared → Prop) (v : Value) (nw : List (Addr × Obj)) : Prop :=
  ∀ h' tk', Fr h₀ L h' m → News h₀ L h' (nw ++ news) → Fresh nw news → Q v { s with heap := h', toks := tk' }
theorem news_fresh {h₀ h h' g : Heap} {L L' : Addr} {news nw : List (Addr × Obj)} (N : News h₀ L h news) (G : GSub h g []) (N' : News g L' h' nw) : Fresh nw news := fun q hq p hp e => by
  have h1 := G _ _ (N p hp).1 (by simp)
  rw [e, (N' q hq).2.2] at h1
  cases h1
theorem news_keep2 {h₀ h h' g : Heap} {L L' : Addr} {m' : Str → Option Value} {news inp nw : List (Addr × Obj)} (N : News h₀ L h news) (hi : ∀ p ∈ inp, p ∈ news) (G : GSub h g (inp.map (·.1))) (F' : Fr g L' h' m') (N' : News h₀ L h' nw) (hin : ∀ p ∈ inp, p ∈ nw) : News h₀ L h' (nw ++ news) := fun p hp => by
  rcases List.mem_append.mp hp with q | q
  · exact N' p q
  · by_cases hb : p.1 ∈ inp.map (·.1)
    · obtain ⟨r, hr, e⟩ := List.mem_map.mp hb
      have h1 := (N r (hi r hr)).1
      rw [e, (N p q).1] at h1
      have e2 : r = p := Prod.ext e (Option.some.inj h1).symm
      exact N' p (hin p (e2 ▸ hr))
    · exact ⟨F'.keep _ _ (G _ _ (N p q).1 hb), (N p q).2⟩
theorem news_fresh2 {h₀ h h' g : Heap} {L L' : Addr} {news inp nw : List (Addr × Obj)} (N : News h₀ L h news) (G : GSub h g (inp.map (·.1))) (N' : News g L' h' nw) (hd : ∀ q ∈ nw, ∀ p ∈ inp, p.1 ≠ q.1) : Fresh nw news := fun q hq p hp e => by
  by_cases hb : p.1 ∈ inp.map (·.1)
  · obtain ⟨r, hr, e2⟩ := List.mem_map.mp hb
    exact hd q hq r hr (e2.trans e)
  · have h1 := G _ _ (N p hp).1 hb
    rw [e, (N' q hq).2.2] at h1
    cases h1

/-! ## a loop whose state may change its addresses -/
noncomputable def TurnJ (h₀ : Heap) (L : Addr) (Jn : (Str → Option Value) → List (Addr × Obj) → Prop) (I : Addr) (oI : Obj) (s₁ : Shared) (Q : Flow → Shared → Prop) (f : Flow) (s₂ : Shared) : Prop :=
  match f with
  | .ret v => Q (.ret v) s₂
  | .brk => Q .next s₂
  | _ => ∃ h' tk m' nx, s₂ = { s₁ with heap := h', toks := tk } ∧ Fr h₀ L h' m' ∧ News h₀ L h' ((I, oI) :: nx) ∧ (∀ p ∈ nx, p.1 ≠ I) ∧ Jn m' nx

section
variable {prog : Program} {w : World} {A : Around} {E : Value → Shared → Prop} {s : Shared} {env : Env} {h₀ : Heap} {x : Str} {body : List Stmt} {Q : Flow → Shared → Prop}

theorem loop_gen {I : Addr} {fp : List Addr} {n : Nat} {P : Nat → Value → Prop} {St : Nat → Heap → Prop} {m₀ : Str → Option Value} {news keepers : List (Addr × Obj)}
    (J : Nat → (Str → Option Value) → List (Addr × Obj) → Prop)
    (W : Walks prog w A I fp [I] n P St) (hIf : I ∈ fp) (hI0 : h₀.get? I = none) (hob : ∀ i h, St i h → ∃ o, h.get? I = some o)
    (hfp : ∀ b ∈ fp, b = I ∨ (∃ q, h₀.get? b = some q) ∨ ∃ o, (b, o) ∈ keepers)
    (hLf : env.locals ∉ fp) (hnw : ∀ p ∈ news, p.1 ≠ I) (hst : St 0 s.heap) (F : Fr h₀ env.locals s.heap m₀) (N : News h₀ env.locals s.heap news) (hj : J 0 m₀ news)
    (hk : ∀ i m nx, J i m nx → ∀ p ∈ keepers, p ∈ nx)
    (turn : ∀ i v m₁ nx h tk oI, i < n → P i v → J i m₁ nx → (∀ p ∈ nx, p.1 ≠ I) → Fr h₀ env.locals h (fun y => if y = x then some v else m₁ y) → News h₀ env.locals h ((I, oI) :: nx) →
      wpAny (model prog w) A (execs body env) (TurnJ h₀ env.locals (J (i + 1)) I oI { s with heap := h, toks := tk } Q) E { s with heap := h, toks := tk })
    (done : ∀ m₁ nx h tk, J n m₁ nx → Fr h₀ env.locals h m₁ → News h₀ env.locals h nx → Q .next { s with heap := h, toks := tk }) :
    LoopAtV prog w A h₀ env x body Q E (.ref I) s := by
  refine ⟨I, fp, [I], n, P, St, m₀, news, J, rfl, W, hLf, ?_, ?_, hst, F, N, hj, ?_, ?_⟩
  · intro b hb
    rw [List.mem_singleton.mp hb]
    exact hI0
  · intro p hp hI
    exact hnw p hp (List.mem_singleton.mp hI)
  · rintro i v m₁ nx s₁ own ⟨hh', tk', rfl⟩ hin hP hJ hoff hown hownh hall hst' F₁ N₁
    obtain ⟨oI, hoI⟩ := hob _ _ hst'
    have hio : (I, oI) ∈ own := hall I hIf hI0 oI hoI
    have hoff' : ∀ p ∈ nx, p.1 ≠ I := fun p hp e => hoff p hp (by rw [e]; exact List.mem_singleton.mpr rfl)
    have own1 : ∀ p ∈ own, p = (I, oI) ∨ p ∈ keepers := by
      intro p hp
      have h3 := N₁ p (List.mem_append_left _ hp)
      rcases hfp p.1 (hown p hp) with e1 | ⟨q, hq⟩ | ⟨o, ho⟩
      · left
        have h4 := h3.1
        rw [e1, hoI] at h4
        exact Prod.ext e1 (Option.some.inj h4).symm
      · have h5 := h3.2.2
        rw [hq] at h5
        exact absurd h5 (fun x => nomatch x)
      · right
        have h6 := (N₁ _ (List.mem_append_right _ (hk _ _ _ hJ _ ho))).1
        have h4 := h3.1
        rw [h6] at h4
        have e2 : p = (p.1, o) := Prod.ext rfl (Option.some.inj h4).symm
        rw [e2]; exact ho
    have N₂ : News h₀ env.locals hh' ((I, oI) :: nx) := by
      intro p hp
      rcases List.mem_cons.mp hp with e | hp
      · rw [e]; exact N₁ _ (List.mem_append_left _ hio)
      · exact N₁ _ (List.mem_append_right _ hp)
    refine wpAny_mono (turn i v m₁ nx hh' tk' oI hin hP hJ hoff' F₁ N₂) (fun f s₂ p => ?_) fun _ _ e => e
    have fin : (∃ h' tk m' nx', s₂ = { ({ s with heap := hh', toks := tk' } : Shared) with heap := h', toks := tk } ∧ Fr h₀ env.locals h' m' ∧ News h₀ env.locals h' ((I, oI) :: nx') ∧ (∀ p ∈ nx', p.1 ≠ I) ∧ J (i + 1) m' nx') →
        LoopStepU h₀ env.locals [I] own (J (i + 1)) { s with heap := hh', toks := tk' } .next s₂ := by
      rintro ⟨h', tk, m', nx', e, F', N', hoff2, hJ'⟩
      refine ⟨rfl, h', tk, m', nx', e, F', fun p hp => ?_, fun p hp hI => hoff2 p hp (List.mem_singleton.mp hI), hJ'⟩
      rcases List.mem_append.mp hp with q | q
      · rcases own1 p q with e | e
        · rw [e]; exact N' _ (.head _)
        · exact N' _ (.tail _ (hk _ _ _ hJ' _ e))
      · exact N' _ (.tail _ q)
    cases f with
    | ret v => exact .ret p
    | brk => exact .brk p
    | next => exact .next (fin p)
    | cont => exact .cont (fin p)
  · rintro h' tk m' nx F' N' _ hJ
    exact done m' nx h' tk hJ F' N'

/-- over a list of the base -/
theorem for_base {l : Addr} {vs : List Value} {m₀ : Str → Option Value} {news : List (Addr × Obj)} (J : Nat → (Str → Option Value) → List (Addr × Obj) → Prop)
    (hh : A.handled = none) (hl : h₀.IsList l vs.toArray) (F : Fr h₀ env.locals s.heap m₀) (N : News h₀ env.locals s.heap news) (hj : J 0 m₀ news)
    (turn : ∀ i v m₁ nx h tk oI I, vs[i]? = some v → J i m₁ nx → (∀ p ∈ nx, p.1 ≠ I) → Fr h₀ env.locals h (fun y => if y = x then some v else m₁ y) → News h₀ env.locals h ((I, oI) :: nx) →
      wpAny (model prog w) A (execs body env) (TurnJ h₀ env.locals (J (i + 1)) I oI { s with heap := h, toks := tk } Q) E { s with heap := h, toks := tk })
    (done : ∀ m₁ nx h tk, J vs.length m₁ nx → Fr h₀ env.locals h m₁ → News h₀ env.locals h nx → Q .next { s with heap := h, toks := tk }) :
    wpAny (model prog w) A (pyIter (.ref l)) (fun it s₂ => LoopAtV prog w A h₀ env x body Q E it s₂) E s := by
  have hls : s.heap.IsList l vs.toArray := hl.at fun o e => F.keep l o e
  obtain ⟨ol, hol, _⟩ := id hl
  have hlt : l < h₀.objs.size := Heap.lt_size hol
  have hne : l ≠ s.heap.objs.size := Nat.ne_of_lt (Nat.lt_trans (Nat.lt_of_lt_of_le hlt F.above) F.ns.lt)
  refine wpAny_pyIter_list hls ?_
  have W := Walks.list (prog := prog) (w := w) hh s.heap.objs.size l hne vs.toArray
  rw [List.size_toArray] at W
  refine loop_gen (keepers := []) J W (List.mem_cons.mpr (.inl rfl)) (next_is_new F) ?_ ?_ ?_ ?_ ⟨⟨_, Heap.get?_push_size _ rfl, rfl, rfl⟩, hls.at fun o e => Heap.get?_push_of_some _ e⟩ (F.push _) (fun p hp => ⟨Heap.get?_push_of_some _ (N p hp).1, (N p hp).2⟩) hj (fun _ _ _ _ _ h => nomatch h) ?_ ?_
  · rintro i h ⟨⟨o, ho, _⟩, _⟩
    exact ⟨o, ho⟩
  · intro b hb
    rcases List.mem_cons.mp hb with e | hb
    · exact .inl e
    · exact .inr (.inl ⟨ol, (List.mem_singleton.mp hb) ▸ hol⟩)
  · intro hm
    rcases List.mem_cons.mp hm with e | hm
    · exact absurd F.ns.lt (e ▸ Nat.lt_irrefl _)
    · exact absurd (Nat.lt_of_lt_of_le hlt F.above) ((List.mem_singleton.mp hm) ▸ Nat.lt_irrefl _)
  · intro p hp
    exact Nat.ne_of_lt (Heap.lt_size (N p hp).1)
  · intro i v m₁ nx h tk oI hin hP hJ hoff F₁ N₁
    exact turn i v m₁ nx h tk oI _ (by simpa using hP) hJ hoff F₁ N₁
  · exact done

/-- over a list of the ledger that the loop leaves as it is -/
theorem for_led {l : Addr} {vs : List Value} {k : Nat} {m₀ : Str → Option Value} {news : List (Addr × Obj)} (J : Nat → (Str → Option Value) → List (Addr × Obj) → Prop)
    (hh : A.handled = none) (hl : (l, listOf vs.toArray k) ∈ news) (hk : ∀ i m nx, J i m nx → (l, listOf vs.toArray k) ∈ nx) (F : Fr h₀ env.locals s.heap m₀) (N : News h₀ env.locals s.heap news) (hj : J 0 m₀ news)
    (turn : ∀ i v m₁ nx h tk oI I, vs[i]? = some v → J i m₁ nx → (∀ p ∈ nx, p.1 ≠ I) → Fr h₀ env.locals h (fun y => if y = x then some v else m₁ y) → News h₀ env.locals h ((I, oI) :: nx) →
      wpAny (model prog w) A (execs body env) (TurnJ h₀ env.locals (J (i + 1)) I oI { s with heap := h, toks := tk } Q) E { s with heap := h, toks := tk })
    (done : ∀ m₁ nx h tk, J vs.length m₁ nx → Fr h₀ env.locals h m₁ → News h₀ env.locals h nx → Q .next { s with heap := h, toks := tk }) :
    wpAny (model prog w) A (pyIter (.ref l)) (fun it s₂ => LoopAtV prog w A h₀ env x body Q E it s₂) E s := by
  have hls : s.heap.IsList l vs.toArray := ⟨_, (N _ hl).1, rfl, k, rfl⟩
  have hlt : l < s.heap.objs.size := Heap.lt_size (N _ hl).1
  refine wpAny_pyIter_list hls ?_
  have W := Walks.list (prog := prog) (w := w) hh s.heap.objs.size l (Nat.ne_of_lt hlt) vs.toArray
  rw [List.size_toArray] at W
  refine loop_gen (keepers := [(l, listOf vs.toArray k)]) J W (List.mem_cons.mpr (.inl rfl)) (next_is_new F) ?_ ?_ ?_ ?_ ⟨⟨_, Heap.get?_push_size _ rfl, rfl, rfl⟩, hls.at fun o e => Heap.get?_push_of_some _ e⟩ (F.push _) (fun p hp => ⟨Heap.get?_push_of_some _ (N p hp).1, (N p hp).2⟩) hj (fun i m nx h p hp => (List.mem_singleton.mp hp) ▸ hk i m nx h) ?_ ?_
  · rintro i h ⟨⟨o, ho, _⟩, _⟩
    exact ⟨o, ho⟩
  · intro b hb
    rcases List.mem_cons.mp hb with e | hb
    · exact .inl e
    · exact .inr (.inr ⟨_, by rw [List.mem_singleton.mp hb]; exact List.mem_singleton.mpr rfl⟩)
  · intro hm
    rcases List.mem_cons.mp hm with e | hm
    · exact absurd F.ns.lt (e ▸ Nat.lt_irrefl _)
    · exact (N _ hl).2.1 (List.mem_singleton.mp hm).symm
  · intro p hp
    exact Nat.ne_of_lt (Heap.lt_size (N p hp).1)
  · intro i v m₁ nx h tk oI hin hP hJ hoff F₁ N₁
    exact turn i v m₁ nx h tk oI _ (by simpa using hP) hJ hoff F₁ N₁
  · exact done

/-- over a range by ones -/
theorem for_range {r : Addr} {a₀ b₀ : Int} {t₀ u₀ v₀ : Tok} {n : Nat} {m₀ : Str → Option Value} {news : List (Addr × Obj)} (J : Nat → (Str → Option Value) → List (Addr × Obj) → Prop)
    (hh : A.handled = none) (hr : IsRange s.heap r a₀ b₀ 1 t₀ u₀ v₀) (hsmall : Builtin.Range.small a₀ b₀ 1 = true) (hn : Builtin.Range.rangeSize a₀ b₀ 1 = (n : Int)) (F : Fr h₀ env.locals s.heap m₀) (N : News h₀ env.locals s.heap news) (hj : J 0 m₀ news)
    (turn : ∀ i t m₁ nx h tk oI I, i < n → J i m₁ nx → (∀ p ∈ nx, p.1 ≠ I) → Fr h₀ env.locals h (fun y => if y = x then some (.int (a₀ + (i : Int)) t) else m₁ y) → News h₀ env.locals h ((I, oI) :: nx) →
      wpAny (model prog w) A (execs body env) (TurnJ h₀ env.locals (J (i + 1)) I oI { s with heap := h, toks := tk } Q) E { s with heap := h, toks := tk })
    (done : ∀ m₁ nx h tk, J n m₁ nx → Fr h₀ env.locals h m₁ → News h₀ env.locals h nx → Q .next { s with heap := h, toks := tk }) :
    wpAny (model prog w) A (pyIter (.ref r)) (fun it s₂ => LoopAtV prog w A h₀ env x body Q E it s₂) E s := by
  refine wpAny_pyIter_range hr hsmall ?_
  have W : Walks prog w A s.heap.objs.size [s.heap.objs.size] [s.heap.objs.size] n (fun i v => i < n ∧ ∃ t, v = .int (a₀ + i * 1) t)
      (fun i h => IsRangeIter h s.heap.objs.size (a₀ + (i : Nat) * 1) ((n : Int) - (i : Nat)) 1) := (Walks.range hh _ a₀ 1 n).bound
  refine loop_gen (keepers := []) J W (List.mem_singleton.mpr rfl) (next_is_new F) (fun i h hs => ⟨_, hs⟩) (fun b hb => .inl (List.mem_singleton.mp hb)) ?_ (fun p hp => Nat.ne_of_lt (Heap.lt_size (N p hp).1)) (by show IsRangeIter _ _ _ _ _; rw [hn]; simpa using Heap.get?_push_size _ rfl) (F.push _) (fun p hp => ⟨Heap.get?_push_of_some _ (N p hp).1, (N p hp).2⟩) hj (fun _ _ _ _ _ h => nomatch h) ?_ ?_
  · intro hm
    exact absurd F.ns.lt ((List.mem_singleton.mp hm) ▸ Nat.lt_irrefl _)
  · rintro i v m₁ nx h tk oI hi ⟨_, t, rfl⟩ hJ hoff F₁ N₁
    have e1 : a₀ + (i : Int) * 1 = a₀ + (i : Int) := by omega
    rw [e1] at F₁
    exact turn i t m₁ nx h tk oI _ hi hJ hoff F₁ N₁
  · exact done
end

theorem fr_stored {m₁ m₀ : Str → Option Value} {x : Str} {v : Value} (st : List Str) (h : ∀ z, z ≠ x → st.contains z = false → m₁ z = m₀ z) :
    (fun y => if y = x then some v else m₁ y) = fun y => if y = x then some v else if st.contains y then m₁ y else m₀ y := by
  funext y
  by_cases h1 : y = x
  · simp [h1]
  · simp only [if_neg h1]
    cases h2 : st.contains y with
    | true => simp
    | false => simp only [Bool.false_eq_true, if_false]; exact h y h1 h2
theorem fr_stored' {m₁ m₀ : Str → Option Value} {x : Str} (st : List Str) (h : ∀ z, z ≠ x → st.contains z = false → m₁ z = m₀ z) :
    m₁ = fun y => if y = x then m₁ y else if st.contains y then m₁ y else m₀ y := by
  funext y
  by_cases h1 : y = x
  · simp [h1]
  · simp only [if_neg h1]
    cases h2 : st.contains y with
    | true => simp
    | false => simp only [Bool.false_eq_true, if_false]; exact h y h1 h2

noncomputable abbrev But (x : Str) (stored : List Str) (m₀ m' : Str → Option Value) : Prop := ∀ z, z ≠ x → stored.contains z = false → m' z = m₀ z
section
variable {prog : Program} {w : World} {A : Around} {E : Value → Shared → Prop} {s : Shared} {env : Env} {h₀ : Heap} {x : Str} {body : List Stmt} {Q : Flow → Shared → Prop}
theorem for_baseS {l : Addr} {vs : List Value} {m₀ : Str → Option Value} {news : List (Addr × Obj)} (stored : List Str) (J : Nat → List (Addr × Obj) → Prop)
    (hh : A.handled = none) (hl : h₀.IsList l vs.toArray) (F : Fr h₀ env.locals s.heap m₀) (N : News h₀ env.locals s.heap news) (hj : J 0 news)
    (turn : ∀ i v (u : Str → Option Value) nx h tk oI I, vs[i]? = some v → J i nx → (∀ p ∈ nx, p.1 ≠ I) → Fr h₀ env.locals h (fun y => if y = x then some v else if stored.contains y then u y else m₀ y) → News h₀ env.locals h ((I, oI) :: nx) →
      wpAny (model prog w) A (execs body env) (TurnJ h₀ env.locals (fun m' nx => J (i + 1) nx ∧ But x stored m₀ m') I oI { s with heap := h, toks := tk } Q) E { s with heap := h, toks := tk })
    (done : ∀ (u : Str → Option Value) nx h tk, J vs.length nx → Fr h₀ env.locals h (fun y => if y = x then u y else if stored.contains y then u y else m₀ y) → News h₀ env.locals h nx → Q .next { s with heap := h, toks := tk }) :
    wpAny (model prog w) A (pyIter (.ref l)) (fun it s₂ => LoopAtV prog w A h₀ env x body Q E it s₂) E s := by
  refine for_base (fun i m' nx => J i nx ∧ But x stored m₀ m') hh hl F N ⟨hj, fun _ _ _ => rfl⟩ ?_ ?_
  · rintro i v m₁ nx h tk oI I hv ⟨hJ, hm⟩ hoff F₁ N₁
    rw [fr_stored stored hm] at F₁
    exact turn i v m₁ nx h tk oI I hv hJ hoff F₁ N₁
  · rintro m₁ nx h tk ⟨hJ, hm⟩ F₁ N₁
    rw [fr_stored' stored hm] at F₁
    exact done m₁ nx h tk hJ F₁ N₁
theorem for_ledS {l : Addr} {vs : List Value} {k : Nat} {m₀ : Str → Option Value} {news : List (Addr × Obj)} (stored : List Str) (J : Nat → List (Addr × Obj) → Prop)
    (hh : A.handled = none) (hl : (l, listOf vs.toArray k) ∈ news) (hk : ∀ i nx, J i nx → (l, listOf vs.toArray k) ∈ nx) (F : Fr h₀ env.locals s.heap m₀) (N : News h₀ env.locals s.heap news) (hj : J 0 news)
    (turn : ∀ i v (u : Str → Option Value) nx h tk oI I, vs[i]? = some v → J i nx → (∀ p ∈ nx, p.1 ≠ I) → Fr h₀ env.locals h (fun y => if y = x then some v else if stored.contains y then u y else m₀ y) → News h₀ env.locals h ((I, oI) :: nx) →
      wpAny (model prog w) A (execs body env) (TurnJ h₀ env.locals (fun m' nx => J (i + 1) nx ∧ But x stored m₀ m') I oI { s with heap := h, toks := tk } Q) E { s with heap := h, toks := tk })
    (done : ∀ (u : Str → Option Value) nx h tk, J vs.length nx → Fr h₀ env.locals h (fun y => if y = x then u y else if stored.contains y then u y else m₀ y) → News h₀ env.locals h nx → Q .next { s with heap := h, toks := tk }) :
    wpAny (model prog w) A (pyIter (.ref l)) (fun it s₂ => LoopAtV prog w A h₀ env x body Q E it s₂) E s := by
  refine for_led (fun i m' nx => J i nx ∧ But x stored m₀ m') hh hl (fun i m' nx h => hk i nx h.1) F N ⟨hj, fun _ _ _ => rfl⟩ ?_ ?_
  · rintro i v m₁ nx h tk oI I hv ⟨hJ, hm⟩ hoff F₁ N₁
    rw [fr_stored stored hm] at F₁
    exact turn i v m₁ nx h tk oI I hv hJ hoff F₁ N₁
  · rintro m₁ nx h tk ⟨hJ, hm⟩ F₁ N₁
    rw [fr_stored' stored hm] at F₁
    exact done m₁ nx h tk hJ F₁ N₁
end

noncomputable def WEnd (h₀ : Heap) (L : Addr) (i : Str) (mB : Str → Option Value) (news : List (Addr × Obj)) (P : Nat → Prop) (s : Shared) (Q : Flow → Shared → Prop) (p : Nat) (f : Flow) (s₃ : Shared) : Prop :=
  match f with
  | .next | .cont => ∃ h' tk t' p', s₃ = { s with heap := h', toks := tk } ∧ Fr h₀ L h' (fun y => if y = i then some (.int ((p' : Nat) : Int) t') else mB y) ∧ News h₀ L h' news ∧ p' < p ∧ P p'
  | .brk => Q .next s₃
  | .ret v => Q (.ret v) s₃
section
variable {prog : Program} {w : World} {A : Around} {E : Value → Shared → Prop} {Q : Flow → Shared → Prop} {s : Shared} {env : Env} {h₀ : Heap} {L : Addr}
noncomputable def WOut (h₀ : Heap) (L : Addr) (i : Str) (mB : Str → Option Value) (news : List (Addr × Obj)) (P : Nat → Prop) (s : Shared) (p : Nat) (s₃ : Shared) : Prop :=
  ∃ h' tk t', s₃ = { s with heap := h', toks := tk } ∧ Fr h₀ L h' (fun y => if y = i then some (.int ((p : Nat) : Int) t') else mB y) ∧ News h₀ L h' news ∧ P p
theorem While_nat {i : Str} {test : Expr} {body : List Stmt} {pos : Pos} {mB : Str → Option Value} {news : List (Addr × Obj)} {t₀ : Tok} (p₀ : Nat) (P Pd : Nat → Prop)
    (F : Fr h₀ L s.heap (fun y => if y = i then some (.int ((p₀ : Nat) : Int) t₀) else mB y)) (N : News h₀ L s.heap news) (hP : P p₀)
    (turn : ∀ p t h tk, P p → Fr h₀ L h (fun y => if y = i then some (.int ((p : Nat) : Int) t) else mB y) → News h₀ L h news →
      wpAny (model prog w) A (isTrue test env (eval test env)) (fun b s₂ => if b = true then wpAny (model prog w) A (execs body env) (WEnd h₀ L i mB news P s Q p) E s₂ else WOut h₀ L i mB news Pd s p s₂) E { s with heap := h, toks := tk })
    (done : ∀ p t h tk, Pd p → Fr h₀ L h (fun y => if y = i then some (.int ((p : Nat) : Int) t) else mB y) → News h₀ L h news → Q .next { s with heap := h, toks := tk })
    (hE : PassesOwn (model prog w) A env E := by passes_own) :
    wpAny (model prog w) A (exec (.While test body [] pos) env) Q E s := by
  refine While_inv2 (fun n m' nx => (∃ t, m' = fun y => if y = i then some (.int ((n : Nat) : Int) t) else mB y) ∧ nx = news ∧ P n) F N ⟨⟨t₀, rfl⟩, rfl, hP⟩ ?_ hE
  rintro n m₁ nx h tk F₁ N₁ ⟨⟨t, rfl⟩, rfl, hn⟩
  refine wpAny_mono (turn n t h tk hn F₁ N₁) (fun b s₂ h₂ => ?_) fun _ _ e => e
  cases b with
  | false =>
    simp only [Bool.false_eq_true, if_false] at h₂ ⊢
    obtain ⟨h', tk', t', e, F', N', hp⟩ := h₂
    rw [e]; exact done n t' h' tk' hp F' N'
  | true =>
    simp only [if_true] at h₂ ⊢
    refine wpAny_mono h₂ (fun f s₃ h₃ => ?_) fun _ _ e => e
    cases f with
    | ret v => exact h₃
    | brk => exact h₃
    | next =>
      obtain ⟨h', tk', t', p', e, F', N', hlt, hp⟩ := h₃
      exact ⟨h', tk', _, nx, p', e, F', N', hlt, ⟨t', rfl⟩, rfl, hp⟩
    | cont =>
      obtain ⟨h', tk', t', p', e, F', N', hlt, hp⟩ := h₃
      exact ⟨h', tk', _, nx, p', e, F', N', hlt, ⟨t', rfl⟩, rfl, hp⟩
end
theorem fr_twice {x : Str} {a b : Option Value} {m : Str → Option Value} : (fun y => if y = x then a else if y = x then b else m y) = fun y => if y = x then a else m y := by
  funext y
  by_cases h : y = x <;> simp [h]

/-! ## rows of one int -/
noncomputable abbrev Rw := Addr × Int × Tok
noncomputable def refs (rs : List Rw) : List Value := rs.map fun r => .ref r.1
noncomputable def fam (rs : List Rw) : List (Addr × Obj) := rs.map fun r => (r.1, listOf #[Value.int r.2.1 r.2.2] 0)
noncomputable def vals (rs : List Rw) : List Int := rs.map fun r => r.2.1
theorem refs_length (rs : List Rw) : (refs rs).length = rs.length := by simp [refs]

theorem fam_is {rs : List Rw} {r : Rw} {g h : Heap} {L : Addr} {m : Str → Option Value} (hf : ∀ r ∈ rs, g.get? r.1 = some (listOf #[Value.int r.2.1 r.2.2] 0)) (F : Fr g L h m) (hr : r ∈ rs) : h.IsList r.1 [Value.int r.2.1 r.2.2].toArray :=
  ⟨_, F.keep _ _ (hf r hr), rfl, _, rfl⟩
theorem refs_get {rs : List Rw} {k : Nat} {r : Rw} (h : rs[k]? = some r) : (refs rs)[k]? = some (.ref r.1) := by simp [refs, h]

theorem len_at {prog : Program} {w : World} {A : Around} {E : Value → Shared → Prop} {s : Shared} {l : Addr} {vs : List Value} {k : Nat} {Q : Value → Shared → Prop} (hl : s.heap.IsList l vs.toArray) (e : vs.length = k) (hfit : (k : Int) < 2 ^ 63)
    (h : Q (.int (k : Int) (s.toks + 1)) { s with toks := s.toks + 1 + 1 }) : wpAny (model prog w) A (call (.builtin "len") [.ref l]) Q E s := by
  have e2 : vs.toArray.size = k := by rw [List.size_toArray, e]
  exact len_list hl (by rw [e2]; exact hfit) (by rw [e2]; exact h)

theorem item_list {prog : Program} {w : World} {A : Around} {E : Value → Shared → Prop} {s : Shared} {value slice : PySem.Expr} {l : Addr} {vs : List Value} {k : Int} {u : Tok} {v : Value} {Q : Value → Shared → Prop}
    (hl : s.heap.IsList l vs.toArray) (h0 : 0 ≤ k) (hhi : k < 2 ^ 63) (hx : vs[k.toNat]? = some v) (h : Q v s)
    (hs : subscripted slice false (.ref l) (.int k u) = operate [.ref l, .int k u] (getItem (.ref l) (.int k u)) := by with_unfolding_all rfl) :
    wpAny (model prog w) A (subscriptTail value slice (.ref l) (.int k u)) Q E s :=
  tail_any hl.typeIs slot_list_getitem.lookup (wpAny_getItem_list hl h0 hhi (by simpa using hx) h) hs
end Mine
open PySem PySem.W PySem.Calls PyProof.Rows
set_option Elab.async false
set_option maxRecDepth 100000
set_option maxHeartbeats 2000000
namespace Mine
/-- what is kept of the dict of the World while its fields are set: its width, and that its keys are strs -/
structure WD (es : List DictEntry) (t : Tok) (j : Nat) : Prop where
  w : getL (Str.ofString "width") es = some (some (.int 32 t))
  r : es.any (·.refKey) = false
  l : es.length ≤ j
theorem putL_len (name : Str) (hsh : Int) (key v : Value) : ∀ es : List DictEntry, (putL name hsh key v es).length ≤ es.length + 1
  | [] => Nat.le_refl _
  | e :: r => by
    unfold putL
    split
    · exact Nat.le_succ _
    · exact Nat.succ_le_succ (putL_len name hsh key v r)
theorem putL_ref (name : Str) (hsh : Int) (tk : Tok) (v : Value) : ∀ es : List DictEntry, es.any (·.refKey) = false → (putL name hsh (.str name tk) v es).any (·.refKey) = false
  | [], _ => rfl
  | e :: r, h => by
    simp only [List.any_cons, Bool.or_eq_false_iff] at h
    unfold putL
    split
    · simp only [List.any_cons, Bool.or_eq_false_iff]
      exact ⟨h.1, h.2⟩
    · simp only [List.any_cons, Bool.or_eq_false_iff]
      exact ⟨h.1, putL_ref name hsh tk v r h.2⟩
theorem isStr_one {x name : Str} {k : Value} (h : k.isStr name = true) (hne : name ≠ x) : k.isStr x = false := by
  rw [isStr_of] at h ⊢
  cases k <;> simp_all [Value.isStrOf]
theorem find_put {name x : Str} {hsh : Int} {tk : Tok} {v : Value} (hne : name ≠ x) : ∀ es : List DictEntry, (putL name hsh (.str name tk) v es).find? (·.key.isStr x) = es.find? (·.key.isStr x)
  | [] => by
    have : (Value.str name tk).isStr x = false := by rw [isStr_of]; simpa [Value.isStrOf] using hne
    show List.find? _ [_] = _
    simp [List.find?, this]
  | e :: r => by
    unfold putL
    split
    · rename_i h
      have h2 := isStr_one h hne
      simp [List.find?, h2]
    · simp only [List.find?_cons]
      rw [find_put hne r]
theorem WD.put {es : List DictEntry} {t : Tok} {j : Nat} {name : Str} {hsh : Int} {tk : Tok} {v : Value} (H : WD es t j) (hne : name ≠ Str.ofString "width") : WD (putL name hsh (.str name tk) v es) t (j + 1) := by
  refine ⟨?_, putL_ref name hsh tk v es H.r, Nat.le_trans (putL_len ..) (Nat.succ_le_succ H.l)⟩
  have h := H.w
  unfold getL at h ⊢
  rw [find_put hne]
  cases he : List.find? (fun x => x.key.isStr (Str.ofString "width")) es with
  | some e => rw [he] at h; exact h
  | none =>
    rw [he] at h
    dsimp only at h
    rw [H.r] at h
    cases h
section
variable {prog : Program} {w : World} {A : Around} {E : Value → Shared → Prop} {s : Shared} {h₀ : Heap} {L : Addr} {m : Str → Option Value} {K : Frag} {news : List (Addr × Obj)}
theorem WD.has {es : List DictEntry} {t : Tok} {j : Nat} (H : WD es t j) (name : Str) : (getL name es).isSome = true := by
  unfold getL
  split
  · rfl
  · rw [H.r]; rfl
theorem set_keep {x C dx : Addr} {ox : Obj} {es : List DictEntry} {n j : Nat} {t : Tok} {name : Str} {v : Value} {news' : List DictEntry → Nat → List (Addr × Obj)} {Q : Unit → Shared → Prop} (F : Fr h₀ L s.heap m) (X₀ : K.In h₀) (N : News h₀ L s.heap news) (I : InstAt s.heap x ox C (some (dictOf es n))) (hd : ox.dict = some dx)
    (hs : findIn K (.ref C) "__setattr__" = some (some (.builtin "object.__setattr__"))) (hp : plainOver K C = true) (ht : takerIn K C name = some none) (hh : hasDictIn K C = true)
    (hW : WD es t j) (hj : j < 1000) (hne : name ≠ Str.ofString "width") (U : ∀ es' n', Upd dx (dictOf es n) (dictOf es' n') news (news' es' n'))
    (h : ∀ h' es' n', WD es' t (j + 1) → Fr h₀ L h' m → News h₀ L h' (news' es' n') → Q () { s with heap := h', toks := s.toks + 2 }) :
    wpAny (model prog w) A (setAttr (.ref x) name v) Q E s :=
  have W2 := hW.put (hsh := PyData.keyHash w.params name) (tk := s.toks + 1) (v := v) hne
  set_dict F X₀ N I hd hs hp ht hh (hW.has name) rfl (U _ _) (by have := W2.l; omega) fun h' F' N' => h h' _ _ W2 F' N'
end
theorem wd_start {h₀ h : Heap} {L x d : Addr} {es : List DictEntry} {n : Nat} {t : Tok} {rst : List (Addr × Obj)} (N : News h₀ L h ((x, instObj 361 d) :: (d, dictOf es n) :: rst)) (hW : WD es t 1) : ∃ es2 n2, News h₀ L h ((x, instObj 361 d) :: (d, dictOf es2 n2) :: rst) ∧ WD es2 t 1 := ⟨es, n, N, hW⟩
theorem wd_drop {h₀ h : Heap} {L x d : Addr} {p : Addr × Obj} {rst : List (Addr × Obj)} (N : News h₀ L h (p :: (x, instObj 361 d) :: rst)) : News h₀ L h ((x, instObj 361 d) :: rst) := fun q hq => N q (.tail _ hq)
end Mine
open PySem PySem.W PySem.Calls PyProof.Rows
set_option Elab.async false
set_option maxRecDepth 100000
namespace Mine
section
variable {prog : Program} {w : World} {A : Around} {E : Value → Shared → Prop} {s : Shared}

theorem tup_gt_tree {x y : Int} {t1 t2 t3 u1 u2 u3 : Tok} {a b : Addr} {oa ob : Obj} {na nb : Nat} {P : Fin → Shared → Prop}
    (hoa : s.heap.get? a = some oa) (hda : oa.data = .seq [Value.int 0 t1, .int x t2, .str (Str.ofString "") t3].toArray na)
    (hob : s.heap.get? b = some ob) (hcb : ob.cls = .type "tuple") (hdb : ob.data = .seq [Value.int 0 u1, .int y u2, .str (Str.ofString "") u3].toArray nb)
    (h : P (.done (.ret (.bool (decide (y < x))))) s) :
    wpAny (model prog w) A (Builtin.«tuple.__gt__» ⟨[.ref a, .ref b], []⟩) P E s := by
  have hTb : s.TypeIs (.ref b) "tuple" := IsTup.typeIs ⟨ob, hob, hcb, nb, hdb⟩
  show wpAny _ _ (isInstance (.ref b) (.type "tuple") >>= _) _ _ s
  refine wpAny_bind (wpAny_isInstance hTb isSubtype_tuple_tuple ?_)
  simp only [Bool.not_true, Bool.false_eq_true, if_false]
  refine wpAny_bind (wpAny_tupleItemsOf hoa hda ?_)
  refine wpAny_bind (wpAny_tupleItemsOf hob hdb ?_)
  refine wpAny_bind ?_
  simp only [List.zip_cons_cons, List.zip_nil_right, List.forIn_cons, List.forIn_nil]
  refine wpAny_bind (wpAny_bind (wpAny_eqBool_int ?_))
  simp only [beq_self_eq_true, Bool.not_true, Bool.false_eq_true, if_false]
  refine wpAny_pure ?_
  dsimp only
  refine wpAny_bind (wpAny_bind (wpAny_eqBool_int ?_))
  by_cases e : x = y
  · subst e
    simp only [beq_self_eq_true, Bool.not_true, Bool.false_eq_true, if_false]
    refine wpAny_pure ?_
    dsimp only
    refine wpAny_bind (wpAny_bind (wpAny_eqBool_str ?_))
    simp only [decide_true, Bool.not_true, Bool.false_eq_true, if_false]
    refine wpAny_pure ?_
    dsimp only
    refine wpAny_pure ?_
    have e : decide (x < x) = false := by simp
    rw [e] at h
    exact wpAny_pure h
  · have : (x == y) = false := by simpa using e
    rw [this]
    simp only [Bool.not_false, if_true]
    refine wpAny_bind (wpAny_rule ?_)
    refine wpAny_bind (PyProof.Rows.gt_int ?_)
    refine wpAny_bind ?_
    refine wpAny_pure (wpAny_pure (wpAny_pure ?_))
    dsimp only
    exact wpAny_pure h

theorem tup_gt {x y : Int} {t1 t2 t3 u1 u2 u3 : Tok} {a b : Addr} {na nb : Nat} {h₀ : Heap} {L : Addr} {news : List (Addr × Obj)} {Q : Value → Shared → Prop} (hu : A.units < cLine)
    (N : News h₀ L s.heap news)
    (ha : (a, ({ cls := .type "tuple", data := .seq [Value.int 0 t1, .int x t2, .str (Str.ofString "") t3].toArray na } : Obj)) ∈ news)
    (hb : (b, ({ cls := .type "tuple", data := .seq [Value.int 0 u1, .int y u2, .str (Str.ofString "") u3].toArray nb } : Obj)) ∈ news)
    (h : Q (.bool (decide (y < x))) s) :
    wpAny (model prog w) A (compareOp .Gt (.ref a) (.ref b)) Q E s := by
  have ga := (N _ ha).1
  have gb := (N _ hb).1
  dsimp only at ga gb
  have hTa : s.TypeIs (.ref a) "tuple" := IsTup.typeIs ⟨_, ga, rfl, na, rfl⟩
  have hTb : s.TypeIs (.ref b) "tuple" := IsTup.typeIs ⟨_, gb, rfl, nb, rfl⟩
  refine cmp_ofGt ?_
  refine wpAny_richCompare_same_room (T := "tuple") hTa hTb F.slot_tuple_gt (wpAny_call_entry F.slot_tuple_gt hTa F.entry_tuple_gt ?_ (F.args_tuple_gt_2 _ _)) hu
  exact tup_gt_tree ga rfl gb rfl rfl ⟨_, rfl, ⟨(by intro e; cases e), h⟩⟩
end
end Mine
open PySem PySem.W PySem.Calls PyProof.Rows
set_option Elab.async false
set_option maxRecDepth 100000
set_option maxHeartbeats 8000000
namespace Mine

local macro_rules | `(tactic| walk_at "mine nest") => `(tactic| (
  k_dflt (refine' code_def ?k1 ?k2 ?k3 ?k4 ?k5 ?kA ?kF ?kK ?k6 ?k7 ?k8 ?k9 ?kB ?_ ?c2 ?c3 ?c4 ?c5; (case kA => exact rfl); (case kF => exact rfl); (case kK => first | assumption | exact rfl); (case k1 => k_asm); (case k2 => k_asm); (case k3 => k_asm); (case k4 => k_asm); (case k5 => k_asm); (case k6 => k_is); (case k7 => k_is); (case k8 => ktr_room); (case k9 => exact BindsTo.of_eq rfl); (case c5 => decide); (case kB => exact locs rfl); (case c2 => exact rfl); (case c3 => exact rfl); (case c4 => exact rfl); k_whole; intro g' L' h' FG' F' N' B' X' T'; (try dsimp only); (try k_lift B'); (try k_fold))))
local macro_rules | `(tactic| walk_at "call ref") => `(tactic| (k_here; refine wpAny_call ?_; walk_at "mine nest"))

local macro_rules | `(tactic| walk_at "compareOp Gt ref ref") => `(tactic| (k_here; k_dflt (refine' tup_gt ?k1 ?k2 ?k3 ?k4 ?_; (case k1 => ktr_units); (case k2 => k_asm); (case k3 => k_mem); (case k4 => k_mem))))

theorem c_is_behind {w mean mg mb dp un gd cn cs a ccd cl outer A₀ base h₀ L m news} {s : Shared} {Q E : Value → Shared → Prop} {x y : Int} {tx ty : Tok}
    (H : At w mean mg mb dp un cs outer A₀ base h₀ L m news s.heap 3)
    (ret : Ret h₀ L m news s Q (.bool (decide (y < x))) []) :
    wpAny (model PG w) (ktrTop dp un gd cn cs L a ccd cl outer) (call (.ref 317) [.int x tx, .int y ty, .bool false]) Q E s := by
  w_top off
  have hfill : (Mine.hd.heap_1 w.params = Mine.hd.heap_1 w.params ∧ PySem.Challenge.rw_xm0951_01 = PySem.Challenge.rw_xm0951_01) := by k_fill; exact ⟨rfl, rfl⟩
  clear hfill
  obtain ⟨hB, hF, hX, hN, hT, hk, hdp, hun⟩ := H
  walk_at "mine enter"
  k_steps
  rename GSub _ _ _ => kG
  exact ret _ _ (by assumption) (news_keep hN kG (by assumption) News.nil)
end Mine
open PySem PySem.W PySem.Calls PyProof.Rows
set_option Elab.async false
set_option maxRecDepth 100000
set_option maxHeartbeats 8000000
namespace Mine
local macro_rules | `(tactic| walk_at "call ref") => `(tactic| (k_here; k_dflt (refine' c_is_behind ⟨?k1, ?k2, ?k3, ?k4, ?k5, ?kK, ?kd, ?ku⟩ ?_; (case k1 => k_asm); (case k2 => k_asm); (case k3 => k_asm); (case k4 => k_asm); (case k5 => k_asm); (case kK => first | assumption | exact rfl); (case kd => ktr_room); (case ku => ktr_units); k_whole); intro h' tk' F' N'; (try simp only [List.nil_append] at N'); (try k_sweep)))

/-- the sorted rows: the same rows, their ints rising -/
noncomputable def Sorts (rs rs' : List Rw) : Prop := rs'.Perm rs ∧ (vals rs').Pairwise (· ≤ ·)

theorem sorts_ins {rs fs : List Rw} {r : Rw} {i p : Nat} (hS : Sorts (rs.take i) fs) (hr : rs[i]? = some r) (hp1 : p ≤ fs.length) (hp2 : ∀ q r', p ≤ q → fs[q]? = some r' → r.2.1 < r'.2.1)
    (hp3 : ∀ f, 0 < p → fs[p - 1]? = some f → f.2.1 ≤ r.2.1) : Sorts (rs.take (i + 1)) (fs.take p ++ r :: fs.drop p) := by
  refine ⟨?_, ?_⟩
  · rw [List.take_add_one, hr]
    refine List.perm_middle.trans ?_
    rw [List.take_append_drop]
    refine (List.Perm.cons r hS.1).trans ?_
    exact (List.perm_append_singleton r _).symm
  · have h := hS.2
    rw [← List.take_append_drop p fs] at h
    simp only [vals, List.map_append, List.map_cons] at h ⊢
    rw [List.pairwise_append] at h ⊢
    obtain ⟨h1, h2, h3⟩ := h
    have hle : ∀ v ∈ (fs.take p).map (fun r => r.2.1), v ≤ r.2.1 := by
      intro v hv
      obtain ⟨k, hk, e⟩ := List.getElem_of_mem hv
      simp only [List.length_map, List.length_take] at hk
      simp only [List.getElem_map, List.getElem_take] at e
      have hlast := hp3 (fs[p - 1]'(by omega)) (by omega) (List.getElem?_eq_getElem _)
      by_cases hkp : k = p - 1
      · subst hkp; rw [← e]; exact hlast
      · have hpw := hS.2
        rw [vals, List.pairwise_iff_getElem] at hpw
        have := hpw k (p - 1) (by simp; omega) (by simp; omega) (by omega)
        simp only [List.getElem_map] at this
        rw [← e]
        exact Int.le_trans this hlast
    have hgt : ∀ v ∈ (fs.drop p).map (fun r => r.2.1), r.2.1 ≤ v := by
      intro v hv
      obtain ⟨r', hr', e⟩ := List.mem_map.mp hv
      obtain ⟨k, hk, e'⟩ := List.getElem_of_mem hr'
      rw [List.getElem_drop] at e'
      have := hp2 (p + k) r' (by omega) (by rw [← e']; exact List.getElem?_eq_getElem _)
      omega
    refine ⟨h1, List.pairwise_cons.mpr ⟨hgt, h2⟩, fun a ha b hb => ?_⟩
    rcases List.mem_cons.mp hb with e | hb
    · rw [e]; exact hle a ha
    · exact h3 a ha b hb

theorem c_sorted_rows {w mean mg mb dp un gd cn cs a ccd cl outer A₀ base h₀ L m news} {s : Shared} {Q E : Value → Shared → Prop} {l : Addr} {rs : List Rw} {tc : Tok}
    (H : At w mean mg mb dp un cs outer A₀ base h₀ L m news s.heap 5)
    (hl : s.heap.IsList l (refs rs).toArray) (hf : ∀ r ∈ rs, s.heap.get? r.1 = some (listOf #[Value.int r.2.1 r.2.2] 0)) (hn : rs.length ≤ 100)
    (ret : ∀ D rs' c, Sorts rs rs' → (∀ p ∈ news, p.1 ≠ D) → Ret h₀ L m news s Q (.ref D) [(D, listOf (refs rs').toArray c)]) :
    wpAny (model PG w) (ktrTop dp un gd cn cs L a ccd cl outer) (call (.ref 310) [.ref l, .int 0 tc, .bool false]) Q E s := by
  w_top off
  have hfill : (Mine.hd.heap_1 w.params = Mine.hd.heap_1 w.params ∧ PySem.Challenge.rw_xm0951_01 = PySem.Challenge.rw_xm0951_01) := by k_fill; exact ⟨rfl, rfl⟩
  clear hfill
  obtain ⟨hB, hF, hX, hN, hT, hk, hdp, hun⟩ := H
  walk_at "mine enter"
  rename GSub _ _ _ => kG
  have hlg := hl.at fun o e => kG _ _ e (by simp)
  have hfg : ∀ r ∈ rs, _ := fun r hr => kG _ _ (hf r hr) (by simp)
  k_steps
  rename Fr _ _ _ _ => lF'
  with_unfolding_all refine' For_invVF lF' ?k1 ?k2 ?_
  case k1 => exact rfl
  case k2 => exact rfl
  k_steps
  rename Fr _ _ _ _ => F0
  rename News _ _ _ _ => N0
  rename_i D0 _ _ _
  refine for_baseS (vs := refs rs) [Str.ofString "at"] (fun i nx => ∃ fs c, nx = [(D0, listOf (refs fs).toArray c)] ∧ Sorts (rs.take i) fs) (by rfl) hlg F0 N0 ?_ ?_ ?_
  · exact ⟨[], 0, rfl, ⟨by simp, by simp [vals]⟩⟩
  · rintro i v u _ h tk oI I hv ⟨fs, c, rfl, hS⟩ hoff F1 N1
    obtain ⟨r, hr, rfl⟩ : ∃ r, rs[i]? = some r ∧ v = .ref r.1 := by
      rw [refs, List.getElem?_map] at hv
      obtain ⟨r, h1, h2⟩ := Option.map_eq_some_iff.mp hv
      exact ⟨r, h1, h2.symm⟩
    have hrm : r ∈ rs := List.mem_of_getElem? hr
    have hlen : fs.length = i := by
      rw [hS.1.length_eq, List.length_take]
      have := (List.getElem?_eq_some_iff.mp hr).1
      omega
    simp only [List.forall_mem_cons] at hoff
    clear F0 N0
    have hn' := List.length_take_le i rs
    have hle : fs.length ≤ 100 := by
      have := (List.getElem?_eq_some_iff.mp hr).1
      omega
    k_steps
    k_dflt refine' kst_len (k := fs.length) N1 ?kl (refs_length fs) (by omega) ?_
    case kl => k_mem
    iterate 3 walk_at "mine step"
    rename Fr _ _ _ _ => F2
    rename News _ _ _ _ => N2
    with_unfolding_all refine' While_nat (i := Str.ofString "at") fs.length (fun p => p ≤ fs.length ∧ ∀ q r', p ≤ q → fs[q]? = some r' → r.2.1 < r'.2.1) (fun p => p ≤ fs.length ∧ (∀ q r', p ≤ q → fs[q]? = some r' → r.2.1 < r'.2.1) ∧ ∀ f, 0 < p → fs[p - 1]? = some f → f.2.1 ≤ r.2.1) ?kF ?kN ?kP ?kT ?_
    case kF => exact F2
    case kN => exact N2
    case kP => exact ⟨Nat.le_refl _, fun q r' h1 h2 => absurd (List.getElem?_eq_some_iff.mp h2).1 (by omega)⟩
    case kT =>
      rintro p t h2 tk2 ⟨hp1, hp2⟩ F3 N3
      iterate 20 walk_at "mine step"
      · rename_i hpos
        have hpos' : 0 < p := by simpa using hpos
        obtain ⟨f, hfx⟩ : ∃ f, fs[p - 1]? = some f := ⟨fs[p - 1]'(by omega), List.getElem?_eq_getElem _⟩
        have hfm : f ∈ rs := List.mem_of_mem_take (hS.1.mem_iff.mp (List.mem_of_getElem? hfx))
        k_dflt refine' item_list (vs := refs fs) ?hl ?h0 ?hh ?hx ?_
        case hl => exact ⟨_, (N3 (D0, _) (by k_mem)).1, rfl, _, rfl⟩
        case h0 => omega
        case hh => omega
        case hx => exact refs_get (by rw [show ((p : Int) - 1).toNat = p - 1 by omega]; exact hfx)
        walk_at "mine step"
        k_dflt refine' item_list (vs := [Value.int f.2.1 f.2.2]) ?hl ?h0 ?hh ?hx ?_
        case hl => exact fam_is hfg F3 hfm
        case h0 => decide
        case hh => decide
        case hx => rfl
        iterate 4 walk_at "mine step"
        k_dflt refine' item_list (vs := [Value.int r.2.1 r.2.2]) ?hl ?h0 ?hh ?hx ?_
        case hl => exact fam_is hfg F3 hrm
        case h0 => decide
        case hh => decide
        case hx => rfl
        iterate 16 walk_at "mine step"
        · have hlt : r.2.1 < f.2.1 := by assumption
          rename Fr _ _ _ _ => F4
          rename News _ _ _ _ => N4
          rw [fr_twice, show ((p : Int) - 1) = ((p - 1 : Nat) : Int) by omega] at F4
          refine ⟨_, _, _, p - 1, rfl, F4, N4, by omega, by omega, fun q r' h1 h2 => ?_⟩
          by_cases e : q = p - 1
          · subst e
            rw [hfx] at h2
            obtain rfl := Option.some.inj h2
            exact hlt
          · exact hp2 q r' (by omega) h2
        · rename Fr _ _ _ _ => F4
          rename News _ _ _ _ => N4
          rw [if_neg (by decide)]
          refine ⟨_, _, _, rfl, F4, N4, hp1, hp2, fun f' _ h2 => ?_⟩
          rw [hfx] at h2
          obtain rfl := Option.some.inj h2
          have : ¬ r.2.1 < f.2.1 := by assumption
          omega
      · rename_i hpos
        have hp0 : ¬ (0 < p) := by simpa using hpos
        walk_at "mine step"
        exact ⟨_, _, _, rfl, F3, N3, hp1, hp2, fun f' h1 _ => absurd h1 hp0⟩
    rintro p t h2 tk2 ⟨hp1, hp2, hp3⟩ F3 N3
    iterate 11 walk_at "mine step"
    have hfl : Builtin.List.listFitsIndex (p : Int) = true := by
      unfold Builtin.List.listFitsIndex
      simp
      omega
    have hin : kl_ins (refs fs) (p : Int) (.ref r.1) = refs (fs.take p ++ r :: fs.drop p) := by
      unfold kl_ins
      rw [if_neg (by omega), refs_length, show min ((p : Int)).toNat fs.length = p by omega]
      simp [refs, List.map_take, List.map_drop]
    k_dflt refine' kl_insert (l := refs (fs.take p ++ r :: fs.drop p)) ?kF ?kN hfl ?ke ?kU ?kz ?_
    case kF => exact F3
    case kN => exact N3
    case ke => exact hin
    case kU => exact Upd.tail (by simpa using Ne.symm hoff.1) (Upd.head (List.forall_mem_nil _))
    case kz =>
      rw [PySem.sizeLine_eq]
      simp
      omega
    intro h4 F4 N4
    iterate 2 walk_at "mine step"
    refine ⟨_, _, _, _, rfl, F4, N4, fun q hq => ?_, ⟨_, _, rfl, sorts_ins hS hr hp1 hp2 hp3⟩, fun z h1 h2 => ?_⟩
    · rw [List.mem_singleton.mp hq]
      exact hoff.1
    · have h3 : z ≠ Str.ofString "at" := by
        intro e
        rw [e] at h2
        revert h2
        decide
      simp only [if_neg h3, if_neg h1]
      rw [h2]
      simp only [Bool.false_eq_true, if_false]
  · intro u nx h tk hJ F1 N1
    rename_i lll
    obtain ⟨fs, c, rfl, hS⟩ := hJ
    iterate 4 walk_at "mine step"
    rw [refs_length, List.take_length] at hS
    refine ret D0 fs c hS (fun p hp e => ?_) _ _ (by assumption) (news_keep hN kG (by assumption) (by assumption))
    have h1 := kG _ _ (hN p hp).1 (by simp)
    have h2 := (N1 _ (List.mem_singleton.mpr rfl)).2.2
    dsimp only at h2
    rw [e, h2] at h1
    cases h1
end Mine
open PySem PySem.W PySem.Calls PyProof.Rows
set_option Elab.async false
set_option maxRecDepth 100000
set_option maxHeartbeats 2000000
namespace Mine
section
variable {prog : Program} {w : World} {A : Around} {E : Value → Shared → Prop} {R : Result → Shared → Prop} {s : Shared}

theorem compTurn_flat0 (elt t0 i0 t1 i1 : Expr) (scope : Scope) (pos : Pos) (it acc : Value) (env : Env) :
    compTurn (.ListComp elt [⟨t0, i0, [], 0⟩, ⟨t1, i1, [], 0⟩] scope pos) 0 it acc env = (standAt i0.pos >>= fun _ => pyNext it >>= fun r => match r with
      | none => pure (.done .next)
      | some v => letOwnedTupleGo t0 it v >>= fun _ => assign t0 env v >>= fun _ =>
        (eval i1 env >>= fun x => standAt i1.pos >>= fun _ => foldedSetIterable i1 env x >>= fun x => holding [x] (pyIter x) >>= fun it1 =>
          runOwn (.compStart (.ListComp elt [⟨t0, i0, [], 0⟩, ⟨t1, i1, [], 0⟩] scope pos) 1 it1 acc env) env >>= fun _ =>
          again (.compLoop (.ListComp elt [⟨t0, i0, [], 0⟩, ⟨t1, i1, [], 0⟩] scope pos) 0 it acc env))) := by rfl
theorem compTurn_flat1 (elt t0 i0 t1 i1 : Expr) (scope : Scope) (pos : Pos) (it acc : Value) (env : Env) :
    compTurn (.ListComp elt [⟨t0, i0, [], 0⟩, ⟨t1, i1, [], 0⟩] scope pos) 1 it acc env = (standAt i1.pos >>= fun _ => pyNext it >>= fun r => match r with
      | none => pure (.done .next)
      | some v => letOwnedTupleGo t1 it v >>= fun _ => assign t1 env v >>= fun _ =>
        (eval elt env >>= fun x => call (.builtin "list.append") [acc, x] >>= fun _ => pure ()) >>= fun _ =>
          again (.compLoop (.ListComp elt [⟨t0, i0, [], 0⟩, ⟨t1, i1, [], 0⟩] scope pos) 1 it acc env)) := by rfl

theorem compStart_flat1 {elt t0 i0 t1 i1 scope pos it acc env}
    (h0 : codeAny (model prog w) A (.compLoop (.ListComp elt [⟨t0, i0, [], 0⟩, ⟨t1, i1, [], 0⟩] scope pos) 1 it acc env) R s)
    (h : wpAny (model prog w) A (pyIter it) (fun it' s' => codeAny (model prog w) A (.compLoop (.ListComp elt [⟨t0, i0, [], 0⟩, ⟨t1, i1, [], 0⟩] scope pos) 1 it' acc env) R s')
      (notedBy (model prog w) A env fun x s' => R (.error x) s') s) :
    codeAny (model prog w) A (.compStart (.ListComp elt [⟨t0, i0, [], 0⟩, ⟨t1, i1, [], 0⟩] scope pos) 1 it acc env) R s := by
  refine codeAny_of_tree ?_
  show wpAny _ _ ((compStart (.ListComp elt [⟨t0, i0, [], 0⟩, ⟨t1, i1, [], 0⟩] scope pos) 1 it acc env).onRaise (fun x => do noteFrame x env; standAt theWindowsPlace)) _ _ s
  refine wpAny_notedAt ?_
  unfold compStart
  show wpAny _ _ (ask >>= _) _ _ s
  refine wpAny_bind (wpAny_askSetting (wpAny_ite ?_))
  split
  · first
      | exact wpAny_bind (wpAny_pure (wpAny_pure (And.intro rfl h0)))
      | exact wpAny_pure (And.intro rfl h0)
  · first
      | exact wpAny_bind (wpAny_rule (wpAny_bind (wpAny_standAt (wpAny_bind (wpAny_mono h (fun it' s' h' => wpAny_pure (And.intro rfl h')) fun _ _ x => x)))))
      | (refine wpAny_bind (wpAny_rule ?_); show wpAny _ _ (standAt i1.pos >>= _) _ _ s; exact wpAny_bind (wpAny_standAt (wpAny_bind (wpAny_mono h (fun it' s' h' => wpAny_pure (And.intro rfl h')) fun _ _ x => x))))

/-- the inner clause over a list of one item -/
theorem flat_inner {r v : Str} {i0 : Expr} {p1 p2 p3 pe : Pos} {scope : Scope} {pos : Pos} {cenv : Env} {I a D : Addr} {x : Value} {ys : Array Value} {m : Str → Option Value}
    (hh : A.handled = none) (hk : cenv.scope.kind = .function) (hv : cenv.kindOf v = some .local) (hvd : (v == ("__debug__" : Str)) = false)
    (hp : (cenv.scope.kind == .class || (cenv.scope.kind == .module && cenv.locals != cenv.globals)) = false)
    (hIa : a ≠ I) (hIC : I ≠ cenv.locals) (hID : D ≠ I) (haC : a ≠ cenv.locals) (haD : a ≠ D) (hDC : D ≠ cenv.locals) (hys : ys.size ≤ sizeLine)
    (hit : s.heap.IsListIter I a 0) (hl : s.heap.IsList a #[x]) (hacc : s.heap.PlainList D ys) (hn : s.heap.Ns cenv.locals m)
    (hR : ∀ h' tk m', h'.Ns cenv.locals m' → h'.PlainList D (ys.push x) → (∀ b o, b ≠ cenv.locals → b ≠ I → b ≠ D → s.heap.get? b = some o → h'.get? b = some o) → R (.ok .next) { s with heap := h', toks := tk }) :
    codeAny (model prog w) A (.compLoop (.ListComp (.Name v pe) [⟨.Name r p1, i0, [], 0⟩, ⟨.Name v p2, .Name r p3, [], 0⟩] scope pos) 1 (.ref I) (.ref D) cenv) R s := by
  refine codeAny_loop rfl (fun k s' => ∃ h' tk m' i zs, s' = { s with heap := h', toks := tk } ∧ k = 1 - i ∧ i ≤ 1 ∧ (i = 0 → zs = ys) ∧ (i = 1 → zs = ys.push x) ∧ h'.IsListIter I a i ∧ h'.IsList a #[x] ∧ h'.PlainList D zs ∧ h'.Ns cenv.locals m' ∧
      ∀ b o, b ≠ cenv.locals → b ≠ I → b ≠ D → s.heap.get? b = some o → h'.get? b = some o) ?_ 1 ⟨s.heap, s.toks, m, 0, ys, rfl, rfl, by omega, fun _ => rfl, fun h => by omega, hit, hl, hacc, hn, fun _ _ _ _ _ e => e⟩
  rintro k s' ⟨h', tk, m', i, zs, rfl, rfl, hi, hz0, hz1, hit', hl', hacc', hn', hk'⟩
  show wpAny _ A ((compTurn (.ListComp (.Name v pe) [⟨.Name r p1, i0, [], 0⟩, ⟨.Name v p2, .Name r p3, [], 0⟩] scope pos) 1 (.ref I) (.ref D) cenv).onRaise (fun x => do noteFrame x cenv; theTreesLotGoes x)) _ _ _
  refine wpAny_noted ?_
  rw [compTurn_flat1]
  refine wpAny_bind (wpAny_standAt (wpAny_bind ?_))
  by_cases h0 : i = 0
  · subst h0
    obtain rfl := hz0 rfl
    refine wpAny_pyNext_list_item hit' hl' rfl fun h₁ hit₁ hs₁ => ?_
    refine wpAny_bind (wpAny_of_eq (show letOwnedTupleGo (.Name v p2) (.ref I) x = pure () from rfl) ?_)
    refine wpAny_bind (wpAny_assign_Name (wpAny_storeName_local hv (hn'.sameBut hs₁ (Ne.symm hIC)) (fun h₂ hn₂ hs₂ => ?_) hp))
    refine wpAny_bind (wpAny_bind (wpAny_Name (wpAny_loadName_local hk hv hn₂ (if_pos rfl) ?_) hvd))
    refine wpAny_bind (wpAny_list_append_plain (hsz := hys) (hacc'.at fun o e => hs₂.extBut _ _ hDC (hs₁.extBut _ _ hID e)) fun h₃ hl₃ hs₃ => ?_)
    refine wpAny_pure (wpAny_pure ⟨rfl, 0, by omega, h₃, _, _, 1, _, rfl, rfl, by omega, fun h => by omega, fun _ => rfl, ?_, ?_, hl₃, hn₂.sameBut hs₃ (Ne.symm hDC), fun b o h1 h2 h3 e => ?_⟩)
    · obtain ⟨o, q, r'⟩ := hit₁
      exact ⟨o, hs₃.extBut _ _ (Ne.symm hID) (hs₂.extBut _ _ hIC q), r'⟩
    · exact hl'.at fun o e => hs₃.extBut _ _ haD (hs₂.extBut _ _ haC (hs₁.extBut _ _ hIa e))
    · exact hs₃.extBut _ _ h3 (hs₂.extBut _ _ h1 (hs₁.extBut _ _ h2 (hk' b o h1 h2 h3 e)))
  · have h1 : i = 1 := by omega
    subst h1
    obtain rfl := hz1 rfl
    refine wpAny_pyNext_list_end hh hit' hl' rfl fun h₁ he₁ => ?_
    refine wpAny_pure ?_
    exact hR h₁ tk m' (hn'.extBut he₁ (Ne.symm hIC)) (hacc'.extBut he₁ hID) fun b o c1 c2 c3 e => he₁ b o c2 (hk' b o c1 c2 c3 e)

theorem ints_snoc {ys : Array Value} {xs : List Int} {x : Int} {t : Tok} (h : IntsAre ys.toList xs) : IntsAre (ys.push (.int x t)).toList (xs ++ [x]) := by
  rw [Array.toList_push]
  exact IntsAre.append h (.cons x t .nil)

theorem flat_outer {r v : Str} {i0 : Expr} {p1 p2 p3 pe : Pos} {scope : Scope} {pos : Pos} {cenv : Env} {I ax D : Addr} {rs : List Rw} {m : Str → Option Value}
    (hh : A.handled = none) (hk : cenv.scope.kind = .function) (hr : cenv.kindOf r = some .local) (hrd : (r == ("__debug__" : Str)) = false) (hv : cenv.kindOf v = some .local) (hvd : (v == ("__debug__" : Str)) = false)
    (hp : (cenv.scope.kind == .class || (cenv.scope.kind == .module && cenv.locals != cenv.globals)) = false) (hn0 : rs.length ≤ 100)
    (hIC : I ≠ cenv.locals) (hID : D ≠ I) (hDC : D ≠ cenv.locals) (hax : ax ≠ I ∧ ax ≠ cenv.locals ∧ ax ≠ D) (hro : ∀ q ∈ rs, q.1 ≠ I ∧ q.1 ≠ cenv.locals ∧ q.1 ≠ D)
    (hit : s.heap.IsListIter I ax 0) (hl : s.heap.IsList ax (refs rs).toArray) (hrows : ∀ q ∈ rs, s.heap.IsList q.1 #[Value.int q.2.1 q.2.2]) (hacc : s.heap.PlainList D #[]) (hn : s.heap.Ns cenv.locals m)
    (hR : ∀ h' tk m' zs, h'.Ns cenv.locals m' → h'.PlainList D zs → IntsAre zs.toList (vals rs) → (∀ b o, b ≠ cenv.locals → b ≠ I → b ≠ D → s.heap.get? b = some o → h'.get? b = some o) → R (.ok .next) { s with heap := h', toks := tk }) :
    codeAny (model prog w) A (.compLoop (.ListComp (.Name v pe) [⟨.Name r p1, i0, [], 0⟩, ⟨.Name v p2, .Name r p3, [], 0⟩] scope pos) 0 (.ref I) (.ref D) cenv) R s := by
  refine codeAny_loop rfl (fun k s' => ∃ h' tk m' i zs, s' = { s with heap := h', toks := tk } ∧ k = rs.length - i ∧ i ≤ rs.length ∧ IntsAre zs.toList ((vals rs).take i) ∧ h'.IsListIter I ax i ∧ h'.IsList ax (refs rs).toArray ∧ h'.PlainList D zs ∧ h'.Ns cenv.locals m' ∧
      ∀ b o, b ≠ cenv.locals → b ≠ I → b ≠ D → s.heap.get? b = some o → h'.get? b = some o) ?_ rs.length ⟨s.heap, s.toks, m, 0, #[], rfl, rfl, by omega, by simpa using IntsAre.nil, hit, hl, hacc, hn, fun _ _ _ _ _ e => e⟩
  rintro k s' ⟨h', tk, m', i, zs, rfl, rfl, hi, hz, hit', hl', hacc', hn', hk'⟩
  show wpAny _ A ((compTurn (.ListComp (.Name v pe) [⟨.Name r p1, i0, [], 0⟩, ⟨.Name v p2, .Name r p3, [], 0⟩] scope pos) 0 (.ref I) (.ref D) cenv).onRaise (fun x => do noteFrame x cenv; theTreesLotGoes x)) _ _ _
  refine wpAny_noted ?_
  rw [compTurn_flat0]
  refine wpAny_bind (wpAny_standAt (wpAny_bind ?_))
  have hzl : zs.size ≤ 100 := by
    have e1 := hz.length
    rw [List.length_take, Array.length_toList] at e1
    omega
  by_cases h0 : i < rs.length
  · obtain ⟨q, hq⟩ : ∃ q, rs[i]? = some q := ⟨rs[i], List.getElem?_eq_getElem h0⟩
    have hqm := List.mem_of_getElem? hq
    obtain ⟨o1, o2, o3⟩ := hro q hqm
    refine wpAny_pyNext_list_item hit' hl' (x := .ref q.1) (by simpa using refs_get hq) fun h₁ hit₁ hs₁ => ?_
    refine wpAny_bind (wpAny_of_eq (show letOwnedTupleGo (.Name r p1) (.ref I) (.ref q.1) = pure () from rfl) ?_)
    refine wpAny_bind (wpAny_assign_Name (wpAny_storeName_local hr (hn'.sameBut hs₁ (Ne.symm hIC)) (fun h₂ hn₂ hs₂ => ?_) hp))
    refine wpAny_bind (wpAny_Name (wpAny_loadName_local hk hr hn₂ (if_pos rfl) ?_) hrd)
    refine wpAny_bind (wpAny_standAt (wpAny_bind (wpAny_of_eq (show foldedSetIterable (.Name r p3) cenv (.ref q.1) = pure (.ref q.1) from rfl) ?_)))
    have up : ∀ b o, b ≠ cenv.locals → b ≠ I → h'.get? b = some o → h₂.get? b = some o := fun b o c1 c2 e => hs₂.extBut _ _ c1 (hs₁.extBut _ _ c2 e)
    have hlq : h₂.IsList q.1 #[Value.int q.2.1 q.2.2] := (hrows q hqm).at fun o e => up _ _ o2 o1 (hk' _ _ o2 o1 o3 e)
    refine wpAny_bind (wpAny_holding (wpAny_pyIter_list hlq ?_))
    have hCl : cenv.locals < h₂.objs.size := hn₂.lt
    have pl₂ : h₂.PlainList D zs := hacc'.at fun o e => up _ _ hDC hID e
    have hDl : D < h₂.objs.size := by obtain ⟨_, e⟩ := pl₂; exact Heap.lt_size e
    have hIl : I < h₂.objs.size := by
      obtain ⟨o, e, _⟩ := hit₁
      exact Heap.lt_size (hs₂.extBut _ _ hIC e)
    have hql : q.1 < h₂.objs.size := by obtain ⟨o, e, _⟩ := hlq; exact Heap.lt_size e
    have inner : ∀ s₅ : Shared, (∃ t, s₅ = { s with heap := h₂.push { cls := .type "list_iterator", data := .fields #[.ref q.1, .int 0 0] }, toks := t }) →
        codeAny (model prog w) (A.mark none) (.compLoop (.ListComp (.Name v pe) [⟨.Name r p1, i0, [], 0⟩, ⟨.Name v p2, .Name r p3, [], 0⟩] scope pos) 1 (.ref h₂.objs.size) (.ref D) cenv)
          (fun res s₆ => match res with
            | .ok f => wpAny (model prog w) A (again (.compLoop (.ListComp (.Name v pe) [⟨.Name r p1, i0, [], 0⟩, ⟨.Name v p2, .Name r p3, [], 0⟩] scope pos) 0 (.ref I) (.ref D) cenv))
                (fun fin s' => match fin with | .done f => R (.ok f) s' | .again c' => c' = (.compLoop (.ListComp (.Name v pe) [⟨.Name r p1, i0, [], 0⟩, ⟨.Name v p2, .Name r p3, [], 0⟩] scope pos) 0 (.ref I) (.ref D) cenv) ∧ ∃ m, m < rs.length - i ∧ ∃ h' tk m' i zs, s' = { s with heap := h', toks := tk } ∧ m = rs.length - i ∧ i ≤ rs.length ∧ IntsAre zs.toList ((vals rs).take i) ∧ h'.IsListIter I ax i ∧ h'.IsList ax (refs rs).toArray ∧ h'.PlainList D zs ∧ h'.Ns cenv.locals m' ∧
                  ∀ b o, b ≠ cenv.locals → b ≠ I → b ≠ D → s.heap.get? b = some o → h'.get? b = some o) (notedBy (model prog w) A cenv fun e s' => R (.error e) s') s₆
            | .error e => cameBackBy (model prog w) A cenv (notedBy (model prog w) A cenv fun e s' => R (.error e) s') e s₆) s₅ := by
      rintro s₅ ⟨t, rfl⟩
      refine flat_inner (s := { s with heap := h₂.push { cls := .type "list_iterator", data := .fields #[.ref q.1, .int 0 0] }, toks := t }) (x := .int q.2.1 q.2.2) (ys := zs) hh hk hv hvd hp (Nat.ne_of_lt hql) (Ne.symm (Nat.ne_of_lt hCl)) (Nat.ne_of_lt hDl) o2 o3 hDC (by rw [PySem.sizeLine_eq]; omega)
        ⟨_, Heap.get?_push_size _ rfl, rfl, rfl⟩ (hlq.at fun o e => Heap.get?_push_of_some _ e) (pl₂.at fun o e => Heap.get?_push_of_some _ e) (hn₂.keeps fun b o e => Heap.get?_push_of_some _ e) ?_
      intro h₄ tk₄ m₄ hn₄ pl₄ hk₄
      have up4 : ∀ b o, b ≠ cenv.locals → b ≠ D → h₂.get? b = some o → h₄.get? b = some o := fun b o c1 c3 e => hk₄ b o c1 (fun h => by rw [h] at e; exact Nat.lt_irrefl _ (Heap.lt_size e)) c3 (Heap.get?_push_of_some _ e)
      refine wpAny_pure ⟨rfl, rs.length - (i + 1), by omega, h₄, tk₄, m₄, i + 1, _, rfl, rfl, by omega, ?_, ?_, ?_, pl₄, hn₄, fun b o c1 c2 c3 e => up4 b o c1 c3 (up b o c1 c2 (hk' b o c1 c2 c3 e))⟩
      · rw [List.take_add_one, show (vals rs)[i]? = some q.2.1 by simp [vals, hq]]
        exact ints_snoc hz
      · obtain ⟨o, e, r'⟩ := hit₁
        exact ⟨o, up4 _ _ hIC (Ne.symm hID) (hs₂.extBut _ _ hIC e), r'⟩
      · exact hl'.at fun o e => up4 _ _ hax.2.1 hax.2.2 (up _ _ hax.2.1 hax.1 e)
    refine wpAny_bind (wpAny_runOwn (h := none) (compStart_flat1 (inner _ ⟨_, rfl⟩) ?_))
    refine wpAny_pyIter_listiter (i := 0) (l := q.1) ⟨_, Heap.get?_push_size _ rfl, rfl, rfl⟩ (inner _ ⟨_, rfl⟩)
  · have h1 : i = rs.length := by omega
    subst h1
    refine wpAny_pyNext_list_end hh hit' hl' (by simp [refs]) fun h₁ he₁ => ?_
    refine wpAny_pure ?_
    rw [show (vals rs).take rs.length = vals rs from List.take_of_length_le (by simp [vals])] at hz
    exact hR h₁ tk m' zs (hn'.extBut he₁ (Ne.symm hIC)) (hacc'.extBut he₁ hID) hz fun b o c1 c2 c3 e => he₁ b o c2 (hk' b o c1 c2 c3 e)

theorem flat_comp {h₀ : Heap} {L : Addr} {m : Str → Option Value} {env : Env} {r v : Str} {i0 : Expr} {p1 p2 p3 pe : Pos} {scope : Scope} {cl : List (Str × Addr)} {pos : Pos} {Q : Value → Shared → Prop}
    (F₀ : Fr h₀ L s.heap m) (hclos : closureFor scope env = pure cl) (hcell : ∀ y ∈ scope.names, y.2 ≠ .cell) (hkind : scope.kind = .function)
    (hnames : ∀ y ∈ scope.names, y.2 = .local → scope.names.lookup y.1 = some .local) (hr : scope.names.lookup r = some .local) (hv : scope.names.lookup v = some .local)
    (hrd : (r == ("__debug__" : Str)) = false) (hvd : (v == ("__debug__" : Str)) = false)
    (h : wpAny (model prog w) A (eval i0 env) (fun xv s₁ => ∃ ax rs news, xv = .ref ax ∧ A.handled = none ∧ Fr h₀ L s₁.heap m ∧ News h₀ L s₁.heap news ∧ rs.length ≤ 100 ∧ s₁.heap.IsList ax (refs rs).toArray ∧ (∀ q ∈ rs, s₁.heap.IsList q.1 #[Value.int q.2.1 q.2.2]) ∧
      ∀ D h' tk zs c, Fr h₀ L h' m → News h₀ L h' ((D, listOf zs.toArray c) :: news) → IntsAre zs (vals rs) → (∀ p ∈ news, p.1 < D) → Q (.ref D) { s₁ with heap := h', toks := tk }) E s)
    (hs : ∀ x, foldedSetIterable i0 env x = pure x := by intro _; rfl) :
    wpAny (model prog w) A (eval (.ListComp (.Name v pe) [⟨.Name r p1, i0, [], 0⟩, ⟨.Name v p2, .Name r p3, [], 0⟩] scope pos) env) Q E s := by
  rw [eval_ListComp]
  refine wpAny_comprehension_free (use := none) rfl hs hclos hkind hnames (wpAny_mono h (fun xv s₁ h₁ => ?_) fun _ _ e => e)
  obtain ⟨ax, rs, news, rfl, hh, F, N, hn0, hl, hrows, fin⟩ := h₁
  obtain ⟨I, hI⟩ : ∃ I : Nat, s₁.heap.objs.size = I := ⟨_, rfl⟩
  have lt1 : ∀ (b : Nat) o, s₁.heap.get? b = some o → b < I := fun b o e => hI ▸ Heap.lt_size e
  have hlt : @LT.lt Nat _ ax I := by obtain ⟨_, e, _⟩ := hl; exact lt1 _ _ e
  have hrl : ∀ q ∈ rs, @LT.lt Nat _ q.1 I := fun q hq => by obtain ⟨_, e, _⟩ := hrows q hq; exact lt1 _ _ e
  have hLl : @LT.lt Nat _ L I := hI ▸ F.ns.lt
  refine wpAny_pyIter_list hl ?_
  rw [hI]
  refine wpAny_newObj_type (wpAny_newFunctionEnv hcell (by intro y hy; simp at hy) (fun h₁ hns₁ hsb₁ => ?_) hkind)
  dsimp only at hns₁ hsb₁ ⊢
  obtain ⟨H1, hH1⟩ : ∃ H1, s₁.heap.push { cls := .type "list_iterator", data := .fields #[.ref ax, .int 0 0] } = H1 := ⟨_, rfl⟩
  rw [hH1] at hns₁ hsb₁ ⊢
  obtain ⟨H2, hH2⟩ : ∃ H2, H1.push { cls := .type "list", dict := none, data := .seq ([] : List Value).toArray } = H2 := ⟨_, rfl⟩
  rw [hH2] at hns₁ hsb₁ ⊢
  have z1 : @Eq Nat H1.objs.size (I + 1) := by rw [← hH1, Heap.size_push, hI]
  have z2 : @Eq Nat H2.objs.size (I + 2) := by rw [← hH2, Heap.size_push, z1]
  rw [z2] at hns₁ hsb₁ ⊢
  rw [z1]
  have e1 : ∀ b o, s₁.heap.get? b = some o → H1.get? b = some o := fun b o e => hH1 ▸ Heap.get?_push_of_some _ e
  have e2 : ∀ b o, H1.get? b = some o → (H2.push { cls := .type (if (some env).isSome then "dict" else "frame"), data := .dict #[] }).get? b = some o := fun b o e => Heap.get?_push_of_some _ (hH2 ▸ Heap.get?_push_of_some _ e)
  have gI : H1.get? I = some { cls := .type "list_iterator", data := .fields #[.ref ax, .int 0 0] } := by rw [← hH1, ← hI]; exact Heap.get?_push_size _ rfl
  have gD : (H2.push { cls := .type (if (some env).isSome then "dict" else "frame"), data := .dict #[] }).get? (I + 1) = some { cls := .type "list", data := .seq ([] : List Value).toArray } := by
    refine Heap.get?_push_of_some _ ?_
    rw [← hH2, ← z1]; exact Heap.get?_push_size _ rfl
  have ne : ∀ a b : Nat, a < b → a ≠ b := fun a b h => Nat.ne_of_lt h
  have old : ∀ b o, s₁.heap.get? b = some o → h₁.get? b = some o := fun b o e => hsb₁.extBut b o (ne b (I + 2) (by have := lt1 b o e; omega)) (e2 _ _ (e1 _ _ e))
  have fresh₀ : ∀ a : Nat, I ≤ a → h₀.get? a = none := fun a ha => by
    cases e : h₀.get? a with
    | none => rfl
    | some o' => have := lt1 _ _ (F.keep a o' e); omega
  have loop : ∀ s₃ : Shared, (∃ t, s₃ = { s₁ with heap := h₁, toks := t }) →
      codeAny (model prog w) A (.compLoop (.ListComp (.Name v pe) [⟨.Name r p1, i0, [], 0⟩, ⟨.Name v p2, .Name r p3, [], 0⟩] scope pos) 0 (.ref I) (.ref (I + 1)) (compEnvC scope cl (I + 2) env))
        (compPost (model prog w) A E none Q (.ref (I + 1)) (I + 2)) s₃ := by
    rintro s₃ ⟨t, rfl⟩
    refine flat_outer (s := { s₁ with heap := h₁, toks := t }) (rs := rs) (ax := ax) hh (by show scope.kind = _; exact hkind) (lookup_relabel_local hr) hrd (lookup_relabel_local hv) hvd (by simp [compEnvC, relabel, hkind]) hn0
      (ne I (I + 2) (by omega)) (Ne.symm (ne I (I + 1) (by omega))) (ne (I + 1) (I + 2) (by omega)) ⟨ne ax I hlt, ne ax (I + 2) (by omega), ne ax (I + 1) (by omega)⟩
      (fun q hq => ⟨ne q.1 I (hrl q hq), ne q.1 (I + 2) (by have := hrl q hq; omega), ne q.1 (I + 1) (by have := hrl q hq; omega)⟩)
      ⟨_, hsb₁.extBut _ _ (ne I (I + 2) (by omega)) (e2 _ _ gI), rfl, rfl⟩ (hl.at fun o e => old _ _ e) (fun q hq => (hrows q hq).at fun o e => old _ _ e) ⟨_, hsb₁.extBut _ _ (ne (I + 1) (I + 2) (by omega)) gD⟩ hns₁ ?_
    intro h' tk m' zs hn' pl' hz hk
    have hk' : ∀ b o, s₁.heap.get? b = some o → h'.get? b = some o := fun b o e => hk b o (ne b (I + 2) (by have := lt1 b o e; omega)) (ne b I (lt1 b o e)) (ne b (I + 1) (by have := lt1 b o e; omega)) (old _ _ e)
    refine ⟨m', hn', fun h'' hs'' => ?_⟩
    obtain ⟨c, hc⟩ := pl'
    have hs2 : ∀ b o, b ≠ (I + 2 : Nat) → h'.get? b = some o → h''.get? b = some o := fun b o c1 e => hs''.extBut b o c1 e
    have all : ∀ b o, s₁.heap.get? b = some o → h''.get? b = some o := fun b o e => hs2 _ _ (ne b (I + 2) (by have := lt1 b o e; omega)) (hk' _ _ e)
    refine fin (I + 1) h'' tk zs.toList c (F.keeps all) (fun p hp => ?_) hz (fun p hp => by have := lt1 _ _ (N p hp).1; show @LT.lt Nat _ p.1 (I + 1); omega)
    rcases List.mem_cons.mp hp with rfl | hp
    · exact ⟨hs2 _ _ (ne (I + 1) (I + 2) (by omega)) (by show h'.get? (I + 1) = some { cls := .type "list", data := .seq zs.toList.toArray c }; rw [Array.toArray_toList]; exact hc), Ne.symm (ne L (I + 1) (by omega)), fresh₀ (I + 1) (by omega)⟩
    · exact ⟨all _ _ (N p hp).1, (N p hp).2⟩
  exact codeAny_compStart_list (loop _ ⟨_, rfl⟩) (wpAny_pyIter_listiter (i := 0) (l := ax) ⟨_, hsb₁.extBut _ _ (ne I (I + 2) (by omega)) (e2 _ _ gI), rfl, rfl⟩ (loop _ ⟨_, rfl⟩))
end
end Mine
open PySem PySem.W PySem.Calls PyProof.Rows
set_option Elab.async false
set_option maxRecDepth 100000
set_option maxHeartbeats 8000000
namespace Mine

theorem c_text1 {w mean mg mb dp un gd cn cs a ccd cl outer A₀ base h₀ L m news} {s : Shared} {Q E : Value → Shared → Prop} {n : Int} {tn : Tok}
    (H : At w mean mg mb dp un cs outer A₀ base h₀ L m news s.heap 2) (hn : n = 1 ∨ n = 2 ∨ n = 3 ∨ n = 4 ∨ n = 5 ∨ n = 6 ∨ n = 7 ∨ n = 8 ∨ n = 9)
    (ret : ∀ x t, x.length = 1 → Ret h₀ L m news s Q (.str x t) []) :
    wpAny (model PG w) (ktrTop dp un gd cn cs L a ccd cl outer) (call (.ref 177) [.int n tn]) Q E s := by
  w_top off
  have hfill : (Mine.hd.heap_1 w.params = Mine.hd.heap_1 w.params ∧ PySem.Challenge.rw_xm0951_01 = PySem.Challenge.rw_xm0951_01) := by k_fill; exact ⟨rfl, rfl⟩
  clear hfill
  obtain ⟨hB, hF, hX, hN, hT, hk, hdp, hun⟩ := H
  rcases hn with rfl | rfl | rfl | rfl | rfl | rfl | rfl | rfl | rfl
  all_goals (
    walk_at "mine enter"
    rename GSub _ _ _ => kG
    iterate 96 walk_at "mine step"
    exact ret _ _ (by decide) _ _ (by assumption) (news_keep hN kG (by assumption) News.nil))
end Mine
section
local macro_rules | `(tactic| k_room) => `(tactic| ktr_room)
local macro_rules | `(tactic| k_units) => `(tactic| ktr_units)
open PySem PySem.W PySem.Calls PyProof.Rows
set_option Elab.async false
set_option maxRecDepth 100000
set_option maxHeartbeats 8000000
namespace Mine
local macro_rules | `(tactic| walk_at "call ref") => `(tactic| (k_here; k_dflt (refine' c_text1 ⟨?k1, ?k2, ?k3, ?k4, ?k5, ?kK, ?kd, ?ku⟩ ?kn ?_; (case k1 => k_asm); (case k2 => k_asm); (case k3 => k_asm); (case k4 => k_asm); (case k5 => k_asm); (case kK => first | assumption | exact rfl); (case kd => ktr_room); (case ku => ktr_units); (case kn => omega); k_whole); intro x' t' hx' h' tk' F' N'; (try simp only [List.nil_append] at N'); (try k_sweep)))
local macro_rules | `(tactic| walk_at "binaryOp Mult ref int") => `(tactic| (k_here; k_dflt (refine' KMa.mul ?F ?N ?l ?lo ?hi ?z ?e ?_; (case F => k_asm); (case N => k_asm); (case l => exact News.isList (by k_asm) (by k_mem)); (case lo => omega); (case hi => omega); (case z => (simp only [List.length_cons, List.length_nil]; omega)); (case e => exact rfl); k_whole); intro D' h' F' N' l1; (try k_lt l1); (try k_sweep)))
local macro_rules | `(tactic| walk_at "exec Assign cons ListComp") => `(tactic| (k_here; with_reducible refine plainObj_wpAny_Assign_Attribute ?_ ?_; rotate_left; with_unfolding_all rfl))
local macro_rules | `(tactic| walk_at "eval ListComp Name cons") => `(tactic| (k_here; k_dflt (refine' flat_comp (cl := []) ?hF ?hclos ?hcell ?hkind ?hnames ?hr ?hv ?hrd ?hvd ?_ ?hs; (case hF => k_asm); (case hclos => with_unfolding_all rfl); (case hcell => decide); (case hkind => exact rfl); (case hnames => decide); (case hr => exact rfl); (case hv => exact rfl); (case hrd => decide); (case hvd => decide); (case hs => intro _; with_unfolding_all rfl))))

/-- the entries of an Array's dict -/
noncomputable abbrev arrE (w : World) (num : Int) (told : Str) (b D : Addr) (t1 t2 t3 t4 t5 t6 t7 t8 t9 t10 : Tok) : List DictEntry :=
  [⟨PyData.keyHash w.params (Str.ofString "word"), .str (Str.ofString "word") t1, .str (Str.ofString "ARRAY") t2⟩,
   ⟨PyData.keyHash w.params (Str.ofString "number"), .str (Str.ofString "number") t3, .int num t4⟩,
   ⟨PyData.keyHash w.params (Str.ofString "mark"), .str (Str.ofString "mark") t5, .int 0 t6⟩,
   ⟨PyData.keyHash w.params (Str.ofString "told"), .str (Str.ofString "told") t7, .str told t8⟩,
   ⟨PyData.keyHash w.params (Str.ofString "bounds"), .str (Str.ofString "bounds") t9, .ref b⟩,
   ⟨PyData.keyHash w.params (Str.ofString "items"), .str (Str.ofString "items") t10, .ref D⟩]
noncomputable abbrev arrN (w : World) (num : Int) (n : Nat) (told : Str) (zs : List Value) (c : Nat) (D x d b q1 q2 : Addr) (t1 t2 t3 t4 t5 t6 t7 t8 t9 t10 u1 u2 u3 u4 : Tok) : List (Addr × Obj) :=
  [(D, listOf zs.toArray c), (x, instObj 215 d), (d, dictOf (arrE w num told b D t1 t2 t3 t4 t5 t6 t7 t8 t9 t10) 6), (b, listOf #[Value.ref q1, Value.ref q2] 0),
   (q2, { cls := .type "tuple", data := .seq #[Value.int 1 u1, Value.int 1 u2] }), (q1, { cls := .type "tuple", data := .seq #[Value.int 1 u3, Value.int (n : Nat) u4] })]

theorem arr_pick {h₀ h : Heap} {L : Addr} {w : World} {num : Int} {n : Nat} {told : Str} {zs : List Value} {c : Nat} {D x d b q1 q2 a1 a2 a3 : Addr} {o1 o2 o3 : Obj} {t1 t2 t3 t4 t5 t6 t7 t8 t9 t10 u1 u2 u3 u4 : Tok}
    (N : News h₀ L h [(D, listOf zs.toArray c), (a1, o1), (a2, o2), (x, instObj 215 d), (d, dictOf (arrE w num told b D t1 t2 t3 t4 t5 t6 t7 t8 t9 t10) 6), (b, listOf #[Value.ref q1, Value.ref q2] 0),
      (q2, { cls := .type "tuple", data := .seq #[Value.int 1 u1, Value.int 1 u2] }), (q1, { cls := .type "tuple", data := .seq #[Value.int 1 u3, Value.int (n : Nat) u4] }), (a3, o3)]) :
    News h₀ L h (arrN w num n told zs c D x d b q1 q2 t1 t2 t3 t4 t5 t6 t7 t8 t9 t10 u1 u2 u3 u4) := fun p hp => by
  refine N p ?_
  simp only [arrN, List.mem_cons, List.not_mem_nil, or_false] at hp
  rcases hp with rfl | rfl | rfl | rfl | rfl | rfl <;> (repeat (first | exact List.Mem.head _ | apply List.Mem.tail))

theorem c_rows_array {w mean mg mb dp un gd cn cs a ccd cl outer A₀ base h₀ L m news} {s : Shared} {Q E : Value → Shared → Prop} {l : Addr} {rs : List Rw} {tn : Tok}
    (H : At w mean mg mb dp un cs outer A₀ base h₀ L m news s.heap 8)
    (hl : s.heap.IsList l (refs rs).toArray) (hf : ∀ r ∈ rs, s.heap.get? r.1 = some (listOf #[Value.int r.2.1 r.2.2] 0)) (hn : rs.length = 1 ∨ rs.length = 2 ∨ rs.length = 3 ∨ rs.length = 4 ∨ rs.length = 5 ∨ rs.length = 6 ∨ rs.length = 7 ∨ rs.length = 8 ∨ rs.length = 9)
    (ret : ∀ told zs c D x d b q1 q2 t1 t2 t3 t4 t5 t6 t7 t8 t9 t10 u1 u2 u3 u4, IntsAre zs (vals rs) → told.length = 3 → @LT.lt Nat _ q1 q2 → @LT.lt Nat _ q2 b → @LT.lt Nat _ b d → @LT.lt Nat _ d x → @LT.lt Nat _ x D →
      RetN h₀ L m news s Q (.ref x) (arrN w 1 rs.length told zs c D x d b q1 q2 t1 t2 t3 t4 t5 t6 t7 t8 t9 t10 u1 u2 u3 u4)) :
    wpAny (model PG w) (ktrTop dp un gd cn cs L a ccd cl outer) (call (.ref 291) [.ref l, .int 1 tn]) Q E s := by
  w_top off
  have hfill : (Mine.hd.heap_1 w.params = Mine.hd.heap_1 w.params ∧ PySem.Challenge.rw_xm0951_01 = PySem.Challenge.rw_xm0951_01) := by k_fill; exact ⟨rfl, rfl⟩
  clear hfill
  obtain ⟨hB, hF, hX, hN, hT, hk, hdp, hun⟩ := H
  obtain ⟨r0, hr0⟩ : ∃ r0, rs[0]? = some r0 := ⟨rs[0]'(by omega), List.getElem?_eq_getElem _⟩
  have hr0m := List.mem_of_getElem? hr0
  walk_at "mine enter"
  rename GSub _ _ _ => kG
  have hlg := hl.at fun o e => kG _ _ e (by simp)
  have hfg : ∀ r ∈ rs, _ := fun r hr => kG _ _ (hf r hr) (by simp)
  iterate 10 walk_at "mine step"
  rename Fr _ _ _ _ => F1
  k_dflt refine' len_at (vs := refs rs) (k := rs.length) (hlg.at fun o e => F1.keep _ _ e) (refs_length rs) (by omega) ?_
  iterate 8 walk_at "mine step"
  k_dflt refine' item_list (vs := refs rs) ?hl ?h0 ?hh ?hx ?_
  case hl => exact hlg.at fun o e => F1.keep _ _ e
  case h0 => decide
  case hh => decide
  case hx => exact refs_get hr0
  iterate 1 walk_at "mine step"
  k_dflt refine' len_at (k := 1) (fam_is hfg F1 hr0m) rfl (by decide) ?_
  iterate 211 walk_at "mine step"
  rename Fr _ _ _ _ => F2
  rename News _ _ _ _ => N2
  refine ⟨l, rs, _, rfl, by rfl, F2, N2, by omega, hlg.at fun o e => F2.keep _ _ e, fun q hq => ?_, fun D h4 tk4 zs c F4 N4 hz hlt => ?_⟩
  · exact fam_is hfg F2 hq
  k_lt hlt
  clear F2 N2
  iterate 6 walk_at "mine step"
  rename News h₀ L _ _ => N9
  have nf := news_fresh hN kG (arr_pick (w := w) (n := rs.length) (by assumption))
  k_dflt refine' ret _ zs c D _ _ _ _ _ _ _ _ _ _ _ _ _ _ _ _ _ _ _ hz ?_ ?_ ?_ ?_ ?_ ?_ _ _ (by assumption) (news_keep hN kG (by assumption) (arr_pick N9)) nf
  · rw [strLen_append, strLen_append]
    have e : (Str.ofString ",").length = 1 := by decide
    omega
  all_goals omega
end Mine
open PySem PySem.W PySem.Calls PyProof.Rows
set_option Elab.async false
set_option maxRecDepth 100000
set_option maxHeartbeats 2000000
namespace Mine
theorem ints_one {ws : List Value} {z : Int} (h : IntsAre ws [z]) : ∃ t, ws = [Value.int z t] := by
  cases h with
  | cons _ t h2 => cases h2; exact ⟨t, rfl⟩
theorem pick_one {zs : List Value} {ns : List Int} (hz : IntsAre zs ns) {i : Nat} {z lo hi : Int} (hi1 : ns[i]? = some z) (e1 : lo = (i : Int)) (e2 : hi = (i : Int) + 1) :
    ∃ t, (slicePick zs.toArray (some lo) (some hi) none).toList = [Value.int z t] := by
  have h := kmk_run hz (x := lo) (y := hi) (by omega) (by omega)
  have hl := (List.getElem?_eq_some_iff.mp hi1).1
  have e3 : (ns.drop lo.toNat).take (min hi.toNat ns.length - lo.toNat) = [z] := by
    rw [show lo.toNat = i by omega, show min hi.toNat ns.length - i = 1 by omega, List.drop_eq_getElem_cons hl, List.take_succ_cons, List.take_zero, (List.getElem?_eq_some_iff.mp hi1).2]
  rw [e3] at h
  exact ints_one h
theorem fam_snoc (rs : List Rw) (r : Rw) : fam (rs ++ [r]) = fam rs ++ [(r.1, listOf #[Value.int r.2.1 r.2.2] 0)] := by simp [fam]
theorem refs_snoc (rs : List Rw) (r : Rw) : refs (rs ++ [r]) = refs rs ++ [.ref r.1] := by simp [refs]
theorem vals_snoc (rs : List Rw) (r : Rw) : vals (rs ++ [r]) = vals rs ++ [r.2.1] := by simp [vals]
theorem vals_len (rs : List Rw) : (vals rs).length = rs.length := by simp [vals]
section
variable {prog : Program} {w : World} {A : Around} {h₀ : Heap} {L : Addr} {m : Str → Option Value} {env : Env} {elt : Expr} {x : Str} {scope : Scope} {cl : List (Str × Addr)} {s : Shared} {S : List (Addr × Obj) → Prop} {P : Nat → Value → Prop} {Fin : List Value → List (Addr × Obj) → Prop}
theorem rows_rest {n : Nat} {xs : List Int} {base : List (Addr × Obj)} (hn : xs.length = n) (hS : ∀ rs, S (base ++ fam rs))
    (turn : ∀ i v rs I oI C oC D m₂ h tk (E' : Value → Shared → Prop), i < n → P i v → vals rs = xs.take i → LCg.NsObj oC m₂ → m₂ x = some v → Fr h₀ L h m → News h₀ L h ((I, oI) :: (C, oC) :: (D, LCg.lst (refs rs)) :: (base ++ fam rs)) →
      wpAny (model prog w) A (eval elt (compEnvC scope cl C env)) (fun y s₂ => ∃ h' tk' D2 z t, s₂ = { s with heap := h', toks := tk' } ∧ y = .ref D2 ∧ xs[i]? = some z ∧ Fr h₀ L h' m ∧
        News h₀ L h' ((D2, listOf #[Value.int z t] 0) :: (I, oI) :: (C, oC) :: (D, LCg.lst (refs rs)) :: (base ++ fam rs)) ∧ (D2 ≠ I ∧ D2 ≠ C ∧ D2 ≠ D)) E' { s with heap := h, toks := tk })
    (fin : ∀ rs, vals rs = xs → Fin (refs rs) (base ++ fam rs)) : LCg.CompRest prog w A h₀ L m env elt x scope cl s S P Fin n 0 [] base := by
  have key : ∀ (j i : Nat) (rs : List Rw), i + j = n → vals rs = xs.take i → LCg.CompRest prog w A h₀ L m env elt x scope cl s S P Fin j i (refs rs) (base ++ fam rs) := by
    intro j
    induction j with
    | zero =>
      intro i rs hi hv
      have e : i = xs.length := by omega
      subst e
      rw [List.take_length] at hv
      exact LCg.CompRest.zero (fin rs hv)
    | succ j ih =>
      intro i rs hi hv
      refine LCg.CompRest.succ ?_
      intro v I oI C oC D m₂ h tk E' hP hC hx F N off ne
      refine wpAny_mono (turn i v rs I oI C oC D m₂ h tk E' (by omega) hP hv hC hx F N) (fun y s₂ hq => ?_) fun _ _ e => e
      obtain ⟨h', tk', D2, z, t, rfl, rfl, hz, F', N', ne2⟩ := hq
      refine LCg.CompEnd.intro F' N' (base ++ fam (rs ++ [(D2, z, t)])) (fun p hp => ?_) (LCg.Off3.of fun p hp => ?_) (hS _) ?_
      · rw [fam_snoc] at hp
        simp only [List.mem_cons, List.mem_append, List.not_mem_nil, or_false] at hp ⊢
        rcases hp with h | h | h | h | h | h
        · exact .inr (.inl h)
        · exact .inr (.inr (.inl h))
        · exact .inr (.inr (.inr (.inl h)))
        · exact .inr (.inr (.inr (.inr (.inl h))))
        · exact .inr (.inr (.inr (.inr (.inr h))))
        · exact .inl h
      · rw [fam_snoc, ← List.append_assoc] at hp
        rcases List.mem_append.mp hp with h | h
        · exact LCg.Off3.mem off p h
        · rw [List.mem_singleton.mp h]
          exact ne2
      · have h2 := ih (i + 1) (rs ++ [(D2, z, t)]) (by omega) (by rw [vals_snoc, hv, List.take_add_one, hz]; rfl)
        rw [refs_snoc] at h2
        exact h2
  have h := key n 0 [] (by omega) (by simp [vals])
  simpa [refs, fam] using h
end
end Mine
open PySem PySem.W PySem.Calls PyProof.Rows
set_option Elab.async false
set_option maxRecDepth 100000
set_option maxHeartbeats 1600000
namespace Mine
local macro_rules | `(tactic| walk_at "mine enterC") => `(tactic| (
  refine wpAny_call ?_
  k_dflt (refine' code_defC ?k1 ?k2 ?k3 ?k4 ?k5 ?kA ?kF ?kK ?k6 ?k7 ?k8 ?k9 ?kB ?kD ?_ ?c2 ?c3 ?c4; (case kA => exact rfl); (case kF => exact rfl); (case kK => assumption); (case k1 => k_asm); (case k2 => k_asm); (case k3 => k_asm); (case k4 => k_asm); (case k5 => k_asm); (case k6 => k_is); (case k7 => k_is); (case k8 => k_room); (case k9 => exact BindsTo.of_eq rfl); (case kB => exact rfl); (case kD => decide +kernel); (case c2 => exact rfl); (case c3 => exact rfl); (case c4 => exact rfl); k_whole; intro g' L' h' tk' cells' FG' F' N' Y' B' X' T' l1; (try k_lt l1); k_cells Y'; (try simp only [List.cons_append, List.nil_append] at N'); (try dsimp only); (try k_lift B'); (try k_fold))))

theorem c_rows_of {w mean mg mb dp un gd cn cs a ccd cl outer A₀ base h₀ L m} {s : Shared} {Q E : Value → Shared → Prop} {num : Int} {n : Nat} {told : Str} {zs : List Value} {ns : List Int} {c : Nat} {D x d b q1 q2 : Addr} {t1 t2 t3 t4 t5 t6 t7 t8 t9 t10 u1 u2 u3 u4 : Tok}
    (H : At w mean mg mb dp un cs outer A₀ base h₀ L m (arrN w num n told zs c D x d b q1 q2 t1 t2 t3 t4 t5 t6 t7 t8 t9 t10 u1 u2 u3 u4) s.heap 4)
    (hz : IntsAre zs ns) (hzn : ns.length = n) (hn1 : 1 ≤ n) (hn9 : n ≤ 9) (i1 : @LT.lt Nat _ q1 q2) (i2 : @LT.lt Nat _ q2 b) (i3 : @LT.lt Nat _ b d) (i4 : @LT.lt Nat _ d x) (i5 : @LT.lt Nat _ x D)
    (ret : ∀ D8 rs c8 h' tk', vals rs = ns → Fr h₀ L h' m → News h₀ L h' ((D8, listOf (refs rs).toArray c8) :: (arrN w num n told zs c D x d b q1 q2 t1 t2 t3 t4 t5 t6 t7 t8 t9 t10 u1 u2 u3 u4 ++ fam rs)) → Q (.ref D8) { s with heap := h', toks := tk' }) :
    wpAny (model PG w) (ktrTop dp un gd cn cs L a ccd cl outer) (call (.ref 296) [.ref x]) Q E s := by
  w_top off
  have hfill : (Mine.hd.heap_1 w.params = Mine.hd.heap_1 w.params ∧ PySem.Challenge.rw_xm0951_01 = PySem.Challenge.rw_xm0951_01) := by k_fill; exact ⟨rfl, rfl⟩
  clear hfill
  obtain ⟨hB, hF, hX, hN, hT, hk, hdp, hun⟩ := H
  walk_at "mine enterC"
  iterate 61 walk_at "mine step"
  with_reducible refine wpAny_execs_cons ?_
  with_reducible refine wpAny_Return_some ?_
  k_dflt (refine LCg.ListComp_U (F₀ := by k_asm) (by with_unfolding_all rfl) (by decide) (by rfl) (by decide) (by rfl) ?_)
  iterate 19 walk_at "mine step"
  rename IsRange _ _ _ _ _ _ _ _ => rg
  rename Fr _ _ _ _ => F1
  rename News _ _ _ _ => N1
  have hzl : zs.length = n := by rw [hz.length, hzn]
  k_dflt (refine LCg.CompSrc.range (n := n) (by rfl) F1 N1 rg ?hsm ?hrn ?hsz ?_)
  case hsm =>
    refine small_one ?_ ?_ ?_ ?_ <;> ((try simp only [List.size_toArray]); omega)
  case hrn =>
    refine (rangeSize_nat _ _).trans ?_
    (try simp only [List.size_toArray])
    omega
  case hsz => rw [PySem.sizeLine_eq]; omega
  intro g1
  k_dflt (refine rows_rest hzn (fun _ => trivial) ?_ ?_)
  · intro i v rs I oI C oC D9 m₂ h5 tk5 E' hi hP hv hC hx F5 N5
    obtain ⟨t5, rfl⟩ := hP
    simp only [List.cons_append, List.nil_append] at N5
    clear F1 N1
    obtain ⟨z, hzi⟩ : ∃ z, ns[i]? = some z := ⟨ns[i]'(by omega), List.getElem?_eq_getElem _⟩
    iterate 14 walk_at "mine step"
    rename Fr _ _ _ _ => F6
    obtain ⟨t6, ht6⟩ := pick_one hz (lo := 0 + (i : Int)) (hi := 0 + (i : Int) + (1 - 1 + 1)) hzi (by omega) (by omega)
    k_dflt refine' kmk_slice_lit (zs := [Value.int z t6]) ?kF ?kN ?kl ?kp ?kq ht6 ?_ ?ks ?kt ?kz
    case kF => exact F6
    case kN => exact N5
    case kl => exact News.isList (by k_asm) (by k_mem)
    case kp => exact IsPart.int _ _
    case kq => exact IsPart.int _ _
    case ks => with_unfolding_all rfl
    case kt => kmk_pure
    case kz => (rw [PySem.sizeLine_eq]; simp only [List.size_toArray]; omega)
    intro D2 h7 F7 N7 l7
    refine ⟨h7, _, D2, z, t6, rfl, rfl, hzi, F7, N7, (Nat.ne_of_lt (l7 _ (.head _))).symm, (Nat.ne_of_lt (l7 _ (.tail _ (.head _)))).symm, (Nat.ne_of_lt (l7 _ (.tail _ (.tail _ (.head _))))).symm⟩
  · intro rs hv D8 h8 tk8 F8 N8 o8
    simp only [List.cons_append, List.nil_append] at N8
    clear F1 N1
    walk_at "mine step"
    rename News h₀ L _ _ => N9
    refine ret D8 rs (refs rs).length _ _ hv (by assumption) (fun p hp => N9 p ?_)
    simp only [arrN, List.mem_cons, List.cons_append, List.nil_append] at hp ⊢
    rcases hp with h | h | h | h | h | h | h | h
    · exact .inl h
    · exact .inr (.inr (.inr (.inl h)))
    · exact .inr (.inr (.inr (.inr (.inl h))))
    · exact .inr (.inr (.inr (.inr (.inr (.inl h)))))
    · exact .inr (.inr (.inr (.inr (.inr (.inr (.inl h))))))
    · exact .inr (.inr (.inr (.inr (.inr (.inr (.inr (.inl h)))))))
    · exact .inr (.inr (.inr (.inr (.inr (.inr (.inr (.inr (.inl h))))))))
    · exact .inr (.inr (.inr (.inr (.inr (.inr (.inr (.inr (.inr h))))))))
end Mine
open PySem PySem.W PySem.Calls PyProof.Rows
set_option Elab.async false
set_option maxRecDepth 100000
set_option maxHeartbeats 1600000
namespace Mine
local macro_rules | `(tactic| walk_at "binaryOp Mult ref int") => `(tactic| (k_here; k_dflt (refine' KMa.mul ?F ?N ?l ?lo ?hi ?z ?e ?_; (case F => k_asm); (case N => k_asm); (case l => exact News.isList (by k_asm) (by k_mem)); (case lo => omega); (case hi => omega); (case z => (simp only [List.length_cons, List.length_nil]; omega)); (case e => exact rfl); k_whole); intro D' h' F' N' l1; (try k_lt l1); (try k_sweep)))

theorem cp_pick {h₀ h : Heap} {L : Addr} {w : World} {num : Int} {told : Str} {zs : List Value} {c : Nat} {D x d b a1 a2 : Addr} {o1 o2 : Obj} {rest : List (Addr × Obj)} {t1 t2 t3 t4 t5 t6 t7 t8 t9 t10 : Tok}
    (N : News h₀ L h ((D, listOf zs.toArray c) :: (a1, o1) :: (a2, o2) :: (x, instObj 215 d) :: (d, dictOf (arrE w num told b D t1 t2 t3 t4 t5 t6 t7 t8 t9 t10) 6) :: rest)) :
    News h₀ L h [(D, listOf zs.toArray c), (x, instObj 215 d), (d, dictOf (arrE w num told b D t1 t2 t3 t4 t5 t6 t7 t8 t9 t10) 6)] := fun p hp => by
  refine N p ?_
  simp only [List.mem_cons, List.not_mem_nil, or_false] at hp
  rcases hp with rfl | rfl | rfl <;> (repeat (first | exact List.Mem.head _ | apply List.Mem.tail))

theorem c_copy_of {w mean mg mb dp un gd cn cs a ccd cl outer A₀ base h₀ L m news} {s : Shared} {Q E : Value → Shared → Prop} {num nu2 : Int} {n : Nat} {told : Str} {zs : List Value} {ns : List Int} {c : Nat} {D x d b q1 q2 : Addr} {t1 t2 t3 t4 t5 t6 t7 t8 t9 t10 u1 u2 u3 u4 tn : Tok}
    (H : At w mean mg mb dp un cs outer A₀ base h₀ L m news s.heap 6) (hi : ∀ p ∈ arrN w num n told zs c D x d b q1 q2 t1 t2 t3 t4 t5 t6 t7 t8 t9 t10 u1 u2 u3 u4, p ∈ news)
    (hz : IntsAre zs ns) (hzn : ns.length = n) (hn1 : 1 ≤ n) (hn9 : n ≤ 9) (i1 : @LT.lt Nat _ q1 q2) (i2 : @LT.lt Nat _ q2 b) (i3 : @LT.lt Nat _ b d) (i4 : @LT.lt Nat _ d x) (i5 : @LT.lt Nat _ x D)
    (ret : ∀ c2 D2 x2 d2 t1 t2 t3 t4 t5 t6 t7 t8 t9 t10, @LT.lt Nat _ d2 x2 → @LT.lt Nat _ x2 D2 →
      RetN h₀ L m news s Q (.ref x2) [(D2, listOf zs.toArray c2), (x2, instObj 215 d2), (d2, dictOf (arrE w nu2 told b D2 t1 t2 t3 t4 t5 t6 t7 t8 t9 t10) 6)]) :
    wpAny (model PG w) (ktrTop dp un gd cn cs L a ccd cl outer) (call (.ref 276) [.ref x, .int nu2 tn]) Q E s := by
  w_top off
  have hfill : (Mine.hd.heap_1 w.params = Mine.hd.heap_1 w.params ∧ PySem.Challenge.rw_xm0951_01 = PySem.Challenge.rw_xm0951_01) := by k_fill; exact ⟨rfl, rfl⟩
  clear hfill
  obtain ⟨hB, hF, hX, hN, hT, hk, hdp, hun⟩ := H
  have hNi : News h₀ L s.heap (arrN w num n told zs c D x d b q1 q2 t1 t2 t3 t4 t5 t6 t7 t8 t9 t10 u1 u2 u3 u4) := fun p hp => hN p (hi p hp)
  refine wpAny_call ?_
  k_dflt (refine' code_defG (news := arrN w num n told zs c D x d b q1 q2 t1 t2 t3 t4 t5 t6 t7 t8 t9 t10 u1 u2 u3 u4) ?k1 ?k2 ?k3 ?k4 ?k5 ?kA ?kF ?kK ?k6 ?k7 ?k8 ?k9 ?kB ?_ ?c2 ?c3 ?c4 ?c5; (case kA => exact rfl); (case kF => exact rfl); (case kK => assumption); (case k1 => k_asm); (case k2 => k_asm); (case k3 => k_asm); (case k4 => exact hNi); (case k5 => k_asm); (case k6 => k_is); (case k7 => k_is); (case k8 => ktr_room); (case k9 => exact BindsTo.of_eq rfl); (case c5 => decide); (case kB => exact locs rfl); (case c2 => exact rfl); (case c3 => exact rfl); (case c4 => exact rfl); k_whole; intro g' L' h' FG' F' N' B' X' T' kG; (try dsimp only); (try k_lift B'); (try k_fold))
  clear hNi
  iterate 190 walk_at "mine step"
  rename News h₀ L _ _ => N9
  have N10 := news_keep2 hN hi kG (by assumption) N9 (fun p hp => .tail _ (.tail _ (.tail _ (.tail _ (.tail _ hp)))))
  have N11 := cp_pick (w := w) N9
  have nf := news_fresh2 (inp := arrN w num n told zs c D x d b q1 q2 t1 t2 t3 t4 t5 t6 t7 t8 t9 t10 u1 u2 u3 u4) hN kG (cp_pick (w := w) (by assumption)) (by
    intro q hq p hp
    simp only [arrN, List.mem_cons, List.not_mem_nil, or_false] at hq hp
    rcases hq with rfl | rfl | rfl <;> rcases hp with rfl | rfl | rfl | rfl | rfl | rfl <;> k_ne)
  refine ret _ _ _ _ _ _ _ _ _ _ _ _ _ _ ?_ ?_ _ _ (by assumption) (fun p hp => ?_) nf
  · omega
  · omega
  · rcases List.mem_append.mp hp with h | h
    · exact N11 p h
    · exact N10 p (List.mem_append_right _ h)
end Mine
open PySem PySem.W PySem.Calls PyProof.Rows
set_option Elab.async false
set_option maxRecDepth 100000
set_option maxHeartbeats 1600000
namespace Mine
local macro_rules | `(tactic| walk_at "exec Assign cons ListComp") => `(tactic| (k_here; with_reducible refine plainObj_wpAny_Assign_Attribute ?_ ?_; rotate_left; with_unfolding_all rfl))
local macro_rules | `(tactic| walk_at "eval ListComp Name cons") => `(tactic| (k_here; k_dflt (refine' flat_comp (cl := []) ?hF ?hclos ?hcell ?hkind ?hnames ?hr ?hv ?hrd ?hvd ?_ ?hs; (case hF => k_asm); (case hclos => with_unfolding_all rfl); (case hcell => decide); (case hkind => exact rfl); (case hnames => decide); (case hr => exact rfl); (case hv => exact rfl); (case hrd => decide); (case hvd => decide); (case hs => intro _; with_unfolding_all rfl))))
theorem sa_pick {h₀ h : Heap} {L : Addr} {w : World} {num : Int} {told : Str} {zs : List Value} {c : Nat} {D x d b a1 : Addr} {o1 : Obj} {rest : List (Addr × Obj)} {t1 t2 t3 t4 t5 t6 t7 t8 t9 t10 : Tok}
    (N : News h₀ L h ((D, listOf zs.toArray c) :: (a1, o1) :: (x, instObj 215 d) :: (d, dictOf (arrE w num told b D t1 t2 t3 t4 t5 t6 t7 t8 t9 t10) 6) :: rest)) :
    News h₀ L h [(D, listOf zs.toArray c), (x, instObj 215 d), (d, dictOf (arrE w num told b D t1 t2 t3 t4 t5 t6 t7 t8 t9 t10) 6)] := fun p hp => by
  refine N p ?_
  simp only [List.mem_cons, List.not_mem_nil, or_false] at hp
  rcases hp with rfl | rfl | rfl <;> (repeat (first | exact List.Mem.head _ | apply List.Mem.tail))

theorem arr_off {w : World} {num : Int} {n : Nat} {told : Str} {zs : List Value} {c : Nat} {D x d b q1 q2 y : Addr} {t1 t2 t3 t4 t5 t6 t7 t8 t9 t10 u1 u2 u3 u4 : Tok}
    (h : @Ne Nat D y ∧ @Ne Nat x y ∧ @Ne Nat d y ∧ @Ne Nat b y ∧ @Ne Nat q2 y ∧ @Ne Nat q1 y) : ∀ p ∈ arrN w num n told zs c D x d b q1 q2 t1 t2 t3 t4 t5 t6 t7 t8 t9 t10 u1 u2 u3 u4, p.1 ≠ y := by
  obtain ⟨h1, h2, h3, h4, h5, h6⟩ := h
  intro p hp
  simp only [arrN, List.mem_cons, List.not_mem_nil, or_false] at hp
  rcases hp with rfl | rfl | rfl | rfl | rfl | rfl
  · exact h1
  · exact h2
  · exact h3
  · exact h4
  · exact h5
  · exact h6
theorem c_sorted_array {w mean mg mb dp un gd cn cs a ccd cl outer A₀ base h₀ L m news} {s : Shared} {Q E : Value → Shared → Prop} {num nu2 : Int} {n : Nat} {told : Str} {zs : List Value} {ns : List Int} {c : Nat} {D x d b q1 q2 : Addr} {t1 t2 t3 t4 t5 t6 t7 t8 t9 t10 u1 u2 u3 u4 tn : Tok}
    (H : At w mean mg mb dp un cs outer A₀ base h₀ L m news s.heap 9) (hi : ∀ p ∈ arrN w num n told zs c D x d b q1 q2 t1 t2 t3 t4 t5 t6 t7 t8 t9 t10 u1 u2 u3 u4, p ∈ news)
    (hz : IntsAre zs ns) (hzn : ns.length = n) (hn1 : 1 ≤ n) (hn9 : n ≤ 9) (i1 : @LT.lt Nat _ q1 q2) (i2 : @LT.lt Nat _ q2 b) (i3 : @LT.lt Nat _ b d) (i4 : @LT.lt Nat _ d x) (i5 : @LT.lt Nat _ x D)
    (ret : ∀ zs' xs' c2 D2 x2 d2 t1 t2 t3 t4 t5 t6 t7 t8 t9 t10, IntsAre zs' xs' → xs'.Perm ns → xs'.Pairwise (· ≤ ·) → @LT.lt Nat _ d2 x2 → 
      RetN h₀ L m news s Q (.ref x2) [(D2, listOf zs'.toArray c2), (x2, instObj 215 d2), (d2, dictOf (arrE w nu2 told b D2 t1 t2 t3 t4 t5 t6 t7 t8 t9 t10) 6)]) :
    wpAny (model PG w) (ktrTop dp un gd cn cs L a ccd cl outer) (call (.ref 322) [.ref x, .none, .bool false, .int nu2 tn]) Q E s := by
  w_top off
  have hfill : (Mine.hd.heap_1 w.params = Mine.hd.heap_1 w.params ∧ PySem.Challenge.rw_xm0951_01 = PySem.Challenge.rw_xm0951_01) := by k_fill; exact ⟨rfl, rfl⟩
  clear hfill
  obtain ⟨hB, hF, hX, hN, hT, hk, hdp, hun⟩ := H
  have hNi : News h₀ L s.heap (arrN w num n told zs c D x d b q1 q2 t1 t2 t3 t4 t5 t6 t7 t8 t9 t10 u1 u2 u3 u4) := fun p hp => hN p (hi p hp)
  refine wpAny_call ?_
  k_dflt (refine' code_defG (news := arrN w num n told zs c D x d b q1 q2 t1 t2 t3 t4 t5 t6 t7 t8 t9 t10 u1 u2 u3 u4) ?k1 ?k2 ?k3 ?k4 ?k5 ?kA ?kF ?kK ?k6 ?k7 ?k8 ?k9 ?kB ?_ ?c2 ?c3 ?c4 ?c5; (case kA => exact rfl); (case kF => exact rfl); (case kK => assumption); (case k1 => k_asm); (case k2 => k_asm); (case k3 => k_asm); (case k4 => exact hNi); (case k5 => k_asm); (case k6 => k_is); (case k7 => k_is); (case k8 => ktr_room); (case k9 => exact BindsTo.of_eq rfl); (case c5 => decide); (case kB => exact locs rfl); (case c2 => exact rfl); (case c3 => exact rfl); (case c4 => exact rfl); k_whole; intro g' L' h' FG' F' N' B' X' T' kG; (try dsimp only); (try k_lift B'); (try k_fold))
  clear hNi
  iterate 53 walk_at "mine step"
  k_dflt (refine' c_rows_of ⟨?k1, ?k2, ?k3, ?k4, ?k5, ?kK, ?kd, ?ku⟩ hz hzn hn1 hn9 i1 i2 i3 i4 i5 ?_; (case k1 => k_asm); (case k2 => k_asm); (case k3 => k_asm); (case k4 => k_asm); (case k5 => k_asm); (case kK => first | assumption | exact rfl); (case kd => ktr_room); (case ku => ktr_units); k_whole)
  intro D8 rs c8 h8 tk8 hv8 F8 N8
  simp only [arrN, List.cons_append, List.nil_append] at N8
  have hrl : rs.length = n := by rw [← vals_len, hv8, hzn]
  have hfam : ∀ r ∈ rs, (r.1, listOf #[Value.int r.2.1 r.2.2] 0) ∈ fam rs := fun r hr => List.mem_map.mpr ⟨r, hr, rfl⟩
  obtain ⟨r0, hr0⟩ : ∃ r0, rs[0]? = some r0 := ⟨rs[0]'(by omega), List.getElem?_eq_getElem _⟩
  have hr0m := List.mem_of_getElem? hr0
  iterate 67 walk_at "mine step"
  rename Fr _ _ _ _ => F9
  rename News _ _ _ _ => N9
  k_dflt refine' item_list (vs := refs rs) ?hl ?h0 ?hh ?hx ?_
  case hl => exact ⟨_, (N9 _ (.head _)).1, rfl, _, rfl⟩
  case h0 => decide
  case hh => decide
  case hx => exact refs_get hr0
  walk_at "mine step"
  k_dflt refine' len_at (vs := [Value.int r0.2.1 r0.2.2]) (k := 1) ?hl rfl (by decide) ?_
  case hl => exact ⟨_, (N9 (r0.1, _) (.tail _ (.tail _ (.tail _ (.tail _ (.tail _ (.tail _ (.tail _ (hfam r0 hr0m))))))))).1, rfl, _, rfl⟩
  iterate 18 walk_at "mine step"
  k_dflt (refine' c_copy_of (num := num) (n := n) (told := told) (zs := zs) (c := c) (D := D) (x := x) (d := d) (b := b) (q1 := q1) (q2 := q2) (t1 := t1) (t2 := t2) (t3 := t3) (t4 := t4) (t5 := t5) (t6 := t6) (t7 := t7) (t8 := t8) (t9 := t9) (t10 := t10) (u1 := u1) (u2 := u2) (u3 := u3) (u4 := u4) ⟨?k1, ?k2, ?k3, ?k4, ?k5, ?kK, ?kd, ?ku⟩ ?ki hz hzn hn1 hn9 i1 i2 i3 i4 i5 ?_; (case k1 => k_asm); (case k2 => k_asm); (case k3 => k_asm); (case k4 => k_asm); (case k5 => k_asm); (case kK => first | assumption | exact rfl); (case kd => ktr_room); (case ku => ktr_units); (case ki => (intro p hp; simp only [arrN, List.mem_cons, List.not_mem_nil, or_false] at hp ⊢; (rcases hp with h | h | h | h | h | h <;> simp [h]))); k_whole)
  intro c2 D2 x2 d2 v1 v2 v3 v4 v5 v6 v7 v8 v9 v10 j1 j2 h10 tk10 F10 N10 fr10
  simp only [List.cons_append, List.nil_append] at N10
  have md2 : (d2, dictOf (arrE w nu2 told b D2 v1 v2 v3 v4 v5 v6 v7 v8 v9 v10) 6) ∈ [(D2, listOf zs.toArray c2), (x2, instObj 215 d2), (d2, dictOf (arrE w nu2 told b D2 v1 v2 v3 v4 v5 v6 v7 v8 v9 v10) 6)] := .tail _ (.tail _ (.head _))
  have hd2 : @Ne Nat D d2 ∧ @Ne Nat x d2 ∧ @Ne Nat d d2 ∧ @Ne Nat b d2 ∧ @Ne Nat q2 d2 ∧ @Ne Nat q1 d2 := ⟨fr10 _ md2 _ (.tail _ (.head _)), fr10 _ md2 _ (.tail _ (.tail _ (.head _))), fr10 _ md2 _ (.tail _ (.tail _ (.tail _ (.head _)))), fr10 _ md2 _ (.tail _ (.tail _ (.tail _ (.tail _ (.head _))))), fr10 _ md2 _ (.tail _ (.tail _ (.tail _ (.tail _ (.tail _ (.head _)))))), fr10 _ md2 _ (.tail _ (.tail _ (.tail _ (.tail _ (.tail _ (.tail _ (.head _))))))) ⟩
  have mx2 : (x2, instObj 215 d2) ∈ [(D2, listOf zs.toArray c2), (x2, instObj 215 d2), (d2, dictOf (arrE w nu2 told b D2 v1 v2 v3 v4 v5 v6 v7 v8 v9 v10) 6)] := .tail _ (.head _)
  have hx2 : @Ne Nat D x2 ∧ @Ne Nat x x2 ∧ @Ne Nat d x2 ∧ @Ne Nat b x2 ∧ @Ne Nat q2 x2 ∧ @Ne Nat q1 x2 := ⟨fr10 _ mx2 _ (.tail _ (.head _)), fr10 _ mx2 _ (.tail _ (.tail _ (.head _))), fr10 _ mx2 _ (.tail _ (.tail _ (.tail _ (.head _)))), fr10 _ mx2 _ (.tail _ (.tail _ (.tail _ (.tail _ (.head _))))), fr10 _ mx2 _ (.tail _ (.tail _ (.tail _ (.tail _ (.tail _ (.head _)))))), fr10 _ mx2 _ (.tail _ (.tail _ (.tail _ (.tail _ (.tail _ (.tail _ (.head _))))))) ⟩
  iterate 16 walk_at "mine step"
  rename Fr _ _ _ _ => F11
  rename News _ _ _ _ => N11
  k_dflt (refine' c_sorted_rows (rs := rs) ⟨?k1, ?k2, ?k3, ?k4, ?k5, ?kK, ?kd, ?ku⟩ ?kl ?kf ?kn ?_; (case k1 => k_asm); (case k2 => k_asm); (case k3 => k_asm); (case k4 => k_asm); (case k5 => k_asm); (case kK => first | assumption | exact rfl); (case kd => ktr_room); (case ku => ktr_units); k_whole)
  case kl => exact ⟨_, (N11 _ (.tail _ (.tail _ (.tail _ (.head _))))).1, rfl, _, rfl⟩
  case kf => exact fun r hr => (N11 (r.1, _) (.tail _ (.tail _ (.tail _ (.tail _ (.tail _ (.tail _ (.tail _ (.tail _ (.tail _ (.tail _ (hfam r hr)))))))))))).1
  case kn => omega
  intro D12 rs2 c12 hS hD12 h12 tk12 F12 N12
  have hvp : (vals rs2).Perm ns := by rw [← hv8]; exact hS.1.map _
  refine ⟨D12, rs2, (D2, listOf zs.toArray c2) :: (x2, instObj 215 d2) :: (d2, dictOf (arrE w nu2 told b D2 v1 v2 v3 v4 v5 v6 v7 v8 v9 v10) 6) :: arrN w num n told zs c D x d b q1 q2 t1 t2 t3 t4 t5 t6 t7 t8 t9 t10 u1 u2 u3 u4, rfl, by rfl, F12, fun p hp => N12 p ?_, ?_, ?_, fun q hq => ?_, fun D13 h13 tk13 zs13 c13 F13 N13 hz13 lt13 => ?_⟩
  · dsimp only [arrN, List.cons_append, List.nil_append]
    simp only [arrN, List.mem_cons, List.not_mem_nil, or_false, List.cons_append, List.nil_append] at hp
    rcases hp with rfl | rfl | rfl | rfl | rfl | rfl | rfl | rfl | rfl <;> (repeat (first | exact List.Mem.head _ | apply List.Mem.tail))
  · rw [hS.1.length_eq]; omega
  · exact ⟨_, (N12 _ (.head _)).1, rfl, _, rfl⟩
  · have hqm : q ∈ rs := hS.1.mem_iff.mp hq
    exact ⟨_, (N12 (q.1, _) (.tail _ (.tail _ (.tail _ (.tail _ (.tail _ (.tail _ (.tail _ (.tail _ (.tail _ (.tail _ (.tail _ (hfam q hqm))))))))))))).1, rfl, _, rfl⟩
  simp only [arrN] at N13 lt13
  k_lt lt13
  clear N11 N12 F12
  (try clear F11)
  (try clear N10)
  (try clear F10)
  (try clear F9)
  (try clear N9)
  iterate 7 walk_at "mine step"
  rename News h₀ L _ _ => N14
  have N15 := news_keep2 hN hi kG (by assumption) N14 (fun p hp => .tail _ (.tail _ (.tail _ (.tail _ hp))))
  have N16 := sa_pick (w := w) N14
  have nf := news_fresh2 (inp := arrN w num n told zs c D x d b q1 q2 t1 t2 t3 t4 t5 t6 t7 t8 t9 t10 u1 u2 u3 u4) hN kG (sa_pick (w := w) (by assumption)) (by
    obtain ⟨_, _, _, a1, a2, a3, a4, a5, a6⟩ := lt13
    intro q hq
    simp only [List.mem_cons, List.not_mem_nil, or_false] at hq
    rcases hq with rfl | rfl | rfl
    · exact arr_off ⟨Nat.ne_of_lt a1, Nat.ne_of_lt a2, Nat.ne_of_lt a3, Nat.ne_of_lt a4, Nat.ne_of_lt a5, Nat.ne_of_lt a6⟩
    · exact arr_off hx2
    · exact arr_off hd2)
  refine ret zs13 (vals rs2) _ _ _ _ _ _ _ _ _ _ _ _ _ _ hz13 hvp hS.2 j1 _ _ (by assumption) (fun p hp => ?_) nf
  rcases List.mem_append.mp hp with h | h
  · exact N16 p h
  · exact N15 p (List.mem_append_right _ h)
end Mine
open PySem PySem.W PySem.Calls PyProof.Rows
set_option Elab.async false
set_option maxRecDepth 100000
set_option maxHeartbeats 8000000
namespace Mine
theorem c_divided {w mean mg mb dp un gd cn cs a ccd cl outer A₀ base h₀ L m news} {s : Shared} {Q E : Value → Shared → Prop} {x y : Int} {tx ty : Tok} (hx : 0 ≤ x) (hx2 : x ≤ 100) (hy : 1 ≤ y) (hy2 : y ≤ 100)
    (H : At w mean mg mb dp un cs outer A₀ base h₀ L m news s.heap 3)
    (ret : ∀ t, Ret h₀ L m news s Q (.int (x / y) t) []) :
    wpAny (model PG w) (ktrTop dp un gd cn cs L a ccd cl outer) (call (.ref 329) [.int x tx, .int y ty]) Q E s := by
  w_top off
  have hfill : (Mine.hd.heap_1 w.params = Mine.hd.heap_1 w.params ∧ PySem.Challenge.rw_xm0951_01 = PySem.Challenge.rw_xm0951_01) := by k_fill; exact ⟨rfl, rfl⟩
  clear hfill
  obtain ⟨hB, hF, hX, hN, hT, hk, hdp, hun⟩ := H
  walk_at "mine enter"
  iterate 9 walk_at "mine step"
  · exfalso; omega
  · iterate 19 walk_at "mine step"
    rw [if_neg (show ¬ x < 0 by omega), if_neg (show ¬ y < 0 by omega)]
    iterate 20 walk_at "mine step"
    · rename GSub _ _ _ => kG
      rw [Int.fdiv_eq_ediv_of_nonneg x (by omega)]
      exact ret _ _ _ (by assumption) (news_keep hN kG (by assumption) News.nil)
    · exfalso
      rename ((decide _ == decide _) = false) => ha
      rw [decide_eq_false (show ¬ x < 0 by omega), decide_eq_false (show ¬ y < 0 by omega)] at ha
      cases ha
local macro_rules | `(tactic| walk_at "call ref") => `(tactic| (k_here; k_dflt (refine' c_divided ?kx ?kx2 ?ky ?ky2 ⟨?k1, ?k2, ?k3, ?k4, ?k5, ?kK, ?kd, ?ku⟩ ?_; (case k1 => k_asm); (case k2 => k_asm); (case k3 => k_asm); (case k4 => k_asm); (case k5 => k_asm); (case kK => first | assumption | exact rfl); (case kd => ktr_room); (case ku => ktr_units); (case kx => omega); (case kx2 => omega); (case ky => omega); (case ky2 => omega); k_whole); intro t' h' tk' F' N'; (try simp only [List.nil_append] at N'); (try k_sweep)))
theorem c_remainder {w mean mg mb dp un gd cn cs a ccd cl outer A₀ base h₀ L m news} {s : Shared} {Q E : Value → Shared → Prop} {x y : Int} {tx ty : Tok} (hx : 0 ≤ x) (hx2 : x ≤ 100) (hy : 1 ≤ y) (hy2 : y ≤ 100)
    (H : At w mean mg mb dp un cs outer A₀ base h₀ L m news s.heap 8)
    (ret : ∀ t, Ret h₀ L m news s Q (.int (x % y) t) []) :
    wpAny (model PG w) (ktrTop dp un gd cn cs L a ccd cl outer) (call (.ref 336) [.int x tx, .int y ty]) Q E s := by
  w_top off
  have hfill : (Mine.hd.heap_1 w.params = Mine.hd.heap_1 w.params ∧ PySem.Challenge.rw_xm0951_01 = PySem.Challenge.rw_xm0951_01) := by k_fill; exact ⟨rfl, rfl⟩
  clear hfill
  obtain ⟨hB, hF, hX, hN, hT, hk, hdp, hun⟩ := H
  walk_at "mine enter"
  iterate 24 walk_at "mine step"
  rename GSub _ _ _ => kG
  rw [show x - y * (x / y) = x % y from (Int.emod_def x y).symm]
  exact ret _ _ _ (by assumption) (news_keep hN kG (by assumption) News.nil)
end Mine
end
open PySem PySem.W PySem.Calls PyProof.Rows
set_option Elab.async false
set_option maxRecDepth 100000
set_option maxHeartbeats 2000000
namespace Mine
theorem fr_law {m₁ m₀ : Str → Option Value} {x pn an : Str} {v pv av : Value} (st : List Str) (hp : m₁ pn = some pv) (ha : m₁ an = some av) (h : ∀ z, z ≠ x → z ≠ pn → z ≠ an → st.contains z = false → m₁ z = m₀ z) :
    (fun y => if y = x then some v else m₁ y) = fun y => if y = x then some v else if y = pn then some pv else if y = an then some av else if st.contains y then m₁ y else m₀ y := by
  funext y
  by_cases h1 : y = x
  · simp [h1]
  · simp only [if_neg h1]
    by_cases h2 : y = pn
    · rw [if_pos h2, h2, hp]
    · rw [if_neg h2]
      by_cases h3 : y = an
      · rw [if_pos h3, h3, ha]
      · rw [if_neg h3]
        cases h4 : st.contains y with
        | true => simp
        | false => simp only [Bool.false_eq_true, if_false]; exact h y h1 h2 h3 h4
theorem flat_any {α : Type} {M : Model} {A : Around} {t : Sem α} {Q : α → Shared → Prop} {E : Value → Shared → Prop} {h : Heap} {g : Array GenState} {d : Drawn} {k : Nat} {o : OsState}
    (H : wpAny M A t Q E ⟨h, g, d, k, o⟩) : wpAny M A t Q E ⟨h, Shared.gens ⟨h, g, d, k, o⟩, Shared.drawn ⟨h, g, d, k, o⟩, k, Shared.os ⟨h, g, d, k, o⟩⟩ := H
section
variable {prog : Program} {w : World} {A : Around} {E : Value → Shared → Prop} {s : Shared} {env : Env} {h₀ : Heap} {x : Str} {body : List Stmt} {Q : Flow → Shared → Prop}
theorem for_law {r : Addr} {a₀ b₀ : Int} {t₀ u₀ v₀ : Tok} {n : Nat} {m₀ : Str → Option Value} {news : List (Addr × Obj)} {p0 a0 : Value} (pn an : Str) (stored : List Str) (J : Nat → Value → Value → List (Addr × Obj) → Prop)
    (hh : A.handled = none) (hr : IsRange s.heap r a₀ b₀ 1 t₀ u₀ v₀) (hsmall : Builtin.Range.small a₀ b₀ 1 = true) (hn : Builtin.Range.rangeSize a₀ b₀ 1 = (n : Int)) (F : Fr h₀ env.locals s.heap m₀) (N : News h₀ env.locals s.heap news)
    (hp : m₀ pn = some p0) (ha : m₀ an = some a0) (hj : J 0 p0 a0 news)
    (turn : ∀ i t pv av (u : Str → Option Value) nx h tk oI I, i < n → J i pv av nx → (∀ p ∈ nx, p.1 ≠ I) →
      Fr h₀ env.locals h (fun y => if y = x then some (.int (a₀ + (i : Int)) t) else if y = pn then some pv else if y = an then some av else if stored.contains y then u y else m₀ y) → News h₀ env.locals h ((I, oI) :: nx) →
      wpAny (model prog w) A (execs body env) (TurnJ h₀ env.locals (fun m' nx => ∃ pv av, m' pn = some pv ∧ m' an = some av ∧ J (i + 1) pv av nx ∧ ∀ z, z ≠ x → z ≠ pn → z ≠ an → stored.contains z = false → m' z = m₀ z) I oI { s with heap := h, toks := tk } Q) E { s with heap := h, toks := tk })
    (done : ∀ m₁ nx h tk, Fr h₀ env.locals h m₁ → News h₀ env.locals h nx → Q .next { s with heap := h, toks := tk }) :
    wpAny (model prog w) A (pyIter (.ref r)) (fun it s₂ => LoopAtV prog w A h₀ env x body Q E it s₂) E s := by
  refine for_range (fun i m' nx => ∃ pv av, m' pn = some pv ∧ m' an = some av ∧ J i pv av nx ∧ ∀ z, z ≠ x → z ≠ pn → z ≠ an → stored.contains z = false → m' z = m₀ z) hh hr hsmall hn F N ⟨p0, a0, hp, ha, hj, fun _ _ _ _ _ => rfl⟩ ?_ ?_
  · rintro i t m₁ nx h tk oI I hi ⟨pv, av, h1, h2, hJ, hb⟩ hoff F₁ N₁
    rw [fr_law stored h1 h2 hb] at F₁
    exact turn i t pv av m₁ nx h tk oI I hi hJ hoff F₁ N₁
  · rintro m₁ nx h tk _ F₁ N₁
    exact done m₁ nx h tk F₁ N₁
end

/-! ## the plain sequence -/
noncomputable def plc (W M P : Int) : Nat → Int
  | 0 => P
  | i + 1 => (plc W M P i + M) % W
noncomputable def pls (W M P : Int) (i : Nat) : List Int := (List.range i).map (plc W M P)
theorem pls_succ (W M P : Int) (i : Nat) : pls W M P (i + 1) = pls W M P i ++ [plc W M P i] := by simp [pls, List.range_succ]
noncomputable def ins (a : Int) : List Int → List Int
  | [] => [a]
  | b :: r => if a ≤ b then a :: b :: r else b :: ins a r
noncomputable def isort : List Int → List Int
  | [] => []
  | a :: r => ins a (isort r)
noncomputable def gapsOf (W : Int) (row : List Int) : List Int := (List.range (row.length - 1)).map (fun k => row.getD (k + 1) 0 - row.getD k 0) ++ [row.getD 0 0 + W - row.getLastD 0]
noncomputable def ahd (W M P : Int) (i : Nat) : List Int := if i = 0 then [] else gapsOf W (isort (pls W M P i))
end Mine
open PySem PySem.W PySem.Calls PyProof.Rows
set_option Elab.async false
set_option maxRecDepth 100000
set_option maxHeartbeats 4000000
namespace Mine
theorem ins_perm (a : Int) : ∀ l : List Int, List.Perm (ins a l) (a :: l)
  | [] => .rfl
  | b :: r => by
    unfold ins
    split
    · exact .rfl
    · exact ((ins_perm a r).cons b).trans (.swap _ _ _)
theorem isort_perm : ∀ l : List Int, List.Perm (isort l) l
  | [] => .rfl
  | a :: r => (ins_perm a _).trans ((isort_perm r).cons a)
theorem ins_sorted (a : Int) : ∀ l : List Int, l.Pairwise (· ≤ ·) → (ins a l).Pairwise (· ≤ ·)
  | [], _ => by simp [ins]
  | b :: r, h => by
    unfold ins
    rw [List.pairwise_cons] at h
    split
    · rename_i hab
      refine List.pairwise_cons.mpr ⟨fun x hx => ?_, List.pairwise_cons.mpr h⟩
      rcases List.mem_cons.mp hx with rfl | hx
      · exact hab
      · exact Int.le_trans hab (h.1 x hx)
    · rename_i hab
      refine List.pairwise_cons.mpr ⟨fun x hx => ?_, ins_sorted a r h.2⟩
      rcases List.mem_cons.mp ((ins_perm a r).mem_iff.mp hx) with rfl | hx
      · omega
      · exact h.1 x hx
theorem isort_sorted : ∀ l : List Int, (isort l).Pairwise (· ≤ ·)
  | [] => .nil
  | a :: r => ins_sorted a _ (isort_sorted r)
theorem sorted_uniq : ∀ {l₁ l₂ : List Int}, l₁.Pairwise (· ≤ ·) → l₂.Pairwise (· ≤ ·) → List.Perm l₁ l₂ → l₁ = l₂
  | [], _, _, _, hp => by simpa using hp.symm
  | a :: r, [], _, _, hp => by simpa using hp
  | a :: r, b :: t, h1, h2, hp => by
    have hb1 := List.pairwise_cons.mp h1
    have hb2 := List.pairwise_cons.mp h2
    have hab : a = b := by
      have ha : a ∈ b :: t := hp.mem_iff.mp (List.mem_cons_self)
      have hb : b ∈ a :: r := hp.mem_iff.mpr (List.mem_cons_self)
      have l1 : b ≤ a := by rcases List.mem_cons.mp ha with h | h; · omega
                            · exact hb2.1 a h
      have l2 : a ≤ b := by rcases List.mem_cons.mp hb with h | h; · omega
                            · exact hb1.1 b h
      omega
    subst hab
    rw [sorted_uniq hb1.2 hb2.2 ((List.perm_cons a).mp hp)]
theorem sort_eq {xs ys : List Int} (hp : List.Perm xs ys) (hs : xs.Pairwise (· ≤ ·)) : xs = isort ys :=
  sorted_uniq hs (isort_sorted ys) (hp.trans (isort_perm ys).symm)
theorem isort_congr {xs ys : List Int} (hp : List.Perm xs ys) : isort xs = isort ys := sort_eq ((isort_perm xs).trans hp) (isort_sorted xs)

theorem gaps_eq {W : Int} {xs : List Int} {i : Nat} (hl : xs.length = i + 1) :
    List.map (fun k => xs.getD (k + 1).toNat 0 - xs.getD k.toNat 0) (rangeKs 0 i) ++ [xs.getD (Int.toNat 0) 0 + W - xs.getD (-1 + (xs.length : Int)).toNat 0] = gapsOf W xs := by
  have e2 : xs.getD (-1 + (xs.length : Int)).toNat 0 = xs.getLastD 0 := by
    have : (-1 + (xs.length : Int)).toNat = xs.length - 1 := by omega
    rw [this, List.getLastD_eq_getLast?, List.getLast?_eq_getElem?, List.getD_eq_getElem?_getD]
  unfold gapsOf rangeKs
  rw [e2, List.map_map, show xs.length - 1 = i by omega]
  congr 1
  apply List.map_congr_left
  intro k _
  have h1 : ((0 : Int) + (k : Int) + 1).toNat = k + 1 := by omega
  have h2 : ((0 : Int) + (k : Int)).toNat = k := by omega
  simp only [Function.comp_apply, h1, h2]
theorem nodup_next {W M P : Int} {i : Nat} (h : (pls W M P i).Nodup) (hm : plc W M P i ∉ pls W M P i) : (pls W M P (i + 1)).Nodup := by
  rw [pls_succ, List.nodup_append]
  exact ⟨h, List.nodup_cons.mpr ⟨List.not_mem_nil, List.nodup_nil⟩, fun a ha b hb => by rw [List.mem_singleton] at hb; subst hb; exact fun e => hm (e ▸ ha)⟩

theorem plc_range {W M P : Int} (h1 : 2 ≤ W) (h5 : 0 ≤ P) (h6 : P < W) : ∀ i, 0 ≤ plc W M P i ∧ plc W M P i < W
  | 0 => ⟨h5, h6⟩
  | i + 1 => ⟨Int.emod_nonneg _ (by omega), Int.emod_lt_of_pos _ (by omega)⟩
theorem plc_inj {W M P : Int} (h1 : 2 ≤ W) (h5 : 0 ≤ P) (h6 : P < W) {i j : Nat} (h : plc W M P (i + 1) = plc W M P (j + 1)) : plc W M P i = plc W M P j := by
  have a := plc_range (M := M) h1 h5 h6 i
  have b := plc_range (M := M) h1 h5 h6 j
  have h : (plc W M P i + M) % W = (plc W M P j + M) % W := h
  have h2 : (plc W M P i + M - M) % W = (plc W M P j + M - M) % W := by rw [Int.sub_emod, h, ← Int.sub_emod]
  rw [Int.add_sub_cancel, Int.add_sub_cancel, Int.emod_eq_of_lt a.1 a.2, Int.emod_eq_of_lt b.1 b.2] at h2
  exact h2
theorem pls_mem {W M P : Int} {i : Nat} {x : Int} : x ∈ pls W M P i ↔ ∃ j, j < i ∧ plc W M P j = x := by simp [pls]
theorem plain_first {W M P : Int} {i : Nat} (h1 : 2 ≤ W) (h5 : 0 ≤ P) (h6 : P < W) (hnd : (pls W M P i).Nodup) (hm : plc W M P i ∈ pls W M P i) : (pls W M P i)[0]? = some P ∧ plc W M P i = P := by
  obtain ⟨j, hj, he⟩ := pls_mem.mp hm
  have h0 : (pls W M P i)[0]? = some P := by
    have : 0 < i := by omega
    simp [pls, this, plc]
  refine ⟨h0, ?_⟩
  cases j with
  | zero => exact he.symm
  | succ j =>
    exfalso
    cases i with
    | zero => omega
    | succ i =>
      have h2 := plc_inj h1 h5 h6 he
      rw [pls_succ, List.nodup_append] at hnd
      exact hnd.2.2 _ (pls_mem.mpr ⟨j, by omega, rfl⟩) _ (List.mem_singleton.mpr rfl) h2
end Mine
namespace Mine
open PySem PySem.W PySem.Calls PyProof.Rows
noncomputable def metOf (G : List Int) : List Int := firstMet (fun i => G.getD i 0) G.length
noncomputable def kindsOf (G : List Int) : List Int := isort (metOf G)
noncomputable def rcs : List Int → List Int → List Int → List Int × List Int
  | rest, cut, [] => (rest, cut)
  | rest, cut, g :: r => if rest.any (· == g) then rcs (rest.erase g) cut r else rcs rest (cut ++ [g]) r
end Mine
open PySem PySem.W PySem.Calls PyProof.Rows
set_option Elab.async false
set_option maxRecDepth 100000
set_option maxHeartbeats 8000000
namespace Mine
theorem isort_len (l : List Int) : (isort l).length = l.length := (isort_perm l).length_eq
theorem ahd_len (W M P : Int) (i : Nat) : (ahd W M P (i + 1)).length = i + 1 := by
  simp [ahd, gapsOf, isort_len, pls]
noncomputable def chkG (A G : List Int) : Bool :=
  let K := isort (G.foldl step_dedup [])
  let R := rcs G [] A
  (G.all (fun x => decide (1 ≤ x) && decide (x ≤ 13)) && (decide (0 < K.length) && (decide (K.length ≤ 3) && (decide (1 ≤ K.getD 0 0) && (!(K.length == 3) || K.getD 2 0 == K.getD 0 0 + K.getD 1 0))))) &&
  (A.isEmpty || (match R.2, R.1 with
    | [g], [r1, r2] => r1 + r2 == g && (A.any (· == g) && A.all (fun x => decide (x ≤ g)))
    | _, _ => false))
/-- walk the turns from place p, with the sorted row of the places seen and the gaps before -/
noncomputable def walkT (W M : Int) : Nat → Int → List Int → List Int → Bool
  | 0, _, _, _ => true
  | n + 1, p, row, A => row.any (· == p) ||
      (chkG A (gapsOf W (ins p row)) && walkT W M n ((p + M) % W) (ins p row) (gapsOf W (ins p row)))
noncomputable def chkM (W m : Nat) : Bool := (List.range W).all fun p => walkT W (m + 1 : Nat) 9 p [] []
noncomputable def chkW (W : Nat) : Bool := (List.range (W - 1)).all fun m => chkM W m
theorem chk2 : chkW 2 = true := by decide +kernel
theorem chk3 : chkW 3 = true := by decide +kernel
theorem chk4 : chkW 4 = true := by decide +kernel
theorem chk5 : chkW 5 = true := by decide +kernel
theorem chk6 : chkW 6 = true := by decide +kernel
theorem chk7 : chkW 7 = true := by decide +kernel
theorem chk8_0 : chkM 8 0 = true := by decide +kernel
theorem chk8_1 : chkM 8 1 = true := by decide +kernel
theorem chk8_2 : chkM 8 2 = true := by decide +kernel
theorem chk8_3 : chkM 8 3 = true := by decide +kernel
theorem chk8_4 : chkM 8 4 = true := by decide +kernel
theorem chk8_5 : chkM 8 5 = true := by decide +kernel
theorem chk8_6 : chkM 8 6 = true := by decide +kernel
theorem chk8 : chkW 8 = true := by
  simp only [chkW, List.all_eq_true, List.mem_range]
  intro m h
  match m, h with
  | 0, _ => exact chk8_0
  | 1, _ => exact chk8_1
  | 2, _ => exact chk8_2
  | 3, _ => exact chk8_3
  | 4, _ => exact chk8_4
  | 5, _ => exact chk8_5
  | 6, _ => exact chk8_6
theorem chk9_0 : chkM 9 0 = true := by decide +kernel
theorem chk9_1 : chkM 9 1 = true := by decide +kernel
theorem chk9_2 : chkM 9 2 = true := by decide +kernel
theorem chk9_3 : chkM 9 3 = true := by decide +kernel
theorem chk9_4 : chkM 9 4 = true := by decide +kernel
theorem chk9_5 : chkM 9 5 = true := by decide +kernel
theorem chk9_6 : chkM 9 6 = true := by decide +kernel
theorem chk9_7 : chkM 9 7 = true := by decide +kernel
theorem chk9 : chkW 9 = true := by
  simp only [chkW, List.all_eq_true, List.mem_range]
  intro m h
  match m, h with
  | 0, _ => exact chk9_0
  | 1, _ => exact chk9_1
  | 2, _ => exact chk9_2
  | 3, _ => exact chk9_3
  | 4, _ => exact chk9_4
  | 5, _ => exact chk9_5
  | 6, _ => exact chk9_6
  | 7, _ => exact chk9_7
theorem chk10_0 : chkM 10 0 = true := by decide +kernel
theorem chk10_1 : chkM 10 1 = true := by decide +kernel
theorem chk10_2 : chkM 10 2 = true := by decide +kernel
theorem chk10_3 : chkM 10 3 = true := by decide +kernel
theorem chk10_4 : chkM 10 4 = true := by decide +kernel
theorem chk10_5 : chkM 10 5 = true := by decide +kernel
theorem chk10_6 : chkM 10 6 = true := by decide +kernel
theorem chk10_7 : chkM 10 7 = true := by decide +kernel
theorem chk10_8 : chkM 10 8 = true := by decide +kernel
theorem chk10 : chkW 10 = true := by
  simp only [chkW, List.all_eq_true, List.mem_range]
  intro m h
  match m, h with
  | 0, _ => exact chk10_0
  | 1, _ => exact chk10_1
  | 2, _ => exact chk10_2
  | 3, _ => exact chk10_3
  | 4, _ => exact chk10_4
  | 5, _ => exact chk10_5
  | 6, _ => exact chk10_6
  | 7, _ => exact chk10_7
  | 8, _ => exact chk10_8
theorem chk11_0 : chkM 11 0 = true := by decide +kernel
theorem chk11_1 : chkM 11 1 = true := by decide +kernel
theorem chk11_2 : chkM 11 2 = true := by decide +kernel
theorem chk11_3 : chkM 11 3 = true := by decide +kernel
theorem chk11_4 : chkM 11 4 = true := by decide +kernel
theorem chk11_5 : chkM 11 5 = true := by decide +kernel
theorem chk11_6 : chkM 11 6 = true := by decide +kernel
theorem chk11_7 : chkM 11 7 = true := by decide +kernel
theorem chk11_8 : chkM 11 8 = true := by decide +kernel
theorem chk11_9 : chkM 11 9 = true := by decide +kernel
theorem chk11 : chkW 11 = true := by
  simp only [chkW, List.all_eq_true, List.mem_range]
  intro m h
  match m, h with
  | 0, _ => exact chk11_0
  | 1, _ => exact chk11_1
  | 2, _ => exact chk11_2
  | 3, _ => exact chk11_3
  | 4, _ => exact chk11_4
  | 5, _ => exact chk11_5
  | 6, _ => exact chk11_6
  | 7, _ => exact chk11_7
  | 8, _ => exact chk11_8
  | 9, _ => exact chk11_9
theorem chk12_0 : chkM 12 0 = true := by decide +kernel
theorem chk12_1 : chkM 12 1 = true := by decide +kernel
theorem chk12_2 : chkM 12 2 = true := by decide +kernel
theorem chk12_3 : chkM 12 3 = true := by decide +kernel
theorem chk12_4 : chkM 12 4 = true := by decide +kernel
theorem chk12_5 : chkM 12 5 = true := by decide +kernel
theorem chk12_6 : chkM 12 6 = true := by decide +kernel
theorem chk12_7 : chkM 12 7 = true := by decide +kernel
theorem chk12_8 : chkM 12 8 = true := by decide +kernel
theorem chk12_9 : chkM 12 9 = true := by decide +kernel
theorem chk12_10 : chkM 12 10 = true := by decide +kernel
theorem chk12 : chkW 12 = true := by
  simp only [chkW, List.all_eq_true, List.mem_range]
  intro m h
  match m, h with
  | 0, _ => exact chk12_0
  | 1, _ => exact chk12_1
  | 2, _ => exact chk12_2
  | 3, _ => exact chk12_3
  | 4, _ => exact chk12_4
  | 5, _ => exact chk12_5
  | 6, _ => exact chk12_6
  | 7, _ => exact chk12_7
  | 8, _ => exact chk12_8
  | 9, _ => exact chk12_9
  | 10, _ => exact chk12_10
theorem chk13_0 : chkM 13 0 = true := by decide +kernel
theorem chk13_1 : chkM 13 1 = true := by decide +kernel
theorem chk13_2 : chkM 13 2 = true := by decide +kernel
theorem chk13_3 : chkM 13 3 = true := by decide +kernel
theorem chk13_4 : chkM 13 4 = true := by decide +kernel
theorem chk13_5 : chkM 13 5 = true := by decide +kernel
theorem chk13_6 : chkM 13 6 = true := by decide +kernel
theorem chk13_7 : chkM 13 7 = true := by decide +kernel
theorem chk13_8 : chkM 13 8 = true := by decide +kernel
theorem chk13_9 : chkM 13 9 = true := by decide +kernel
theorem chk13_10 : chkM 13 10 = true := by decide +kernel
theorem chk13_11 : chkM 13 11 = true := by decide +kernel
theorem chk13 : chkW 13 = true := by
  simp only [chkW, List.all_eq_true, List.mem_range]
  intro m h
  match m, h with
  | 0, _ => exact chk13_0
  | 1, _ => exact chk13_1
  | 2, _ => exact chk13_2
  | 3, _ => exact chk13_3
  | 4, _ => exact chk13_4
  | 5, _ => exact chk13_5
  | 6, _ => exact chk13_6
  | 7, _ => exact chk13_7
  | 8, _ => exact chk13_8
  | 9, _ => exact chk13_9
  | 10, _ => exact chk13_10
  | 11, _ => exact chk13_11
theorem chk_any (W : Nat) (h1 : 2 ≤ W) (h2 : W ≤ 13) : chkW W = true := by
  match W, h1, h2 with
  | 2, _, _ => exact chk2
  | 3, _, _ => exact chk3
  | 4, _, _ => exact chk4
  | 5, _, _ => exact chk5
  | 6, _, _ => exact chk6
  | 7, _, _ => exact chk7
  | 8, _, _ => exact chk8
  | 9, _, _ => exact chk9
  | 10, _, _ => exact chk10
  | 11, _, _ => exact chk11
  | 12, _, _ => exact chk12
  | 13, _, _ => exact chk13
theorem walk_start {W M P : Int} (h1 : 2 ≤ W) (h2 : W ≤ 13) (h3 : 1 ≤ M) (h4 : M ≤ W - 1) (h5 : 0 ≤ P) (h6 : P < W) : walkT W M 9 P [] [] = true := by
  have h := chk_any W.toNat (by omega) (by omega)
  simp only [chkW, chkM, List.all_eq_true, List.mem_range] at h
  have := h (M - 1).toNat (by omega) P.toNat (by omega)
  rw [show ((W.toNat : Nat) : Int) = W by omega, show (((M - 1).toNat + 1 : Nat) : Int) = M by omega, show ((P.toNat : Nat) : Int) = P by omega] at this
  exact this
theorem ins_isort {W M P : Int} (i : Nat) : ins (plc W M P i) (isort (pls W M P i)) = isort (pls W M P (i + 1)) := by
  refine sort_eq ?_ (ins_sorted _ _ (isort_sorted _))
  rw [pls_succ]
  exact (ins_perm _ _).trans (((isort_perm _).cons _).trans (List.perm_append_singleton _ _).symm)
theorem nodup_of {W M P : Int} {i : Nat} (h : (pls W M P (i + 1)).Nodup) : (pls W M P i).Nodup ∧ plc W M P i ∉ pls W M P i := by
  rw [pls_succ, List.nodup_append] at h
  exact ⟨h.1, fun hm => h.2.2 _ hm _ (List.mem_singleton.mpr rfl) rfl⟩
theorem walk_inv {W M P : Int} (h0 : walkT W M 9 P [] [] = true) : ∀ i, i < 9 → (pls W M P (i + 1)).Nodup →
    chkG (ahd W M P i) (ahd W M P (i + 1)) = true ∧ walkT W M (9 - (i + 1)) (plc W M P (i + 1)) (isort (pls W M P (i + 1))) (ahd W M P (i + 1)) = true := by
  intro i
  have step : ∀ i, i < 9 → (pls W M P (i + 1)).Nodup → walkT W M (9 - i) (plc W M P i) (isort (pls W M P i)) (ahd W M P i) = true →
      chkG (ahd W M P i) (ahd W M P (i + 1)) = true ∧ walkT W M (9 - (i + 1)) (plc W M P (i + 1)) (isort (pls W M P (i + 1))) (ahd W M P (i + 1)) = true := by
    intro i hi hnd hw
    rw [show 9 - i = (9 - (i + 1)) + 1 by omega, walkT, Bool.or_eq_true, Bool.and_eq_true] at hw
    rw [ins_isort] at hw
    have hG : gapsOf W (isort (pls W M P (i + 1))) = ahd W M P (i + 1) := by simp [ahd]
    rw [hG] at hw
    rcases hw with hw | hw
    · exfalso
      refine (nodup_of hnd).2 ((isort_perm _).mem_iff.mp ?_)
      simpa using hw
    · exact hw
  induction i with
  | zero => intro hi hnd; exact step 0 hi hnd h0
  | succ i ih => intro hi hnd; exact step (i + 1) hi hnd (ih (by omega) (nodup_of hnd).1).2
theorem met_eq (G : List Int) : G.foldl step_dedup [] = metOf G := by
  unfold metOf firstMet
  have : (List.range G.length).map (fun i => G.getD i 0) = G := by
    apply List.ext_getElem
    · simp
    · intro j h1 h2; simp [List.getD, h2]
  rw [this]
section
variable {W M P : Int} {i : Nat} (h1 : 2 ≤ W) (h2 : W ≤ 13) (h3 : 1 ≤ M) (h4 : M ≤ W - 1) (h5 : 0 ≤ P) (h6 : P < W) (hi : i < 9) (hnd : (pls W M P (i + 1)).Nodup)
include h1 h2 h3 h4 h5 h6 hi hnd
theorem plain_gaps : (∀ x ∈ ahd W M P (i + 1), 1 ≤ x ∧ x ≤ 13) ∧ (metOf (ahd W M P (i + 1))).length ≤ 3 := by
  have h := (walk_inv (walk_start h1 h2 h3 h4 h5 h6) i hi hnd).1
  simp only [chkG, Bool.and_eq_true, List.all_eq_true, decide_eq_true_eq, met_eq, isort_len] at h
  exact ⟨h.1.1, h.1.2.2.1⟩
theorem plain_kinds : 0 < (kindsOf (ahd W M P (i + 1))).length ∧ (kindsOf (ahd W M P (i + 1))).length ≤ 3 ∧ 1 ≤ (kindsOf (ahd W M P (i + 1))).getD 0 0 ∧
    ((kindsOf (ahd W M P (i + 1))).length = 3 → (kindsOf (ahd W M P (i + 1))).getD 2 0 = (kindsOf (ahd W M P (i + 1))).getD 0 0 + (kindsOf (ahd W M P (i + 1))).getD 1 0) := by
  have h := (walk_inv (walk_start h1 h2 h3 h4 h5 h6) i hi hnd).1
  simp only [chkG, Bool.and_eq_true, decide_eq_true_eq, met_eq] at h
  refine ⟨h.1.2.1, h.1.2.2.1, h.1.2.2.2.1, fun e => ?_⟩
  have h7 := h.1.2.2.2.2
  rw [show (isort (metOf (ahd W M P (i + 1)))).length = 3 from e] at h7
  simp only [beq_self_eq_true, Bool.not_true, Bool.false_or, beq_iff_eq] at h7
  exact h7
theorem plain_cut (h0 : 0 < i) :
    ∃ g r1 r2, (rcs (ahd W M P (i + 1)) [] (ahd W M P i)).2 = [g] ∧ (rcs (ahd W M P (i + 1)) [] (ahd W M P i)).1 = [r1, r2] ∧ r1 + r2 = g ∧ g ∈ ahd W M P i ∧ ∀ x ∈ ahd W M P i, x ≤ g := by
  have h := (walk_inv (walk_start h1 h2 h3 h4 h5 h6) i hi hnd).1
  simp only [chkG, Bool.and_eq_true, Bool.or_eq_true] at h
  have hne : (ahd W M P i).isEmpty = false := by
    cases i with
    | zero => omega
    | succ j => have := ahd_len W M P j; cases hq : ahd W M P (j + 1) with
      | nil => rw [hq] at this; simp at this
      | cons a r => rfl
  have h7 := h.2
  rw [hne] at h7
  rcases h7 with h7 | h7
  · cases h7
  · split at h7
    · rename_i g r1 r2 e1 e2
      simp only [Bool.and_eq_true, beq_iff_eq, List.any_eq_true, List.all_eq_true, decide_eq_true_eq, exists_eq_right] at h7
      exact ⟨g, r1, r2, e1, e2, h7.1, h7.2.1, h7.2.2⟩
    · cases h7
end
end Mine
open PySem PySem.W PySem.Calls PyProof.Rows PySem.Spec
set_option Elab.async false
set_option maxRecDepth 100000
set_option maxHeartbeats 8000000
namespace Mine

noncomputable def byTxt (w : World) : Bool := w.params.followText "set-order"
noncomputable def walkOf (w : World) (a : Addr) (ep : Nat) (es : Array (Int × Value)) : Array (Int × Value) := if byTxt w then pickOrder (w.params.setOrder a ep) es else es
noncomputable def goodT (t : SetTable) (n : Nat) : Bool :=
  t.plain && t.fits n && (SetTable.below t.place 0 == 0) && (List.range n).all (fun i => SetTable.below t.place (t.place.getD i 0 + 1) == i + 1)
noncomputable def slotAt (t : SetTable) (i : Nat) : Nat := if i = 0 then 0 else t.place.getD (i - 1) 0 + 1
noncomputable def slotOf (w : World) (t : SetTable) (i : Nat) : Nat := if byTxt w then 0 else slotAt t i

theorem goodT_below {t : SetTable} {n i : Nat} (h : goodT t n = true) (hi : i ≤ n) : SetTable.below t.place (slotAt t i) = i := by
  simp only [goodT, Bool.and_eq_true, beq_iff_eq, List.all_eq_true, List.mem_range] at h
  unfold slotAt
  split
  · rename_i e; subst e; exact h.1.2
  · have := h.2 (i - 1) (by omega)
    rw [this]; omega

theorem erase_perm {α : Type} : ∀ (l : List α) (i : Nat) (h : i < l.length), List.Perm (l[i] :: l.eraseIdx i) l
  | [], _, h => absurd h (Nat.not_lt_zero _)
  | a :: l, 0, _ => .rfl
  | a :: l, i + 1, h => (List.Perm.swap _ _ _).trans ((erase_perm l i (by simpa using h)).cons a)
theorem pick_go {α : Type} (next : Nat → Nat) : ∀ (fuel k : Nat) (left : List α) (out : Array α), left.length ≤ fuel →
    List.Perm (pickOrder.go next fuel k left out).toList (out.toList ++ left)
  | 0, k, left, out, h => by
    have : left = [] := List.length_eq_zero_iff.mp (by omega)
    subst this; simp [pickOrder.go]
  | fuel + 1, k, left, out, h => by
    cases hl : left with
    | nil => simp [pickOrder.go]
    | cons a tl =>
      rw [← hl]
      have hpos : 0 < left.length := by rw [hl]; simp
      have hlt : next k % left.length < left.length := Nat.mod_lt _ hpos
      unfold pickOrder.go
      rw [List.getElem?_eq_getElem hlt]
      dsimp only
      refine (pick_go next fuel (k + 1) _ _ (by rw [List.length_eraseIdx]; split <;> omega)).trans ?_
      rw [Array.toList_push, List.append_assoc]
      refine List.Perm.append_left _ ?_
      exact erase_perm _ _ hlt

theorem walk_perm (w : World) (a : Addr) (ep : Nat) (es : Array (Int × Value)) : List.Perm (walkOf w a ep es).toList es.toList := by
  unfold walkOf
  split
  · unfold pickOrder
    simpa using pick_go (w.params.setOrder a ep) es.size 0 es.toList #[] (by simp)
  · exact .rfl
theorem walk_size (w : World) (a : Addr) (ep : Nat) (es : Array (Int × Value)) : (walkOf w a ep es).size = es.size := by
  have := (walk_perm w a ep es).length_eq; simpa using this

section
variable {prog : Program} {w : World} {A : Around} {E : Value → Shared → Prop} {s : Shared}
variable {a : Addr} {es : Array (Int × Value)} {ep : Nat} {t : SetTable} {n : Nat}

noncomputable def IsSetAt (h : Heap) (a : Addr) (es : Array (Int × Value)) (ep : Nat) (t : SetTable) : Prop :=
  h.get? a = some { cls := .type "set", dict := none, data := .set es ep t }
theorem IsSetAt.typeIs (h : IsSetAt s.heap a es ep t) : s.TypeIs (.ref a) "set" := ⟨_, h, rfl⟩

theorem goodT_fits (h : goodT t n = true) : t.fits n = true := by
  simp only [goodT, Bool.and_eq_true] at h; exact h.1.1.2
theorem goodT_plain (h : goodT t n = true) : t.plain = true := by
  simp only [goodT, Bool.and_eq_true] at h; exact h.1.1.1

theorem byText_of {Q : Bool → Shared → Prop} (h : Q (byTxt w) s) : wpAny (model prog w) A setsByText Q E s := by
  unfold setsByText
  exact wpAny_bind (wpAny_askSetting (wpAny_pure h))

theorem setNext_of {Q : Option (Value × Nat) → Shared → Prop} (hs : IsSetAt s.heap a es ep t) (hg : goodT t es.size = true) (hl : t.led = !byTxt w) {i : Nat} (hi : i ≤ es.size)
    (h : Q (((walkOf w a ep es)[i]?).map fun e => (e.2, slotOf w t (i + 1))) s) :
    wpAny (model prog w) A (setNext a (slotOf w t i) i ep) Q E s := by
  unfold setNext
  refine wpAny_bind (wpAny_setState_of hs rfl (goodT_fits hg) ?_)
  dsimp only
  refine wpAny_bind (byText_of ?_)
  cases hb : byTxt w with
  | true =>
    simp only [if_true, bne_self_eq_false, Bool.false_eq_true, if_false]
    unfold setWalk
    refine wpAny_bind (wpAny_bind (wpAny_setState_of hs rfl (goodT_fits hg) ?_))
    dsimp only
    refine wpAny_bind (byText_of ?_)
    simp only [hb, if_true]
    refine wpAny_bind (wpAny_askSetting (wpAny_pure ?_))
    refine wpAny_pure ?_
    simp only [walkOf, slotOf, hb, if_true] at h ⊢
    exact h
  | false =>
    simp only [Bool.false_eq_true, if_false]
    have hpl := goodT_plain hg
    simp only [hb, Bool.not_false] at hl
    have hbl := goodT_below hg hi
    refine wpAny_ite_split (fun hab => absurd hab (show ¬ ((!t.plain && decide (es.size > 1)) = true) by simp [hpl])) (fun _ => ?_)
    refine wpAny_bind ?_
    show wpAny _ _ (if (!t.led && !es.isEmpty) = true then _ else _) _ _ _
    rw [if_neg (by simp [hl])]
    refine wpAny_pure ?_
    simp only [slotOf, hb, Bool.false_eq_true, if_false, hbl]
    refine wpAny_pure ?_
    have hsz : t.place.size = es.size := by have := goodT_fits hg; simp only [SetTable.fits, Bool.and_eq_true, beq_iff_eq] at this; exact this.1
    simp only [walkOf, slotOf, hb, Bool.false_eq_true, if_false] at h
    rcases Nat.lt_or_ge i es.size with hlt | hge
    · have h1 : es[i]? = some es[i] := by simp [hlt]
      have h2 : t.place[i]? = some (t.place.getD i 0) := by simp [hsz, hlt]
      rw [h1] at h
      rw [h1, h2]
      simpa [slotAt] using h
    · have h1 : es[i]? = none := by simp [hge]
      rw [h1] at h
      rw [h1]
      exact h
end
end Mine
open PySem PySem.W PySem.Calls PyProof.Rows PySem.Spec
set_option Elab.async false
set_option maxRecDepth 100000
set_option maxHeartbeats 8000000
namespace Mine
theorem ent_set_iter : entryFor table "set.__iter__" = some Builtin.«frozenset.__iter__» :=
  entryFor_alias (id' := "frozenset.__iter__") (by kernel_rfl) rfl (by decide +kernel) (by kernel_rfl)
theorem slot_setit_next : Slot "set_iterator" "__next__" "set_iterator.__next__" :=
  .of (owner := "set_iterator") (n := "__next__") (by rw [typeLookup_type, builtinLookup_eq_fast]; kernel_rfl) (by decide +kernel) (by decide +kernel) (by decide +kernel)
    (by first | exact .inl (by decide +kernel) | exact .inr (by decide +kernel)) (by rw [isSubtype_type]; kernel_rfl)
theorem slot_setit_iter : Slot "set_iterator" "__iter__" "set_iterator.__iter__" :=
  .of (owner := "set_iterator") (n := "__iter__") (by rw [typeLookup_type, builtinLookup_eq_fast]; kernel_rfl) (by decide +kernel) (by decide +kernel) (by decide +kernel)
    (by first | exact .inl (by decide +kernel) | exact .inr (by decide +kernel)) (by rw [isSubtype_type]; kernel_rfl)
theorem ent_setit_next : entryFor table "set_iterator.__next__" = some Builtin.«set_iterator.__next__» := entryFor_of_tree (by kernel_rfl)
theorem own_setit : Manifest.owners.lookup (String.ofList ['r', 'o', 't', 'a', 'r', 'e', 't', 'i', '_', 't', 'e', 's'].reverse) = some Manifest.sig_set_iterator := by kernel_rfl
theorem args_setit_iter (a : Value) : argsOk "set_iterator.__iter__" ⟨[a], []⟩ := by
  unfold argsOk; rw [signature?_of (id := "set_iterator.__iter__") (n := ['_', '_', 'r', 'e', 't', 'i', '_', '_']) (o := ['r', 'o', 't', 'a', 'r', 'e', 't', 'i', '_', 't', 'e', 's']) (by kernel_rfl) own_setit]; kernel_rfl
theorem ent_setit_iter : entryFor table "set_iterator.__iter__" = some Builtin.«dict_keyiterator.__iter__» :=
  entryFor_alias (id' := "dict_keyiterator.__iter__") (by kernel_rfl) rfl (by decide +kernel) (by kernel_rfl)
theorem args_setit_next (a : Value) : argsOk "set_iterator.__next__" ⟨[a], []⟩ := by
  unfold argsOk; rw [signature?_of (id := "set_iterator.__next__") (n := ['_', '_', 't', 'x', 'e', 'n', '_', '_']) (o := ['r', 'o', 't', 'a', 'r', 'e', 't', 'i', '_', 't', 'e', 's']) (by kernel_rfl) own_setit]; kernel_rfl

theorem ints_perm {vs vs' : List Value} (hp : List.Perm vs vs') : ∀ {ns : List Int}, IntsAre vs ns → ∃ ks, IntsAre vs' ks ∧ List.Perm ks ns := by
  induction hp with
  | nil => intro ns h; cases h; exact ⟨[], .nil, .rfl⟩
  | cons x _ ih =>
    intro ns h
    cases h with
    | cons n t hr => obtain ⟨ks, h1, h2⟩ := ih hr; exact ⟨n :: ks, .cons n t h1, h2.cons n⟩
  | swap x y l =>
    intro ns h
    cases h with
    | cons n t hr =>
      cases hr with
      | cons n2 t2 hr2 => exact ⟨n2 :: n :: _, .cons n2 t2 (.cons n t hr2), .swap _ _ _⟩
  | trans _ _ ih1 ih2 =>
    intro ns h
    obtain ⟨ks, h1, h2⟩ := ih1 h
    obtain ⟨ks2, h3, h4⟩ := ih2 h1
    exact ⟨ks2, h3, h4.trans h2⟩

section
variable {prog : Program} {w : World} {A : Around} {E : Value → Shared → Prop} {s : Shared}
variable {a it : Addr} {es : Array (Int × Value)} {ep : Nat} {t : SetTable} {n : Nat}

noncomputable def IsSetIt (h : Heap) (it a : Addr) (sl i n ep : Nat) : Prop :=
  ∃ o, h.get? it = some o ∧ o.cls = .type "set_iterator" ∧ o.data = .fields #[.int sl 0, .int i 0, .ref a, .int n 0, .int ep 0]
theorem IsSetIt.typeIs {sl i : Nat} (h : IsSetIt s.heap it a sl i n ep) : s.TypeIs (.ref it) "set_iterator" := let ⟨o, ho, hc, _⟩ := h; ⟨o, ho, hc⟩
theorem IsSetIt.at' {h h' : Heap} {sl i : Nat} (x : IsSetIt h it a sl i n ep) (e : ∀ o, h.get? it = some o → h'.get? it = some o) : IsSetIt h' it a sl i n ep := let ⟨o, ho, r⟩ := x; ⟨o, e _ ho, r⟩

theorem setIter_of {Q : Value → Shared → Prop} (hs : IsSetAt s.heap a es ep t) (hg : goodT t es.size = true)
    (hQ : Q (.ref s.heap.objs.size) { s with heap := s.heap.push { cls := .type "set_iterator", data := .fields #[.int (0 : Nat) 0, .int (0 : Nat) 0, .ref a, .int es.size 0, .int ep 0] } }) :
    wpAny (model prog w) A (pyIter (.ref a)) Q E s := by
  refine wpAny_pyIter_slot hs.typeIs PySem.F.slot_set_iter (wpAny_call_entry PySem.F.slot_set_iter hs.typeIs ent_set_iter ?_ (PySem.F.args_set_iter_1 _))
  unfold Builtin.«frozenset.__iter__» Builtin.Frozenset.slot0 slotArgs
  simp only [List.isEmpty_nil, Bool.not_true, Bool.false_eq_true, ↓reduceIte, bind_assoc, List.length_nil, bne_self_eq_false]
  unfold Builtin.Frozenset.addrOf Builtin.Frozenset.sizeOf
  refine wpAny_bind (wpAny_pure ?_)
  try dsimp only
  refine wpAny_bind (wpAny_pure ?_)
  refine wpAny_bind (wpAny_bind (wpAny_setEntries_of hs rfl (goodT_fits hg) (wpAny_pure ?_)))
  refine wpAny_bind ?_
  unfold setDrawn
  refine wpAny_bind (wpAny_setState_of hs rfl (goodT_fits hg) ?_)
  refine wpAny_bind (byText_of (wpAny_pure ?_))
  refine wpAny_ite_split (fun hab => absurd hab (show ¬ ((!byTxt w && (!t.plain && decide (es.size > 1))) = true) by simp [goodT_plain hg])) (fun _ => ?_)
  refine wpAny_bind (wpAny_pure ?_)
  refine wpAny_bind (wpAny_setEpoch_of hs rfl (goodT_fits hg) ?_)
  exact wpAny_bind (wpAny_newObj_type (wpAny_pure ⟨_, rfl, "set_iterator", _, ⟨_, Heap.get?_push_size _ rfl, rfl⟩, slot_setit_next.lookup, hQ⟩))

theorem setNext_item {i : Nat} {x : Int × Value} {Q : Option Value → Shared → Prop} (hit : IsSetIt s.heap it a (slotOf w t i) i es.size ep) (hs : IsSetAt s.heap a es ep t) (hg : goodT t es.size = true)
    (hl : t.led = !byTxt w) (hx : (walkOf w a ep es)[i]? = some x)
    (hQ : ∀ h', IsSetIt h' it a (slotOf w t (i + 1)) (i + 1) es.size ep → Heap.SameBut it s.heap h' → Q (some x.2) { s with heap := h' }) :
    wpAny (model prog w) A (pyNext (.ref it)) Q E s := by
  obtain ⟨o, ho, hc, hd⟩ := id hit
  have hlt : i < es.size := by
    have := Array.getElem?_eq_some_iff.mp hx; obtain ⟨h, _⟩ := this; rw [walk_size] at h; exact h
  unfold pyNext
  refine wpAny_bind (wpAny_attempt (wpAny_callSpecial?_slot (name := Str.ofString "__next__") hit.typeIs slot_setit_next
    (wpAny_call_entry slot_setit_next hit.typeIs ent_setit_next ?_ (args_setit_next _))))
  unfold Builtin.«set_iterator.__next__» slotArgs
  simp only [List.isEmpty_nil, Bool.not_true, Bool.false_eq_true, ↓reduceIte, List.length_nil, bne_self_eq_false]
  refine wpAny_bind (wpAny_pure ?_)
  refine wpAny_bind (wpAny_fieldsOf ho hd ?_)
  dsimp only
  refine wpAny_bind (wpAny_setEntries_of hs rfl (goodT_fits hg) ?_)
  simp only [bne_self_eq_false, Bool.false_eq_true, if_false, Int.toNat_natCast]
  refine wpAny_bind (setNext_of hs hg hl (Nat.le_of_lt hlt) ?_)
  rw [hx]
  simp only [Option.map_some]
  refine wpAny_bind (wpAny_setField ho hd (by simp) ?_)
  have ho2 := Heap.get?_update_self (Obj.mapFields (·.setIfInBounds 0 (rawInt (slotOf w t (i + 1) : Nat)))) ho (Obj.isFreed_of_fields (Obj.data_mapFields hd _))
  refine wpAny_bind (wpAny_setField ho2 (Obj.data_mapFields hd _) (by simp) (wpAny_pure ⟨x.2, rfl, wpAny_pure (hQ _ ?_ ((Heap.SameBut.update ..).trans (Heap.SameBut.update ..)))⟩))
  refine ⟨_, Heap.get?_update_self _ ho2 (Obj.isFreed_of_fields (Obj.data_mapFields (Obj.data_mapFields hd _) _)), (Obj.cls_mapFields ..).trans ((Obj.cls_mapFields ..).trans hc), ?_⟩
  rw [Obj.data_mapFields (Obj.data_mapFields hd _)]; simp [rawInt]

theorem setNext_end {i : Nat} {Q : Option Value → Shared → Prop} (hh : A.handled = none) (hit : IsSetIt s.heap it a (slotOf w t i) i es.size ep) (hs : IsSetAt s.heap a es ep t) (hg : goodT t es.size = true)
    (hl : t.led = !byTxt w) (hi : i = es.size)
    (hQ : ∀ h', Heap.ExtBut it s.heap h' → Q none { s with heap := h' }) :
    wpAny (model prog w) A (pyNext (.ref it)) Q E s := by
  obtain ⟨o, ho, hc, hd⟩ := id hit
  unfold pyNext
  refine wpAny_bind (wpAny_attempt (wpAny_callSpecial?_slot (name := Str.ofString "__next__") hit.typeIs slot_setit_next
    (wpAny_call_entry slot_setit_next hit.typeIs ent_setit_next ?_ (args_setit_next _))))
  unfold Builtin.«set_iterator.__next__» slotArgs
  simp only [List.isEmpty_nil, Bool.not_true, Bool.false_eq_true, ↓reduceIte, List.length_nil, bne_self_eq_false]
  refine wpAny_bind (wpAny_pure ?_)
  refine wpAny_bind (wpAny_fieldsOf ho hd ?_)
  dsimp only
  refine wpAny_bind (wpAny_setEntries_of hs rfl (goodT_fits hg) ?_)
  simp only [bne_self_eq_false, Bool.false_eq_true, if_false, Int.toNat_natCast]
  refine wpAny_bind (setNext_of hs hg hl (Nat.le_of_eq hi) ?_)
  rw [show (walkOf w a ep es)[i]? = none by simp [walk_size, hi]]
  simp only [Option.map_none]
  refine wpAny_bind (wpAny_setField ho hd (by simp) ?_)
  refine wpAny_bind ?_
  simp only [newExc, newTuple]
  refine wpAny_bind (wpAny_newObj_type ?_ (by size_fits))
  refine wpAny_bind (m := firstArgMember _ _) (wpAny_of_eq (a := Value.none) (by first | rfl | (simp only [firstArgMember]; rfl)) ?_)
  refine wpAny_newObj_type ?_ (by size_fits)
  simp only [raiseNew]
  refine wpAny_bind (wpAny_handled ?_)
  rw [show A.in1.handled = none from hh]
  refine wpAny_bind (wpAny_pure (wpAny_throw ?_))
  refine wpAny_bind (wpAny_isInstance (T := "StopIteration") (b := true) ⟨_, Heap.get?_push_size _ rfl, rfl⟩ isSubtype_stop ?_)
  exact wpAny_pure (hQ _ (((Heap.SameBut.update ..).extBut.push _).push _))

theorem setit_self {Q : Value → Shared → Prop} {sl i : Nat} (hit : IsSetIt s.heap it a sl i n ep) (h : Q (.ref it) s) : wpAny (model prog w) A (pyIter (.ref it)) Q E s := by
  refine wpAny_pyIter_slot hit.typeIs slot_setit_iter (wpAny_call_entry slot_setit_iter hit.typeIs ent_setit_iter ?_ (args_setit_iter _))
  show wpAny _ _ (ret (.ref it)) _ _ s
  exact wpAny_pure ⟨_, rfl, "set_iterator", _, hit.typeIs, slot_setit_next.lookup, h⟩

theorem set_hint {Q : Bool → Shared → Prop} (hT : s.TypeIs (.ref a) "set") (h : Q false s) : wpAny (model prog w) A (Builtin.List.listLengthHint (.ref a)) Q E s := by
  unfold Builtin.List.listLengthHint
  refine wpAny_bind (wpAny_specialOf hT PySem.F.slot_set_len.lookup ?_)
  generalize hid : ("set.__len__" : String) = id0
  wp_delta
  rw [show splitId id0 = some ("set", "__len__") from by subst hid; decide +kernel]
  subst hid
  refine wpAny_bind (wpAny_isInstance (T := "set") (b := true) hT (by rw [isSubtype_type]; kernel_rfl) ?_)
  refine wpAny_ite_split (fun hab => absurd hab (by decide)) (fun _ => ?_)
  refine wpAny_ite_split (fun _ => ?_) (fun hab => absurd (by decide +kernel) hab)
  refine wpAny_bind (wpAny_typeOf hT ?_)
  exact wpAny_pure h

theorem IsSetAt.at' {h h' : Heap} (x : IsSetAt h a es ep t) (e : ∀ o, h.get? a = some o → h'.get? a = some o) : IsSetAt h' a es ep t := e _ x

theorem walks_set (hh : A.handled = none) (I : Addr) (hne : a ≠ I) (hg : goodT t es.size = true) (hl : t.led = !byTxt w) :
    Walks prog w A I [I, a] [I] es.size (fun i v => ∃ x, (walkOf w a ep es)[i]? = some x ∧ v = x.2) (fun i h => IsSetIt h I a (slotOf w t i) i es.size ep ∧ IsSetAt h a es ep t) where
  sub := fun b hb => by simp at hb; simp [hb]
  frame := fun _ _ _ st hk => ⟨st.1.at' fun o e => hk I (by simp) o e, st.2.at' fun o e => hk a (by simp) o e⟩
  item := fun i s Q E hi st hQ => by
    obtain ⟨x, hx⟩ : ∃ x, (walkOf w a ep es)[i]? = some x := ⟨(walkOf w a ep es)[i]'(by rw [walk_size]; exact hi), by simp [walk_size, hi]⟩
    refine setNext_item st.1 st.2 hg hl hx fun h' hit' hs' => ?_
    exact hQ _ h' s.toks ⟨x, hx, rfl⟩ ⟨hit', st.2.at' fun o e => hs'.extBut a o hne e⟩ fun b o hb e => hs'.extBut b o (fun h => hb (by simp [h])) e
  done := fun s Q E st hQ => setNext_end hh st.1 st.2 hg hl rfl fun h' he' => hQ h' s.toks fun b o hb e => he' b o (fun h => hb (by simp [h])) e
  self := fun _ _ _ _ st hQ => setit_self st.1 hQ

theorem src_set (hg : goodT t es.size = true) (hl : t.led = !byTxt w) :
    KdlSrc prog w "set" a a es.size (fun i v => ∃ x, (walkOf w a ep es)[i]? = some x ∧ v = x.2) (fun h => IsSetAt h a es ep t) where
  type := fun _ hm => hm.typeIs
  there := fun _ hm => ⟨Heap.lt_size hm, Heap.lt_size hm⟩
  keep := fun _ _ hm hk => hm.at' fun o e => hk a (.inl rfl) o e
  notList := by decide
  notTuple := by decide
  hint := fun _ _ _ _ hm hq => set_hint hm.typeIs hq
  iter := fun _ s hh hm => ⟨_, _, (fun _ _ hq => setIter_of hm hg hq), walks_set hh _ (Nat.ne_of_lt (Heap.lt_size hm)) hg hl,
    ⟨⟨_, Heap.get?_push_size _ rfl, rfl, by simp [slotOf, slotAt]⟩, Heap.get?_push_of_some _ hm⟩⟩

/-- list(a set): a list with a permutation of its elements -/
theorem list_set {Q : Value → Shared → Prop} {h₀ : Heap} {L : Addr} {m : Str → Option Value} {news : List (Addr × Obj)} {ns : List Int} (hg : goodT t es.size = true) (hl : t.led = !byTxt w) (hn : es.size ≤ sizeLine)
    (hi : IntsAre (es.toList.map (·.2)) ns)
    (hh : A.handled = none) (F : Fr h₀ L s.heap m) (N : News h₀ L s.heap news) (hm : (a, ({ cls := .type "set", dict := none, data := .set es ep t } : Obj)) ∈ news)
    (h : ∀ (D : Addr) c h' tk (vs : List Value) (ks : List Int), Fr h₀ L h' m → News h₀ L h' ((D, listOf vs.toArray c) :: news) → (∀ q ∈ news, q.1 < D) → IntsAre vs ks → List.Perm ks ns → Q (.ref D) { s with heap := h', toks := tk }) :
    wpAny (model prog w) A (call (.type "list") [.ref a]) Q E s := by
  refine kdl_N (src_set hg hl) hh F N (N _ hm).1 hn fun D c h' tk vs F' N' hlt hlen hP => ?_
  have hvs : vs = (walkOf w a ep es).toList.map (·.2) := by
    apply List.ext_getElem?
    intro j
    rcases Nat.lt_or_ge j vs.length with hj | hj
    · obtain ⟨x, hx, hv⟩ := hP j vs[j] (by simp [hj])
      have hx' : (walkOf w a ep es).toList[j]? = some x := by rw [Array.getElem?_toList]; exact hx
      rw [List.getElem?_map, hx']
      simp [hj, hv]
    · rw [List.getElem?_eq_none hj, List.getElem?_eq_none (by simpa [walk_size, ← hlen] using hj)]
  have hp : List.Perm vs (es.toList.map (·.2)) := by rw [hvs]; exact (walk_perm w a ep es).map _
  obtain ⟨ks, hks, hkp⟩ := ints_perm hp.symm hi
  exact h D c h' tk vs ks F' N' hlt hks hkp
end
end Mine
open PySem PySem.W PySem.Calls PyProof.Rows PySem.Spec
set_option Elab.async false
set_option maxRecDepth 100000
set_option maxHeartbeats 8000000
namespace Mine
noncomputable def tabAdd (t : SetTable) (v : Int) : SetTable := match t.freeSlot (hashInt v) with | some (j, _) => (t.put j).1 | none => t
noncomputable def tab (led : Bool) (σ : List Int) : SetTable := σ.foldl tabAdd (.fresh 0 0 led)
noncomputable def okAdd (t : SetTable) (n : Nat) (v : Int) : Bool := match t.freeSlot (hashInt v) with
  | some (j, _) => (t.put j).1.fits (n + 1) && !(t.put j).1.tooFull
  | none => false
noncomputable def chk (led : Bool) (σ : List Int) : Bool := goodT (tab led σ) σ.length && ((tab led σ).led == led)
noncomputable def chkV (led : Bool) (σ : List Int) (v : Int) : Bool := okAdd (tab led σ) σ.length v && chk led (σ ++ [v])
noncomputable def chk1 (led : Bool) (a : Nat) : Bool := chkV led [] (a + 1 : Nat) &&
  (List.range 13).all fun (b : Nat) => chkV led [((a + 1 : Nat) : Int)] (b + 1 : Nat) &&
  (List.range 13).all fun (c : Nat) => chkV led [((a + 1 : Nat) : Int), ((b + 1 : Nat) : Int)] (c + 1 : Nat)
noncomputable def chkAll (led : Bool) : Bool := chk led [] && (List.range 13).all fun (a : Nat) => chk1 led a
theorem chk1_0 : chk1 false 0 = true := by decide +kernel
theorem chk1_1 : chk1 false 1 = true := by decide +kernel
theorem chk1_2 : chk1 false 2 = true := by decide +kernel
theorem chk1_3 : chk1 false 3 = true := by decide +kernel
theorem chk1_4 : chk1 false 4 = true := by decide +kernel
theorem chk1_5 : chk1 false 5 = true := by decide +kernel
theorem chk1_6 : chk1 false 6 = true := by decide +kernel
theorem chk1_7 : chk1 false 7 = true := by decide +kernel
theorem chk1_8 : chk1 false 8 = true := by decide +kernel
theorem chk1_9 : chk1 false 9 = true := by decide +kernel
theorem chk1_10 : chk1 false 10 = true := by decide +kernel
theorem chk1_11 : chk1 false 11 = true := by decide +kernel
theorem chk1_12 : chk1 false 12 = true := by decide +kernel
theorem chk1_any (a : Nat) (h : a < 13) : chk1 false a = true := by
  match a, h with
  | 0, _ => exact chk1_0
  | 1, _ => exact chk1_1
  | 2, _ => exact chk1_2
  | 3, _ => exact chk1_3
  | 4, _ => exact chk1_4
  | 5, _ => exact chk1_5
  | 6, _ => exact chk1_6
  | 7, _ => exact chk1_7
  | 8, _ => exact chk1_8
  | 9, _ => exact chk1_9
  | 10, _ => exact chk1_10
  | 11, _ => exact chk1_11
  | 12, _ => exact chk1_12
theorem chk_false : chkAll false = true := by
  simp only [chkAll, Bool.and_eq_true, List.all_eq_true, List.mem_range]
  exact ⟨by decide +kernel, fun a h => chk1_any a h⟩

theorem go_led (t : SetTable) (l : Bool) (f : Nat → Int) (h : Int) : ∀ (fuel : Nat) (p : SetTable.Probe), SetTable.probe.go { t with led := l } f h fuel p = SetTable.probe.go t f h fuel p
  | 0, _ => rfl
  | fuel + 1, p => by
    rw [SetTable.probe.go, SetTable.probe.go]
    have e : SetTable.slot { t with led := l } p.j = SetTable.slot t p.j := rfl
    rw [e]
    cases t.slot p.j with
    | empty => rfl
    | dummy => exact go_led t l f h fuel _
    | live i =>
      dsimp only
      split
      · rfl
      · exact go_led t l f h fuel _
theorem free_led (t : SetTable) (l : Bool) (h : Int) : SetTable.freeSlot { t with led := l } h = t.freeSlot h := by
  have e : SetTable.probe { t with led := l } (fun _ => h + 1) h (SetTable.probeStart { t with led := l } h) = t.probe (fun _ => h + 1) h (t.probeStart h) := go_led t l _ h _ _
  unfold SetTable.freeSlot
  rw [e]
theorem tabAdd_led (t : SetTable) (l : Bool) (v : Int) : tabAdd { t with led := l } v = { tabAdd t v with led := l } := by
  unfold tabAdd
  rw [free_led]
  cases t.freeSlot (hashInt v) <;> rfl
theorem tab_led' (l : Bool) : ∀ (σ : List Int) (t : SetTable), σ.foldl tabAdd { t with led := l } = { σ.foldl tabAdd t with led := l }
  | [], _ => rfl
  | v :: σ, t => by rw [List.foldl_cons, List.foldl_cons, tabAdd_led]; exact tab_led' l σ _
theorem tab_led (l : Bool) (σ : List Int) : tab l σ = { tab false σ with led := l } := tab_led' l σ (.fresh 0 0 false)
theorem chk_led {l : Bool} {σ : List Int} (h : chk false σ = true) : goodT (tab l σ) σ.length = true ∧ (tab l σ).led = l := by
  rw [tab_led]
  simp only [chk, Bool.and_eq_true] at h
  exact ⟨h.1, rfl⟩
theorem okAdd_led {l : Bool} {σ : List Int} {v : Int} {n : Nat} (h : okAdd (tab false σ) n v = true) : okAdd (tab l σ) n v = true := by
  rw [tab_led]
  unfold okAdd at h ⊢
  rw [free_led]
  cases hf : (tab false σ).freeSlot (hashInt v) with
  | none => rw [hf] at h; exact h
  | some q => rw [hf] at h; exact h

theorem tab_good (l : Bool) {σ : List Int} (hr : ∀ x ∈ σ, 1 ≤ x ∧ x ≤ 13) (hn : σ.length ≤ 3) : goodT (tab l σ) σ.length = true ∧ (tab l σ).led = l := by
  apply chk_led
  have h := chk_false
  simp only [chkAll, chk1, chkV, Bool.and_eq_true, List.all_eq_true, List.mem_range] at h
  match σ, hr, hn with
  | [], _, _ => exact h.1
  | [a], hr, _ =>
    have ha := hr a (by simp)
    have := h.2 (a - 1).toNat (by omega)
    rw [show (((a - 1).toNat + 1 : Nat) : Int) = a by omega] at this
    exact this.1.2
  | [a, b], hr, _ =>
    have ha := hr a (by simp)
    have hb := hr b (by simp)
    have := (h.2 (a - 1).toNat (by omega)).2 (b - 1).toNat (by omega)
    rw [show (((a - 1).toNat + 1 : Nat) : Int) = a by omega, show (((b - 1).toNat + 1 : Nat) : Int) = b by omega] at this
    exact this.1.2
  | [a, b, c], hr, _ =>
    have ha := hr a (by simp)
    have hb := hr b (by simp)
    have hc := hr c (by simp)
    have := ((h.2 (a - 1).toNat (by omega)).2 (b - 1).toNat (by omega)).2 (c - 1).toNat (by omega)
    rw [show (((a - 1).toNat + 1 : Nat) : Int) = a by omega, show (((b - 1).toNat + 1 : Nat) : Int) = b by omega, show (((c - 1).toNat + 1 : Nat) : Int) = c by omega] at this
    exact this.2
theorem tab_ok (l : Bool) {σ : List Int} {v : Int} (hr : ∀ x ∈ σ, 1 ≤ x ∧ x ≤ 13) (hv : 1 ≤ v ∧ v ≤ 13) (hn : σ.length < 3) : okAdd (tab l σ) σ.length v = true := by
  apply okAdd_led
  have h := chk_false
  simp only [chkAll, chk1, chkV, Bool.and_eq_true, List.all_eq_true, List.mem_range] at h
  match σ, hr, hn with
  | [], _, _ =>
    have := h.2 (v - 1).toNat (by omega)
    rw [show (((v - 1).toNat + 1 : Nat) : Int) = v by omega] at this
    exact this.1.1
  | [a], hr, _ =>
    have ha := hr a (by simp)
    have := (h.2 (a - 1).toNat (by omega)).2 (v - 1).toNat (by omega)
    rw [show (((a - 1).toNat + 1 : Nat) : Int) = a by omega, show (((v - 1).toNat + 1 : Nat) : Int) = v by omega] at this
    exact this.1.1
  | [a, b], hr, _ =>
    have ha := hr a (by simp)
    have hb := hr b (by simp)
    have := ((h.2 (a - 1).toNat (by omega)).2 (b - 1).toNat (by omega)).2 (v - 1).toNat (by omega)
    rw [show (((a - 1).toNat + 1 : Nat) : Int) = a by omega, show (((b - 1).toNat + 1 : Nat) : Int) = b by omega, show (((v - 1).toNat + 1 : Nat) : Int) = v by omega] at this
    exact this.1

section
variable {prog : Program} {w : World} {A : Around} {E : Value → Shared → Prop} {s : Shared}

noncomputable def SetInts (prog : Program) (w : World) (h : Heap) (S : Addr) (σ : List Int) : Prop :=
  ∃ es ep ks, IsSetAt h S es ep (tab (!byTxt w) σ) ∧ es.size = σ.length ∧ ElemsOf (intKind prog w) es.toList ∧ IntsAre (es.toList.map (·.2)) ks ∧ List.Perm ks σ

theorem ints_mem : ∀ {l : List (Int × Value)} {ks : List Int}, IntsAre (l.map (·.2)) ks → ∀ k, (l.findIdx? fun e => Value.isInt k e.2) = none ↔ k ∉ ks
  | [], _, h, k => by cases h; simp
  | e :: l, _, h, k => by
    obtain ⟨hh, v⟩ := e
    cases h with
    | cons n t hr =>
      have ih := ints_mem hr k
      rw [List.findIdx?_cons]
      by_cases hk : k = n
      · subst hk; simp [Value.isInt]
      · have : Value.isInt k (.int n t) = false := by simp [Value.isInt]; intro h; first | exact hk h | exact hk h.symm
        simp [this, ih, hk]

theorem ints_append : ∀ {vs us : List Value} {ks js : List Int}, IntsAre vs ks → IntsAre us js → IntsAre (vs ++ us) (ks ++ js)
  | _, _, _, _, .nil, h => h
  | _, _, _, _, .cons n t hr, h => .cons n t (ints_append hr h)

theorem setAdd_of {S : Addr} {σ : List Int} {v : Int} {tk : Tok} {Q : Bool → Shared → Prop} (hS : SetInts prog w s.heap S σ) (hr : ∀ x ∈ σ, 1 ≤ x ∧ x ≤ 13) (hv : 1 ≤ v ∧ v ≤ 13) (hn : (step_dedup σ v).length ≤ 3)
    (h : ∀ b h', Heap.SameBut S s.heap h' → SetInts prog w h' S (step_dedup σ v) → Q b { s with heap := h' }) :
    wpAny (model prog w) A (setAddHashed S (.int v tk) (hashInt v)) Q E s := by
  obtain ⟨es, ep, ks, ho, hsz, hel, hks, hp⟩ := hS
  have hn3 : σ.length ≤ 3 := by rw [step_length] at hn; split at hn <;> omega
  obtain ⟨hg, hl⟩ := tab_good (!byTxt w) hr hn3
  have hg' : goodT (tab (!byTxt w) σ) es.size = true := by rw [hsz]; exact hg
  have hb : es.size < scanBound := by unfold scanBound; omega
  unfold setAddHashed setAddHashedIn
  refine wpAny_holding (wpAny_bind (wpAny_setState_of ho rfl (goodT_fits hg') ?_))
  dsimp only
  rw [byScan_of (knd := intKind prog w) (x := .int v tk) rfl hb hel]
  simp only [↓reduceIte]
  unfold setAddByScan
  refine wpAny_bind ?_
  refine wpAny_bind (wpAny_rule ?_)
  refine wpAny_bind (wpAny_setScan_of (knd := intKind prog w) (k := v) (intKind_is _ _ _ _) ho rfl (goodT_fits hg') hel ?_)
  have hm := ints_mem hks v
  cases hr2 : List.findIdx? (fun e => (intKind prog w).is v e.2) es.toList with
  | some j =>
    dsimp only
    have hmem : v ∈ ks := Classical.byContradiction fun hc => by
      have h1 := hm.mpr hc
      have h2 : List.findIdx? (fun e : Int × Value => Value.isInt v e.2) es.toList = some j := hr2
      rw [h2] at h1; cases h1
    have hd : step_dedup σ v = σ := by
      unfold step_dedup
      rw [if_pos]
      simpa using hp.mem_iff.mp hmem
    refine wpAny_pure (wpAny_pure ?_)
    have e : s = { s with heap := s.heap } := by cases s; rfl
    rw [e]
    exact h _ s.heap (Heap.SameBut.refl S s.heap) (by rw [hd]; exact ⟨es, ep, ks, ho, hsz, hel, hks, hp⟩)
  | none =>
    dsimp only
    have hmem : v ∉ ks := hm.mp hr2
    have hmem' : v ∉ σ := fun hc => hmem (hp.mem_iff.mpr hc)
    have hd : step_dedup σ v = σ ++ [v] := by
      unfold step_dedup
      rw [if_neg]
      simpa using hmem'
    rw [hd] at hn h
    have hn2 : σ.length < 3 := by rw [List.length_append, List.length_singleton] at hn; omega
    have hok := tab_ok (!byTxt w) hr hv hn2
    have htab : tab (!byTxt w) (σ ++ [v]) = tabAdd (tab (!byTxt w) σ) v := by unfold tab; rw [List.foldl_append]; rfl
    unfold okAdd at hok
    cases hfr : (tab (!byTxt w) σ).freeSlot (hashInt v) with
    | none => rw [hfr] at hok; cases hok
    | some q =>
      obtain ⟨j, wd⟩ := q
      rw [hfr] at hok
      dsimp only at hok
      rw [Bool.and_eq_true] at hok
      have ht : tabAdd (tab (!byTxt w) σ) v = ((tab (!byTxt w) σ).put j).1 := by unfold tabAdd; rw [hfr]
      have hperm := SetTable.insertAt_perm es ((tab (!byTxt w) σ).put j).2 (hashInt v, Value.int v tk)
      have hsz2 : (SetTable.insertAt es ((tab (!byTxt w) σ).put j).2 (hashInt v, Value.int v tk)).size = σ.length + 1 := by
        have := hperm.length_eq; simpa [hsz] using this
      have hlay : layNew (tab (!byTxt w) σ) es (hashInt v) (.int v tk) = (SetTable.insertAt es ((tab (!byTxt w) σ).put j).2 (hashInt v, Value.int v tk), tab (!byTxt w) (σ ++ [v]), wd, false) := by
        unfold layNew
        rw [hfr]
        dsimp only
        unfold SetTable.orStandIn
        rw [hsz2, if_pos hok.1, hok.1, htab, ht]
        rfl
      have hplain : (tab (!byTxt w) (σ ++ [v])).plain = true := goodT_plain (tab_good (!byTxt w) (σ := σ ++ [v]) (by
        intro x hx; rcases List.mem_append.mp hx with hx | hx
        · exact hr x hx
        · rw [List.mem_singleton] at hx; subst hx; exact hv) hn).1
      have hfull : (tab (!byTxt w) (σ ++ [v])).tooFull = false := by rw [htab, ht]; simpa using hok.2
      show wpAny _ _ (match layNew (tab (!byTxt w) σ) es (hashInt v) (.int v tk) with | (es, t, wasDummy, gave) => _) _ _ _
      rw [hlay]
      dsimp only
      refine wpAny_bind (wpAny_pure ?_)
      simp only [hplain, if_true]
      refine wpAny_bind ?_
      rw [hashByValue_scannable 8 (x := .int v tk) rfl]
      refine wpAny_pure ?_
      simp only [plainKind, if_true]
      refine wpAny_bind (wpAny_storeSet_of ho rfl ?_ (by rw [hsz2, sizeLine_eq]; omega))
      simp only [hfull, Bool.and_false, Bool.false_eq_true, if_false]
      refine wpAny_pure (wpAny_pure ?_)
      have hel2 : ElemsOf (intKind prog w) (SetTable.insertAt es ((tab (!byTxt w) σ).put j).2 (hashInt v, Value.int v tk)).toList :=
        (hel.push (k := v) (x := .int v tk) (intKind_is _ _ _ _) rfl).perm (by rw [Array.toList_push] at hperm; exact hperm)
      have hks2 : IntsAre ((es.toList ++ [(hashInt v, Value.int v tk)]).map (·.2)) (ks ++ [v]) := by
        rw [List.map_append]; exact ints_append hks (.cons v tk .nil)
      have hpm : List.Perm ((es.toList ++ [(hashInt v, Value.int v tk)]).map (·.2)) ((SetTable.insertAt es ((tab (!byTxt w) σ).put j).2 (hashInt v, Value.int v tk)).toList.map (·.2)) :=
        (by simpa using hperm.symm : List.Perm (es.toList ++ [(hashInt v, Value.int v tk)]) _).map _
      obtain ⟨ks3, hks3, hp3⟩ := ints_perm hpm hks2
      refine h _ _ (Heap.SameBut.update ..) ⟨_, ep + 1, ks3, ?_, ?_, hel2, hks3, hp3.trans (hp.append_right [v])⟩
      · have := Heap.get?_update_self (Obj.putSet (SetTable.insertAt es ((tab (!byTxt w) σ).put j).2 (hashInt v, Value.int v tk)) (tab (!byTxt w) (σ ++ [v]))) ho rfl
        exact this
      · rw [hsz2]; simp
end
end Mine
open PySem PySem.W PySem.Calls PyProof.Rows PySem.Spec
set_option Elab.async false
set_option maxRecDepth 100000
set_option maxHeartbeats 8000000
namespace Mine
theorem met_mono (val : Nat → Int) {i n : Nat} (h : i ≤ n) : (firstMet val i).length ≤ (firstMet val n).length := by
  induction h with
  | refl => exact Nat.le_refl _
  | step _ ih => rw [firstMet_succ, step_length]; split <;> omega
theorem met_mem {val : Nat → Int} {i : Nat} {x : Int} (h : x ∈ firstMet val i) : ∃ j, j < i ∧ val j = x := by
  have h1 : (firstMet val i).any (· == x) = true := by simpa using h
  rw [firstMet_any] at h1
  simpa using h1

section
variable {prog : Program} {w : World} {A : Around} {R : Result → Shared → Prop} {I : Addr} {fp wr : List Addr} {G : Array GenState → Array GenState → Prop} {n : Nat} {P : Nat → Value → Prop} {St : Nat → Shared → Prop}

theorem SetInts.at' {h h' : Heap} {S : Addr} {σ : List Int} (x : SetInts prog w h S σ) (e : ∀ o, h.get? S = some o → h'.get? S = some o) : SetInts prog w h' S σ :=
  let ⟨es, ep, ks, ho, r⟩ := x; ⟨es, ep, ks, e _ ho, r⟩

theorem set_loop (W : WalksS prog w A.in1 I fp wr G n P St) (S : Addr) (hSf : S ∉ fp) (val : Nat → Int) (hval : ∀ i v, P i v → ∃ t, v = .int (val i) t)
    (hv : ∀ i, i < n → 1 ≤ val i ∧ val i ≤ 13) (h3 : (firstMet val n).length ≤ 3) :
    ∀ (k i : Nat) (s : Shared), n - i = k → i ≤ n → St i s → SetInts prog w s.heap S (firstMet val i) →
      (∀ s', Moved (S :: wr) G s s' → SetInts prog w s'.heap S (firstMet val n) → R (.ok (.ret .none)) s') →
      codeAny (model prog w) A (.builtin "set.update.loop" ⟨[.ref S, .ref I], []⟩) R s := by
  have hSw : S ∉ wr := fun h => hSf (W.sub _ h)
  have hsub : ∀ b ∈ wr, b ∈ S :: wr := fun b hb => List.mem_cons_of_mem _ hb
  intro k
  induction k with
  | zero =>
    intro i s hk hi hst hS hR
    obtain rfl : i = n := by omega
    refine codeAny_builtin PyProof.Rows.F.entry_set_update_loop ?_
    rw [Around.under_plainId PyProof.Rows.F.plain_set_update_loop _]
    show wpAny _ A.in1 (pyNext (.ref I) >>= _) _ _ s
    refine wpAny_bind (W.done s _ _ hst fun s' hm => ?_)
    show wpAny _ A.in1 (ret Value.none) _ _ s'
    exact wpAny_pure (hR s' (hm.mono hsub) (hS.at' fun o e => hm.heap S o hSw e))
  | succ k ih =>
    intro i s hk hi hst hS hR
    have hlt : i < n := by omega
    refine codeAny_builtin PyProof.Rows.F.entry_set_update_loop ?_
    rw [Around.under_plainId PyProof.Rows.F.plain_set_update_loop _]
    show wpAny _ A.in1 (pyNext (.ref I) >>= _) _ _ s
    refine wpAny_bind (W.item i s _ _ hlt hst fun v s' hP hst' hm => ?_)
    obtain ⟨t, rfl⟩ := hval i v hP
    have hS' : SetInts prog w s'.heap S (firstMet val i) := hS.at' fun o e => hm.heap S o hSw e
    show wpAny _ A.in1 (holding [Value.int (val i) t] (setAdd S (.int (val i) t)) >>= _) _ _ s'
    refine wpAny_bind (wpAny_holding ?_)
    unfold setAdd
    refine wpAny_holding ?_
    refine wpAny_bind ((intKind prog w).pyHash (k := val i) (intKind_is _ _ _ _) ?_)
    have hm1 := met_mono val (i := i + 1) (n := n) hlt
    refine setAdd_of (prog := prog) (s := { s' with toks := s'.toks + 1 }) hS' (fun x hx => ?_) (hv i hlt) (by rw [← firstMet_succ]; omega) fun b h' hsb hS2 => ?_
    · obtain ⟨j, hj, rfl⟩ := met_mem hx; exact hv j (by omega)
    rw [← firstMet_succ] at hS2
    refine wpAny_pure ⟨plainId_quiet PyProof.Rows.F.plain_set_update_loop _, ih (i + 1) _ (by omega) hlt (W.frame _ s' _ _ hst' (Nat.le_succ _) fun b hb o e => ?_) hS2 fun s'' hm'' hS'' => ?_⟩
    · rw [hsb.2 b (fun h : b = S => hSf (by rw [← h]; exact hb))]; exact e
    · refine hR s'' (Moved.trans W.gtrans ((hm.mono hsub).then_heap (Nat.le_succ _) fun b o hb e => ?_) hm'') hS''
      rw [hsb.2 b (fun h : b = S => hb (by rw [h]; exact List.mem_cons_self))]; exact e
end

section
variable {prog : Program} {w : World} {A : Around} {E : Value → Shared → Prop} {s : Shared}

theorem set_new_1 (a : Value) {Q₁ : Value → Shared → Prop}
    (h : Q₁ (.ref s.heap.objs.size) { s with heap := s.heap.push { cls := .type "set", dict := none, data := .set #[] 0 (.fresh 0 0 (!byTxt w)) } }) :
    codeAny (model prog w) A (.call (.builtin "set.__new__") ⟨[.type "set", a], []⟩) (wants Q₁ E) s := by
  refine codeAny_of_tree ?_
  show wpAny _ A.in1 (do checkBuiltinCall "set.__new__" ⟨[.type "set", a], []⟩; again (.builtin "set.__new__" ⟨[.type "set", a], []⟩)) _ _ s
  refine wpAny_bind (wpAny_of_eq (PySem.F.newCall_set_1 a) (wpAny_pure ⟨plainId_quiet PySem.F.plain_set_new _, codeAny_builtin PySem.F.entry_set_new ?_⟩))
  rw [Around.under_plainId PySem.F.plain_set_new _]
  unfold Builtin.«set.__new__» Builtin.Frozenset.newClass
  have hsub := sub_set_self
  obtain ⟨hp, g, d, tk, os⟩ := s
  dsimp only
  wp_walk
  refine wpAny_askSetting (wpAny_pure ?_)
  dsimp only
  simp only [newObj]
  refine wpAny_bind (wpAny_alloc (wpAny_pure ?_))
  exact wpAny_pure h

theorem set_fresh (h : Heap) : SetInts prog w (h.push { cls := .type "set", dict := none, data := .set #[] 0 (.fresh 0 0 (!byTxt w)) }) h.objs.size [] :=
  ⟨#[], 0, [], Heap.get?_push_size _ rfl, rfl, fun e he => by simp at he, .nil, .rfl⟩

theorem set_of_list {l : Addr} {items : Array Value} {ns : List Int} {Q : Value → Shared → Prop}
    (hh : A.handled = none) (hl : s.heap.IsList l items) (hi : IntsAre items.toList ns) (hv : ∀ x ∈ ns, 1 ≤ x ∧ x ≤ 13) (h3 : (firstMet (fun i => ns.getD i 0) items.size).length ≤ 3)
    (h : ∀ (h' : Heap) (tk : Nat), SetInts prog w h' s.heap.objs.size (firstMet (fun i => ns.getD i 0) items.size) →
      (∀ b o, b < s.heap.objs.size → s.heap.get? b = some o → h'.get? b = some o) → Q (.ref s.heap.objs.size) { s with heap := h', toks := tk }) :
    wpAny (model prog w) A (call (.type "set") [.ref l]) Q E s := by
  obtain ⟨c, tl, hmro⟩ := PySem.F.called_set.mro
  have hmade := PySem.F.called_set.made
  have hsub := PySem.F.called_set.sub
  have hlen : items.size = ns.length := by have := IntsAre.length hi; simpa using this
  have hvi : ∀ i, i < items.size → 1 ≤ ns.getD i 0 ∧ ns.getD i 0 ≤ 13 := fun i hlt => by
    have : ns.getD i 0 = ns[i]'(by omega) := by simp [List.getD, show i < ns.length by omega]
    rw [this]; exact hv _ (List.getElem_mem _)
  refine wpAny_call (codeAny_of_tree ?_)
  show wpAny _ _ (callAny (.type "set") _) _ _ _
  refine wpAny_pure ⟨Code.quiet_builtin _ (by decide +kernel), codeAny_builtin PySem.F.entry_type_call ?_⟩
  rw [Around.under_plain (weight_type_call_type "set" [.ref l] []) rfl]
  have h1 := PySem.F.called_set.notType
  have h2 := PySem.F.called_set.canCreate
  have hct := PySem.F.typeCall_set_1 (.ref l)
  repeat (any_goals (first | assumption | wp_step))
  refine codeAny_mono (set_new_1 (.ref l) (E := E) (Q₁ := fun obj s₁ => obj = .ref s.heap.objs.size ∧ s₁ = { s with heap := s.heap.push { cls := .type "set", dict := none, data := .set #[] 0 (.fresh 0 0 (!byTxt w)) } }) ⟨rfl, rfl⟩) fun r s₁ hr => ?_
  cases r with
  | error e => exact hr
  | ok fl =>
    cases fl with
    | ret obj =>
      obtain ⟨rfl, rfl⟩ := hr
      generalize hld : (!byTxt w) = led
      have hS : (s.heap.push { cls := .type "set", dict := none, data := .set #[] 0 (.fresh 0 0 led) }).get? s.heap.objs.size = some { cls := .type "set", dict := none, data := .set #[] 0 (.fresh 0 0 led) } := Heap.get?_push_size _ rfl
      have hT : Shared.TypeIs { s with heap := s.heap.push { cls := .type "set", dict := none, data := .set #[] 0 (.fresh 0 0 led) } } (.ref s.heap.objs.size) "set" := ⟨_, hS, rfl⟩
      have hli := PySem.F.called_set.init.lookup
      have hbi := PySem.F.called_set.init.bind (.ref s.heap.objs.size)
      repeat (any_goals (first | assumption | wp_step))
      refine codeAny_mono (codeAny_call_builtin (R := wants (fun r s₂ => r = .none ∧ ∃ h' tk, s₂ = { s with heap := h', toks := tk } ∧
          SetInts prog w h' s.heap.objs.size (firstMet (fun i => ns.getD i 0) items.size) ∧
          (∀ b o, b < s.heap.objs.size → s.heap.get? b = some o → h'.get? b = some o)) E) PySem.F.called_set.init.plain PySem.F.entry_set_init (check_set_init_1 hT ?_)) fun r₂ s₂ hr₂ => ?_
      · obtain ⟨ol, hol, hcl, nl, hdl⟩ := hl
        obtain ⟨ocls, odict, odata, oslots⟩ := ol
        simp only at hcl hdl
        subst hcl; subst hdl
        have hol' : (s.heap.push { cls := .type "set", dict := none, data := .set #[] 0 (.fresh 0 0 led) }).get? l = some { cls := .type "list", dict := odict, data := .seq items nl, slots := oslots } := Heap.get?_push_of_some _ hol
        have hsls := PySem.F.sub_list_set
        have hslf := PySem.F.sub_list_frozenset
        have hne : (Value.type "list" == Value.type "dict") = false := by decide
        have hl1 : (s.heap.push { cls := .type "set", dict := none, data := .set #[] 0 (.fresh 0 0 led) }).IsList l items := ⟨_, hol', rfl, nl, rfl⟩
        unfold Builtin.«set.__init__» noKeywords Builtin.Frozenset.updateFrom
        generalize hPI : pyIter = PI
        wp_walk
        subst hPI
        refine wpAny_pyIter_list hl1 ?_
        refine wpAny_bind (wpAny_runValue ?_)
        have hlS : l < s.heap.objs.size := Heap.lt_size hol
        have hh3 : A.in1.in1.in1.handled = none := by simp [hh]
        have hneI : l ≠ (s.heap.push { cls := .type "set", dict := none, data := .set #[] 0 (.fresh 0 0 led) }).objs.size := by
          rw [Heap.size_push]; exact Nat.ne_of_lt (Nat.lt_succ_of_lt hlS)
        have hSf : s.heap.objs.size ∉ [(s.heap.push { cls := .type "set", dict := none, data := .set #[] 0 (.fresh 0 0 led) }).objs.size, l] := by
          rw [Heap.size_push]; simp only [List.mem_cons, List.not_mem_nil, or_false, not_or]
          exact ⟨Nat.ne_of_lt (Nat.lt_succ_self _), Nat.ne_of_gt hlS⟩
        refine set_loop ((Walks.list hh3 _ l hneI items).toS) s.heap.objs.size hSf (fun i => ns.getD i 0)
          (fun i v hq => IntsAre.int_at hi i v (by rw [Array.getElem?_toList]; exact hq)) hvi h3 (items.size - 0) 0 _ (by omega) (Nat.zero_le _)
          ⟨⟨_, Heap.get?_push_size _ rfl, rfl, rfl⟩, (hl1.push _)⟩ ?hS0 ?hR
        case hS0 => rw [firstMet_zero]; subst hld; exact (set_fresh s.heap).at' fun o e => Heap.get?_push_of_some _ e
        case hR =>
          intro s' hm hS'
          obtain ⟨h', g', d', tk', os'⟩ := s'
          have eg : g' = s.gens := hm.gens
          have ed : d' = s.drawn := hm.drawn
          have eo : os' = s.os := hm.os
          subst eg; subst ed; subst eo
          show wpAny _ _ _ _ _ _
          refine wpAny_pure ?_
          show wpAny _ _ (ret Value.none) _ _ _
          refine wpAny_pure ⟨rfl, h', tk', rfl, hS', fun b o hb e => ?_⟩
          have hb1 : b ≠ s.heap.objs.size := Nat.ne_of_lt hb
          have hb2 : b ≠ (s.heap.push { cls := .type "set", dict := none, data := .set #[] 0 (.fresh 0 0 led) }).objs.size := by
            rw [Heap.size_push]; exact Nat.ne_of_lt (Nat.lt_succ_of_lt hb)
          exact hm.heap b o (by simp only [List.mem_cons, List.not_mem_nil, or_false, not_or]; exact ⟨hb1, hb2⟩) (Heap.get?_push_of_some _ (Heap.get?_push_of_some _ e))
      · cases r₂ with
        | error e => exact hr₂
        | ok fl₂ =>
          cases fl₂ with
          | ret r =>
            obtain ⟨rfl, h', tk, rfl, hS', hk'⟩ := hr₂
            repeat (any_goals (first | assumption | wp_step))
            exact h _ _ hS' hk'
          | _ => exact hr₂.elim
    | _ => exact hr.elim

/-- set(a list): a new set in the ledger -/
theorem set_list_N {h₀ : Heap} {L : Addr} {m : Str → Option Value} {news : List (Addr × Obj)} {l : Addr} {vs : List Value} {ns : List Int} {Q : Value → Shared → Prop}
    (F : Fr h₀ L s.heap m) (N : News h₀ L s.heap news) (hh : A.handled = none) (hl : s.heap.IsList l vs.toArray) (hi : IntsAre vs ns) (hv : ∀ x ∈ ns, 1 ≤ x ∧ x ≤ 13) (h3 : (firstMet (fun i => ns.getD i 0) ns.length).length ≤ 3)
    (h : ∀ D h' (tk : Nat) es ep ks, Fr h₀ L h' m → News h₀ L h' ((D, { cls := .type "set", dict := none, data := .set es ep (tab (!byTxt w) (firstMet (fun i => ns.getD i 0) ns.length)) }) :: news) → (∀ p ∈ news, p.1 < D) →
      es.size = (firstMet (fun i => ns.getD i 0) ns.length).length → IntsAre (es.toList.map (·.2)) ks → List.Perm ks (firstMet (fun i => ns.getD i 0) ns.length) →
      Q (.ref D) { s with heap := h', toks := tk }) :
    wpAny (model prog w) A (call (.type "set") [.ref l]) Q E s := by
  have hlen : vs.length = ns.length := IntsAre.length hi
  have hsz : vs.toArray.size = ns.length := by rw [List.size_toArray, hlen]
  refine set_of_list hh hl (by simpa using hi) hv (by rw [hsz]; exact h3) fun h' tk hS hk => ?_
  rw [hsz] at hS
  obtain ⟨es, ep, ks, ho, hs, _, hks, hp⟩ := hS
  obtain ⟨oL, _, _, hL, _⟩ := F.ns
  have hLlt : L < s.heap.objs.size := Heap.lt_size hL
  refine h _ h' tk es ep ks ⟨F.ns.at' fun o' e => hk L o' hLlt e, fun b o' e => hk b o' (Heap.lt_size (F.keep b o' e)) (F.keep b o' e), F.above⟩ (fun p hp => ?_) (fun p hp => Heap.lt_size (N p hp).1) hs hks hp
  rcases List.mem_cons.mp hp with rfl | hp
  · refine ⟨ho, Nat.ne_of_gt hLlt, ?_⟩
    cases hq : h₀.get? s.heap.objs.size with
    | none => rfl
    | some o' => exact absurd (Heap.lt_size (F.keep _ _ hq)) (Nat.lt_irrefl _)
  · exact ⟨hk _ _ (Heap.lt_size (N p hp).1) (N p hp).1, (N p hp).2.1, (N p hp).2.2⟩
end
end Mine
open PySem PySem.W PySem.Calls PyProof.Rows
set_option Elab.async false
set_option maxRecDepth 100000
set_option maxHeartbeats 8000000
namespace Mine

local macro_rules | `(tactic| walk_at "mine flat") => `(tactic| first | (with_reducible refine flat_any ?_) | (dsimp only; with_reducible refine flat_any ?_))
local macro_rules | `(tactic| walk_at "setAttr ref") => `(tactic| (k_here; k_dflt (refine' set_keep ?k1 ?k2 ?k3 ?k4 ?k5 ?k6 ?k7 ?k8 ?k9 ?kW ?kj ?kn ?kU ?_; (case k1 => k_asm); (case k2 => k_asm); (case k3 => k_asm); (case k4 => k_inst); (case k5 => exact rfl); (case k6 => k_is); (case k7 => k_is); (case k8 => k_is); (case k9 => k_is); (case kW => assumption); (case kj => decide); (case kn => decide); (case kU => (intro es2 n2; k_upd)); k_whole; intro h' es' n' hW' F' N'; (try k_sweep); (try (replace N' := wd_drop N')))))
theorem ints_four {ws : List Value} {a b c d : Int} (h : IntsAre ws [a, b, c, d]) : ∃ t1 t2 t3 t4, ws = [Value.int a t1, .int b t2, .int c t3, .int d t4] := by
  cases h with
  | cons _ t1 h => cases h with
    | cons _ t2 h => cases h with
      | cons _ t3 h => cases h with
        | cons _ t4 h => cases h; exact ⟨t1, t2, t3, t4, rfl⟩
theorem len_four {l : List Int} (h : l.length = 4) : ∃ a b c d, l = [a, b, c, d] := by
  match l, h with
  | [a, b, c, d], _ => exact ⟨a, b, c, d, rfl⟩

theorem news_fl {h₀ h : Heap} {L : Addr} {p a b c d e q : Addr × Obj} (N : News h₀ L h [p, a, b, c, d, e, q]) : News h₀ L h [p, q] := fun x hx => N x (by
  simp only [List.mem_cons, List.not_mem_nil, or_false] at hx
  rcases hx with rfl | rfl <;> (repeat (first | exact List.Mem.head _ | apply List.Mem.tail)))

theorem w_pick {h₀ h : Heap} {L : Addr} {p1 q : Addr × Obj} {x d r : Addr} {o : Obj} {es : List DictEntry} {n : Nat} {t : Tok}
    (N : News h₀ L h [p1, (x, instObj 361 d), (d, dictOf es n), q, (r, o)]) (hg : getL (Str.ofString "width") es = some (some (.int 32 t))) (h1 : @LT.lt Nat _ d x) (h2 : @LT.lt Nat _ r d) :
    ∃ x2 d2 es n t, x2 = x ∧ d2 = d ∧ News h₀ L h [(x2, instObj 361 d2), (d2, dictOf es n), q, (r, o)] ∧ getL (Str.ofString "width") es = some (some (.int 32 t)) ∧ @LT.lt Nat _ d2 x2 ∧ @LT.lt Nat _ r d2 :=
  ⟨x, d, es, n, t, rfl, rfl, fun y hy => N y (.tail _ hy), hg, h1, h2⟩

theorem lw_pick {h₀ h : Heap} {L : Addr} {p1 p2 p3 : Addr × Obj} {aa ap xw dw lc : Addr} {oa op ox od oc : Obj} (N : News h₀ L h [p1, (aa, oa), (ap, op), p2, (xw, ox), (dw, od), p3, (lc, oc)])
    (h1 : @LT.lt Nat _ dw xw) (h2 : @LT.lt Nat _ lc dw) (h3 : @LT.lt Nat _ xw ap) (h4 : @LT.lt Nat _ ap aa) :
    ∃ aa2 ap2, aa2 = aa ∧ ap2 = ap ∧ News h₀ L h [(xw, ox), (dw, od), (ap2, op), (aa2, oa), (lc, oc)] ∧ @LT.lt Nat _ xw ap2 ∧ @LT.lt Nat _ ap2 aa2 := by
  refine ⟨aa, ap, rfl, rfl, fun y hy => N y ?_, h3, h4⟩
  simp only [List.mem_cons, List.not_mem_nil, or_false] at hy
  rcases hy with rfl | rfl | rfl | rfl | rfl <;> (repeat (first | exact List.Mem.head _ | apply List.Mem.tail))
/-- what holds between the turns -/
noncomputable def LawJ (W M P : Int) (xw dw ap lc : Addr) (wes : List DictEntry) (wn : Nat) (i : Nat) (pv av : Value) (nx : List (Addr × Obj)) : Prop :=
  ∃ vsP kP vsA kA aa oc cv t, nx = [(xw, instObj 361 dw), (dw, dictOf wes wn), (ap, listOf (List.toArray vsP) kP), (aa, listOf (List.toArray vsA) kA), (lc, oc)] ∧ IntsAre vsP (pls W M P i) ∧ IntsAre vsA (ahd W M P i) ∧
    oc.data = Data.cell cv ∧ pv = .int (plc W M P i) t ∧ av = .ref aa ∧ @Ne Nat aa ap ∧ @Ne Nat aa xw ∧ @Ne Nat aa dw ∧ @Ne Nat aa lc ∧ (pls W M P i).Nodup

local macro_rules | `(tactic| k_qdec) => `(tactic| decide +kernel)

theorem ints_head {vs : List Value} {ns : List Int} (h : IntsAre vs ns) {a : Int} (ha : ns[0]? = some a) : ∃ t, vs[0]? = some (Value.int a t) := by
  cases h with
  | nil => simp at ha
  | cons b t h => simp at ha; subst ha; exact ⟨t, rfl⟩
theorem t_pick {h₀ h : Heap} {L : Addr} {Ar Fm : List (Addr × Obj)} {a b c e i x d p q r : Addr × Obj} (N : News h₀ L h ([a, b, c] ++ (Ar ++ (e :: i :: x :: d :: p :: q :: r :: Fm)))) : News h₀ L h [a, i, x, d, p, q, r] := fun y hy => N y (by
  simp only [List.mem_cons, List.not_mem_nil, or_false, List.mem_append] at hy ⊢
  rcases hy with h | h | h | h | h | h | h <;> simp [h])

theorem getD_mem {l : List Int} {j : Nat} (h : j < l.length) : l.getD j 0 ∈ l := by
  have : l.getD j 0 = l[j] := by simp [List.getD, h]
  rw [this]; exact List.getElem_mem _
section
variable {prog : Program} {w : World} {A : Around} {E : Value → Shared → Prop} {s : Shared}
theorem keep_bool {M : Model} {t : Sem Bool} {Q : Bool → Shared → Prop} (b0 : Bool) (h1 : wpAny M A t (fun b s₂ => b = b0 ∧ ∃ tk, s₂ = { s with toks := tk }) E s) (h2 : ∀ tk, Q b0 { s with toks := tk }) : wpAny M A t Q E s :=
  wpAny_mono h1 (fun b s₂ h => by obtain ⟨rfl, tk, rfl⟩ := h; exact h2 tk) (fun _ _ h => h)
theorem list_K {h₀ : Heap} {L : Addr} {m : Str → Option Value} {news : List (Addr × Obj)} {l : Addr} {vs : List Value} {c : Nat} {Q : Value → Shared → Prop}
    (F : Fr h₀ L s.heap m) (N : News h₀ L s.heap news) (hm : (l, PySem.W.listOf vs.toArray c) ∈ news) (hz : vs.length ≤ 4096)
    (h : ∀ (D : Addr) (h' : Heap) (c' : Nat), Fr h₀ L h' m → News h₀ L h' ((D, PySem.W.listOf vs.toArray c') :: news) → (∀ q ∈ news, q.1 < D) → Q (.ref D) { s with heap := h' }) :
    wpAny (model prog w) A (call (.type "list") [.ref l]) Q E s :=
  call_list_seq l (.inl rfl) (N _ hm).1 rfl rfl (fun h' c' hk hD => h _ h' c' (F.keeps hk) (news_pushed F N hk hD rfl) (fun q hq => Heap.lt_size (N q hq).1)) (by rw [List.size_toArray, PySem.sizeLine_eq]; omega)
theorem c_pick {h₀ h : Heap} {L : Addr} {p1 p4 p5 p6 p8 p9 p10 i x d ap aa lc : Addr × Obj} {cA gA D8 : Addr} {oc og o8 : Obj}
    (N : News h₀ L h [p1, (cA, oc), (D8, o8), p4, p5, p6, (gA, og), p8, p9, p10, i, x, d, ap, aa, lc]) (h1 : @LT.lt Nat _ D8 cA) (h2 : @LT.lt Nat _ gA D8) :
    ∃ gA2 cA2, gA2 = gA ∧ cA2 = cA ∧ News h₀ L h [(cA2, oc), (D8, o8), (gA2, og), i, x, d, ap, aa, lc] ∧ @LT.lt Nat _ gA2 D8 ∧ @LT.lt Nat _ D8 cA2 :=
  ⟨gA, cA, rfl, rfl, fun y hy => N y (by
  simp only [List.mem_cons, List.not_mem_nil, or_false] at hy
  rcases hy with rfl | rfl | rfl | rfl | rfl | rfl | rfl | rfl | rfl <;> (repeat (first | exact List.Mem.head _ | apply List.Mem.tail))), h2, h1⟩
theorem sort_K {h₀ : Heap} {L : Addr} {m : Str → Option Value} {news : List (Addr × Obj)} {l : Addr} {vs : List Value} {c : Nat} {ns : List Int} {Q : Value → Shared → Prop}
    (F : Fr h₀ L s.heap m) (N : News h₀ L s.heap news) (hm : (l, PySem.W.listOf vs.toArray c) ∈ news) (hI : IntsAre vs ns) (h64 : ns.length < 64)
    (h : ∀ (D : Addr) (h' : Heap) (vs' : List Value) (e : Nat), Fr h₀ L h' m → News h₀ L h' ((D, PySem.W.listOf vs'.toArray e) :: news) → (∀ q ∈ news, q.1 < D) → IntsAre vs' (isort ns) → Q (.ref D) { s with heap := h' }) :
    wpAny (model prog w) A (call (.builtin "sorted") [.ref l]) Q E s :=
  sorted_N F N ⟨_, (N _ hm).1, rfl, _, rfl⟩ hI (by rw [IntsAre.length hI]; exact h64) fun h' vs' ns' e F' N' hI' hp' hs' => h _ h' vs' e F' N' (fun q hq => Nat.lt_succ_of_lt (Heap.lt_size (N q hq).1)) (by rw [← sort_eq hp' hs']; exact hI')
end

theorem tail_pick {h₀ h : Heap} {L : Addr} {a b : Addr × Obj} {rst : List (Addr × Obj)} (N : News h₀ L h (a :: b :: rst)) : ∃ r, r = rst ∧ News h₀ L h (a :: b :: r) := ⟨rst, rfl, N⟩
theorem off_same {l l' : List (Addr × Obj)} {I : Addr} (h : ∀ p ∈ l, p.1 ≠ I) (e : l'.map Prod.fst = l.map Prod.fst) : ∀ p ∈ l', p.1 ≠ I := fun p hp => by
  have h1 : p.1 ∈ l.map Prod.fst := e ▸ List.mem_map_of_mem hp
  obtain ⟨q, hq, e2⟩ := List.mem_map.mp h1
  exact e2 ▸ h q hq
theorem ahd_le (W M P : Int) (i : Nat) : (ahd W M P i).length ≤ i := by
  cases i with
  | zero => simp [ahd]
  | succ i => rw [ahd_len]; omega
theorem rcs_snoc : ∀ (l : List Int) (r c : List Int) (g : Int), rcs r c (l ++ [g]) = if (rcs r c l).1.any (· == g) then ((rcs r c l).1.erase g, (rcs r c l).2) else ((rcs r c l).1, (rcs r c l).2 ++ [g])
  | [], r, c, g => by simp only [List.nil_append, rcs]; rfl
  | a :: l, r, c, g => by
    rw [List.cons_append]
    unfold rcs
    split
    · exact rcs_snoc l _ _ g
    · exact rcs_snoc l _ _ g
theorem ints_at {vs : List Value} {ns : List Int} {j : Nat} {v : Value} (h : IntsAre vs ns) (hv : vs[j]? = some v) : ∃ g t, v = .int g t ∧ ns[j]? = some g := by
  obtain ⟨t, e⟩ := IntsAre.int_at h j v hv
  have hlt : j < ns.length := by rw [← IntsAre.length h]; exact (List.getElem?_eq_some_iff.mp hv).1
  refine ⟨_, t, e, by simp [List.getD, hlt]⟩
theorem take_snoc {l : List Int} {j : Nat} {g : Int} (h : l[j]? = some g) : l.take (j + 1) = l.take j ++ [g] := by
  rw [List.take_add_one, h]; rfl
theorem ints_kf : ∀ {vs : List Value} {ns : List Int}, IntsAre vs ns → kf_ints vs = true
  | _, _, .nil => rfl
  | _, _, .cons n t h => (ints_kf h : kf_ints _ = true)
theorem ints_del : ∀ {vs : List Value} {ns : List Int} {g : Int}, IntsAre vs ns → g ∈ ns → ∃ j q, kf_at g vs = some j ∧ ki_delL vs j = some q ∧ IntsAre q (ns.erase g)
  | _, _, g, .nil, hm => by cases hm
  | _, _, g, .cons n t h, hm => by
    by_cases e : n = g
    · subst e
      refine ⟨0, _, ?_, rfl, ?_⟩
      · unfold kf_at
        have : isInt n (Value.int n t) = true := by simp [isInt]
        rw [this]; rfl
      · simpa using h
    · have hm2 : g ∈ _ := (List.mem_cons.mp hm).resolve_left (fun h => e h.symm)
      obtain ⟨j, q, h1, h2, h3⟩ := ints_del h hm2
      refine ⟨j + 1, Value.int n t :: q, ?_, ?_, ?_⟩
      · unfold kf_at
        have : isInt g (Value.int n t) = false := by simp [isInt]; intro h; first | exact e h | exact e h.symm
        rw [this, h1]; rfl
      · unfold ki_delL; rw [h2]
      · rw [List.erase_cons_tail (by simpa using e)]; exact .cons n t h3
theorem rcs_len : ∀ (l r c : List Int), (rcs r c l).1.length ≤ r.length ∧ (rcs r c l).2.length ≤ c.length + l.length
  | [], r, c => ⟨Nat.le_refl _, Nat.le_refl _⟩
  | a :: l, r, c => by
    unfold rcs
    split
    · have := rcs_len l (r.erase a) c
      have h2 := List.length_erase_le (a := a) (l := r)
      exact ⟨by omega, by simp only [List.length_cons]; omega⟩
    · have := rcs_len l r (c ++ [a])
      simp only [List.length_append, List.length_singleton] at this
      exact ⟨by omega, by simp only [List.length_cons]; omega⟩
/-- between the turns of the inner loop -/
noncomputable def CutJ (G Ah : List Int) (cA rA : Addr) (rst : List (Addr × Obj)) (j : Nat) (nx : List (Addr × Obj)) : Prop :=
  ∃ vr kr vc kc, nx = (cA, PySem.W.listOf (List.toArray vc) kc) :: (rA, PySem.W.listOf (List.toArray vr) kr) :: rst ∧ IntsAre vr (rcs G [] (Ah.take j)).1 ∧ IntsAre vc (rcs G [] (Ah.take j)).2

local macro_rules | `(tactic| walk_at "getAttr ref") => `(tactic| (k_here; k_dflt (refine' get_own ?k1 ?k2 ?k3 ?k4 ?k5 ?k6 ?k7 ?k8 ?k9 ?_; (case k1 => k_asm); (case k2 => k_asm); (case k3 => k_inst); (case k4 => k_is); (case k5 => k_is); (case k6 => k_is); (case k7 => k_is); (case k8 => assumption); (case k9 => k_handed); k_whole)))
theorem e_pick {h₀ h : Heap} {L : Addr} {a b c d g i x dw ap aa lc : Addr × Obj} (N : News h₀ L h [a, b, c, d, g, i, x, dw, ap, aa, lc]) : News h₀ L h (i :: [x, dw, ap, g, lc]) := fun y hy => N y (by
  simp only [List.mem_cons, List.not_mem_nil, or_false] at hy
  rcases hy with rfl | rfl | rfl | rfl | rfl | rfl <;> (repeat (first | exact List.Mem.head _ | apply List.Mem.tail)))
theorem keep_boolH {A : Around} {E : Value → Shared → Prop} {s : Shared} {M : Model} {t : Sem Bool} {Q : Bool → Shared → Prop} {h₀ : Heap} {L : Addr} {m : Str → Option Value} {news : List (Addr × Obj)} (b0 : Bool) (_ : Fr h₀ L s.heap m) (_ : News h₀ L s.heap news)
    (h1 : wpAny M A t (fun b s₂ => b = b0 ∧ ∃ h' tk, s₂ = { s with heap := h', toks := tk } ∧ Fr h₀ L h' m ∧ News h₀ L h' news) E s)
    (h2 : ∀ h' tk, Fr h₀ L h' m → News h₀ L h' news → Q b0 { s with heap := h', toks := tk }) : wpAny M A t Q E s :=
  wpAny_mono h1 (fun b s₂ h => by obtain ⟨rfl, h', tk, rfl, F, N⟩ := h; exact h2 h' tk F N) (fun _ _ h => h)
theorem ints_one' {vs : List Value} {a : Int} (h : IntsAre vs [a]) : ∃ t, vs = [Value.int a t] := by
  cases h with | cons _ t h => cases h; exact ⟨t, rfl⟩
theorem ints_two {vs : List Value} {a b : Int} (h : IntsAre vs [a, b]) : ∃ t u, vs = [Value.int a t, Value.int b u] := by
  cases h with | cons _ t h => cases h with | cons _ u h => cases h; exact ⟨t, u, rfl⟩
theorem tt : PySem.Challenge.rw_xm0951_01.Holds := Mine.hd (by
  w_top off
  w_strict (k_go0; (all_goals try k_fold))
  rename Shared => sI
  iterate 57 walk_at "mine step"
  rename Fr _ _ _ _ => F1
  rename News _ _ _ _ => N1
  k_dflt refine' kmk_slice_ints ?kF ?kN ?kl ?kp ?kq ?ki ?km ?kc ?_ ?ks ?kt ?kz
  case kF => exact F1
  case kN => exact N1
  case kl => kmk_list
  case kp => kmk_part
  case kq => kmk_part
  case ki => exact .cons _ _ (.cons _ _ (.cons _ _ (.cons _ _ .nil)))
  case km => exact kmk_from (.cons _ _ (.cons _ _ (.cons _ _ (.cons _ _ .nil)))) (Int.natCast_nonneg _)
  case kc => exact rfl
  case ks => with_unfolding_all rfl
  case kt => kmk_pure
  case kz => exact Nat.le_of_ble_eq_true rfl
  intro D2 ws2 h2 F2 N2 l2 hI2 hC2 hL2
  iterate 2 walk_at "mine step"
  rename IntsAre _ (_ ++ _) => hIc
  rename News _ _ _ _ => N3
  have hlen : ∀ (l : List Int) (f : Int → Int), ((l.take 4).map f ++ List.drop ((((l.take 4).length : Nat) : Int)).toNat [10, 4, 3, 3]).length = 4 := by
    intro l f
    simp only [List.length_append, List.length_map, List.length_drop, List.length_take, List.length_cons, List.length_nil]
    omega
  obtain ⟨c0, c1, c2, c3, ec⟩ := len_four (hlen _ _)
  rw [ec] at hIc
  obtain ⟨v0, v1, v2, v3, rfl⟩ := ints_four hIc
  replace N3 := news_fl N3
  rename Fr _ _ _ _ => F3
  iterate 14 walk_at "mine step"
  obtain ⟨W, eW, hW1, hW2⟩ : ∃ W : Int, 2 + ([c0, c1, c2, c3].getD (Int.toNat 0) 0).fmod 12 = W ∧ 2 ≤ W ∧ W ≤ 13 := ⟨_, rfl, by have := fmod_lo ([c0, c1, c2, c3].getD (Int.toNat 0) 0) (n := 12) (by decide); omega, by have := fmod_hi ([c0, c1, c2, c3].getD (Int.toNat 0) 0) (n := 12) (by decide); omega⟩
  rw [eW]
  iterate 11 walk_at "mine step"
  rename News _ _ _ _ => N3
  obtain ⟨es3, n3, N4, hW3⟩ := wd_start N3 ⟨by k_get, rfl, Nat.le_refl 1⟩
  clear N3
  iterate 158 walk_at "mine step"
  walk_at "mine flat"
  rename News _ _ _ _ => N4
  rename WD _ _ _ => hW4
  obtain ⟨xw, dw, wes, wn, wt, exw, edw, N5, hwid, hdx, hrd⟩ := w_pick N4 hW4.w (by omega) (by omega)
  repeat (rename WD _ _ _ => hj; clear hj)
  subst exw
  subst edw
  clear N4
  repeat (rename (@LT.lt Nat _ _ _ ∧ _) => hj; clear hj)
  iterate 18 walk_at "mine step"
  obtain ⟨M, eM, hM1, hM2⟩ : ∃ M : Int, 1 + ([c0, c1, c2, c3].getD (Int.toNat 1) 0).fmod (W - 1) = M ∧ 1 ≤ M ∧ M ≤ W - 1 := ⟨_, rfl, by have := fmod_lo ([c0, c1, c2, c3].getD (Int.toNat 1) 0) (n := W - 1) (by omega); omega, by have := fmod_hi ([c0, c1, c2, c3].getD (Int.toNat 1) 0) (n := W - 1) (by omega); omega⟩
  rw [eM]
  iterate 8 walk_at "mine step"
  obtain ⟨P, eP, hP1, hP2⟩ : ∃ P : Int, ([c0, c1, c2, c3].getD (Int.toNat 2) 0).fmod W = P ∧ 0 ≤ P ∧ P < W := ⟨_, rfl, fmod_lo _ (by omega), fmod_hi _ (by omega)⟩
  rw [eP]
  clear eW eM eP
  iterate 34 walk_at "mine step"
  rename Fr _ _ _ _ => lF'
  with_unfolding_all refine' For_invVF lF' ?k1 ?k2 ?_
  case k1 => exact rfl
  case k2 => exact rfl
  iterate 12 walk_at "mine step"
  iterate 2 walk_at "mine step"
  obtain ⟨k, ek, hk1, hk2⟩ : ∃ k : Nat, 3 + ([c0, c1, c2, c3].getD (Int.toNat 3) 0).fmod 7 = (k : Int) ∧ 3 ≤ k ∧ k ≤ 9 := by
    have h1 := fmod_lo ([c0, c1, c2, c3].getD (Int.toNat 3) 0) (n := 7) (by decide)
    have h2 := fmod_hi ([c0, c1, c2, c3].getD (Int.toNat 3) 0) (n := 7) (by decide)
    refine ⟨(3 + ([c0, c1, c2, c3].getD (Int.toNat 3) 0).fmod 7).toNat, by omega, by omega, by omega⟩
  rw [ek]
  clear ek
  iterate 1 walk_at "mine step"
  rename Fr _ _ _ _ => F6
  rename News _ _ _ _ => N6
  with_unfolding_all refine range1_rows F6 N6 ?_
  intro h7 tk7 t7 u7 v7 rg F7 N7 _
  obtain ⟨aa, ap, eaa, eap, N8, hxa, haa⟩ := lw_pick N7 hdx hrd (by omega) (by omega)
  subst eaa
  subst eap
  clear N7
  repeat (rename (@LT.lt Nat _ _ _ ∧ _) => hj; clear hj)
  rename (Obj.data _ = Data.cell _) => hcell
  k_dflt (refine for_law (Str.ofString "place") (Str.ofString "ahead") [Str.ofString "gaps", Str.ofString "kinds", Str.ofString "rest", Str.ofString "cut", Str.ofString "gap"] (LawJ W M P xw dw ap (sI.heap.objs.size + 1) wes wn) (by rfl) rg ?hsm (n := k) ?hrn F7 N8 (by rfl) (by rfl) ?hj0 ?_ ?_)
  case hsm => exact small_one (by omega) (by omega) (by omega) (by omega)
  case hrn => exact (rangeSize_nat _ _).trans (by omega)
  case hj0 => exact ⟨[], 0, [], 0, _, _, _, _, rfl, .nil, .nil, hcell, rfl, rfl, by omega, by omega, by omega, by omega, List.nodup_nil⟩
  · intro i t pv av u nx h tk oI I hi hJ hoff F9 N9
    clear F7 N8 hcell rg
    dsimp only
    k_fold
    w_top off
    obtain ⟨vsP, kP, vsA, kA, aa, oc, cv, t, rfl, hP, hA, hcell, rfl, rfl, n1, n2, n3, n4, hnd⟩ := hJ
    have o1 : @Ne Nat xw I ∧ @Ne Nat dw I ∧ @Ne Nat ap I ∧ @Ne Nat aa I ∧ @Ne Nat (sI.heap.objs.size + 1) I := ⟨hoff _ (.head _), hoff _ (.tail _ (.head _)), hoff _ (.tail _ (.tail _ (.head _))), hoff _ (.tail _ (.tail _ (.tail _ (.head _)))), hoff _ (.tail _ (.tail _ (.tail _ (.tail _ (.head _)))))⟩
    clear hoff
    iterate 16 walk_at "mine step"
    · rename ((pls W M P i).any _ = true) => hm
      obtain ⟨hp0, hpe⟩ := plain_first (i := i) hW1 hP1 hP2 hnd (by simpa using hm)
      obtain ⟨tp, htp⟩ := ints_head hP hp0
      rw [hpe]
      k_dflt refine' item_list (vs := vsP) ?hl ?h0 ?hh ?hx ?_
      case hl => exact ⟨_, (N9 (ap, _) (.tail _ (.tail _ (.tail _ (.head _))))).1, rfl, _, rfl⟩
      case h0 => decide
      case hh => decide
      case hx => exact htp
      walk_at "mine step"
      dsimp only
      k_unfold
      unfold TurnJ
      dsimp only
      repeat walk_at "mine step"
    · rename ((pls W M P i).any _ = false) => hm
      have hm' : plc W M P i ∉ pls W M P i := by
        intro h
        have : ((pls W M P i).any fun x => x == plc W M P i) = true := by simpa using h
        rw [hm] at this
        cases this
      iterate 10 walk_at "mine step"
      k_dflt refine' append_K ?kF ?kN ?kU ?_ ?kz
      case kF => exact F9
      case kN => exact N9
      case kU => k_upd
      case kz => (simp only [List.size_toArray, hP.length, pls, List.length_map, List.length_range]; rw [PySem.sizeLine_eq]; omega)
      intro h2 F10 N10
      walk_at "mine flat"
      simp only [List.push_toArray] at N10
      have hP' : IntsAre (vsP ++ [Value.int (plc W M P i) t]) (pls W M P (i + 1)) := by
        rw [pls_succ]
        exact IntsAre.append hP (.cons _ _ .nil)
      clear F9 N9
      iterate 11 walk_at "mine step"
      k_dflt (refine LCg.ListComp_U (F₀ := F10) (by with_unfolding_all rfl) (by decide) (by rfl) (by decide) (by rfl) ?_)
      walk_at "mine step"
      k_dflt (refine LCg.CompSrc.ledger (ax := ap) (its := (vsP ++ [Value.int (plc W M P i) t]).toArray) (by rfl) F10 N10 (by k_mem) ?hsz ?_)
      case hsz => (simp only [List.size_toArray, hP'.length, pls, List.length_map, List.length_range]; rw [PySem.sizeLine_eq]; omega)
      intro g1
      have hpl : (pls W M P (i + 1)).length = (vsP ++ [Value.int (plc W M P i) t]).toArray.size := by rw [List.size_toArray, hP'.length]
      k_dflt (refine rows_rest hpl ?hS ?_ ?_)
      case hS => exact fun rs => .inr ⟨_, List.mem_append_left _ (by k_mem), rfl, _, rfl⟩
      · intro i2 v rs I2 oI2 C oC D9 m₂ h5 tk5 E' hi2 hPv hv hC hx F5 N5
        walk_at "mine flat"
        obtain ⟨z, tz, rfl, hz⟩ := IntsAre.at hP' i2 v (by simpa using hPv)
        simp only [List.cons_append, List.nil_append] at N5
        clear F10 N10
        iterate 5 walk_at "mine step"
        rename Fr _ _ _ _ => F6
        rename News _ _ _ _ => N6
        exact ⟨_, _, _, z, tz, rfl, rfl, hz, F6, N6, Nat.ne_of_gt (by omega), Nat.ne_of_gt (by omega), Nat.ne_of_gt (by omega)⟩
      · intro rs hv D8 h8 tk8 F8 N8 o8
        walk_at "mine flat"
        simp only [List.cons_append, List.nil_append] at N8
        clear F10 N10
        iterate 4 walk_at "mine step"
        have hrl : rs.length = i + 1 := by rw [← vals_len, hv]; simp [pls]
        have hfam : ∀ r ∈ rs, (r.1, listOf #[Value.int r.2.1 r.2.2] 0) ∈ fam rs := fun r hr => List.mem_map.mpr ⟨r, hr, rfl⟩
        k_dflt (refine' c_rows_array (rs := rs) ⟨?k1, ?k2, ?k3, ?k4, ?k5, ?kK, ?kd, ?ku⟩ ?kl ?kf ?kn ?_; (case k1 => k_asm); (case k2 => k_asm); (case k3 => k_asm); (case k4 => k_asm); (case k5 => k_asm); (case kK => exact rfl); (case kd => decide); (case ku => decide); k_whole)
        case kl => exact ⟨_, (N8 _ (.head _)).1, rfl, _, rfl⟩
        case kf => exact fun r hr => (N8 (r.1, _) (.tail _ (.tail _ (.tail _ (.tail _ (.tail _ (.tail _ (.tail _ (hfam r hr))))))))).1
        case kn => omega
        intro told zs1 e1 D1 x1 d1 b1 q1 q2 t1 t2 t3 t4 t5 t6 t7 t8 t9 t10 u1 u2 u3 u4 hz1 _ j1 j2 j3 j4 j5 h11 tk11 F11 N11 fr11
        walk_at "mine flat"
        clear F8 N8 o8
        iterate 8 walk_at "mine step"
        k_dflt (refine' c_sorted_array (num := 1) (n := rs.length) (told := told) (zs := zs1) (ns := vals rs) (c := e1) (D := D1) (x := x1) (d := d1) (b := b1) (q1 := q1) (q2 := q2) (t1 := t1) (t2 := t2) (t3 := t3) (t4 := t4) (t5 := t5) (t6 := t6) (t7 := t7) (t8 := t8) (t9 := t9) (t10 := t10) (u1 := u1) (u2 := u2) (u3 := u3) (u4 := u4) ⟨?k1, ?k2, ?k3, ?k4, ?k5, ?kK, ?kd, ?ku⟩ ?ki hz1 (vals_len rs) (by omega) (by omega) j1 j2 j3 j4 j5 ?_; (case k1 => k_asm); (case k2 => k_asm); (case k3 => k_asm); (case k4 => exact N11); (case ki => exact fun p hp => List.mem_append_left _ hp); (case k5 => k_asm); (case kK => exact rfl); (case kd => decide); (case ku => decide); k_whole)
        intro zs2 xs2 e2 D2 x2 d2 t1 t2 t3 t4 t5 t6 t7 t8 t9 t10 hz2 hpm hsd j6 h12 tk12 F12 N12 fr12
        walk_at "mine flat"
        have f2 : @Ne Nat (sI.heap.objs.size + 1) D2 ∧ @Ne Nat (sI.heap.objs.size + 1) x2 ∧ @Ne Nat (sI.heap.objs.size + 1) d2 :=
          ⟨fr12 _ (.head _) _ (List.mem_append_right _ (.tail _ (.tail _ (.tail _ (.tail _ (.tail _ (.tail _ (.head _)))))))),
           fr12 _ (.tail _ (.head _)) _ (List.mem_append_right _ (.tail _ (.tail _ (.tail _ (.tail _ (.tail _ (.tail _ (.head _)))))))),
           fr12 _ (.tail _ (.tail _ (.head _))) _ (List.mem_append_right _ (.tail _ (.tail _ (.tail _ (.tail _ (.tail _ (.tail _ (.head _))))))))⟩
        clear F11 N11
        walk_at "mine step"
        replace N12 := t_pick N12
        iterate 17 walk_at "mine step"
        rename Fr _ _ _ _ => F13
        rename News _ _ _ _ => N13
        have hx2l : xs2.length = i + 1 := by rw [hpm.length_eq, vals_len, hrl]
        have hz2l : zs2.length = i + 1 := by rw [hz2.length, hx2l]
        k_dflt refine' len_at (vs := zs2) (k := i + 1) ?hl hz2l (by omega) ?_
        case hl => exact ⟨_, (N13 (D2, _) (.head _)).1, rfl, _, rfl⟩
        iterate 4 walk_at "mine step"
        rename IsRange _ _ _ _ _ _ _ _ => rg
        rename Fr _ _ _ _ => F14
        rename News _ _ _ _ => N14
        k_dflt (refine LCg.CompSrc.range (n := i) (by rfl) F14 N14 rg ?hsm ?hrn ?hsz ?_)
        case hsm => exact small_one (by omega) (by omega) (by omega) (by omega)
        case hrn => exact (rangeSize_nat _ _).trans (by omega)
        case hsz => rw [PySem.sizeLine_eq]; omega
        intro g2
        k_dflt (refine kcf_range (fun k => xs2.getD (k + 1).toNat 0 - xs2.getD k.toNat 0) (fun k3 t3 I3 oI3 C3 oC3 D3 m3 ys3 h3 tk3 E3 hlo3 hhi3 hC3 hx3 F3 N3 off3 ne3 mk3 => ?_) ?_)
        · simp only [LCg.Off3, and_true] at off3
          iterate 15 walk_at "mine step"
        · intro ys4 hys4 D4 h14 tk14 F15 N15 of4
          walk_at "mine flat"
          (try clear F14)
          (try clear N14)
          (try clear rg)
          iterate 38 walk_at "mine step"
          rename IntsAre _ (_ ++ _) => hG
          rename Fr _ _ _ _ => F15
          rename News _ _ _ _ => N15
          have hx2e : xs2 = isort (pls W M P (i + 1)) := sort_eq (hpm.trans (by rw [hv])) hsd
          rw [gaps_eq hx2l, hx2e] at hG
          have hnd' : (pls W M P (i + 1)).Nodup := nodup_next hnd hm'
          w_top off
          obtain ⟨hv1, hv3⟩ := plain_gaps (i := i) hW1 hW2 hM1 hM2 hP1 hP2 (by omega) hnd'
          have hG' : IntsAre _ (ahd W M P (i + 1)) := hG
          clear hG
          k_dflt (refine' set_list_N F15 N15 ?hh ?hl hG' hv1 hv3 ?_)
          case hh => exact rfl
          case hl => exact News.isList N15 (by k_mem)
          intro D5 h15 tk15 es5 ep5 ks5 F16 N16 lt5 hes hks5 hkp5
          walk_at "mine flat"
          clear F15 N15
          walk_at "mine step"
          have hg5 : ∀ wo : World, goodT (tab (!byTxt wo) (metOf (ahd W M P (i + 1)))) es5.size = true ∧ (tab (!byTxt wo) (metOf (ahd W M P (i + 1)))).led = (!byTxt wo) := by
            intro wo; rw [hes]; exact tab_good _ (fun x hx => by obtain ⟨j, hj, rfl⟩ := met_mem hx; exact hv1 _ (getD_mem hj)) hv3
          k_dflt (refine' list_set (hg5 _).1 (hg5 _).2 ?hn hks5 ?hh F16 N16 (.head _) ?_)
          case hn => rw [hes, PySem.sizeLine_eq]; exact Nat.le_trans hv3 (by decide)
          case hh => exact rfl
          intro D6 c6 h16 tk16 vs6 ks6 F17 N17 lt6 hvs6 hkp6
          walk_at "mine flat"
          clear F16 N16
          have hkp : List.Perm ks6 (metOf (ahd W M P (i + 1))) := hkp6.trans hkp5
          clear hkp6 hkp5 hks5
          walk_at "mine step"
          k_dflt (refine' sort_K F17 N17 (.head _) hvs6 ?h64 ?_)
          case h64 => rw [hkp.length_eq]; omega
          intro D7 h17 vs7 e7 F18 N18 lt7 hvs7
          walk_at "mine flat"
          rw [isort_congr hkp] at hvs7
          have hvs7' : IntsAre vs7 (kindsOf (ahd W M P (i + 1))) := hvs7
          clear F17 N17 hvs7
          obtain ⟨hK1, hK2, hK3, hK4⟩ := plain_kinds (i := i) hW1 hW2 hM1 hM2 hP1 hP2 (by omega) hnd'
          replace hK3 : 1 ≤ (kindsOf (ahd W M P (i + 1))).getD (Int.toNat 0) 0 := hK3
          replace hK4 : (kindsOf (ahd W M P (i + 1))).length = 3 → (kindsOf (ahd W M P (i + 1))).getD (Int.toNat 2) 0 = (kindsOf (ahd W M P (i + 1))).getD (Int.toNat 0) 0 + (kindsOf (ahd W M P (i + 1))).getD (Int.toNat 1) 0 := hK4
          generalize kindsOf (ahd W M P (i + 1)) = K at hvs7' hK1 hK2 hK3 hK4
          iterate 28 walk_at "mine step"
          k_dflt refine keep_bool false ?_ ?_
          · iterate 13 walk_at "mine step"
            · have hK5 := hK4 (by omega)
              iterate 19 walk_at "mine step"
              · exfalso; omega
              · exact ⟨rfl, _, rfl⟩
            · exact ⟨trivial, _, rfl⟩
          · intro tkb
            dsimp only
            iterate 14 walk_at "mine step"
            rename Fr _ _ _ _ => F19
            rename News _ _ _ _ => N19
            have hlw := IntsAre.length hG'
            have hlw2 : (ahd W M P (i + 1)).length = i + 1 := ahd_len W M P i
            k_dflt (refine' list_K F19 N19 (by k_mem) ?hz ?_)
            case hz => omega
            intro D8' h18 c8 F20 N20 lt8
            walk_at "mine flat"
            clear F19 N19
            iterate 16 walk_at "mine step"
            rename News _ _ _ _ => N21
            obtain ⟨gA, cA, egA, ecA, N22, hgr, hrc⟩ := c_pick N21 (by omega) (lt8 _ (.tail _ (.tail _ (.tail _ (.head _)))))
            subst egA
            subst ecA
            have f8 : @LT.lt Nat _ I D8' ∧ @LT.lt Nat _ xw D8' ∧ @LT.lt Nat _ dw D8' ∧ @LT.lt Nat _ ap D8' ∧ @LT.lt Nat _ aa D8' ∧ @LT.lt Nat _ (sI.heap.objs.size + 1) D8' :=
              ⟨lt8 (I, oI) (by k_mem), lt8 (xw, _) (by k_mem), lt8 (dw, _) (by k_mem), lt8 (ap, _) (by k_mem), lt8 (aa, _) (by k_mem), lt8 (sI.heap.objs.size + 1, _) (by k_mem)⟩
            have fg : @LT.lt Nat _ ap gA ∧ @LT.lt Nat _ xw gA ∧ @LT.lt Nat _ dw gA ∧ @LT.lt Nat _ (sI.heap.objs.size + 1) gA ∧ @LT.lt Nat _ I gA := ⟨by omega, by omega, by omega, by omega, by omega⟩
            clear N21
            rename Fr _ _ _ _ => lF'
            with_unfolding_all refine' For_invVF lF' ?k1 ?k2 ?_
            case k1 => exact rfl
            case k2 => exact rfl
            walk_at "mine step"
            w_top off
            obtain ⟨fg1, fg2, fg3, fg4, fg5⟩ := fg
            obtain ⟨f81, f82, f83, f84, f85, f86⟩ := f8
            repeat (rename (@LT.lt Nat _ _ _ ∧ _) => hj; clear hj)
            obtain ⟨rst, erst, N23⟩ := tail_pick N22
            clear N22
            k_dflt (refine for_ledS (vs := vsA) (k := kA) [] (CutJ (ahd W M P (i + 1)) (ahd W M P i) cA D8' rst) (by rfl) ?hl ?hk lF' N23 ?hj0 ?_ ?_)
            case hl => subst erst; k_mem
            case hk => rintro j nx ⟨vr, kr, vc, kc, rfl, _, _⟩; subst erst; k_mem
            case hj0 => exact ⟨_, _, [], 0, rfl, hG', .nil⟩
            · intro j v u nx h tk oI2 I2 hv hJ hoff F30 N30
              obtain ⟨vr, kr, vc, kc, rfl, hvr, hvc⟩ := hJ
              subst erst
              clear N23
              obtain ⟨g, tg, rfl, hg⟩ := ints_at hA hv
              have hlens := rcs_len ((ahd W M P i).take j) (ahd W M P (i + 1)) []
              have hal2 := ahd_le W M P i
              have htl := List.length_take_le j (ahd W M P i)
              simp only [List.length_nil, Nat.zero_add] at hlens
              have hjl : j < (ahd W M P i).length := (List.getElem?_eq_some_iff.mp hg).1
              have hal := IntsAre.length hA
              have hLv := hvr.length
              have hLc := hvc.length
              have hsn := rcs_snoc ((ahd W M P i).take j) (ahd W M P (i + 1)) [] g
              rw [← take_snoc hg] at hsn
              iterate 9 walk_at "mine step"
              · rename (List.any _ _ = true) => hin
                rw [if_pos hin] at hsn
                obtain ⟨jj, q, hk1', hk2', hk3'⟩ := ints_del hvr (g := g) (by simpa using hin)
                have hoff2 : @Ne Nat cA I2 ∧ @Ne Nat D8' I2 := ⟨hoff _ (.head _), hoff _ (.tail _ (.head _))⟩
                iterate 9 walk_at "mine step"
                k_dflt (refine' kf_remove F30 N30 ?hi hk1' hk2' ?U ?hz ?_)
                case hi => exact ints_kf hvr
                case U => k_upd
                case hz => (rw [PySem.sizeLine_eq]; show vr.length ≤ _; omega)
                intro h31 F31 N31
                clear F30 N30
                iterate 3 walk_at "mine step"
                exact ⟨_, _, _, _, rfl, F31, N31, off_same hoff rfl, ⟨q, kr + 1, vc, kc, rfl, by rw [hsn]; exact hk3', by rw [hsn]; exact hvc⟩, fun z h1 _ => by simp only [if_neg h1]; rfl⟩
              · rename (List.any _ _ = false) => hin
                rw [if_neg (by rw [hin]; decide)] at hsn
                have hoff2 : @Ne Nat cA I2 ∧ @Ne Nat D8' I2 := ⟨hoff _ (.head _), hoff _ (.tail _ (.head _))⟩
                iterate 9 walk_at "mine step"
                k_dflt refine' append_K ?kF ?kN ?kU ?_ ?kz
                case kF => exact F30
                case kN => exact N30
                case kU => k_upd
                case kz => (simp only [List.size_toArray]; rw [PySem.sizeLine_eq]; omega)
                intro h31 F31 N31
                simp only [List.push_toArray] at N31
                clear F30 N30
                iterate 3 walk_at "mine step"
                exact ⟨_, _, _, _, rfl, F31, N31, off_same hoff rfl, ⟨vr, kr, _, _, rfl, by rw [hsn]; exact hvr, by rw [hsn]; exact hvc.append (.cons _ _ .nil)⟩, fun z h1 _ => by simp only [if_neg h1]; rfl⟩
            · intro u nx h tk hJ F30 N30
              obtain ⟨vr, kr, vc, kc, rfl, hvr, hvc⟩ := hJ
              subst erst
              clear N23
              rw [hA.length, List.take_length] at hvr hvc
              w_top off
              iterate 2 walk_at "mine step"
              k_dflt refine keep_boolH false F30 N30 ?_ ?_
              · iterate 7 walk_at "mine step"
                · obtain ⟨g, r1, r2, e1, e2', e3, e4, e5'⟩ := plain_cut (i := i) hW1 hW2 hM1 hM2 hP1 hP2 (by omega) hnd' (by omega)
                  rw [e1] at hvc
                  rw [e2'] at hvr
                  obtain ⟨t1, rfl⟩ := ints_one' hvc
                  obtain ⟨t2, t3, rfl⟩ := ints_two hvr
                  iterate 12 walk_at "mine step"
                  rename Fr _ _ _ _ => F40
                  rename News _ _ _ _ => N40
                  k_dflt (refine' kso_max F40 N40 ?hl hA ?hne ?hh ?_)
                  case hl => exact News.isList N40 (by k_mem)
                  case hne => exact List.length_pos_of_mem e4
                  case hh => exact rfl
                  intro h41 mx tmx tk41 F41 N41 hmx1 hmx2
                  obtain rfl : mx = r1 + r2 := by have h1 := e5' mx hmx1; have h2 := hmx2 g e4; omega
                  clear F40 N40
                  subst e3
                  iterate 33 walk_at "mine step"
                  walk_at "mine step"
                  · exfalso
                    rename (_ ≠ _) => hne
                    exact hne (by show r1 + (r2 + 0) = r1 + r2; omega)
                  · iterate 2 walk_at "mine step"
                    rename Fr _ _ _ _ => F42
                    rename News _ _ _ _ => N42
                    exact ⟨trivial, _, _, rfl, F42, fun p hp => N42 p (.tail _ hp)⟩
                · exact ⟨rfl, _, _, rfl, F30, N30⟩
              · intro h43 tkb F43 N43
                clear F30 N30
                dsimp only
                have hpr := plc_range (M := M) hW1 hP1 hP2 i
                iterate 80 walk_at "mine step"
                iterate 88 walk_at "mine step"
                k_dflt (refine' c_remainder (x := plc W M P i + M) (y := W) ?kx ?kx2 ?ky ?ky2 ⟨?k1, ?k2, ?k3, ?k4, ?k5, ?kK, ?kd, ?ku⟩ ?_; (case k1 => k_asm); (case k2 => k_asm); (case k3 => k_asm); (case k4 => k_asm); (case k5 => k_asm); (case kK => first | assumption | exact rfl); (case kd => first | decide | ktr_room); (case ku => first | decide | ktr_units); (case kx => omega); (case kx2 => omega); (case ky => omega); (case ky2 => omega); k_whole)
                intro t50 h50 tk50 F50 N50
                simp only [List.nil_append] at N50
                obtain ⟨r, er, hr1, hr2⟩ : ∃ r, (plc W M P i + M) % W = r ∧ 0 ≤ r ∧ r ≤ 12 := ⟨_, rfl, Int.emod_nonneg _ (by omega), by have := Int.emod_lt_of_pos (plc W M P i + M) (show 0 < W by omega); omega⟩
                rw [er]
                iterate 40 walk_at "mine step"
                · iterate 13 walk_at "mine step"
                  · iterate 21 walk_at "mine step"
                    rename Fr _ _ _ _ => F60
                    rename News _ _ _ _ => N60
                    rename (Obj.data _ = Data.cell _) => hcell2
                    refine ⟨_, _, _, _, rfl, F60, e_pick N60, ?_, _, _, rfl, rfl, ⟨_, _, _, _, gA, _, _, t50, rfl, hP', hG', hcell2, by rw [show plc W M P (i + 1) = r from er], rfl, ?_, ?_, ?_, ?_, hnd'⟩, ?_⟩
                    · intro p hp
                      simp only [List.mem_cons, List.not_mem_nil, or_false] at hp
                      rcases hp with rfl | rfl | rfl | rfl | rfl
                      · exact o1.1
                      · exact o1.2.1
                      · exact o1.2.2.1
                      · exact Nat.ne_of_gt fg5
                      · exact o1.2.2.2.2
                    · exact Nat.ne_of_gt fg1
                    · exact Nat.ne_of_gt fg2
                    · exact Nat.ne_of_gt fg3
                    · exact Nat.ne_of_gt fg4
                    · intro z h1 h2 h3 h4
                      have hz : z ≠ Str.ofString "gaps" ∧ z ≠ Str.ofString "kinds" ∧ z ≠ Str.ofString "rest" ∧ z ≠ Str.ofString "cut" ∧ z ≠ Str.ofString "gap" := by
                        refine ⟨?_, ?_, ?_, ?_, ?_⟩ <;> (intro e; rw [e] at h4; revert h4; decide)
                      simp only [if_neg h1, if_neg h2, if_neg h3, if_neg hz.1, if_neg hz.2.1, if_neg hz.2.2.1, if_neg hz.2.2.2.1, if_neg hz.2.2.2.2, h4, List.contains_nil, Bool.false_eq_true, if_false]
                  · exfalso
                    rename (¬ _) => hc
                    exact hc (Int.lt_of_le_of_lt hr2 (by decide))
                · exfalso
                  rename (¬ _) => hc
                  exact hc (Int.le_trans (by decide : -(1 * 2 ^ ((32 : Int) - 1).toNat) ≤ (0 : Int)) hr1)
  · intro m₁ nx h tk F9 N9
    dsimp only
    repeat walk_at "mine step")
end Mine
theorem PySem.Challenge.cw_xm0951_01_holds : PySem.Challenge.rw_xm0951_01.Holds := by
  exact Mine.tt
