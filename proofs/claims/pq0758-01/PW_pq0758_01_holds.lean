import PyProof.Rows.All
import Wide.All
import OpenK.AllK
import Wide.FinOn
import Lean
import PySem.Challenge.RW_pq0758_01
open PySem PySem.W PySem.Calls PyProof.Rows
set_option Elab.async false
set_option maxRecDepth 100000
set_option maxHeartbeats 8000000
set_option linter.unusedVariables false
set_option compiler.extract_closed false
local macro_rules | `(tactic| k_room) => `(tactic| exact Nat.le_of_ble_eq_true rfl)
local macro_rules | `(tactic| k_qdec) => `(tactic| kernel_rfl)
namespace Mine
section
theorem off0 : True := by
  w_top off
  exact True.intro
noncomputable def runQ (stp : SharedT → Thread → Option (SharedT × Thread)) (ok thr : Thread → Bool) : Nat → SharedT → Thread → Option SharedT
  | 0, _, _ => none
  | n + 1, s, t => match thr t with
    | true => some s
    | false => match ok t with
      | false => none
      | true => match stp s t with
        | some (s', t') => runQ stp ok thr n s' t'
        | none => none
theorem runQ_of {tb : String → Option Builtin} {p : Program} {w : World} {n₀ : Nat} {ann : Option Value} : ∀ {n : Nat} {s s' : SharedT} {t : Thread}, runQ (stepT (denote tb) p w) (stepOk n₀ ann) through n s t = some s' → topRun tb p w n₀ ann n s.abs t = some s'.abs
  | 0, _, _, _, h => by cases h
  | n + 1, s, s', t, h => by
    unfold runQ at h
    unfold topRun
    cases he : through t with
    | true => rw [he] at h; cases h; rfl
    | false =>
      rw [he] at h
      cases hk : stepOk n₀ ann t with
      | false => rw [hk] at h; cases h
      | true =>
        rw [hk] at h
        cases hs : stepT (denote tb) p w s t with
        | none => rw [hs] at h; cases h
        | some r => obtain ⟨s₂, t₂⟩ := r; rw [hs] at h; rw [stepT_spec hs]; exact runQ_of h
theorem left_tree {p q : Program} {loose : List Str} {Xt : Shared → Bool} {α : Type} {Yf : Shared → α} {Ya : World → α} {N : Nat} {g0 : Bool} {H₀ : Params → Heap} {T : Params → BT} {n : Nat} {life : Life} {gs : Array GenState} {d : Drawn} {k : Nat} {m₀ : Nat} {ann : Option Value} {M : Nat}
    (open_ : ∀ w : World, (fencedOpening treeTable p w N).map (fun s => (s.heap, s.gens, s.drawn, s.toks)) = some (H₀ w.params, gs, d, k))
    (tree : ∀ w : World, H₀ w.params = absHeap (T w.params) n life)
    (size : ∀ w : World, ((H₀ w.params).isNs mainGlobals && gs.size == 0, (H₀ w.params).objs.size, (H₀ w.params).nsMap mainGlobals "__annotations__") = (true, m₀, ann))
    (le : Nat.ble M N = true)
    (run : ∀ (w : World) (os : OsState), (runQ (stepT (denote treeTable) p w) (stepOk m₀ ann) through M ⟨T w.params, n, life, gs, d, k, os⟩ (topStub p)).map (fun s => ((staticsOk (importedModules p.main.body) (H₀ w.params) s.abs.heap && namesBound p s.abs.heap && gensDone s.abs && laidKept (H₀ w.params) s.abs.heap),
        openSeen q loose (importedModules p.main.body) Xt g0 s.abs, Yf s.abs)) = some (true, openGood q loose, Ya w)) : LeftO p q loose Xt Yf Ya N g0 := fun w => by
  obtain ⟨⟨h, gs', d', k', os⟩, e, e'⟩ := Option.map_eq_some_iff.mp (open_ w)
  obtain ⟨rfl, rfl, rfl, rfl⟩ : h = H₀ w.params ∧ gs' = gs ∧ d' = d ∧ k' = k := by simpa using e'
  obtain ⟨z1, z2, z3⟩ : _ ∧ _ ∧ _ := by simpa only [Prod.mk.injEq] using size w
  obtain ⟨s, r0, rl⟩ := Option.map_eq_some_iff.mp (run w os)
  obtain ⟨l1, l2, l3⟩ : _ ∧ _ ∧ _ := by simpa only [Prod.mk.injEq] using rl
  have r := topRun_mono (N - M) _ _ _ _ (runQ_of r0)
  rw [show M + (N - M) = N by have := Nat.le_of_ble_eq_true le; omega] at r
  have hs : (⟨T w.params, n, life, gs', d', k', os⟩ : SharedT).abs = ⟨H₀ w.params, gs', d', k', os⟩ := by
    rw [tree w]; rfl
  rw [hs] at r
  have t : topFrom treeTable p w N ⟨H₀ w.params, gs', d', k', os⟩ = some s.abs := by
    unfold topFrom
    dsimp only
    rw [z1, z2, z3, r]
    show (match staticsOk (importedModules p.main.body) (H₀ w.params) s.abs.heap && namesBound p s.abs.heap && gensDone s.abs && laidKept (H₀ w.params) s.abs.heap with | true => _ | false => _) = _
    rw [l1]
  unfold openEnds
  rw [e]
  show (topFrom treeTable p w N _).map _ = _
  rw [t]
  exact congrArg some (Prod.ext l2 l3)
theorem good_tw (q : Program) (loose : List Str) : openGood q loose = (Seen.mk (List.map (fun d => some d.shape) (Fast.tw3399658132070893891 q)) true [] true true true 0, bltViewBooted, true, true, (List.map (fun d => some d.1.shape) (Fast.tw3247288618530077131 q), true), List.map (fun c => some c.withCmp.plainShape) (Fast.tw210736558901404530 q (Fast.tw821141287760084731 q loose)), List.map (fun c => some (c.plainShape, true)) (Fast.tw4354255287344443571 q loose), (List.map (fun d => some d.1.shape) (Fast.tw694669760492028198 q), true), List.map (fun c => (wclsGood c, (some (c.plainShape, true) : Option (PlainShape × Bool)))) (Fast.tw1571739515156823405 q loose)) := by
  rw [← Fast.te3399658132070893891, ← Fast.te3247288618530077131, ← Fast.te210736558901404530, ← Fast.te821141287760084731, ← Fast.te4354255287344443571, ← Fast.te694669760492028198, ← Fast.te1571739515156823405]
  rfl
theorem left_tw {p q : Program} {loose : List Str} {Xt : Shared → Bool} {α : Type} {Yf : Shared → α} {Ya : World → α} {N : Nat} {g0 : Bool} {H₀ : Params → Heap} {T : Params → BT} {n : Nat} {life : Life} {gs : Array GenState} {d : Drawn} {k : Nat} {m₀ : Nat} {ann : Option Value} {M : Nat}
    (open_ : ∀ w : World, (fencedOpening treeTable p w N).map (fun s => (s.heap, s.gens, s.drawn, s.toks)) = some (H₀ w.params, gs, d, k))
    (tree : ∀ w : World, H₀ w.params = absHeap (T w.params) n life)
    (size : ∀ w : World, ((H₀ w.params).isNs mainGlobals && gs.size == 0, (H₀ w.params).objs.size, (H₀ w.params).nsMap mainGlobals (Str.ofString "__annotations__")) = (true, m₀, ann))
    (le : Nat.ble M N = true)
    (run : ∀ (w : World) (os : OsState), (runQ (Fast.tw10156331382660048174 (Fast.tw11892475500146522536 Fast.tw14364793385576792824) p w) (Fast.tw6613529449190102663 m₀ ann) through M ⟨T w.params, n, life, gs, d, k, os⟩ (topStub p)).map (fun s => ((staticsOk (Fast.tw5923862056798008813 p.main.body) (H₀ w.params) s.abs.heap && namesBound p s.abs.heap && gensDone s.abs && laidKept (H₀ w.params) s.abs.heap),
        Fast.tw4187177175401517315 q loose (Fast.tw5923862056798008813 p.main.body) Xt g0 s.abs, Yf s.abs)) = some (true, (Seen.mk (List.map (fun d => some d.shape) (Fast.tw3399658132070893891 q)) true [] true true true 0, bltViewBooted, true, true, (List.map (fun d => some d.1.shape) (Fast.tw3247288618530077131 q), true), List.map (fun c => some c.withCmp.plainShape) (Fast.tw210736558901404530 q (Fast.tw821141287760084731 q loose)), List.map (fun c => some (c.plainShape, true)) (Fast.tw4354255287344443571 q loose), (List.map (fun d => some d.1.shape) (Fast.tw694669760492028198 q), true), List.map (fun c => (wclsGood c, (some (c.plainShape, true) : Option (PlainShape × Bool)))) (Fast.tw1571739515156823405 q loose)), Ya w)) : LeftO p q loose Xt Yf Ya N g0 := by
  refine left_tree open_ tree size le fun w os => ?_
  rw [good_tw, Fast.te10156331382660048174, Fast.te11892475500146522536, Fast.te14364793385576792824, Fast.te6613529449190102663, Fast.te5923862056798008813, Fast.te4187177175401517315]
  exact run w os
noncomputable def bootT : Params → BT := fun P =>
  .node (boot_o_0 P)
    (.node (boot_o_1 P) (.node (boot_o_3 P) (.node (boot_o_7 P) .nil .nil) .nil) (.node (boot_o_5 P) (.node (boot_o_9 P) .nil .nil) .nil))
    (.node (boot_o_2 P) (.node (boot_o_4 P) (.node (boot_o_8 P) .nil .nil) .nil) (.node (boot_o_6 P) (.node (boot_o_10 P) .nil .nil) .nil))
theorem bootT_abs (w : World) : boot_heap w.params = absHeap (bootT w.params) 11 {} := by kernel_rfl
theorem boot_size (w : World) : ((boot_heap w.params).isNs mainGlobals && (Array.mk ([] : List GenState)).size == 0, (boot_heap w.params).objs.size, (boot_heap w.params).nsMap mainGlobals (Str.ofString "__annotations__")) = (true, 11, some (Value.ref 6)) := by kernel_rfl
end
section
theorem off1 : True := by
  w_top off
  exact True.intro
theorem ws : OpenLaw.wellSaid PySem.Challenge.rw_pq0758_01 = true := by
  rw [Fast.te9446332074065402090]
  delta Fast.tw9446332074065402090
  delta Fast.tw17960256430627541270
  delta Fast.tw2436336058641802641
  delta Fast.tw12908688711261696721
  repeat' (with_reducible refine look_both ?_ ?_)
  all_goals as_aux_lemma => kernel_rfl
section
local macro_rules
  | `(tactic| refine $h:ident (q := $q) $as*) => `(tactic| (refine' $h:ident (q := $q) $as*; (· (refine left_tw (M := 2800) (boot_open (by kernel_rfl) (by decide) (fun _ => by kernel_rfl)) bootT_abs boot_size (by decide) ?_; intro w os; kernel_rfl))))
local macro_rules | `(tactic| o_law) => `(tactic| refine holds_law ws fun said => ?_)
open_top hd for PySem.Challenge.rw_pq0758_01
end
theorem topOff : True := by
  w_top off
  exact True.intro
end
section
theorem off2 : True := by
  w_top off
  exact True.intro
/-- a roomy place with the given frames -/
noncomputable def bigA (d u : Nat) (fs : List Env) : Around := { handled := none, depth := d, frames := some fs, guards := some [], units := u }
structure Fits (A : Around) (d u : Nat) (fs : List Env) : Prop where
  handled : A.handled = none
  depth : A.depth ≤ d
  frames : A.frames = some fs
  guards : A.guards = some []
  units : A.units ≤ u
theorem in_big {A : Around} {d u : Nat} {fs : List Env} (f : Fits A d u fs) {Γ : Ctx} (h : Γ.In A) : Γ.In (bigA d u fs) :=
  ⟨h.1.trans f.handled, Nat.le_trans h.2.1 f.depth, fun l hl => h.2.2.1 l (f.frames.trans hl), fun g hg => h.2.2.2.1 g (f.guards.trans hg), Nat.le_trans h.2.2.2.2 f.units⟩
theorem wp_big {α : Type} {M : Model} {A : Around} {t : Sem α} {Q : α → Shared → Prop} {E : Value → Shared → Prop} {s : Shared} {d u : Nat} {fs : List Env} (f : Fits A d u fs)
    (h : wpAny M (bigA d u fs) t Q E s) : wpAny M A t Q E s := fun Γ p hΓ => h Γ p (in_big f hΓ)
theorem below_big {A₀ : Around} {base h₀ : Heap} {outer : List Env} (B : Below A₀ base outer h₀) (d u : Nat) : Below (bigA d u outer) base outer h₀ := ⟨rfl, B.stays, B.frames⟩
/-- how a pure call comes back -/
noncomputable def PureBack (g : Heap) (need : List (Addr × Obj)) (s₀ : Shared) (P : Value → Prop) (v : Value) (s' : Shared) : Prop :=
  ∃ h' tk' L' m' news', s' = { s₀ with heap := h', toks := tk' } ∧ Fr g L' h' m' ∧ News g L' h' news' ∧ (∀ p ∈ need, p ∈ news') ∧ P v
section
variable {prog : Program} {w : World} {A : Around} {s : Shared} {E : Value → Shared → Prop} {base h₀ : Heap} {outer : List Env} {L : Addr} {m mg mb : Str → Option Value} {env : Env} {need : List (Addr × Obj)} {K : Frag}
  {name qual : Str} {params : Arguments} {body : List Stmt} {scope : Scope} {dV kV doc pm cdv ct oc : Value} {an od : Option Addr} {osl : Array (Option Value)} {f : Addr} {args : List Value} {binds : List (Str × Value)}
  {pr : Program} {loose : List Str} {mean : ExcName → Option Value}
theorem call_pure {A₀ : Around} {P : Value → Prop} {Q : Value → Shared → Prop} (d u : Nat) (B : Below A₀ base outer h₀) (F : Fr h₀ L s.heap m) (N : News h₀ L s.heap need) (X₀ : K.In h₀) (T : Top pr loose mean mg mb h₀)
    (fits : Fits A d u (env :: outer)) (hf : env.frame = some L) (hke : env.scope.kind = .function)
    (ho : K.lookup f = some ⟨oc, od, .func (fnOf name qual params body scope dV kV doc pm an cdv ct), osl⟩) (hcd : codeIn K cdv qual = true) (hroom : d < recursionLimit)
    (hbind : BindsTo s (fnOf name qual params body scope dV kV doc pm an cdv ct) ⟨args, []⟩ binds) (hloc : ∀ y ∈ binds, scope.names.lookup y.1 = some .local)
    (h : ∀ g L' h₁, Fr g L' h₁ (fun y => binds.reverse.lookup y) → News g L' h₁ need → Below (bigA d u (env :: outer)) base (env :: outer) g → K.In g → Top pr loose mean mg mb g →
      (∀ b o, s.heap.get? b = some o → b ∉ need.map (·.1) → g.get? b = some o) → (∀ p ∈ need, p.1 < L') →
      wpAny (model prog w) ((bigA d u (env :: outer)).deeper (envOf qual scope L' f cdv)) (execs body (envOf qual scope L' f cdv))
        (fun fl s' => PureBack g need s P (match fl with | .ret v => v | _ => .none) s') (fun _ _ => False)
        { s with heap := h₁, toks := s.toks + binds.length })
    (hQ : ∀ v h' tk', P v → (∀ b o, s.heap.get? b = some o → h'.get? b = some o) → Fr h₀ L h' m → Q v { s with heap := h', toks := tk' })
    (hco : scope.isCoroutine = false) (hgen : scope.isGenerator = false) (hk : scope.kind = .function) (hcell : ∀ x ∈ scope.names, x.2 ≠ .cell) :
    wpAny (model prog w) A (call (.ref f) args) Q E s := by
  refine wp_big fits ?_
  obtain ⟨FG, BG, st, lv⟩ := groundX (R := fun _ _ => True) B F N (show (bigA d u (env :: outer)).frames = _ from rfl) hf hke
  have BG' : Below (bigA d u (env :: outer)) base (env :: outer) (hideAll s.heap (need.map (·.1))) := BG
  have keepAll : ∀ b o, s.heap.get? b = some o → b ∉ need.map (·.1) → (hideAll s.heap (need.map (·.1))).get? b = some o := fun b o e q => hideAll_get _ e q
  refine wpAny_call (codeAny_call_def (fd := fnOf name qual params body scope dV kV doc pm an cdv ct) (body := body) (binds := binds) hroom ((X₀.keeps F.keep) _ _ ho) rfl (T.nolimit.keeps F.keep) (codeRec_of (X₀.keeps F.keep) hcd) rfl hbind hcell hloc (fun h₁ hns hk₁ => ?_) hco hgen hk)
  refine wpAny_mono (h _ s.heap.objs.size h₁ ⟨hns, fun b o e => hk₁ b o (of_hideAll _ e), Nat.le_of_eq (hideAll_size _ _)⟩
    (fun p hp => ⟨hk₁ _ _ (N p hp).1, Nat.ne_of_lt (Heap.lt_size (N p hp).1), hideAll_none _ (List.mem_map_of_mem hp)⟩) BG' (X₀.keeps st) (T.keeps st) keepAll (fun p hp => Heap.lt_size (N p hp).1)) (fun fl s' hl => ?_) fun _ _ y => y.elim
  obtain ⟨h', tk', L', m', news', rfl, F', N', hn, hP⟩ := hl
  have keep : ∀ b o, s.heap.get? b = some o → h'.get? b = some o := fun b o e => by
    by_cases q : b ∈ need.map (·.1)
    · obtain ⟨p, hp, rfl⟩ := List.mem_map.mp q
      have e1 := (N p hp).1
      rw [e] at e1
      cases Option.some.inj e1
      exact (N' p (hn p hp)).1
    · exact F'.keep b o (keepAll b o e q)
  refine hQ _ _ _ hP keep ?_
  obtain ⟨oL, es, ep, hL, r⟩ := F.ns
  exact ⟨⟨oL, es, ep, keep _ _ hL, r⟩, fun b o e => keep b o (F.keep b o e), F.above⟩
theorem News.keepAll {h h' : Heap} {news : List (Addr × Obj)} (N : News h₀ L h news) (k : ∀ b o, h.get? b = some o → h'.get? b = some o) : News h₀ L h' news := fun p hp => ⟨k _ _ (N p hp).1, (N p hp).2⟩
theorem News.sub {h : Heap} {news news' : List (Addr × Obj)} (N : News h₀ L h news) (k : ∀ p ∈ news', p ∈ news) : News h₀ L h news' := fun p hp => N p (k p hp)
end
end
section
theorem off3 : True := by
  w_top off
  exact True.intro
noncomputable abbrev Locs := Str → Option Value
noncomputable abbrev Ledger := List (Addr × Obj)
noncomputable def Turned (h₀ : Heap) (L I : Addr) (o : Obj) (J : Locs → Ledger → Prop) (s : Shared) (Q : Flow → Shared → Prop) (f : Flow) (s' : Shared) : Prop :=
  match f with
  | .ret v => Q (.ret v) s'
  | .brk => Q .next s'
  | _ => ∃ h' tk' m' news', s' = { s with heap := h', toks := tk' } ∧ Fr h₀ L h' m' ∧ News h₀ L h' ((I, o) :: news') ∧ (∀ p ∈ news', p.1 ≠ I) ∧ J m' news'
noncomputable def LoopAtR (prog : Program) (w : World) (A : Around) (h₀ : Heap) (env : Env) (target : Expr) (body : List Stmt) (Q : Flow → Shared → Prop) (it : Value) (s₂ : Shared) : Prop :=
  ∃ (I : Addr) (fp : List Addr) (n : Nat) (P : Nat → Value → Prop) (St : Nat → Heap → Prop) (m : Locs) (news : Ledger) (J : Nat → Locs → Ledger → Prop),
    it = .ref I ∧ Walks prog w A I fp [I] n P St ∧ (∀ b ∈ fp, b = I ∨ ∃ o, ∀ i m news, J i m news → (b, o) ∈ news) ∧ h₀.get? I = none ∧ env.locals ≠ I ∧ St 0 s₂.heap ∧
    Fr h₀ env.locals s₂.heap m ∧ News h₀ env.locals s₂.heap news ∧ (∀ p ∈ news, p.1 ≠ I) ∧ (∀ i h, St i h → ∃ o, h.get? I = some o) ∧
    (∀ i (s' : Shared) v (Q' : Unit → Shared → Prop), St i s'.heap → Q' () s' → wpAny (model prog w) A (letOwnedTupleGo target (.ref I) v) Q' (fun _ _ => False) s') ∧ J 0 m news ∧
    (∀ i v m₁ news₁ h tk o, i < n → P i v → J i m₁ news₁ → (∀ p ∈ news₁, p.1 ≠ I) → Fr h₀ env.locals h m₁ → News h₀ env.locals h ((I, o) :: news₁) →
      wpAny (model prog w) A (assign target env v) (fun _ s₃ => wpAny (model prog w) A (execs body env) (Turned h₀ env.locals I o (J (i + 1)) s₂ Q) (fun _ _ => False) s₃) (fun _ _ => False) { s₂ with heap := h, toks := tk }) ∧
    (∀ h' tk' m' news', Fr h₀ env.locals h' m' → News h₀ env.locals h' news' → J n m' news' → Q .next { s₂ with heap := h', toks := tk' })
section
variable {prog : Program} {w : World} {A : Around} {s : Shared} {env : Env} {h₀ : Heap}
theorem noted_never {M : Model} {E : Value → Shared → Prop} : ∀ (e : Value) (s' : Shared), False → notedBy M A env E e s' := fun _ _ h => h.elim
theorem For_R {Q : Flow → Shared → Prop} {target iter : Expr} {pos : Pos} {body : List Stmt} (h₀ : Heap)
    (h : wpAny (model prog w) A (eval iter env) (fun xv s₁ => wpAny (model prog w) A (pyIter xv) (fun it s₂ => LoopAtR prog w A h₀ env target body Q it s₂) (fun _ _ => False) s₁) (fun _ _ => False) s)
    (hs : ∀ x, foldedSetIterable iter env x = pure x) :
    wpAny (model prog w) A (exec (.For target iter body [] pos) env) Q (fun _ _ => False) s := by
  refine wpAny_For (wpAny_mono h (fun xv s₁ h₁ => wpAny_mono h₁ (fun it s₂ h₂ => ?_) fun _ _ e => e) fun _ _ e => e) hs
  obtain ⟨I, fp, n, P, St, m, news, J, rfl, W, hfp, hI0, hLI, hst, F, N, hnI, hIo, hgo, h0, step, done⟩ := h₂
  refine codeAny_forLoop_any
    (fun k s' => ∃ h' tk m' news' i, s' = { s₂ with heap := h', toks := tk } ∧ St i h' ∧ Fr h₀ env.locals h' m' ∧ News h₀ env.locals h' news' ∧ (∀ p ∈ news', p.1 ≠ I) ∧ J i m' news' ∧ i ≤ n ∧ k = n + 1 - i) ?_ (n + 1)
    ⟨s₂.heap, s₂.toks, m, news, 0, rfl, hst, F, N, hnI, h0, Nat.zero_le _, rfl⟩
  rintro k s' ⟨h', tk, m', news', i, rfl, hst', F', N', hnw', hJ, hi, rfl⟩
  have old : ∀ b o, h₀.get? b = some o → b ∉ [I] := fun b o e hb => by rw [List.mem_singleton.mp hb, hI0] at e; cases e
  have hLw : env.locals ∉ [I] := fun hb => hLI (List.mem_singleton.mp hb)
  have next : ∀ h₁ : Heap, (∀ b o, b ∉ [I] → h'.get? b = some o → h₁.get? b = some o) → Fr h₀ env.locals h₁ m' ∧ News h₀ env.locals h₁ news' := fun h₁ hk₁ =>
    ⟨⟨F'.ns.at' fun o e => hk₁ _ o hLw e, fun b o e => hk₁ b o (old b o e) (F'.keep b o e), F'.above⟩, fun p hp => ⟨hk₁ _ _ (fun hb => hnw' p hp (List.mem_singleton.mp hb)) (N' p hp).1, (N' p hp).2⟩⟩
  by_cases hlt : i < n
  · refine W.item i _ _ _ hlt hst' fun v h₁ tk₁ hP hst₁ hk₁ => ?_
    obtain ⟨F₁, N₁⟩ := next h₁ hk₁
    refine wpAny_mono (hgo (i + 1) _ v (fun _ s' => s' = { s₂ with heap := h₁, toks := tk₁ }) hst₁ rfl) (fun _ s₄ e => ?_) noted_never
    subst e
    obtain ⟨o, ho⟩ := hIo _ _ hst₁
    have NI : News h₀ env.locals h₁ ((I, o) :: news') := fun p hp => by
      rcases List.mem_cons.mp hp with rfl | hp
      · exact ⟨ho, fun e => hLI e.symm, hI0⟩
      · exact N₁ p hp
    refine wpAny_mono (step i v m' news' h₁ tk₁ o hlt hP hJ hnw' F₁ NI) (fun _ s₅ h₅ => wpAny_mono h₅ (fun f s₃ h₃ => ?_) noted_never) noted_never
    have go : (∃ h' tk' m' news', s₃ = { s₂ with heap := h', toks := tk' } ∧ Fr h₀ env.locals h' m' ∧ News h₀ env.locals h' ((I, o) :: news') ∧ (∀ p ∈ news', p.1 ≠ I) ∧ J (i + 1) m' news') →
        ∃ m, m < n + 1 - i ∧ (fun k s' => ∃ h' tk' m' news' i, s' = { s₂ with heap := h', toks := tk' } ∧ St i h' ∧ Fr h₀ env.locals h' m' ∧ News h₀ env.locals h' news' ∧ (∀ p ∈ news', p.1 ≠ I) ∧ J i m' news' ∧ i ≤ n ∧ k = n + 1 - i) m s₃ := by
      rintro ⟨h₄, tk₄, m₄, news₄, rfl, F₄, N₄, hn₄, hJ₄⟩
      refine ⟨n + 1 - (i + 1), by omega, h₄, tk₄, m₄, news₄, i + 1, rfl, ?_, F₄, fun p hp => N₄ p (List.mem_cons_of_mem _ hp), hn₄, hJ₄, hlt, rfl⟩
      refine W.frame _ _ _ hst₁ fun b hb ob e => ?_
      rcases hfp b hb with rfl | ⟨ob', hob⟩
      · rw [ho] at e
        cases Option.some.inj e
        exact (N₄ _ (List.mem_cons_self ..)).1
      · have e1 := (N₁ _ (hob _ _ _ hJ)).1
        rw [e] at e1
        cases Option.some.inj e1
        exact (N₄ _ (List.mem_cons_of_mem _ (hob _ _ _ hJ₄))).1
    cases f with
    | ret v => exact h₃
    | brk => exact h₃
    | cont => exact go h₃
    | next => exact go h₃
  · have hin : i = n := by omega
    subst hin
    refine W.done _ _ _ hst' fun h₁ tk₁ hk₁ => wpAny_execs_nil ?_
    obtain ⟨F₁, N₁⟩ := next h₁ hk₁
    exact done h₁ tk₁ m' news' F₁ N₁ hJ
end
end
section
theorem off4 : True := by
  w_top off
  exact True.intro
section
variable {prog : Program} {w : World} {A : Around} {s : Shared} {env : Env} {h₀ : Heap} {target : Expr} {body : List Stmt} {Q : Flow → Shared → Prop} {m : Locs} {news : Ledger}
theorem letGo_rev {E : Value → Shared → Prop} {I t : Addr} {i : Int} {v : Value} {Q' : Unit → Shared → Prop} {s' : Shared} (hit : s'.heap.IsRevIter I t i) (h : Q' () s') :
    wpAny (model prog w) A (letOwnedTupleGo target (.ref I) v) Q' E s' := by
  obtain ⟨o, ho, hc, hd⟩ := hit
  unfold letOwnedTupleGo
  cases target <;> first
    | exact wpAny_pure h
    | (cases v <;> first
        | exact wpAny_pure h
        | (refine wpAny_bind (wpAny_load ho ?_)
           rw [hc, hd]
           exact wpAny_pure h))
theorem letGo_range {E : Value → Shared → Prop} {I : Addr} {a b c : Int} {v : Value} {Q' : Unit → Shared → Prop} {s' : Shared} (hit : IsRangeIter s'.heap I a b c) (h : Q' () s') :
    wpAny (model prog w) A (letOwnedTupleGo target (.ref I) v) Q' E s' := by
  unfold letOwnedTupleGo
  cases target <;> first
    | exact wpAny_pure h
    | (cases v <;> first
        | exact wpAny_pure h
        | (refine wpAny_bind (wpAny_load hit ?_)
           exact wpAny_pure h))
theorem iter_listR {l : Addr} {lo : Obj} {vs : List Value} {c : Nat} (J : Nat → Locs → Ledger → Prop) (hh : A.handled = none) (hc : lo.cls = .type "list") (hd : lo.data = .seq vs.toArray c)
    (F : Fr h₀ env.locals s.heap m) (N : News h₀ env.locals s.heap news) (hJ : ∀ i m news, J i m news → (l, lo) ∈ news) (h0 : J 0 m news)
    (turn : ∀ I i v m₁ news₁ h tk o, (∀ p ∈ news, p.1 < I) → vs[i]? = some v → J i m₁ news₁ → (∀ p ∈ news₁, p.1 ≠ I) → Fr h₀ env.locals h m₁ → News h₀ env.locals h ((I, o) :: news₁) →
      wpAny (model prog w) A (assign target env v) (fun _ s₃ => wpAny (model prog w) A (execs body env) (Turned h₀ env.locals I o (J (i + 1)) s Q) (fun _ _ => False) s₃) (fun _ _ => False) { s with heap := h, toks := tk })
    (done : ∀ h' tk' m' news', Fr h₀ env.locals h' m' → News h₀ env.locals h' news' → J vs.length m' news' → Q .next { s with heap := h', toks := tk' }) :
    wpAny (model prog w) A (pyIter (.ref l)) (fun it s₂ => LoopAtR prog w A h₀ env target body Q it s₂) (fun _ _ => False) s := by
  have hm := hJ _ _ _ h0
  have hl := (N _ hm).1
  have hls : s.heap.IsList l vs.toArray := ⟨lo, hl, hc, c, hd⟩
  have hne : l ≠ s.heap.objs.size := Nat.ne_of_lt (Heap.lt_size hl)
  have hnew : ∀ p ∈ news, p.1 < s.heap.objs.size := fun p hp => Heap.lt_size (N p hp).1
  refine wpAny_pyIter_list hls ?_
  have W := Walks.list (prog := prog) (w := w) hh s.heap.objs.size l hne vs.toArray
  refine ⟨_, _, _, _, _, m, news, J, rfl, W, fun b hb => ?_, next_is_new F, fun e => ?_, ⟨⟨_, Heap.get?_push_size _ rfl, rfl, rfl⟩, hls.at fun o e => Heap.get?_push_of_some _ e⟩, F.push _, (fun p hp => ⟨Heap.get?_push_of_some _ (N p hp).1, (N p hp).2⟩), (fun p hp => Nat.ne_of_lt (hnew p hp)),
    (fun i h st => let ⟨o, ho, _⟩ := st.1; ⟨o, ho⟩), (fun i s' v Q' st hQ' => letGo_listiter st.1 hQ'), h0, ?_, ?_⟩
  · rcases List.mem_cons.mp hb with rfl | hb
    · exact .inl rfl
    · exact .inr ⟨lo, fun i m news j => List.mem_singleton.mp hb ▸ hJ i m news j⟩
  · exact absurd F.ns.lt (e ▸ Nat.lt_irrefl _)
  · intro i v m₁ news₁ h tk o hi hP hj hn F₁ N₁
    exact turn _ i v m₁ news₁ h tk o hnew (by simpa using hP) hj hn F₁ N₁
  · intro h' tk' m' news' F' N' hj
    exact done h' tk' m' news' F' N' (by simpa using hj)
theorem iter_revR {l I : Addr} {lo : Obj} {vs : List Value} {c : Nat} (J : Nat → Locs → Ledger → Prop) (hh : A.handled = none) (hc : lo.cls = .type "list") (hd : lo.data = .seq vs.toArray c)
    (F : Fr h₀ env.locals s.heap m) (N : News h₀ env.locals s.heap ((I, revObj l ((vs.length : Int) - 1)) :: news)) (hJ : ∀ i m news, J i m news → (l, lo) ∈ news) (hI : ∀ p ∈ news, p.1 < I) (h0 : J 0 m news)
    (turn : ∀ i v m₁ news₁ h tk o, i < vs.length → vs[vs.length - 1 - i]? = some v → J i m₁ news₁ → (∀ p ∈ news₁, p.1 ≠ I) → Fr h₀ env.locals h m₁ → News h₀ env.locals h ((I, o) :: news₁) →
      wpAny (model prog w) A (assign target env v) (fun _ s₃ => wpAny (model prog w) A (execs body env) (Turned h₀ env.locals I o (J (i + 1)) s Q) (fun _ _ => False) s₃) (fun _ _ => False) { s with heap := h, toks := tk })
    (done : ∀ h' tk' m' news', Fr h₀ env.locals h' m' → News h₀ env.locals h' news' → J vs.length m' news' → Q .next { s with heap := h', toks := tk' }) :
    wpAny (model prog w) A (pyIter (.ref I)) (fun it s₂ => LoopAtR prog w A h₀ env target body Q it s₂) (fun _ _ => False) s := by
  have hm := hJ _ _ _ h0
  have hl := (N _ (List.mem_cons_of_mem _ hm)).1
  have hls : s.heap.IsList l vs.toArray := ⟨lo, hl, hc, c, hd⟩
  have hne : l ≠ I := Nat.ne_of_lt (hI _ hm)
  have hIo := N _ (List.mem_cons_self ..)
  have W := Walks.listRev (prog := prog) (w := w) hh I l hne vs.toArray
  have hs : vs.toArray.size = vs.length := by simp
  have st0 : 0 ≤ vs.toArray.size ∧ s.heap.IsRevIter I l ((vs.toArray.size : Int) - 1 - ((0 : Nat) : Int)) ∧ s.heap.IsList l vs.toArray := ⟨Nat.zero_le _, ⟨_, hIo.1, rfl, by rw [hs]; simp [revObj]⟩, hls⟩
  refine wpAny_pyIter_revIter st0.2.1 ?_
  refine ⟨_, _, _, _, _, m, news, J, rfl, W, fun b hb => ?_, hIo.2.2, fun e => hIo.2.1 e.symm, st0, F, fun p hp => N p (List.mem_cons_of_mem _ hp), (fun p hp => Nat.ne_of_lt (hI p hp)),
    (fun i h st => let ⟨o, ho, _⟩ := st.2.1; ⟨o, ho⟩), (fun i s' v Q' st hQ' => letGo_rev st.2.1 hQ'), h0, ?_, ?_⟩
  · rcases List.mem_cons.mp hb with rfl | hb
    · exact .inl rfl
    · exact .inr ⟨lo, fun i m news j => List.mem_singleton.mp hb ▸ hJ i m news j⟩
  · intro i v m₁ news₁ h tk o hi hP hj hn F₁ N₁
    exact turn i v m₁ news₁ h tk o (by simpa using hi) (by simpa using hP) hj hn F₁ N₁
  · intro h' tk' m' news' F' N' hj
    exact done h' tk' m' news' F' N' (by simpa using hj)
theorem iter_rangeR {r : Addr} {a₀ b₀ : Int} {t₀ u₀ v₀ : Tok} {n : Nat} (J : Nat → Locs → Ledger → Prop) (hh : A.handled = none) (hr : IsRange s.heap r a₀ b₀ 1 t₀ u₀ v₀) (hsmall : Builtin.Range.small a₀ b₀ 1 = true) (hn : Builtin.Range.rangeSize a₀ b₀ 1 = (n : Int))
    (F : Fr h₀ env.locals s.heap m) (N : News h₀ env.locals s.heap news) (h0 : J 0 m news)
    (turn : ∀ I (i : Nat) t m₁ news₁ h tk o, (∀ p ∈ news, p.1 < I) → i < n → J i m₁ news₁ → (∀ p ∈ news₁, p.1 ≠ I) → Fr h₀ env.locals h m₁ → News h₀ env.locals h ((I, o) :: news₁) →
      wpAny (model prog w) A (assign target env (.int (a₀ + (i : Int)) t)) (fun _ s₃ => wpAny (model prog w) A (execs body env) (Turned h₀ env.locals I o (J (i + 1)) s Q) (fun _ _ => False) s₃) (fun _ _ => False) { s with heap := h, toks := tk })
    (done : ∀ h' tk' m' news', Fr h₀ env.locals h' m' → News h₀ env.locals h' news' → J n m' news' → Q .next { s with heap := h', toks := tk' }) :
    wpAny (model prog w) A (pyIter (.ref r)) (fun it s₂ => LoopAtR prog w A h₀ env target body Q it s₂) (fun _ _ => False) s := by
  have hnew : ∀ p ∈ news, p.1 < s.heap.objs.size := fun p hp => Heap.lt_size (N p hp).1
  refine wpAny_pyIter_range hr hsmall ?_
  have W := Walks.range (prog := prog) (w := w) (A := A) hh s.heap.objs.size a₀ 1 n
  refine ⟨_, _, _, _, _, m, news, J, rfl, W, fun b hb => .inl (List.mem_singleton.mp hb), next_is_new F, fun e => ?_, (by show IsRangeIter _ _ _ _ _; rw [hn]; simpa using Heap.get?_push_size _ rfl), F.push _, (fun p hp => ⟨Heap.get?_push_of_some _ (N p hp).1, (N p hp).2⟩), (fun p hp => Nat.ne_of_lt (hnew p hp)),
    (fun i h st => ⟨_, st⟩), (fun i s' v Q' st hQ' => letGo_range st hQ'), h0, ?_, ?_⟩
  · exact absurd F.ns.lt (e ▸ Nat.lt_irrefl _)
  · rintro i v m₁ news₁ h tk o hi ⟨t, rfl⟩ hj hn F₁ N₁
    have e : a₀ + (i : Int) * 1 = a₀ + (i : Int) := by rw [Int.mul_one]
    rw [e]
    exact turn _ i t m₁ news₁ h tk o hnew hi hj hn F₁ N₁
  · intro h' tk' m' news' F' N' hj
    exact done h' tk' m' news' F' N' hj
end
end
section
theorem off5 : True := by
  w_top off
  exact True.intro
noncomputable def ovl (S : List Str) (u m : Locs) : Locs := fun y => if S.contains y = true then u y else m y
theorem ovl_self (S : List Str) (m : Locs) : ∃ u, m = ovl S u m := ⟨m, funext fun y => by unfold ovl; split <;> rfl⟩
theorem ovl_back {S : List Str} {m' m : Locs} (h : ∀ y, S.contains y = false → m' y = m y) : ∃ u, m' = ovl S u m := ⟨m', funext fun y => by
  unfold ovl
  split
  · rfl
  · rename_i q
    exact h y (by simpa using q)⟩
theorem ovl_off {S : List Str} {u m : Locs} {y : Str} (h : S.contains y = false) : ovl S u m y = m y := by unfold ovl; rw [if_neg (by rw [h]; exact Bool.false_ne_true)]
theorem ovl_set {S : List Str} {m' m : Locs} {x : Str} {v : Option Value} (hx : S.contains x = true) (h : ∀ y, S.contains y = false → m' y = m y) : ∀ y, S.contains y = false → (if y = x then v else m' y) = m y := fun y hy => by
  by_cases q : y = x
  · subst q; rw [hx] at hy; cases hy
  · rw [if_neg q]; exact h y hy
theorem ovl_start {S : List Str} {u m : Locs} : ∀ y, S.contains y = false → ovl S u m y = m y := fun _ hy => ovl_off hy
section
variable {prog : Program} {w : World} {A : Around} {s : Shared} {env : Env} {h₀ : Heap} {target : Expr} {body : List Stmt} {Q : Flow → Shared → Prop} {m : Locs} {news : Ledger}
/-- what a turn must end in -/
noncomputable def EndO (h₀ : Heap) (L I : Addr) (o : Obj) (S : List Str) (m : Locs) (P : Ledger → Prop) (s : Shared) (Q : Flow → Shared → Prop) (f : Flow) (s' : Shared) : Prop :=
  match f with
  | .ret v => Q (.ret v) s'
  | .brk => Q .next s'
  | _ => ∃ h' tk' m' news', s' = { s with heap := h', toks := tk' } ∧ Fr h₀ L h' m' ∧ News h₀ L h' ((I, o) :: news') ∧ (∀ p ∈ news', p.1 ≠ I) ∧ (∀ y, S.contains y = false → m' y = m y) ∧ P news'
theorem EndO.turned {L I : Addr} {o : Obj} {S : List Str} {P : Ledger → Prop} {f : Flow} {s' : Shared} (h : EndO h₀ L I o S m P s Q f s') : Turned h₀ L I o (fun m' news' => (∃ u, m' = ovl S u m) ∧ P news') s Q f s' := by
  have go : (∃ h' tk' m' news', s' = { s with heap := h', toks := tk' } ∧ Fr h₀ L h' m' ∧ News h₀ L h' ((I, o) :: news') ∧ (∀ p ∈ news', p.1 ≠ I) ∧ (∀ y, S.contains y = false → m' y = m y) ∧ P news') →
      ∃ h' tk' m' news', s' = { s with heap := h', toks := tk' } ∧ Fr h₀ L h' m' ∧ News h₀ L h' ((I, o) :: news') ∧ (∀ p ∈ news', p.1 ≠ I) ∧ ((∃ u, m' = ovl S u m) ∧ P news') :=
    fun ⟨h', tk', m', news', a, b, c, d, e, p⟩ => ⟨h', tk', m', news', a, b, c, d, ovl_back e, p⟩
  cases f with
  | ret v => exact h
  | brk => exact h
  | next => exact go h
  | cont => exact go h
theorem iter_listO {l : Addr} {lo : Obj} {vs : List Value} {L : Addr} {c : Nat} (S : List Str) (P : Nat → Ledger → Prop) (F : Fr h₀ L s.heap m) (N : News h₀ L s.heap news)
    (hc : lo.cls = .type "list") (hd : lo.data = .seq vs.toArray c) (hJ : ∀ i news, P i news → (l, lo) ∈ news) (h0 : P 0 news)
    (turn : ∀ I i v u news₁ h tk o, (∀ p ∈ news, p.1 < I) → vs[i]? = some v → P i news₁ → (∀ p ∈ news₁, p.1 ≠ I) → Fr h₀ L h (ovl S u m) → News h₀ L h ((I, o) :: news₁) →
      wpAny (model prog w) A (assign target env v) (fun _ s₃ => wpAny (model prog w) A (execs body env) (EndO h₀ L I o S m (P (i + 1)) s Q) (fun _ _ => False) s₃) (fun _ _ => False) { s with heap := h, toks := tk })
    (done : ∀ h' tk' u news', Fr h₀ L h' (ovl S u m) → News h₀ L h' news' → P vs.length news' → Q .next { s with heap := h', toks := tk' })
    (hL : env.locals = L := by rfl) (hh : A.handled = none := by rfl) :
    wpAny (model prog w) A (pyIter (.ref l)) (fun it s₂ => LoopAtR prog w A h₀ env target body Q it s₂) (fun _ _ => False) s := by
  subst hL
  refine iter_listR (fun i m₁ news₁ => (∃ u, m₁ = ovl S u m) ∧ P i news₁) hh hc hd F N (fun i m news j => hJ i news j.2) ⟨ovl_self S m, h0⟩ ?_ ?_
  · rintro I i v m₁ news₁ h tk o hI hv ⟨⟨u, rfl⟩, hP⟩ hn F₁ N₁
    exact wpAny_mono (turn I i v u news₁ h tk o hI hv hP hn F₁ N₁) (fun _ _ x => wpAny_mono x (fun _ _ y => EndO.turned y) fun _ _ y => y) fun _ _ y => y
  · rintro h' tk' m' news' F' N' ⟨⟨u, rfl⟩, hP⟩
    exact done h' tk' u news' F' N' hP
theorem iter_revO {l I : Addr} {lo : Obj} {vs : List Value} {L : Addr} {c : Nat} (S : List Str) (P : Nat → Ledger → Prop) (F : Fr h₀ L s.heap m) (N : News h₀ L s.heap ((I, revObj l ((vs.length : Int) - 1)) :: news))
    (hc : lo.cls = .type "list") (hd : lo.data = .seq vs.toArray c) (hJ : ∀ i news, P i news → (l, lo) ∈ news) (hI : ∀ p ∈ news, p.1 < I) (h0 : P 0 news)
    (turn : ∀ i v u news₁ h tk o, i < vs.length → vs[vs.length - 1 - i]? = some v → P i news₁ → (∀ p ∈ news₁, p.1 ≠ I) → Fr h₀ L h (ovl S u m) → News h₀ L h ((I, o) :: news₁) →
      wpAny (model prog w) A (assign target env v) (fun _ s₃ => wpAny (model prog w) A (execs body env) (EndO h₀ L I o S m (P (i + 1)) s Q) (fun _ _ => False) s₃) (fun _ _ => False) { s with heap := h, toks := tk })
    (done : ∀ h' tk' u news', Fr h₀ L h' (ovl S u m) → News h₀ L h' news' → P vs.length news' → Q .next { s with heap := h', toks := tk' })
    (hL : env.locals = L := by rfl) (hh : A.handled = none := by rfl) :
    wpAny (model prog w) A (pyIter (.ref I)) (fun it s₂ => LoopAtR prog w A h₀ env target body Q it s₂) (fun _ _ => False) s := by
  subst hL
  refine iter_revR (fun i m₁ news₁ => (∃ u, m₁ = ovl S u m) ∧ P i news₁) hh hc hd F N (fun i m news j => hJ i news j.2) hI ⟨ovl_self S m, h0⟩ ?_ ?_
  · rintro i v m₁ news₁ h tk o hi hv ⟨⟨u, rfl⟩, hP⟩ hn F₁ N₁
    exact wpAny_mono (turn i v u news₁ h tk o hi hv hP hn F₁ N₁) (fun _ _ x => wpAny_mono x (fun _ _ y => EndO.turned y) fun _ _ y => y) fun _ _ y => y
  · rintro h' tk' m' news' F' N' ⟨⟨u, rfl⟩, hP⟩
    exact done h' tk' u news' F' N' hP
theorem iter_rangeO {r : Addr} {a₀ b₀ : Int} {t₀ u₀ v₀ : Tok} {n : Nat} {L : Addr} (S : List Str) (P : Nat → Ledger → Prop) (F : Fr h₀ L s.heap m) (N : News h₀ L s.heap news)
    (hr : IsRange s.heap r a₀ b₀ 1 t₀ u₀ v₀) (hsmall : Builtin.Range.small a₀ b₀ 1 = true) (hn : Builtin.Range.rangeSize a₀ b₀ 1 = (n : Int)) (h0 : P 0 news)
    (turn : ∀ I (i : Nat) t u news₁ h tk o, (∀ p ∈ news, p.1 < I) → i < n → P i news₁ → (∀ p ∈ news₁, p.1 ≠ I) → Fr h₀ L h (ovl S u m) → News h₀ L h ((I, o) :: news₁) →
      wpAny (model prog w) A (assign target env (.int (a₀ + (i : Int)) t)) (fun _ s₃ => wpAny (model prog w) A (execs body env) (EndO h₀ L I o S m (P (i + 1)) s Q) (fun _ _ => False) s₃) (fun _ _ => False) { s with heap := h, toks := tk })
    (done : ∀ h' tk' u news', Fr h₀ L h' (ovl S u m) → News h₀ L h' news' → P n news' → Q .next { s with heap := h', toks := tk' })
    (hL : env.locals = L := by rfl) (hh : A.handled = none := by rfl) :
    wpAny (model prog w) A (pyIter (.ref r)) (fun it s₂ => LoopAtR prog w A h₀ env target body Q it s₂) (fun _ _ => False) s := by
  subst hL
  refine iter_rangeR (fun i m₁ news₁ => (∃ u, m₁ = ovl S u m) ∧ P i news₁) hh hr hsmall hn F N ⟨ovl_self S m, h0⟩ ?_ ?_
  · rintro I i t m₁ news₁ h tk o hI hi ⟨⟨u, rfl⟩, hP⟩ hn F₁ N₁
    exact wpAny_mono (turn I i t u news₁ h tk o hI hi hP hn F₁ N₁) (fun _ _ x => wpAny_mono x (fun _ _ y => EndO.turned y) fun _ _ y => y) fun _ _ y => y
  · rintro h' tk' m' news' F' N' ⟨⟨u, rfl⟩, hP⟩
    exact done h' tk' u news' F' N' hP
theorem apart_cls {h : Heap} {L : Addr} {need : Ledger} (N : News h₀ L h need) {a : Addr} {o : Obj} (ha : h.get? a = some o) (hc : ∀ p ∈ need, p.2.cls ≠ o.cls) : a ∉ need.map (·.1) := fun hm => by
  obtain ⟨p, hp, rfl⟩ := List.mem_map.mp hm
  rw [(N p hp).1] at ha
  exact hc p hp (congrArg Obj.cls (Option.some.inj ha))
end
end
section
theorem off6 : True := by
  w_top off
  exact True.intro
noncomputable abbrev Keys := Nat → Int × Tok
noncomputable abbrev PG := PySem.Challenge.rw_pq0758_01.row.prog
theorem fillMe : hd.heap_1 = hd.heap_1 ∧ PySem.Challenge.rw_pq0758_01 = PySem.Challenge.rw_pq0758_01 := by
  k_fill
  exact ⟨rfl, rfl⟩
noncomputable abbrev namesE (k : Keys) (al sc nl : Addr) : List DictEntry :=
  [⟨(k 0).1, .str (Str.ofString "module") (k 0).2, .str (Str.ofString "M") (k 5).2⟩, ⟨(k 1).1, .str (Str.ofString "aliases") (k 1).2, .ref al⟩, ⟨(k 2).1, .str (Str.ofString "scopes") (k 2).2, .ref sc⟩,
   ⟨(k 3).1, .str (Str.ofString "narrowed") (k 3).2, .ref nl⟩, ⟨(k 4).1, .str (Str.ofString "marks") (k 4).2, .bool true⟩]
noncomputable abbrev objE (k : Keys) (nm kind : Str) (ty : Value) (lv : Int) (md : Str) : List DictEntry :=
  [⟨(k 0).1, .str (Str.ofString "name") (k 0).2, .str nm (k 14).2⟩, ⟨(k 1).1, .str (Str.ofString "kind") (k 1).2, .str kind (k 15).2⟩, ⟨(k 2).1, .str (Str.ofString "type") (k 2).2, ty⟩,
   ⟨(k 3).1, .str (Str.ofString "place") (k 3).2, .int 0 (k 16).2⟩, ⟨(k 4).1, .str (Str.ofString "exported") (k 4).2, .bool false⟩, ⟨(k 5).1, .str (Str.ofString "readonly") (k 5).2, .bool false⟩,
   ⟨(k 6).1, .str (Str.ofString "level") (k 6).2, .int lv (k 17).2⟩, ⟨(k 7).1, .str (Str.ofString "module") (k 7).2, .str md (k 18).2⟩, ⟨(k 8).1, .str (Str.ofString "value") (k 8).2, .none⟩,
   ⟨(k 9).1, .str (Str.ofString "slot") (k 9).2, .int 0 (k 19).2⟩, ⟨(k 10).1, .str (Str.ofString "offset") (k 10).2, .int 0 (k 20).2⟩, ⟨(k 11).1, .str (Str.ofString "number") (k 11).2, .int 0 (k 21).2⟩,
   ⟨(k 12).1, .str (Str.ofString "isparam") (k 12).2, .bool false⟩, ⟨(k 13).1, .str (Str.ofString "narrowed") (k 13).2, .none⟩]
structure NE where
  a : Addr
  md : Str
  nm : Str
  lv : Int
  num : Int
  t1 : Tok
  t2 : Tok
  t3 : Tok
  t4 : Tok
noncomputable abbrev NE.obj (e : NE) : Obj := { cls := .type "tuple", data := .seq #[.str e.md e.t1, .str e.nm e.t2, .int e.lv e.t3, .int e.num e.t4] }
noncomputable def narR (md nm : Str) (lv num : Int) : List NE → Bool
  | [] => false
  | e :: r => if e.md = md ∧ e.nm = nm ∧ e.lv = lv then decide (e.num = num) else narR md nm lv num r
section
variable {w : World} {A A₀ : Around} {s : Shared} {base h₀ : Heap} {outer : List Env} {L : Addr} {m mg mb : Str → Option Value} {env : Env} {mean : ExcName → Option Value}
theorem is_narrowed_spec {nm dn al sc nl ob dx : Addr} {c0 c1 c2 : Nat} {k0 k2 : Keys} {on kind md : Str} {ty : Value} {lv num : Int} {tk : Tok} {D : List NE} {Q : Value → Shared → Prop}
    (KX : (hd.heap_1 w.params).In h₀) (T : Top hd.view_1 (looseW hd.view_1 [Str.ofString "Names", Str.ofString "expr_text"]) mean mg mb h₀) (B : Below A₀ base outer h₀) (fits : Fits A 800 8000 (env :: outer)) (hf : env.frame = some L) (hke : env.scope.kind = .function)
    (F : Fr h₀ L s.heap m)
    (N : News h₀ L s.heap [(nm, instObj 137 dn), (dn, dictOf (namesE k0 al sc nl) c0), (nl, listOf (D.map fun e => Value.ref e.a).toArray c1), (ob, instObj 396 dx), (dx, dictOf (objE k2 on kind ty lv md) c2)])
    (hD : ∀ e ∈ D, s.heap.get? e.a = some e.obj)
    (hQ : ∀ h' tk', (∀ b o, s.heap.get? b = some o → h'.get? b = some o) → Fr h₀ L h' m → Q (.bool (narR md on lv num D.reverse)) { s with heap := h', toks := tk' }) :
    wpAny (model PG w) A (call (.ref 127) [.ref nm, .ref ob, .int num tk]) Q (fun _ _ => False) s := by
  refine call_pure (binds := [(Str.ofString "self", .ref nm), (Str.ofString "obj", .ref ob), (Str.ofString "number", .int num tk)]) (P := fun v => v = .bool (narR md on lv num D.reverse)) 800 8000 B F N KX T fits hf hke (by k_is) (by k_is) (by decide) (BindsTo.of_eq rfl) (locs rfl) ?_ (fun v h' tk' hv hk F' => by subst hv; exact hQ h' tk' hk F') rfl rfl rfl (by decide)
  intro g L' h₁ F' N' B' X' T' hkeep hlt
  (try dsimp only)
  (try k_fold)
  k_steps
  refine For_R g ?_ (by intro _; rfl)
  k_steps
  refine iter_revO (l := nl) (lo := listOf (D.map fun e => Value.ref e.a).toArray c1) ["module", "name", "level", "one"] (fun i news₁ => news₁ = [(nm, instObj 137 dn), (dn, dictOf (namesE k0 al sc nl) c0), (nl, listOf (D.map fun e => Value.ref e.a).toArray c1), (ob, instObj 396 dx), (dx, dictOf (objE k2 on kind ty lv md) c2)] ∧
    narR md on lv num D.reverse = narR md on lv num (D.reverse.drop i)) (by assumption) (by assumption) rfl rfl ?_ ?_ ?_ ?_ ?_
  · rintro i news ⟨rfl, _⟩
    k_mem
  · repeat' (first | exact List.forall_mem_nil _ | refine List.forall_mem_cons.mpr ⟨ltN (by (try dsimp only); omega), ?_⟩)
  · exact ⟨rfl, rfl⟩
  · rintro i v u news₁ h tk' o hi hv ⟨rfl, hn⟩ hoff F₁ N₁
    obtain ⟨e, he, rfl⟩ : ∃ e, D.reverse[i]? = some e ∧ v = .ref e.a := by
      rw [List.length_map] at hi hv
      rw [List.getElem?_map] at hv
      rw [List.getElem?_reverse hi]
      obtain ⟨e, he, hv⟩ := Option.map_eq_some_iff.mp hv
      exact ⟨e, he, hv.symm⟩
    have hmem : e ∈ D := List.mem_reverse.mp (List.mem_of_getElem? he)
    have hge := hkeep _ _ (hD e hmem) (apart_cls N (hD e hmem) (by repeat' (first | exact List.forall_mem_nil _ | refine List.forall_mem_cons.mpr ⟨by k_cls, ?_⟩)))
    have ht : IsTup h e.a #[.str e.md e.t1, .str e.nm e.t2, .int e.lv e.t3, .int e.num e.t4] := ⟨_, F₁.keep _ _ hge, rfl, _, rfl⟩
    have hnext : narR md on lv num (D.reverse.drop i) = if e.md = md ∧ e.nm = on ∧ e.lv = lv then decide (e.num = num) else narR md on lv num (D.reverse.drop (i + 1)) := by
      obtain ⟨hl, he'⟩ := List.getElem?_eq_some_iff.mp he
      rw [List.drop_eq_getElem_cons hl, he', narR]
    refine unpackN_ F₁ N₁ ht rfl rfl rfl fun h2 F₂ N₂ => ?_
    k_steps
    · change PureBack _ _ _ _ _ _
      refine ⟨_, _, _, _, _, rfl, by assumption, by assumption, fun p hp => List.mem_cons_of_mem _ hp, ?_⟩
      show Value.bool (e.num == num) = _
      rw [hn, hnext, if_pos ⟨eq_of_beq (by assumption), eq_of_beq (by assumption), by assumption⟩]
      rfl
    all_goals
      refine ⟨_, _, _, _, rfl, by assumption, by assumption, hoff, (by repeat' (first | exact ovl_start | refine ovl_set (by decide) ?_)), rfl, ?_⟩
      rw [hn, hnext, if_neg]
      rintro ⟨r1, r2, r3⟩
      simp_all
  · rintro h' tk' u news' F' N' ⟨rfl, hn⟩
    dsimp only
    k_steps
    change PureBack _ _ _ _ _ _
    refine ⟨_, _, _, _, _, rfl, F', N', fun p hp => hp, ?_⟩
    show Value.bool false = _
    rw [hn, List.length_map, ← List.length_reverse, List.drop_length]
    rfl
end
end
section
theorem off7 : True := by
  w_top off
  exact True.intro
noncomputable abbrev aliasE (k : Keys) (al : Str) : List DictEntry := [⟨(k 0).1, .str (Str.ofString "A") (k 0).2, .str al (k 2).2⟩, ⟨(k 1).1, .str (Str.ofString "SYSTEM") (k 1).2, .str (Str.ofString "SYSTEM") (k 3).2⟩]
noncomputable abbrev scopeE (k : Keys) : List DictEntry := [⟨(k 0).1, .str (Str.ofString "T0") (k 0).2, .int 8 (k 3).2⟩, ⟨(k 1).1, .str (Str.ofString "T1") (k 1).2, .int 9 (k 4).2⟩, ⟨(k 2).1, .str (Str.ofString "T2") (k 2).2, .int 10 (k 5).2⟩]
noncomputable abbrev typeE (k : Keys) (nb : Int) (form md lbl : Str) (sz : Int) (f p h : Addr) : List DictEntry :=
  [⟨(k 0).1, .str (Str.ofString "number") (k 0).2, .int nb (k 12).2⟩, ⟨(k 1).1, .str (Str.ofString "form") (k 1).2, .str form (k 13).2⟩, ⟨(k 2).1, .str (Str.ofString "size") (k 2).2, .int sz (k 14).2⟩,
   ⟨(k 3).1, .str (Str.ofString "base") (k 3).2, .none⟩, ⟨(k 4).1, .str (Str.ofString "length") (k 4).2, .int 0 (k 15).2⟩, ⟨(k 5).1, .str (Str.ofString "fields") (k 5).2, .ref f⟩,
   ⟨(k 6).1, .str (Str.ofString "level") (k 6).2, .int 0 (k 16).2⟩, ⟨(k 7).1, .str (Str.ofString "params") (k 7).2, .ref p⟩, ⟨(k 8).1, .str (Str.ofString "module") (k 8).2, .str md (k 17).2⟩,
   ⟨(k 9).1, .str (Str.ofString "label") (k 9).2, .str lbl (k 18).2⟩, ⟨(k 10).1, .str (Str.ofString "hidden") (k 10).2, .ref h⟩, ⟨(k 11).1, .str (Str.ofString "exno") (k 11).2, .int 0 (k 19).2⟩]
noncomputable def shownS (md on al : Str) : Str := if md = Str.ofString "M" then on else al ++ Str.ofString "." ++ on
section
variable {w : World} {A A₀ : Around} {s : Shared} {base h₀ : Heap} {outer : List Env} {L : Addr} {m mg mb : Str → Option Value} {env : Env} {mean : ExcName → Option Value}
theorem pb_end {g h' : Heap} {need news' : Ledger} {s₀ : Shared} {P : Value → Prop} {v : Value} {L' : Addr} {m' : Locs} {tk' : Nat} (F : Fr g L' h' m') (N : News g L' h' news') (hs : ∀ p ∈ need, p ∈ news') (hP : P v) : PureBack g need s₀ P v { s₀ with heap := h', toks := tk' } :=
  ⟨_, _, _, _, _, rfl, F, N, hs, hP⟩
theorem object_name_spec {nm dn ad sc nl ob dx : Addr} {oad : Obj} {c0 c2 : Nat} {k0 k2 : Keys} {on kind md al : Str} {ta ts : Tok} {ty : Value} {lv : Int} {Q : Value → Shared → Prop}
    (KX : (hd.heap_1 w.params).In h₀) (T : Top hd.view_1 (looseW hd.view_1 [Str.ofString "Names", Str.ofString "expr_text"]) mean mg mb h₀) (B : Below A₀ base outer h₀) (fits : Fits A 800 8000 (env :: outer)) (hf : env.frame = some L) (hke : env.scope.kind = .function)
    (F : Fr h₀ L s.heap m)
    (N : News h₀ L s.heap [(nm, instObj 137 dn), (dn, dictOf (namesE k0 ad sc nl) c0), (ad, oad), (ob, instObj 396 dx), (dx, dictOf (objE k2 on kind ty lv md) c2)])
    (had : oad.IsDictOf (PySem.strKind PG w) [(Str.ofString "A", .str al ta), (Str.ofString "SYSTEM", .str (Str.ofString "SYSTEM") ts)]) (hlo : (ad == sysModules) = false)
    (hmd : md = Str.ofString "M" ∨ md = Str.ofString "A") (hon : on.length ≤ 8) (hal : al.length ≤ 8)
    (hQ : ∀ h' tk' tv, (∀ b o, s.heap.get? b = some o → h'.get? b = some o) → Fr h₀ L h' m → Q (.str (shownS md on al) tv) { s with heap := h', toks := tk' }) :
    wpAny (model PG w) A (call (.ref 134) [.ref nm, .ref ob]) Q (fun _ _ => False) s := by
  refine call_pure (binds := [(Str.ofString "self", .ref nm), (Str.ofString "obj", .ref ob)]) (P := fun v => ∃ tv, v = .str (shownS md on al) tv) 800 8000 B F N KX T fits hf hke (by k_is) (by k_is) (by decide) (BindsTo.of_eq rfl) (locs rfl) ?_ (fun v h' tk' hv hk F' => by obtain ⟨tv, rfl⟩ := hv; exact hQ h' tk' tv hk F') rfl rfl rfl (by decide)
  intro g L' h₁ F' N' B' X' T' hkeep hlt
  (try dsimp only)
  (try k_fold)
  rcases hmd with rfl | rfl
  · k_steps
    dsimp only
    change PureBack _ _ _ _ _ _
    refine pb_end (by assumption) (by assumption) ?_ ?_
    · repeat' (first | exact List.forall_mem_nil _ | refine List.forall_mem_cons.mpr ⟨by k_mem, ?_⟩)
    apply Exists.intro
    rw [shownS, if_pos rfl]
  · k_steps
    refine pb_end (by assumption) (by assumption) ?_ ?_
    · repeat' (first | exact List.forall_mem_nil _ | refine List.forall_mem_cons.mpr ⟨by k_mem, ?_⟩)
    apply Exists.intro
    rw [shownS, if_neg (by decide +kernel)]
theorem type_text_spec {nm dn ad sc nl sd t dt f p hh : Addr} {osd : Obj} {c0 c1 c3 : Nat} {k0 k2 : Keys} {u0 u1 u2 : Tok} {nb : Nat} {lbl : Str} {Q : Value → Shared → Prop}
    (KX : (hd.heap_1 w.params).In h₀) (T : Top hd.view_1 (looseW hd.view_1 [Str.ofString "Names", Str.ofString "expr_text"]) mean mg mb h₀) (B : Below A₀ base outer h₀) (fits : Fits A 800 8000 (env :: outer)) (hf : env.frame = some L) (hke : env.scope.kind = .function)
    (F : Fr h₀ L s.heap m)
    (N : News h₀ L s.heap [(nm, instObj 137 dn), (dn, dictOf (namesE k0 ad sc nl) c0), (sc, listOf #[.ref sd] c1), (sd, osd), (t, instObj 375 dt), (dt, dictOf (typeE k2 (8 + (nb : Int)) (Str.ofString "pointer") (Str.ofString "M") lbl 4 f p hh) c3)])
    (hsd : osd.IsDictOf (PySem.strKind PG w) [(Str.ofString "T0", .int 8 u0), (Str.ofString "T1", .int 9 u1), (Str.ofString "T2", .int 10 u2)]) (hlo : (sd == sysModules) = false)
    (hnb : nb = 0 ∨ nb = 1 ∨ nb = 2)
    (hQ : ∀ h' tk' tv, (∀ b o, s.heap.get? b = some o → h'.get? b = some o) → Fr h₀ L h' m → Q (.str (Str.ofString "T" ++ Str.ofString (toString (nb : Int))) tv) { s with heap := h', toks := tk' }) :
    wpAny (model PG w) A (call (.ref 162) [.ref nm, .ref t]) Q (fun _ _ => False) s := by
  refine call_pure (binds := [(Str.ofString "names", .ref nm), (Str.ofString "t", .ref t)]) (P := fun v => ∃ tv, v = .str (Str.ofString "T" ++ Str.ofString (toString (nb : Int))) tv) 800 8000 B F N KX T fits hf hke (by k_is) (by k_is) (by decide) (BindsTo.of_eq rfl) (locs rfl) ?_ (fun v h' tk' hv hk F' => by obtain ⟨tv, rfl⟩ := hv; exact hQ h' tk' tv hk F') rfl rfl rfl (by decide)
  intro g L' h₁ F' N' B' X' T' hkeep hlt
  (try dsimp only)
  (try k_fold)
  rcases hnb with rfl | rfl | rfl
  · k_steps
    dsimp only
    k_unfold
    dsimp only
    change PureBack _ _ _ _ _ _
    refine pb_end (by assumption) (by assumption) ?_ ?_
    · repeat' (first | exact List.forall_mem_nil _ | refine List.forall_mem_cons.mpr ⟨by k_mem, ?_⟩)
    exact ⟨_, congrArg (fun x => Value.str x _) (by decide +kernel)⟩
  · k_steps
    dsimp only
    k_unfold
    dsimp only
    change PureBack _ _ _ _ _ _
    refine pb_end (by assumption) (by assumption) ?_ ?_
    · repeat' (first | exact List.forall_mem_nil _ | refine List.forall_mem_cons.mpr ⟨by k_mem, ?_⟩)
    exact ⟨_, congrArg (fun x => Value.str x _) (by decide +kernel)⟩
  · k_steps
    dsimp only
    k_unfold
    dsimp only
    change PureBack _ _ _ _ _ _
    refine pb_end (by assumption) (by assumption) ?_ ?_
    · repeat' (first | exact List.forall_mem_nil _ | refine List.forall_mem_cons.mpr ⟨by k_mem, ?_⟩)
    exact ⟨_, congrArg (fun x => Value.str x _) (by decide +kernel)⟩
end
end
section
theorem off8 : True := by
  w_top off
  exact True.intro
noncomputable def lawDef : Option (List Stmt × Scope) := match PySem.Challenge.pw_pq0758_01.main.body.getLast? with
  | some (.FunctionDef _ _ body _ _ _ scope _ _ _) => some (body, scope)
  | _ => none
noncomputable def lawBody : List Stmt := match lawDef with | some p => p.1 | none => []
noncomputable def lawScope : Scope := match lawDef with | some p => p.2 | none => default
noncomputable def lawSt (i : Nat) : Stmt := lawBody.getD i default
end
section
theorem off9 : True := by
  w_top off
  exact True.intro
section
variable {w : World} {s : Shared} {h₀ base : Heap} {L fa : Addr} {cd : Value} {mg mb : Str → Option Value} {mean : ExcName → Option Value}
noncomputable abbrev lawEnv (L fa : Addr) (cd : Value) : Env := envOf (Str.ofString "law") lawScope L fa cd
theorem fm1009 (x : Int) : 0 ≤ x.fmod 1009 ∧ x.fmod 1009 < 1009 := ⟨Int.fmod_nonneg_of_pos _ (by decide), Int.fmod_lt_of_pos _ (by decide)⟩
theorem bs_more {items : List Int} {x : Int} (h : ∀ b ∈ items, 0 ≤ b ∧ b < 1009) : ∀ b ∈ items ++ [x.fmod 1009], 0 ≤ b ∧ b < 1009 := fun b hb => by
  rcases List.mem_append.mp hb with hb | hb
  · exact h b hb
  · rw [List.mem_singleton.mp hb]; exact fm1009 x
noncomputable def Beans1 (h₀ : Heap) (L l : Addr) (s : Shared) (f : Flow) (s' : Shared) : Prop :=
  f = .next ∧ ∃ h' tk' D us c bs, s' = { s with heap := h', toks := tk' } ∧
      Fr h₀ L h' (fun y => if y = Str.ofString "beans" then some (.ref D) else List.lookup y [(Str.ofString "script", Value.ref l)]) ∧ News h₀ L h' [(D, listOf us.toArray c)] ∧ IntsAre us bs ∧ bs.length = 40 ∧ (∀ b ∈ bs, 0 ≤ b ∧ b < 1009)
theorem st1 {l : Addr} {vs : List Value} {ns : List Int}
    (KX : (hd.heap_1 w.params).In h₀) (T : Top hd.view_1 (looseW hd.view_1 [Str.ofString "Names", Str.ofString "expr_text"]) mean mg mb h₀) (B : Below callerA h₀ [] h₀)
    (hL : h₀.IsList l vs.toArray) (hI : IntsAre vs ns) (hlen : ns.length ≤ 63)
    (F : Fr h₀ L s.heap (fun y => List.lookup y [(Str.ofString "script", Value.ref l)])) (N : News h₀ L s.heap []) :
    wpAny (model PG w) (callerA.deeper (lawEnv L fa cd)) (exec (lawSt 0) (lawEnv L fa cd)) (Beans1 h₀ L l s) (fun _ _ => False) s := by
  conv in lawSt 0 => whnf
  k_with "state" => first
    | exact ⟨rfl, fun b hb => nomatch hb⟩
    | exact ⟨by simp only [List.length_append, List.length_cons, List.length_nil]; omega, bs_more (by assumption)⟩
    | exact ⟨by omega, by omega, by assumption⟩
    | exact ⟨(fm1009 _).1, by simp only [List.length_append, List.length_cons, List.length_nil]; omega, bs_more (by assumption)⟩
  k_with "pyIter ref" => k_state (fun (pre : List Int) items => items.length = pre.length ∧ ∀ b ∈ items, 0 ≤ b ∧ b < 1009) "beans"
  k_with "exec While Compare cons nil" => k_while (fun (script : List Int) (shift : Int) items => 0 ≤ shift ∧ items.length ≤ 40 ∧ ∀ b ∈ items, 0 ≤ b ∧ b < 1009) (fun script shift items => 40 - items.length) "shift" "beans"
  k_steps
  refine' ⟨rfl, _, _, _, _, ?c, _, rfl, by assumption, ?n, by assumption, by omega, by assumption⟩
  case n =>
    refine News.sub (by assumption) (fun p hp => ?_)
    rw [List.mem_singleton.mp hp]
    k_mem
end
end
section
theorem off10 : True := by
  w_top off
  exact True.intro
/-- how a call that may change what it needs comes back -/
noncomputable def MutBack (g : Heap) (s₀ : Shared) (P : Value → Ledger → Prop) (v : Value) (s' : Shared) : Prop :=
  ∃ h' tk' L' m' news', s' = { s₀ with heap := h', toks := tk' } ∧ Fr g L' h' m' ∧ News g L' h' news' ∧ P v news'
section
variable {prog : Program} {w : World} {A : Around} {s : Shared} {E : Value → Shared → Prop} {base h₀ : Heap} {outer : List Env} {L : Addr} {m mg mb : Str → Option Value} {env : Env} {need : List (Addr × Obj)} {K : Frag}
  {name qual : Str} {params : Arguments} {body : List Stmt} {scope : Scope} {dV kV doc pm cdv ct oc : Value} {an od : Option Addr} {osl : Array (Option Value)} {f : Addr} {args : List Value} {kw : List (Str × Value)} {binds : List (Str × Value)}
  {pr : Program} {loose : List Str} {mean : ExcName → Option Value}
theorem code_big {M : Model} {c : Code} {R : Result → Shared → Prop} {d u : Nat} {fs : List Env} (f : Fits A d u fs) (h : codeAny M (bigA d u fs) c R s) : codeAny M A c R s := fun Γ p hc hΓ =>
  h Γ p hc ⟨hΓ.1.trans f.handled, Nat.le_trans hΓ.2.1 f.depth, fun l hl => hΓ.2.2.1 l (f.frames.trans hl), fun g hg => hΓ.2.2.2.1 g (f.guards.trans hg), Nat.le_trans hΓ.2.2.2.2 f.units⟩
theorem code_mut {A₀ : Around} {P : Value → Ledger → Prop} {R : Result → Shared → Prop} (d u : Nat) (B : Below A₀ base outer h₀) (F : Fr h₀ L s.heap m) (N : News h₀ L s.heap need) (X₀ : K.In h₀) (T : Top pr loose mean mg mb h₀)
    (fits : Fits A d u (env :: outer)) (hf : env.frame = some L) (hke : env.scope.kind = .function)
    (ho : K.lookup f = some ⟨oc, od, .func (fnOf name qual params body scope dV kV doc pm an cdv ct), osl⟩) (hcd : codeIn K cdv qual = true) (hroom : d < recursionLimit)
    (hbind : BindsTo s (fnOf name qual params body scope dV kV doc pm an cdv ct) ⟨args, kw⟩ binds) (hloc : ∀ y ∈ binds, scope.names.lookup y.1 = some .local)
    (h : ∀ g L' h₁, Fr g L' h₁ (fun y => binds.reverse.lookup y) → News g L' h₁ need → Below (bigA d u (env :: outer)) base (env :: outer) g → K.In g → Top pr loose mean mg mb g →
      (∀ b o, s.heap.get? b = some o → b ∉ need.map (·.1) → g.get? b = some o) → (∀ p ∈ need, p.1 < L') →
      wpAny (model prog w) ((bigA d u (env :: outer)).deeper (envOf qual scope L' f cdv)) (execs body (envOf qual scope L' f cdv))
        (fun fl s' => MutBack g s P (match fl with | .ret v => v | _ => .none) s') (fun _ _ => False)
        { s with heap := h₁, toks := s.toks + binds.length })
    (hQ : ∀ v h' tk' news', P v news' → Fr h₀ L h' m → News h₀ L h' news' → (∀ b o, s.heap.get? b = some o → b ∉ need.map (·.1) → h'.get? b = some o) → (∀ p ∈ news', p.1 ∈ need.map (·.1) ∨ s.heap.get? p.1 = none) → R (.ok (.ret v)) { s with heap := h', toks := tk' })
    (hco : scope.isCoroutine = false) (hgen : scope.isGenerator = false) (hk : scope.kind = .function) (hcell : ∀ x ∈ scope.names, x.2 ≠ .cell) :
    codeAny (model prog w) A (.call (.ref f) ⟨args, kw⟩) R s := by
  refine code_big fits ?_
  obtain ⟨FG, BG, st, lv⟩ := groundX (R := R) B F N (show (bigA d u (env :: outer)).frames = _ from rfl) hf hke
  have BG' : Below (bigA d u (env :: outer)) base (env :: outer) (hideAll s.heap (need.map (·.1))) := BG
  have keepAll : ∀ b o, s.heap.get? b = some o → b ∉ need.map (·.1) → (hideAll s.heap (need.map (·.1))).get? b = some o := fun b o e q => hideAll_get _ e q
  refine codeAny_call_def (fd := fnOf name qual params body scope dV kV doc pm an cdv ct) (body := body) (binds := binds) hroom ((X₀.keeps F.keep) _ _ ho) rfl (T.nolimit.keeps F.keep) (codeRec_of (X₀.keeps F.keep) hcd) rfl hbind hcell hloc (fun h₁ hns hk₁ => ?_) hco hgen hk
  refine wpAny_mono (h _ s.heap.objs.size h₁ ⟨hns, fun b o e => hk₁ b o (of_hideAll _ e), Nat.le_of_eq (hideAll_size _ _)⟩
    (fun p hp => ⟨hk₁ _ _ (N p hp).1, Nat.ne_of_lt (Heap.lt_size (N p hp).1), hideAll_none _ (List.mem_map_of_mem hp)⟩) BG' (X₀.keeps st) (T.keeps st) keepAll (fun p hp => Heap.lt_size (N p hp).1)) (fun fl s' hl => ?_) fun _ _ y => y.elim
  obtain ⟨h', tk', L', m', news', rfl, F', N', hP⟩ := hl
  refine lv _ _ ⟨L', m', news', F', N', fun F₂ N₂ => hQ _ _ _ _ hP F₂ N₂ (fun b o e q => F'.keep b o (keepAll b o e q)) fun p hp => ?_⟩
  by_cases q : p.1 ∈ need.map (·.1)
  · exact .inl q
  · refine .inr ?_
    cases e : s.heap.get? p.1 with
    | none => rfl
    | some o =>
      have e1 := (N' p hp).2.2
      rw [keepAll _ _ e q] at e1
      cases e1
theorem allHead {q : Addr × Obj} {l : Ledger} {d : Addr} (h : ∀ p ∈ q :: l, p.1 < d) : @LT.lt Nat _ q.1 d := h q (List.mem_cons_self ..)
end
end
section
theorem off11 : True := by
  w_top off
  exact True.intro
section
variable {prog : Program} {w : World} {A : Around} {s : Shared} {E : Value → Shared → Prop} {base h₀ : Heap} {outer : List Env} {L : Addr} {m mg mb : Str → Option Value} {env : Env} {K : Frag}
  {name qual : Str} {params : Arguments} {body : List Stmt} {scope : Scope} {dV kV doc pm cdv ct oc : Value} {an od : Option Addr} {osl : Array (Option Value)} {C fI : Addr} {args : List Value} {kw : List (Str × Value)}
  {pr : Program} {loose : List Str} {mean : ExcName → Option Value}
theorem call_new {A₀ : Around} {binds : Addr → List (Str × Value)} {P : Addr → Addr → Ledger → Prop} {Q : Value → Shared → Prop} {news needX : Ledger} (d u : Nat) (B : Below A₀ base outer h₀) (F : Fr h₀ L s.heap m) (N : News h₀ L s.heap news) (hsub : ∀ p ∈ needX, p ∈ news) (X₀ : K.In h₀) (T : Top pr loose mean mg mb h₀)
    (fits : Fits A d u (env :: outer)) (hf : env.frame = some L) (hke : env.scope.kind = .function)
    (hm : makesIn K C = true) (hi : findIn K (.ref C) "__init__" = some (some (.ref fI))) (hfn : isFn K (.ref fI) = true)
    (ho : K.lookup fI = some ⟨oc, od, .func (fnOf name qual params body scope dV kV doc pm an cdv ct), osl⟩) (hcd : codeIn K cdv qual = true) (hroom : d + 10 < recursionLimit)
    (hbind : ∀ x (s : Shared), K.In s.heap → BindsTo s (fnOf name qual params body scope dV kV doc pm an cdv ct) ⟨.ref x :: args, kw⟩ (binds x)) (hloc : ∀ x, ∀ y ∈ binds x, scope.names.lookup y.1 = some .local)
    (h : ∀ x dx s₁ g L' h₁, dx < x → Fr g L' h₁ (fun y => (binds x).reverse.lookup y) → News g L' h₁ ((x, instObj C dx) :: (dx, dictOf [] 0) :: needX) → (∀ p ∈ needX, p.1 < dx) → Below (bigA (d + 10) (u + 10) (env :: outer)) base (env :: outer) g → K.In g → Top pr loose mean mg mb g →
      wpAny (model prog w) ((bigA (d + 10) (u + 10) (env :: outer)).deeper (envOf qual scope L' fI cdv)) (execs body (envOf qual scope L' fI cdv))
        (fun fl s' => MutBack g s₁ (fun v news' => v = .none ∧ P x dx news') (match fl with | .ret v => v | _ => .none) s') (fun _ _ => False)
        { s₁ with heap := h₁, toks := s₁.toks + (binds x).length })
    (hQ : ∀ x dx h' tk' news', P x dx news' → (∀ p ∈ news, p.1 < dx) → dx < x → Fr h₀ L h' m → News h₀ L h' news' → (∀ p ∈ news, p.1 ∉ needX.map (·.1) → h'.get? p.1 = some p.2 ∧ p.1 ≠ L ∧ h₀.get? p.1 = none) → (∀ p ∈ news', p.1 = x ∨ p.1 = dx ∨ p.1 ∈ needX.map (·.1) ∨ ∀ q ∈ news, @Ne Nat q.1 p.1) → Q (.ref x) { s with heap := h', toks := tk' })
    (hco : scope.isCoroutine = false) (hgen : scope.isGenerator = false) (hk : scope.kind = .function) (hcell : ∀ x ∈ scope.names, x.2 ≠ .cell) :
    wpAny (model prog w) A (call (.ref C) args kw) Q E s := by
  refine wpAny_call (make_K F N (X₀.keeps F.keep) hm hi (beq_iff_eq.mp hfn) fun x dx h' F1 N1 l1 l2 => ?_)
  have fits' : Fits (A.under (.builtin "type.__call__" ⟨.ref C :: args, kw⟩)) (d + 10) (u + 10) (env :: outer) := ⟨fits.handled, by
    have e : (A.under (.builtin "type.__call__" ⟨.ref C :: args, kw⟩)).depth = A.depth + (Code.builtin "type.__call__" ⟨.ref C :: args, kw⟩).weight := rfl
    have e2 : (Code.builtin "type.__call__" ⟨.ref C :: args, kw⟩).weight = 1 := rfl
    rw [e, e2]
    have := fits.depth
    omega, (rfl : (A.under (.builtin "type.__call__" ⟨.ref C :: args, kw⟩)).frames = A.frames).trans fits.frames,
    (rfl : (A.under (.builtin "type.__call__" ⟨.ref C :: args, kw⟩)).guards = A.guards).trans fits.guards, by
    have e : (A.under (.builtin "type.__call__" ⟨.ref C :: args, kw⟩)).units = A.units + (Code.builtin "type.__call__" ⟨.ref C :: args, kw⟩).cUnits := rfl
    have e2 : (Code.builtin "type.__call__" ⟨.ref C :: args, kw⟩).cUnits = 1 := rfl
    rw [e, e2]
    have := fits.units
    omega⟩
  have N2 : News h₀ L h' ((x, instObj C dx) :: (dx, dictOf [] 0) :: needX) := fun p hp => by
    rcases List.mem_cons.mp hp with rfl | hp
    · exact N1 _ (List.mem_cons_self ..)
    rcases List.mem_cons.mp hp with rfl | hp
    · exact N1 _ (List.mem_cons_of_mem _ (List.mem_cons_self ..))
    exact N1 _ (List.mem_cons_of_mem _ (List.mem_cons_of_mem _ (hsub p hp)))
  refine code_mut (d + 10) (u + 10) B F1 N2 X₀ T fits' hf hke ho hcd hroom (hbind x _ (X₀.keeps F1.keep)) (hloc x) ?_ ?_ hco hgen hk hcell (P := fun v news' => v = .none ∧ P x dx news')
  · intro g L' h₁ F' N' B' X' T' _ _
    exact h x dx _ g L' h₁ l2 F' N' (fun p hp => l1 p (hsub p hp)) B' X' T'
  · rintro v h'' tk' news' ⟨rfl, hP⟩ F2 N3 keep fresh
    refine ⟨rfl, ?_⟩
    refine hQ x dx h'' tk' news' hP l1 l2 F2 N3 (fun p hp hn => ?a) fun p hp => ?b
    case b =>
      rcases fresh p hp with q | q
      · rcases List.mem_cons.mp q with q | q
        · exact .inl q
        rcases List.mem_cons.mp q with q | q
        · exact .inr (.inl q)
        · exact .inr (.inr (.inl q))
      · refine .inr (.inr (.inr fun r hr e => ?_))
        have e1 := (N1 r (List.mem_cons_of_mem _ (List.mem_cons_of_mem _ hr))).1
        rw [show r.1 = p.1 from e] at e1
        rw [e1] at q
        cases q
    have e := N1 p (List.mem_cons_of_mem _ (List.mem_cons_of_mem _ hp))
    refine ⟨keep _ _ e.1 fun q => ?_, e.2⟩
    have hlt := l1 p hp
    rcases List.mem_cons.mp q with q | q
    · exact absurd q (Nat.ne_of_lt (Nat.lt_trans hlt l2))
    rcases List.mem_cons.mp q with q | q
    · exact absurd q (Nat.ne_of_lt hlt)
    · exact hn q
end
end
section
theorem off12 : True := by
  w_top off
  exact True.intro
noncomputable abbrev kk (h : List Int) (t : List Tok) : Keys := fun i => (h.getD i 0, t.getD i 0)
noncomputable abbrev nodeE (k : Keys) (op : Str) (place : Int) (ty : Value) (kids : Addr) (val : Value) : List DictEntry :=
  [⟨(k 0).1, .str (Str.ofString "op") (k 0).2, .str op (k 6).2⟩, ⟨(k 1).1, .str (Str.ofString "place") (k 1).2, .int place (k 7).2⟩, ⟨(k 2).1, .str (Str.ofString "type") (k 2).2, ty⟩,
   ⟨(k 3).1, .str (Str.ofString "kids") (k 3).2, .ref kids⟩, ⟨(k 4).1, .str (Str.ofString "value") (k 4).2, val⟩, ⟨(k 5).1, .str (Str.ofString "sure") (k 5).2, .bool false⟩]
section
variable {w : World} {A A₀ : Around} {s : Shared} {base h₀ : Heap} {outer : List Env} {L : Addr} {m mg mb : Str → Option Value} {env : Env} {mean : ExcName → Option Value}
theorem node_new {news : Ledger} {op : Str} {place : Int} {ty val : Value} {kids : Addr} {t1 t2 : Tok} {Q : Value → Shared → Prop}
    (KX : (hd.heap_1 w.params).In h₀) (T : Top hd.view_1 (looseW hd.view_1 [Str.ofString "Names", Str.ofString "expr_text"]) mean mg mb h₀) (B : Below A₀ base outer h₀) (fits : Fits A 600 6000 (env :: outer)) (hf : env.frame = some L) (hke : env.scope.kind = .function)
    (F : Fr h₀ L s.heap m) (N : News h₀ L s.heap news) (hty : handedIn ty = true) (hval : handedIn val = true)
    (hQ : ∀ x dx k h' tk', (∀ p ∈ news, p.1 < dx) → dx < x → Fr h₀ L h' m → News h₀ L h' ((x, instObj 354 dx) :: (dx, dictOf (nodeE k op place ty kids val) 6) :: news) → Q (.ref x) { s with heap := h', toks := tk' }) :
    wpAny (model PG w) A (call (.ref 354) [.str op t1, .int place t2, ty, .ref kids, val]) Q (fun _ _ => False) s := by
  refine call_new (needX := []) (binds := fun x => [(Str.ofString "self", .ref x), (Str.ofString "op", .str op t1), (Str.ofString "place", .int place t2), (Str.ofString "type_of", ty), (Str.ofString "kids", .ref kids), (Str.ofString "value", val)])
    (P := fun x dx news' => ∃ k, (x, instObj 354 dx) ∈ news' ∧ (dx, dictOf (nodeE k op place ty kids val) 6) ∈ news') 600 6000 B F N (fun _ h => nomatch h) KX T fits hf hke (by k_is) (by k_is) (by k_is) (by k_is) (by k_is) (by decide) (fun _ _ hX => binds_K hX rfl (by k_is) rfl rfl rfl) (fun _ => locs rfl) ?_ ?_ rfl rfl rfl (by decide)
  · intro x dx s₁ g L' h₁ hlt F' N' hl B' X' T'
    k_lt2 hlt
    (try dsimp only)
    (try k_fold)
    k_steps
    refine' ⟨_, _, _, _, _, rfl, by assumption, by assumption, rfl, kk [?_, ?_, ?_, ?_, ?_, ?_, 0, 0] [?_, ?_, ?_, ?_, ?_, ?_, ?_, ?_], ?m1, ?m2⟩
    case m2 => k_mem
    case m1 => k_mem
  · rintro x dx h' tk' news' ⟨k, m1, m2⟩ l1 l2 F' N' keep _
    refine hQ x dx k h' tk' l1 l2 F' fun p hp => ?_
    rcases List.mem_cons.mp hp with rfl | hp
    · exact N' _ m1
    rcases List.mem_cons.mp hp with rfl | hp
    · exact N' _ m2
    · exact keep p hp (fun h => nomatch h)
theorem type_new {news : Ledger} {form : Str} {nb sz : Int} {t1 t2 t3 : Tok} {Q : Value → Shared → Prop}
    (KX : (hd.heap_1 w.params).In h₀) (T : Top hd.view_1 (looseW hd.view_1 [Str.ofString "Names", Str.ofString "expr_text"]) mean mg mb h₀) (B : Below A₀ base outer h₀) (fits : Fits A 600 6000 (env :: outer)) (hf : env.frame = some L) (hke : env.scope.kind = .function)
    (F : Fr h₀ L s.heap m) (N : News h₀ L s.heap news)
    (hQ : ∀ x dx k f p hh h' tk', (∀ p ∈ news, p.1 < dx) → dx < x → Fr h₀ L h' m → News h₀ L h' ((x, instObj 375 dx) :: (dx, dictOf (typeE k nb form (Str.ofString "") (Str.ofString "") sz f p hh) 12) :: news) → Q (.ref x) { s with heap := h', toks := tk' }) :
    wpAny (model PG w) A (call (.ref 375) [.int nb t1, .str form t2, .int sz t3]) Q (fun _ _ => False) s := by
  refine call_new (needX := []) (binds := fun x => [(Str.ofString "self", .ref x), (Str.ofString "number", .int nb t1), (Str.ofString "form", .str form t2), (Str.ofString "size", .int sz t3)])
    (P := fun x dx news' => ∃ k f p hh, (x, instObj 375 dx) ∈ news' ∧ (dx, dictOf (typeE k nb form (Str.ofString "") (Str.ofString "") sz f p hh) 12) ∈ news') 600 6000 B F N (fun _ h => nomatch h) KX T fits hf hke (by k_is) (by k_is) (by k_is) (by k_is) (by k_is) (by decide) (fun _ _ hX => BindsTo.of_eq rfl) (fun _ => locs rfl) ?_ ?_ rfl rfl rfl (by decide)
  · intro x dx s₁ g L' h₁ hlt F' N' hl B' X' T'
    k_lt2 hlt
    (try dsimp only)
    (try k_fold)
    k_steps
    refine' ⟨_, _, _, _, _, rfl, by assumption, by assumption, rfl, kk [?_, ?_, ?_, ?_, ?_, ?_, ?_, ?_, ?_, ?_, ?_, ?_] [?_, ?_, ?_, ?_, ?_, ?_, ?_, ?_, ?_, ?_, ?_, ?_, ?_, ?_, ?_, ?_, ?_, ?_, ?_, ?_], _, _, _, ?m1, ?m2⟩
    case m2 => k_mem
    case m1 => k_mem
  · rintro x dx h' tk' news' ⟨k, f, p, hh, m1, m2⟩ l1 l2 F' N' keep _
    refine hQ x dx k f p hh h' tk' l1 l2 F' fun p hp => ?_
    rcases List.mem_cons.mp hp with rfl | hp
    · exact N' _ m1
    rcases List.mem_cons.mp hp with rfl | hp
    · exact N' _ m2
    · exact keep p hp (fun h => nomatch h)
theorem obj_new {news : Ledger} {on kind : Str} {ty : Value} {t1 t2 t3 : Tok} {Q : Value → Shared → Prop}
    (KX : (hd.heap_1 w.params).In h₀) (T : Top hd.view_1 (looseW hd.view_1 [Str.ofString "Names", Str.ofString "expr_text"]) mean mg mb h₀) (B : Below A₀ base outer h₀) (fits : Fits A 600 6000 (env :: outer)) (hf : env.frame = some L) (hke : env.scope.kind = .function)
    (F : Fr h₀ L s.heap m) (N : News h₀ L s.heap news) (hty : handedIn ty = true)
    (hQ : ∀ x dx k h' tk', (∀ p ∈ news, p.1 < dx) → dx < x → Fr h₀ L h' m → News h₀ L h' ((x, instObj 396 dx) :: (dx, dictOf (objE k on kind ty 0 (Str.ofString "")) 14) :: news) → Q (.ref x) { s with heap := h', toks := tk' }) :
    wpAny (model PG w) A (call (.ref 396) [.str on t1, .str kind t2, ty, .int 0 t3]) Q (fun _ _ => False) s := by
  refine call_new (needX := []) (binds := fun x => [(Str.ofString "self", .ref x), (Str.ofString "name", .str on t1), (Str.ofString "kind", .str kind t2), (Str.ofString "type_of", ty), (Str.ofString "place", .int 0 t3)])
    (P := fun x dx news' => ∃ k, (x, instObj 396 dx) ∈ news' ∧ (dx, dictOf (objE k on kind ty 0 (Str.ofString "")) 14) ∈ news') 600 6000 B F N (fun _ h => nomatch h) KX T fits hf hke (by k_is) (by k_is) (by k_is) (by k_is) (by k_is) (by decide) (fun _ _ hX => BindsTo.of_eq rfl) (fun _ => locs rfl) ?_ ?_ rfl rfl rfl (by decide)
  · intro x dx s₁ g L' h₁ hlt F' N' hl B' X' T'
    k_lt2 hlt
    (try dsimp only)
    (try k_fold)
    k_steps
    refine' ⟨_, _, _, _, _, rfl, by assumption, by assumption, rfl, kk [?_, ?_, ?_, ?_, ?_, ?_, ?_, ?_, ?_, ?_, ?_, ?_, ?_, ?_] [?_, ?_, ?_, ?_, ?_, ?_, ?_, ?_, ?_, ?_, ?_, ?_, ?_, ?_, ?_, ?_, ?_, ?_, ?_, ?_, ?_, ?_], ?m1, ?m2⟩
    case m2 => k_mem
    case m1 => k_mem
  · rintro x dx h' tk' news' ⟨k, m1, m2⟩ l1 l2 F' N' keep _
    refine hQ x dx k h' tk' l1 l2 F' fun p hp => ?_
    rcases List.mem_cons.mp hp with rfl | hp
    · exact N' _ m1
    rcases List.mem_cons.mp hp with rfl | hp
    · exact N' _ m2
    · exact keep p hp (fun h => nomatch h)
end
end
section
theorem off13 : True := by
  w_top off
  exact True.intro
section
variable {w : World} {A A₀ : Around} {s : Shared} {base h₀ : Heap} {outer : List Env} {L : Addr} {m mg mb : Str → Option Value} {env : Env} {mean : ExcName → Option Value}
theorem tp_wpE {α : Type} {M : Model} {A : Around} {t : Sem α} {Q : α → Shared → Prop} {E : Value → Shared → Prop} {s : Shared} (h : wpAny M A t Q (fun _ _ => False) s) : wpAny M A t Q E s := wpAny_mono h (fun _ _ x => x) fun _ _ e => e.elim
theorem tp_For {prog : Program} {w : World} {A : Around} {s : Shared} {env : Env} {h₀ : Heap} {L : Addr} {m : Locs} {Q : Flow → Shared → Prop} {target iter : Expr} {pos : Pos} {body : List Stmt} (_F : Fr h₀ L s.heap m)
    (h : wpAny (model prog w) A (eval iter env) (fun xv s₁ => wpAny (model prog w) A (pyIter xv) (fun it s₂ => LoopAtR prog w A h₀ env target body Q it s₂) (fun _ _ => False) s₁) (fun _ _ => False) s)
    (hs : ∀ x, foldedSetIterable iter env x = pure x) :
    wpAny (model prog w) A (exec (.For target iter body [] pos) env) Q (fun _ _ => False) s := For_R h₀ h hs
theorem tp_hD {h₀ h : Heap} {L : Addr} {news news' : Ledger} {D : List NE} (N : News h₀ L h news') (hDm : ∀ e ∈ D, (e.a, e.obj) ∈ news) (hs : ∀ p ∈ news, p ∈ news') : ∀ e ∈ D, h.get? e.a = some e.obj := fun e he => (N _ (hs _ (hDm e he))).1
theorem tp_hM {news news' : Ledger} {D : List NE} (hDm : ∀ e ∈ D, (e.a, e.obj) ∈ news) (hs : ∀ p ∈ news, p ∈ news') : ∀ e ∈ D, (e.a, e.obj) ∈ news' := fun e he => hs _ (hDm e he)
end
end
local macro_rules | `(tactic| fold_ind_prep2) => `(tactic| (intro p hp; repeat (first | exact hp | apply List.mem_cons_of_mem)))
local macro_rules | `(tactic| item_end_look) => `(tactic| first | assumption | k_mem | exact rfl | exact ⟨rfl, Nat.le_of_ble_eq_true rfl, rfl, rfl, Nat.le_of_ble_eq_true rfl⟩ | exact Nat.le_of_ble_eq_true rfl | k_ne | k_upd | exact ⟨by decide, by decide⟩ | ((try refine News.sub ‹_› ?_); (repeat' (first | exact List.forall_mem_nil _ | refine List.forall_mem_cons.mpr ⟨by k_mem, ?_⟩)); done) | exact tp_hD ‹_› ‹_› (by fold_ind_prep2) | exact tp_hM ‹_› (by fold_ind_prep2) | exact (fun _ => by with_unfolding_all rfl) | k_all | decide +kernel)
local macro_rules | `(tactic| top_name) => `(tactic| all_goals (try (show (_ : Prop); item_end_look)))
local macro_rules | `(tactic| end_err) => `(tactic| first | (rename_i hk _; have N' := News.keepAll ‹_› hk; (try dsimp only)) | (rename_i hl l1 _ _; replace l1 := ltN l1; k_lt hl) | skip)
local macro_rules | `(tactic| exists $f) => `(tactic| (k_here; k_dflt (apply $f; top_name; (all_goals intro _); intros; end_err)))
local macro_rules | `(tactic| exists $f, $n, $k) => `(tactic| (k_here; (with_reducible show wpAny _ _ (call (Value.ref $n) $k) _ _ _); refine tp_wpE ?_; exists $f))
local macro_rules | `(tactic| exists $f, $n) => `(tactic| exists $f, $n, _)
local macro_rules | `(tactic| exists $f, $_, $_, $_) => `(tactic| (k_here; k_dflt (apply $f; top_name; k_whole; (all_goals (with_reducible show wpAny _ _ _ _ _ _)))))
local macro_rules | `(tactic| exists $f, $k, $_, $_, $_) => `(tactic| ((with_reducible show wpAny _ _ (subscriptTail _ _ (Value.ref _) (Value.int $k _)) _ _ _); exists $f, _, _, _))
local macro_rules | `(tactic| dict_iter_look) => `(tactic| (k_here; (refine tp_For ‹_› ?_ (by intro _; with_unfolding_all rfl))))
section
theorem off14 : True := by
  w_top off
  exact True.intro
theorem putHead {name : Str} {h h0 : Int} {k v v0 : Value} {t0 : Tok} {es : List DictEntry} {n : Nat} : (putL name h k v (⟨h0, .str name t0, v0⟩ :: es), putN name (⟨h0, .str name t0, v0⟩ :: es) n) = (⟨h0, .str name t0, v⟩ :: es, n) := by
  simp [putL, putN, Value.isStr]
noncomputable def AllNe (d : Nat) : Ledger → Prop
  | [] => True
  | p :: r => @Ne Nat p.1 d ∧ AllNe d r
theorem allNe_of {d : Addr} : ∀ {l : Ledger}, (∀ p ∈ l, @Ne Nat p.1 d) → AllNe d l
  | [], _ => trivial
  | p :: _, h => ⟨h p (.head _), allNe_of fun q hq => h q (.tail _ hq)⟩
local macro_rules | `(tactic| item_end_look) => `(tactic| first | k_asm | k_inst | k_is | k_get | k_put | exact putHead | k_handed | exact Nat.le_trans (Nat.succ_le_succ ‹_›) (by decide))
local macro_rules | `(tactic| walk_at "getAttr ref") => `(tactic| exists get_own, _, _, _)
local macro_rules | `(tactic| walk_at "setAttr ref") => `(tactic| (exists set_dict; (try k_sweep)))
local macro_rules | `(tactic| walk_at "call ref") => `(tactic| exists type_new)
section
variable {w : World} {A A₀ : Around} {s : Shared} {base h₀ : Heap} {outer : List Env} {L : Addr} {m mg mb : Str → Option Value} {env : Env} {mean : ExcName → Option Value}
noncomputable abbrev cntE (h : Int) (t t' : Tok) (n : Int) : DictEntry := ⟨h, .str (Str.ofString "counter") t, .int n t'⟩
/-- Types.new without a label -/
theorem new_plain {ty dt : Addr} {ch : Int} {ct : Tok} {n sz : Int} {es : List DictEntry} {c : Nat} {form : Str} {t1 t2 tn : Tok} {R : Result → Shared → Prop}
    (KX : (hd.heap_1 w.params).In h₀) (T : Top hd.view_1 (looseW hd.view_1 [Str.ofString "Names", Str.ofString "expr_text"]) mean mg mb h₀) (B : Below A₀ base outer h₀) (fits : Fits A 500 5000 (env :: outer)) (hf : env.frame = some L) (hke : env.scope.kind = .function)
    (F : Fr h₀ L s.heap m) (N : News h₀ L s.heap [(ty, instObj 432 dt), (dt, dictOf (cntE ch ct tn n :: es) c)]) (hn : 0 ≤ n ∧ n ≤ 100) (hes : es.length ≤ 100) (hne : @Ne Nat ty dt)
    (hQ : ∀ x dx k f p hh h' tk' tn', Fr h₀ L h' m → News h₀ L h' [(x, instObj 375 dx), (dx, dictOf (typeE k (n + 1) form (Str.ofString "") (Str.ofString "") sz f p hh) 12), (ty, instObj 432 dt), (dt, dictOf (cntE ch ct tn' (n + 1) :: es) c)] →
      (∀ b o, s.heap.get? b = some o → b ≠ ty → b ≠ dt → h'.get? b = some o) → s.heap.get? x = none → s.heap.get? dx = none → x ≠ dx → R (.ok (.ret (.ref x))) { s with heap := h', toks := tk' }) :
    codeAny (model PG w) A (.call (.ref 422) ⟨[.ref ty, .str form t1, .int sz t2], []⟩) R s := by
  refine code_mut (binds := [(Str.ofString "self", .ref ty), (Str.ofString "form", .str form t1), (Str.ofString "size", .int sz t2), (Str.ofString "module", .str (Str.ofString "") 737), (Str.ofString "label", .str (Str.ofString "") 738)])
    (P := fun v news' => ∃ x dx k f p hh tn', v = .ref x ∧ (x, instObj 375 dx) ∈ news' ∧ (dx, dictOf (typeE k (n + 1) form (Str.ofString "") (Str.ofString "") sz f p hh) 12) ∈ news' ∧ (ty, instObj 432 dt) ∈ news' ∧ (dt, dictOf (cntE ch ct tn' (n + 1) :: es) c) ∈ news' ∧ x ≠ ty ∧ x ≠ dt ∧ dx ≠ ty ∧ dx ≠ dt ∧ x ≠ dx)
    500 5000 B F N KX T fits hf hke (by k_is) (by k_is) (by decide) (binds_K (KX.keeps F.keep) rfl (by k_is) rfl rfl rfl) (locs rfl) ?_ ?_ rfl rfl rfl (by decide)
  · intro g L' h₁ F' N' B' X' T' _ _
    (try dsimp only)
    (try k_fold)
    k_steps
    dsimp only
    k_unfold
    dsimp only
    change MutBack _ _ _ _ _
    refine' ⟨_, _, _, _, _, rfl, by assumption, by assumption, _, ?zd, kk [?_, ?_, ?_, ?_, ?_, ?_, ?_, ?_, ?_, ?_, ?_, ?_] [?_, ?_, ?_, ?_, ?_, ?_, ?_, ?_, ?_, ?_, ?_, ?_, ?_, ?_, ?_, ?_, ?_, ?_, ?_, ?_], ?zf, ?zp, ?zhh, ?ztn, rfl, ?zm1, ?zm2, ?zm3, ?zm4, ?zn1, ?zn2, ?zn3, ?zn4, ?zn5⟩
    case zm1 => k_mem
    case zm2 => k_mem
    case zm3 => k_mem
    case zm4 => k_mem
    case zn1 => k_ne
    case zn2 => k_ne
    case zn3 => k_ne
    case zn4 => k_ne
    case zn5 => k_ne
  · rintro v h' tk' news' ⟨x, dx, k, f, p, hh, tn', rfl, m1, m2, m3, m4, n1, n2, n3, n4, n5⟩ F' N' keep fresh
    have fr : ∀ y o, (y, o) ∈ news' → y ≠ ty → y ≠ dt → s.heap.get? y = none := fun y o hm a b => (fresh _ hm).resolve_left (fun q => by
      rcases List.mem_cons.mp q with q | q
      · exact a q
      rcases List.mem_cons.mp q with q | q
      · exact b q
      · exact nomatch q)
    refine hQ x dx k f p hh h' tk' tn' F' (fun q hq => ?_) (fun b o e a1 a2 => keep b o e (fun q => ?_)) (fr _ _ m1 n1 n2) (fr _ _ m2 n3 n4) n5
    · rcases List.mem_cons.mp hq with rfl | hq
      · exact N' _ m1
      rcases List.mem_cons.mp hq with rfl | hq
      · exact N' _ m2
      rcases List.mem_cons.mp hq with rfl | hq
      · exact N' _ m3
      rcases List.mem_cons.mp hq with rfl | hq
      · exact N' _ m4
      · exact nomatch hq
    · rcases List.mem_cons.mp q with q | q
      · exact a1 q
      rcases List.mem_cons.mp q with q | q
      · exact a2 q
      · exact nomatch q
end
section
variable {w : World} {A A₀ : Around} {s : Shared} {base h₀ : Heap} {outer : List Env} {L : Addr} {m mg mb : Str → Option Value} {env : Env} {mean : ExcName → Option Value}
noncomputable abbrev typesE (k : Keys) (n : Int) (kd b ch by' ig mk ni no : Addr) : List DictEntry :=
  [⟨(k 0).1, .str (Str.ofString "counter") (k 0).2, .int n (k 9).2⟩, ⟨(k 1).1, .str (Str.ofString "known") (k 1).2, .ref kd⟩, ⟨(k 2).1, .str (Str.ofString "boolean") (k 2).2, .ref b⟩,
   ⟨(k 3).1, .str (Str.ofString "char") (k 3).2, .ref ch⟩, ⟨(k 4).1, .str (Str.ofString "byte") (k 4).2, .ref by'⟩, ⟨(k 5).1, .str (Str.ofString "integer") (k 5).2, .ref ig⟩,
   ⟨(k 6).1, .str (Str.ofString "mask") (k 6).2, .ref mk⟩, ⟨(k 7).1, .str (Str.ofString "nil") (k 7).2, .ref ni⟩, ⟨(k 8).1, .str (Str.ofString "none") (k 8).2, .ref no⟩]
theorem new_init {all : Ledger} {ty dt kd : Addr} {okd : Obj} {ch : Int} {ct : Tok} {n sz : Int} {es : List DictEntry} {c : Nat} {form : Str} {t1 t2 tn : Tok} {R : Value → Shared → Prop} {E : Value → Shared → Prop}
    (KX : (hd.heap_1 w.params).In h₀) (T : Top hd.view_1 (looseW hd.view_1 [Str.ofString "Names", Str.ofString "expr_text"]) mean mg mb h₀) (B : Below A₀ base outer h₀) (fits : Fits A 500 5000 (env :: outer)) (hf : env.frame = some L) (hke : env.scope.kind = .function)
    (F : Fr h₀ L s.heap m) (N : News h₀ L s.heap all) (hk : okd.IsDictOf (PySem.strKind PG w) []) (m1 : (ty, instObj 432 dt) ∈ all) (m2 : (dt, dictOf (cntE ch ct tn n :: es) c) ∈ all) (m3 : (kd, okd) ∈ all)
    (hn : 0 ≤ n ∧ n ≤ 100) (hes : es.length ≤ 100) (n1 : @Ne Nat kd ty) (n2 : @Ne Nat kd dt) (n3 : @Ne Nat ty dt)
    (hQ : ∀ x h' tk' tn', Fr h₀ L h' m → News h₀ L h' [(ty, instObj 432 dt), (dt, dictOf (cntE ch ct tn' (n + 1) :: es) c), (kd, okd)] → R (.ref x) { s with heap := h', toks := tk' }) :
    wpAny (model PG w) A (call (.ref 422) [.ref ty, .str form t1, .int sz t2]) R E s := by
  refine wpAny_call (new_plain (ch := ch) (ct := ct) (tn := tn) (dt := dt) (c := c) KX T B fits hf hke F (News.sub N fun p hp => ?_) hn hes n3 ?_)
  · rcases List.mem_cons.mp hp with rfl | hp
    · exact m1
    rcases List.mem_cons.mp hp with rfl | hp
    · exact m2
    · exact nomatch hp
  · intro x dx k f p hh h' tk' tn' F' N' keep _ _ _
    refine hQ x h' tk' tn' F' fun q hq => ?_
    rcases List.mem_cons.mp hq with rfl | hq
    · exact N' _ (by k_mem)
    rcases List.mem_cons.mp hq with rfl | hq
    · exact N' _ (by k_mem)
    rcases List.mem_cons.mp hq with rfl | hq
    · exact ⟨keep _ _ (N _ m3).1 n1 n2, (N _ m3).2⟩
    · exact nomatch hq
local macro_rules | `(tactic| end_err) => `(tactic| (rename_i N'; dsimp only at N'))
local macro_rules | `(tactic| walk_at "call ref") => `(tactic| exists new_init)
theorem types_new {news : Ledger} {Q : Value → Shared → Prop}
    (KX : (hd.heap_1 w.params).In h₀) (T : Top hd.view_1 (looseW hd.view_1 [Str.ofString "Names", Str.ofString "expr_text"]) mean mg mb h₀) (B : Below A₀ base outer h₀) (fits : Fits A 400 4000 (env :: outer)) (hf : env.frame = some L) (hke : env.scope.kind = .function)
    (F : Fr h₀ L s.heap m) (N : News h₀ L s.heap news)
    (hQ : ∀ x dx k kd okd b ch by' ig mk ni no h' tk', okd.IsDictOf (PySem.strKind PG w) [] → (kd == sysModules) = false → (∀ p ∈ news, p.1 < dx) → @LT.lt Nat _ dx x → (∀ p ∈ news, @Ne Nat p.1 kd) → @Ne Nat kd x → @Ne Nat kd dx → Fr h₀ L h' m → News h₀ L h' ((x, instObj 432 dx) :: (dx, dictOf (typesE k 7 kd b ch by' ig mk ni no) 9) :: (kd, okd) :: news) → Q (.ref x) { s with heap := h', toks := tk' }) :
    wpAny (model PG w) A (call (.ref 432) []) Q (fun _ _ => False) s := by
  refine call_new (needX := []) (binds := fun x => [(Str.ofString "self", .ref x)])
    (P := fun x dx news' => ∃ k kd okd b ch by' ig mk ni no, okd.IsDictOf (PySem.strKind PG w) [] ∧ (kd == sysModules) = false ∧ @Ne Nat kd x ∧ @Ne Nat kd dx ∧ (x, instObj 432 dx) ∈ news' ∧ (dx, dictOf (typesE k 7 kd b ch by' ig mk ni no) 9) ∈ news' ∧ (kd, okd) ∈ news') 400 4000 B F N (fun _ h => nomatch h) KX T fits hf hke (by k_is) (by k_is) (by k_is) (by k_is) (by k_is) (by decide) (fun _ _ hX => BindsTo.of_eq rfl) (fun _ => locs rfl) ?_ ?_ rfl rfl rfl (by decide)
  · intro x dx s₁ g L' h₁ hlt F' N' hl B' X' T'
    k_lt2 hlt
    (try dsimp only)
    (try k_fold)
    k_steps
    refine' ⟨_, _, _, _, _, rfl, by assumption, by assumption, rfl, kk [?_, ?_, ?_, ?_, ?_, ?_, ?_, ?_, ?_] [?_, ?_, ?_, ?_, ?_, ?_, ?_, ?_, ?_, ?_], _, _, ?zb, ?zc, ?zd, ?ze, ?zf, ?zg, ?zh, by assumption, ?zlo, ?zn1, ?zn2, ?zm1, ?zm2, ?zm3⟩
    case zm1 => k_mem
    case zm2 => k_mem
    case zm3 => k_mem
    case zlo => assumption
    case zn1 => k_ne
    case zn2 => k_ne
  · rintro x dx h' tk' news' ⟨k, kd, okd, b, ch, by', ig, mk, ni, no, hk, lo, n1, n2, m1, m2, m3⟩ l1 l2 F' N' keep fresh
    refine hQ x dx k kd okd b ch by' ig mk ni no h' tk' hk lo l1 l2 (fun p hp q => ?_) n1 n2 F' fun p hp => ?_
    · rcases fresh _ m3 with h | h | h | h
      · exact n1 h
      · exact n2 h
      · exact nomatch h
      · exact h p hp q
    rcases List.mem_cons.mp hp with rfl | hp
    · exact N' _ m1
    rcases List.mem_cons.mp hp with rfl | hp
    · exact N' _ m2
    rcases List.mem_cons.mp hp with rfl | hp
    · exact N' _ m3
    · exact keep p hp (fun h => nomatch h)
end
end
section
theorem off15 : True := by
  w_top off
  exact True.intro
open PySem.Spec PyProof.V
noncomputable abbrev MK := Str ⊕ Int
noncomputable def isMix : MK → Value → Bool
  | .inl x, v => Value.isStrOf x v
  | .inr i, v => Value.isInt i v
theorem eqBool_str_int {prog : Program} {w : World} {A : Around} {E : Value → Shared → Prop} {s : Shared} {a : Str} {t : Tok} {b : Int} {u : Tok} {Q : Bool → Shared → Prop} (h : Q false s) : wpAny (model prog w) A (eqBool (.str a t) (.int b u)) Q E s := by
  unfold eqBool
  try with_reducible refine wpAny_holding ?_
  show wpAny _ _ (if (Value.str a t == Value.int b u) = true then _ else _) Q E s
  rw [if_neg (by intro q; exact nomatch eq_of_beq q)]
  exact wpAny_bind (PySem.EqMixed.eq_str_int (wpAny_truthy_bool h))
theorem eqBool_int_str {prog : Program} {w : World} {A : Around} {E : Value → Shared → Prop} {s : Shared} {a : Str} {t : Tok} {b : Int} {u : Tok} {Q : Bool → Shared → Prop} (h : Q false s) : wpAny (model prog w) A (eqBool (.int b u) (.str a t)) Q E s := by
  unfold eqBool
  try with_reducible refine wpAny_holding ?_
  show wpAny _ _ (if (Value.int b u == Value.str a t) = true then _ else _) Q E s
  rw [if_neg (by intro q; exact nomatch eq_of_beq q)]
  exact wpAny_bind (PySem.EqMixed.eq_int_str (wpAny_truthy_bool h))
noncomputable def mixKind (prog : Program) (w : World) : KeyKind prog w MK where
  is := isMix
  hash := fun k => match k with | .inl x => (strKind prog w).hash x | .inr i => (intKind prog w).hash i
  inj := fun v a b ha hb => by
    cases a with
    | inl x =>
      obtain ⟨t, rfl⟩ := Value.isStrOf_shape ha
      cases b with
      | inl y => exact congrArg Sum.inl ((strKind prog w).inj (.str x t) x y ha hb)
      | inr j => exact Bool.noConfusion (show false = true from hb)
    | inr i =>
      obtain ⟨t, rfl⟩ := Value.isInt_shape ha
      cases b with
      | inl y => exact Bool.noConfusion (show false = true from hb)
      | inr j => exact congrArg Sum.inr ((intKind prog w).inj (.int i t) i j ha hb)
  byValue := fun k v h => by
    cases k with
    | inl x => exact (strKind prog w).byValue x v h
    | inr i => exact (intKind prog w).byValue i v h
  pyHash := fun {A E s k v Q} hv h => by
    cases k with
    | inl x => exact (strKind prog w).pyHash (k := x) hv h
    | inr i => exact (intKind prog w).pyHash (k := i) hv h
  eqBool := fun {A E s a b u v Q} hu hv h => by
    cases a with
    | inl x =>
      cases b with
      | inl y =>
        refine (strKind prog w).eqBool (a := x) (b := y) hu hv ?_
        rwa [show decide (x = y) = decide ((Sum.inl x : MK) = Sum.inl y) from decide_eq_decide.mpr ⟨fun e => by rw [e], fun e => Sum.inl.inj e⟩]
      | inr j =>
        obtain ⟨t, rfl⟩ := Value.isStrOf_shape hu
        obtain ⟨t', rfl⟩ := Value.isInt_shape hv
        refine eqBool_str_int ?_
        rwa [decide_eq_false (by intro e; cases e)] at h
    | inr i =>
      cases b with
      | inl y =>
        obtain ⟨t, rfl⟩ := Value.isInt_shape hu
        obtain ⟨t', rfl⟩ := Value.isStrOf_shape hv
        refine eqBool_int_str ?_
        rwa [decide_eq_false (by intro e; cases e)] at h
      | inr j =>
        refine (intKind prog w).eqBool (a := i) (b := j) hu hv ?_
        rwa [show decide (i = j) = decide ((Sum.inr i : MK) = Sum.inr j) from decide_eq_decide.mpr ⟨fun e => by rw [e], fun e => Sum.inr.inj e⟩]
  «strs» := fun k x t v h => by
    cases k with
    | inl y => exact (strKind prog w).«strs» y x t v h
    | inr i => exact (intKind prog w).«strs» i x t v h
noncomputable def encMix : MK → PyData
  | .inl x => .str x
  | .inr i => .int i
theorem keyEnc_mix : KeyEnc encMix := by
  constructor
  · intro a b
    cases a <;> cases b
    · exact (keyEnc_str.eq _ _).trans (decide_eq_decide.mpr ⟨fun e => by rw [e], fun e => Sum.inl.inj e⟩)
    · rw [decide_eq_false (by intro e; cases e)]; simp [encMix, Spec.same]
    · rw [decide_eq_false (by intro e; cases e)]; simp [encMix, Spec.same]
    · exact (keyEnc_int.eq _ _).trans (decide_eq_decide.mpr ⟨fun e => by rw [e], fun e => Sum.inr.inj e⟩)
  · intro a n k e hne
    cases n with
    | inl x =>
      cases k with
      | inl y => exact keyEnc_str.sep a x y e (fun q => hne (by rw [q]))
      | inr j => cases a <;> simp [encMix, Spec.same] at e ⊢
    | inr i =>
      cases k with
      | inl y => cases a <;> simp [encMix, Spec.same] at e ⊢
      | inr j => exact keyEnc_int.sep a i j e (fun q => hne (by rw [q]))
noncomputable abbrev key3 (md nm : Str) (lv : Int) : List MK := [.inl md, .inl nm, .inr lv]
theorem sis {prog : Program} {w : World} (x : Str) (t : Tok) : (mixKind prog w).is (.inl x) (.str x t) = true := by show Value.isStrOf x (.str x t) = true; exact beq_self_eq_true x
theorem iis {prog : Program} {w : World} (x : Int) (t : Tok) : (mixKind prog w).is (.inr x) (.int x t) = true := by show Value.isInt x (.int x t) = true; exact beq_self_eq_true x
theorem key3_items {prog : Program} {w : World} (md nm : Str) (lv : Int) (t1 t2 t3 : Tok) : ItemsAre (mixKind prog w) (key3 md nm lv) [.str md t1, .str nm t2, .int lv t3] :=
  .cons (sis _ _) (.cons (sis _ _) (.cons (iis _ _) .nil))
noncomputable abbrev key2 (a b : Str) : List MK := [.inl a, .inl b]
theorem key2_items {prog : Program} {w : World} (a b : Str) (t1 t2 : Tok) : ItemsAre (mixKind prog w) (key2 a b) [.str a t1, .str b t2] :=
  .cons (sis _ _) (.cons (sis _ _) .nil)
end
section
theorem off16 : True := by
  w_top off
  exact True.intro
section
variable {w : World} {A A₀ : Around} {s : Shared} {base h₀ : Heap} {outer : List Env} {L : Addr} {m mg mb : Str → Option Value} {env : Env} {mean : ExcName → Option Value}
noncomputable abbrev basN (t : Nat → Tok) : List (Str × Value) := [(Str.ofString "boolean", .str (Str.ofString "BOOLEAN") (t 0)), (Str.ofString "char", .str (Str.ofString "CHAR") (t 1)), (Str.ofString "byte", .str (Str.ofString "BYTE") (t 2)), (Str.ofString "integer", .str (Str.ofString "INTEGER") (t 3)), (Str.ofString "set", .str (Str.ofString "SET") (t 4))]
noncomputable abbrev basD : List (PyData × PyData) := [(.str (Str.ofString "boolean"), .str (Str.ofString "BOOLEAN")), (.str (Str.ofString "char"), .str (Str.ofString "CHAR")), (.str (Str.ofString "byte"), .str (Str.ofString "BYTE")), (.str (Str.ofString "integer"), .str (Str.ofString "INTEGER")), (.str (Str.ofString "set"), .str (Str.ofString "SET"))]
theorem bas_flat (t : Nat → Tok) : PyProof.V.FlatPairs PyData.str (basN t) basD := .cons (PyProof.V.Flat.str _ _) (.cons (PyProof.V.Flat.str _ _) (.cons (PyProof.V.Flat.str _ _) (.cons (PyProof.V.Flat.str _ _) (.cons (PyProof.V.Flat.str _ _) .nil))))
theorem lt_of_all {d : Addr} : ∀ {l : Ledger}, AllLt d l → ∀ p ∈ l, p.1 < d
  | [], _ => fun _ h => nomatch h
  | _ :: _, h => fun q hq => by
    rcases List.mem_cons.mp hq with rfl | hq
    · exact h.1
    · exact lt_of_all h.2 q hq
theorem bas_spec {news : Ledger} {Q E : Value → Shared → Prop}
    (KX : (hd.heap_1 w.params).In h₀) (T : Top hd.view_1 (looseW hd.view_1 [Str.ofString "Names", Str.ofString "expr_text"]) mean mg mb h₀) (B : Below A₀ base outer h₀) (fits : Fits A 500 5000 (env :: outer)) (hf : env.frame = some L) (hke : env.scope.kind = .function)
    (F : Fr h₀ L s.heap m) (N : News h₀ L s.heap news)
    (hQ : ∀ a o t h' tk', (∀ p ∈ news, p.1 < a) → (a == sysModules) = false → o.IsDictOf (PySem.strKind PG w) (basN t) → Fr h₀ L h' m → News h₀ L h' ((a, o) :: news) → Q (.ref a) { s with heap := h', toks := tk' }) :
    wpAny (model PG w) A (call (.ref 35) []) Q E s := by
  refine wpAny_call (code_mut (need := news) (binds := [])
    (P := fun v news' => ∃ a o t, v = .ref a ∧ (a == sysModules) = false ∧ o.IsDictOf (PySem.strKind PG w) (basN t) ∧ (a, o) ∈ news' ∧ (∀ p ∈ news, p ∈ news') ∧ ∀ p ∈ news, p.1 < a) 500 5000 B F N KX T fits hf hke (by k_is) (by k_is) (by decide) (BindsTo.of_eq rfl) (locs rfl) ?_ ?_ rfl rfl rfl (by decide))
  · intro g L' h₁ F' N' B' X' T' _ _
    (try dsimp only)
    (try k_fold)
    k_steps
    refine' ⟨_, _, _, _, _, rfl, by assumption, by assumption, _, _, (fun i => List.getD [?_, ?_, ?_, ?_, ?_] i 0), rfl, ?lo, ?hd, ?m, ?m2, ?m3⟩
    case lo => assumption
    case hd => assumption
    case m => k_mem
    case m2 => exact fun p hp => List.mem_cons_of_mem _ hp
    case m3 => first | assumption | exact lt_of_all (by assumption)
  · rintro v h' tk' news' ⟨a, o, t, rfl, lo, hd, m1, m2, m3⟩ F' N' keep fresh
    refine hQ a o t h' tk' m3 lo hd F' fun p hp => ?_
    rcases List.mem_cons.mp hp with rfl | hp
    · exact N' _ m1
    · exact N' _ (m2 p hp)
end
end
section
theorem off17 : True := by
  w_top off
  exact True.intro
local macro_rules | `(tactic| fold_ind_close) => `(tactic| (iterate 14 (first | done | assumption | apply And.right)); done)
local macro_rules | `(tactic| open_k0) => `(tactic| first | assumption | (apply And.left; fold_ind_close) | (apply And.right; fold_ind_close) | (apply And.left; apply And.left; fold_ind_close) | (apply And.left; apply And.right; apply And.left; fold_ind_close) | (apply And.right; apply And.right; apply And.left; fold_ind_close))
local macro_rules | `(tactic| k_ne) => `(tactic| (refine neN ?_; (try dsimp only); first | exact Nat.ne_of_lt (by open_k0) | exact Nat.ne_of_gt (by open_k0) | open_k0 | (refine Ne.symm ?_; open_k0) | omega))
noncomputable def findDef (name : Str) : List Stmt → Option (List Stmt × Scope)
  | [] => none
  | .FunctionDef n _ body _ _ _ scope _ _ _ :: r => if n = name then some (body, scope) else findDef name r
  | _ :: r => findDef name r
noncomputable def preDef : List Stmt × Scope := (findDef (Str.ofString "predeclared_names") PySem.Challenge.pw_pq0758_01.main.body).getD default
noncomputable def lcE : Expr := match preDef.1.getD 1 default with
  | .Return (some (.BinOp _ _ r _)) _ => r
  | _ => default
noncomputable def preScope : Scope := preDef.2
section
variable {w : World} {A A₀ : Around} {s : Shared} {base h₀ : Heap} {outer : List Env} {L : Addr} {m mg mb : Str → Option Value} {env : Env} {mean : ExcName → Option Value}
local macro_rules | `(tactic| walk_at "eval ListComp") => `(tactic| (k_here; k_dflt (refine LCg.ListComp_U (F₀ := by k_asm) (by rfl) (by decide) (by rfl) (by decide) (by rfl) ?_)))
local macro_rules | `(tactic| end_err) => `(tactic| (rename_i t _ _ hl _ hd' _ _; have hf' := bas_flat t; dsimp only [basN, basD] at hd' hf'; (try k_lt hl); (try dsimp only)))
local macro_rules | `(tactic| walk_at "call ref") => `(tactic| exists bas_spec)
noncomputable abbrev basA (ts : Nat → Tok) : Array Value := #[.str (Str.ofString "BOOLEAN") (ts 0), .str (Str.ofString "BYTE") (ts 1), .str (Str.ofString "CHAR") (ts 2), .str (Str.ofString "INTEGER") (ts 3), .str (Str.ofString "SET") (ts 4)]
theorem lc_spec {D : Addr} {lo : Obj} {fa : Addr} {cd : Value} {Q E : Value → Shared → Prop}
    (KX : (hd.heap_1 w.params).In h₀) (T : Top hd.view_1 (looseW hd.view_1 [Str.ofString "Names", Str.ofString "expr_text"]) mean mg mb h₀) (B : Below (bigA 450 4500 (env :: outer)) base (env :: outer) h₀)
    (F : Fr h₀ L s.heap (fun y => if y = Str.ofString "names" then some (.ref D) else List.lookup y [].reverse)) (N : News h₀ L s.heap [(D, lo)])
    (hQ : ∀ a c ts h' tk', @Ne Nat D a → Fr h₀ L h' (fun y => if y = Str.ofString "names" then some (.ref D) else List.lookup y [].reverse) → News h₀ L h' [(a, listOf (basA ts) c), (D, lo)] → Q (.ref a) { s with heap := h', toks := tk' }) :
    wpAny (model PG w) ((bigA 450 4500 (env :: outer)).deeper (envOf (Str.ofString "predeclared_names") preScope L fa cd)) (eval lcE (envOf (Str.ofString "predeclared_names") preScope L fa cd)) Q E s := by
  conv in lcE => whnf
  conv in preScope => whnf
  k_steps
  refine' hQ _ ?zc (fun i => List.getD [?_, ?_, ?_, ?_, ?_] i 0) _ _ ?zne (by assumption) (News.sub (by assumption) ?zsub)
  case zsub =>
    refine List.forall_mem_cons.mpr ⟨?zm1, List.forall_mem_cons.mpr ⟨?zm2, List.forall_mem_nil _⟩⟩
    case zm1 => k_mem
    case zm2 => k_mem
  case zne => k_ne
end
end
section
theorem off18 : True := by
  w_top off
  exact True.intro
section
variable {w : World} {A A₀ : Around} {s : Shared} {base h₀ : Heap} {outer : List Env} {L : Addr} {m mg mb : Str → Option Value} {env : Env} {mean : ExcName → Option Value}
local macro_rules | `(tactic| walk_at "eval ListComp") => `(tactic| (k_here; k_dflt (refine lc_spec ‹_› ‹_› ‹_› ‹_› (News.sub (news' := [_]) ‹_› (List.forall_mem_singleton.mpr (List.Mem.head _))) ?_; intros; rename_i N'; dsimp only [basA] at N'; (try dsimp only))))
noncomputable abbrev preA (ts : Nat → Tok) : Array Value := #[.str (Str.ofString "ABS") (ts 0), .str (Str.ofString "ODD") (ts 1), .str (Str.ofString "LEN") (ts 2), .str (Str.ofString "LSL") (ts 3), .str (Str.ofString "ASR") (ts 4), .str (Str.ofString "ROR") (ts 5), .str (Str.ofString "ORD") (ts 6), .str (Str.ofString "CHR") (ts 7), .str (Str.ofString "INC") (ts 8), .str (Str.ofString "DEC") (ts 9), .str (Str.ofString "INCL") (ts 10), .str (Str.ofString "EXCL") (ts 11), .str (Str.ofString "NEW") (ts 12), .str (Str.ofString "ASSERT") (ts 13), .str (Str.ofString "TRUE") (ts 14), .str (Str.ofString "FALSE") (ts 15), .str (Str.ofString "BOOLEAN") (ts 16), .str (Str.ofString "BYTE") (ts 17), .str (Str.ofString "CHAR") (ts 18), .str (Str.ofString "INTEGER") (ts 19), .str (Str.ofString "SET") (ts 20)]
theorem pre_spec {news : Ledger} {Q E : Value → Shared → Prop}
    (KX : (hd.heap_1 w.params).In h₀) (T : Top hd.view_1 (looseW hd.view_1 [Str.ofString "Names", Str.ofString "expr_text"]) mean mg mb h₀) (B : Below A₀ base outer h₀) (fits : Fits A 450 4500 (env :: outer)) (hf : env.frame = some L) (hke : env.scope.kind = .function)
    (F : Fr h₀ L s.heap m) (N : News h₀ L s.heap news)
    (hQ : ∀ a c ts h' tk', (∀ p ∈ news, @Ne Nat p.1 a) → Fr h₀ L h' m → News h₀ L h' ((a, listOf (preA ts) c) :: news) → Q (.ref a) { s with heap := h', toks := tk' }) :
    wpAny (model PG w) A (call (.ref 40) []) Q E s := by
  refine wpAny_call (code_mut (need := []) (binds := [])
    (P := fun v news' => ∃ a c ts, v = .ref a ∧ (a, listOf (preA ts) c) ∈ news') 450 4500 B F (fun _ h => nomatch h) KX T fits hf hke (by k_is) (by k_is) (by decide) (BindsTo.of_eq rfl) (locs rfl) ?_ ?_ rfl rfl rfl (by decide))
  · intro g L' h₁ F' N' B' X' T' _ _
    (try dsimp only)
    (try k_fold)
    k_steps
    refine' ⟨_, _, _, _, _, rfl, by assumption, by assumption, _, ?zc, (fun i => List.getD [?_, ?_, ?_, ?_, ?_, ?_, ?_, ?_, ?_, ?_, ?_, ?_, ?_, ?_, ?_, ?_, ?_, ?_, ?_, ?_, ?_] i 0), rfl, ?zm⟩
    case zm => k_mem
  · rintro v h' tk' news' ⟨a, c, ts, rfl, m1⟩ F' N' keep fresh
    refine hQ a c ts h' tk' (fun p hp q => ?_) F' fun p hp => ?_
    · have e := (N p hp).1
      have := (fresh _ m1).resolve_left (fun h => nomatch h)
      rw [show p.1 = a from q] at e
      rw [e] at this; cases this
    · rcases List.mem_cons.mp hp with rfl | hp
      · exact N' _ m1
      · exact ⟨keep _ _ (N p hp).1 (fun h => nomatch h), (N p hp).2⟩
end
end
section
theorem off19 : True := by
  w_top off
  exact True.intro
open PyProof.V PySem.Spec
theorem UpdF.again {d : Addr} {o o' : Obj} : ∀ {l : List (Addr × Obj)} {g : Obj → List (Addr × Obj)}, UpdF d o l g → UpdF d o' (g o') g
  | _, _, .head h => .head h
  | _, _, .tail h r => .tail h (UpdF.again r)
theorem UpdF.self {d : Addr} {o : Obj} : ∀ {l : List (Addr × Obj)} {g : Obj → List (Addr × Obj)}, UpdF d o l g → l = g o
  | _, _, .head _ => rfl
  | _, _, .tail (p := p) _ r => congrArg (p :: ·) (UpdF.self r)
theorem UpdF.mem {d : Addr} {o : Obj} : ∀ {l : List (Addr × Obj)} {g : Obj → List (Addr × Obj)}, UpdF d o l g → (d, o) ∈ l
  | _, _, .head _ => .head _
  | _, _, .tail _ r => .tail _ (UpdF.mem r)
section
variable {prog : Program} {w : World} {A : Around} {s : Shared} {h₀ : Heap} {L : Addr} {m : Locs} {env : Env} {target : Expr} {body : List Stmt} {Q : Flow → Shared → Prop}
noncomputable def UsedEnd (w : World) (h₀ : Heap) (L : Addr) (m : Locs) (s : Shared) (I : Addr) (oI : Obj) (g : Obj → Ledger) (x : Str) (kvs : List (Str × Value)) (D : List (PyData × PyData)) (f : Flow) (s' : Shared) : Prop :=
  f = .next ∧ ∃ h' tk' m' uo', s' = { s with heap := h', toks := tk' } ∧ Fr h₀ L h' m' ∧ (∀ y : Str, [Str.ofString "name"].contains y = false → m' y = m y) ∧ News h₀ L h' ((I, oI) :: g uo') ∧
    uo'.IsDictOf (PySem.strKind PG w) (stored kvs x (.bool true)) ∧ FlatPairs PyData.str (stored kvs x (.bool true)) (putD (.str x) (.bool true) D)
theorem used_iter {g : Obj → Ledger} {news : Ledger} {ud l : Addr} {uo lo : Obj} {names : List (Str × Tok)} {c : Nat}
    (hm : m (Str.ofString "used") = some (.ref ud)) (F : Fr h₀ L s.heap m) (N : News h₀ L s.heap news) (U : UpdF ud uo news g) (hl : ∀ o', (l, lo) ∈ g o') (hc : lo.cls = .type "list") (hd : lo.data = .seq (names.map fun p => Value.str p.1 p.2).toArray c)
    (h0 : uo.IsDictOf (PySem.strKind PG w) [])
    (step : ∀ I x t u uo' kvs D h tk oI, uo'.IsDictOf (PySem.strKind PG w) kvs → FlatPairs PyData.str kvs D → D.length ≤ names.length → Fr h₀ L h (ovl ["name"] u m) → News h₀ L h ((I, oI) :: g uo') → UpdF ud uo' ((I, oI) :: g uo') (fun o => (I, oI) :: g o) →
      wpAny (model prog w) A (assign target env (.str x t)) (fun _ s₃ => wpAny (model prog w) A (execs body env) (UsedEnd w h₀ L m s I oI g x kvs D) (fun _ _ => False) s₃) (fun _ _ => False) { s with heap := h, toks := tk })
    (done : ∀ h' tk' u uo' kvs D, uo'.IsDictOf (PySem.strKind PG w) kvs → FlatPairs PyData.str kvs D → (∀ k, (lookup (.str k) D).isSome = decide (k ∈ names.map (·.1))) → D.length ≤ names.length → Fr h₀ L h' (ovl ["name"] u m) → News h₀ L h' (g uo') → Q .next { s with heap := h', toks := tk' })
    (hL : env.locals = L := by rfl) (hh : A.handled = none := by rfl) :
    wpAny (model prog w) A (pyIter (.ref l)) (fun it s₂ => LoopAtR prog w A h₀ env target body Q it s₂) (fun _ _ => False) s := by
  refine iter_listO (lo := lo) (vs := names.map fun p => Value.str p.1 p.2) ["name"] (fun i news₁ => ∃ uo' kvs D, news₁ = g uo' ∧ uo'.IsDictOf (PySem.strKind PG w) kvs ∧ FlatPairs PyData.str kvs D ∧ (∀ k, (lookup (.str k) D).isSome = decide (k ∈ (names.take i).map (·.1))) ∧ D.length ≤ i) F N hc hd ?_ ?_ ?_ ?_ hL hh
  · rintro i news₁ ⟨uo', kvs, D, rfl, _⟩
    exact hl uo'
  · exact ⟨uo, [], [], UpdF.self U, h0, .nil, fun k => by simp [Spec.lookup], Nat.zero_le _⟩
  · rintro I i v u news₁ h tk o hI hv ⟨uo', kvs, D, rfl, hdict, hflat, hlook, hlen⟩ hoff F₁ N₁
    rw [List.getElem?_map] at hv
    obtain ⟨p, hp, rfl⟩ := Option.map_eq_some_iff.mp hv
    have hi : i < names.length := (List.getElem?_eq_some_iff.mp hp).1
    have hne : ud ≠ I := hoff _ (UpdF.mem (UpdF.again U (o' := uo')))
    refine wpAny_mono (step I p.1 p.2 u uo' kvs D h tk o hdict hflat (by omega) F₁ N₁ (.tail (fun e => hne e.symm) (UpdF.again U))) (fun _ s₃ h₃ => wpAny_mono h₃ (fun f s' h₄ => ?_) fun _ _ e => e) fun _ _ e => e
    obtain ⟨rfl, h', tk', m', uo'', rfl, F', hm', N', hd', hf'⟩ := h₄
    refine ⟨h', tk', m', g uo'', rfl, F', N', ?_, hm', uo'', _, _, rfl, hd', hf', fun k => ?_, ?_⟩
    · intro q hq e
      have addr : q.1 ∈ (g uo').map (·.1) := by
        obtain ⟨pre, post, e1, e2, _, _⟩ := U.split
        rw [e2] at hq ⊢
        rcases List.mem_append.mp hq with hq | hq
        · exact List.mem_map_of_mem (List.mem_append_left _ hq)
        rcases List.mem_cons.mp hq with rfl | hq
        · simp
        · exact List.mem_map_of_mem (List.mem_append_right _ (List.mem_cons_of_mem _ hq))
      obtain ⟨r, hr, er⟩ := List.mem_map.mp addr
      exact hoff r hr (er.trans e)
    · rw [lookup_putK keyEnc_str]
      have ht : names.take (i + 1) = names.take i ++ [p] := by
        rw [List.take_add_one, hp]; rfl
      rw [ht, List.map_append]
      by_cases q : k = p.1
      · rw [if_pos q]; simp [q]
      · rw [if_neg q, hlook k]
        simp [q]
    · exact Nat.le_trans (putD_length_le _ _ _) (by omega)
  · rintro h' tk' u news' F' N' ⟨uo', kvs, D, rfl, hdict, hflat, hlook, hlen⟩
    rw [List.length_map] at hlook hlen
    rw [List.take_length] at hlook
    exact done h' tk' u uo' kvs D hdict hflat hlook hlen F' N'
noncomputable def AlEnd (h₀ : Heap) (L : Addr) (m : Locs) (s : Shared) (I : Addr) (oI : Obj) (G : Obj → Obj → Ledger) (P : Obj → Obj → Prop) (f : Flow) (s' : Shared) : Prop :=
  f = .next ∧ ∃ h' tk' m' uo' ao', s' = { s with heap := h', toks := tk' } ∧ Fr h₀ L h' m' ∧ (∀ y : Str, [Str.ofString "name"].contains y = false → m' y = m y) ∧ News h₀ L h' ((I, oI) :: G uo' ao') ∧ P uo' ao'
theorem UpdF.addr {d : Addr} {o o' : Obj} {l : Ledger} {g : Obj → Ledger} (U : UpdF d o l g) : (g o').map (·.1) = l.map (·.1) := by
  obtain ⟨pre, post, e1, e2, _, _⟩ := U.split
  rw [e2, e1]
  simp
theorem alias_iter {G : Obj → Obj → Ledger} {g : Obj → Ledger} {news : Ledger} {ud ad l : Addr} {uo ao lo : Obj} {tA tS : Tok} {c : Nat} {P1 P2 : Obj → Obj → Prop}
    (F : Fr h₀ L s.heap m) (N : News h₀ L s.heap news) (hm : m (Str.ofString "used") = some (.ref ud)) {dx sc nl : Addr} {k : Keys} {cc : Nat} (hx : (dx, dictOf (namesE k ad sc nl) cc) ∈ news) (U1 : UpdF ud uo news g) (U2 : ∀ u, UpdF ad ao (g u) (G u)) (hl : ∀ u a, (l, lo) ∈ G u a) (hc : lo.cls = .type "list")
    (hd : lo.data = .seq #[.str (Str.ofString "A") tA, .str (Str.ofString "SYSTEM") tS] c)
    (step0 : ∀ I u h tk oI, AllLt I (G uo ao) → Fr h₀ L h (ovl ["name"] u m) → News h₀ L h ((I, oI) :: G uo ao) →
      wpAny (model prog w) A (assign target env (.str (Str.ofString "A") tA)) (fun _ s₃ => wpAny (model prog w) A (execs body env) (AlEnd h₀ L m s I oI G P1) (fun _ _ => False) s₃) (fun _ _ => False) { s with heap := h, toks := tk })
    (step1 : ∀ I u h tk oI uo' ao', P1 uo' ao' → AllLt I (G uo' ao') → Fr h₀ L h (ovl ["name"] u m) → News h₀ L h ((I, oI) :: G uo' ao') →
      wpAny (model prog w) A (assign target env (.str (Str.ofString "SYSTEM") tS)) (fun _ s₃ => wpAny (model prog w) A (execs body env) (AlEnd h₀ L m s I oI G P2) (fun _ _ => False) s₃) (fun _ _ => False) { s with heap := h, toks := tk })
    (done : ∀ h' tk' u uo' ao', P2 uo' ao' → Fr h₀ L h' (ovl ["name"] u m) → News h₀ L h' (G uo' ao') → Q .next { s with heap := h', toks := tk' })
    (hL : env.locals = L := by rfl) (hh : A.handled = none := by rfl) :
    wpAny (model prog w) A (pyIter (.ref l)) (fun it s₂ => LoopAtR prog w A h₀ env target body Q it s₂) (fun _ _ => False) s := by
  have adr : ∀ u a, (G u a).map (·.1) = news.map (·.1) := fun u a => (UpdF.addr (U2 u)).trans (UpdF.addr U1)
  have hself : news = G uo ao := (UpdF.self U1).trans (UpdF.self (U2 uo))
  refine iter_listO (lo := lo) (vs := [.str (Str.ofString "A") tA, .str (Str.ofString "SYSTEM") tS]) ["name"] (fun i news₁ => ∃ uo' ao', news₁ = G uo' ao' ∧ (i = 0 → uo' = uo ∧ ao' = ao) ∧ (i = 1 → P1 uo' ao') ∧ (i = 2 → P2 uo' ao')) F N hc hd ?_ ?_ ?_ ?_ hL hh
  · rintro i news₁ ⟨uo', ao', rfl, _⟩
    exact hl uo' ao'
  · exact ⟨uo, ao, hself, fun _ => ⟨rfl, rfl⟩, fun h => by omega, fun h => by omega⟩
  · rintro I i v u news₁ h tk o hI hv ⟨uo', ao', rfl, p0, p1, p2⟩ hoff F₁ N₁
    have lts : ∀ u a, AllLt I (G u a) := fun u a => allLt_of fun p hp => by
      have : p.1 ∈ news.map (·.1) := adr u a ▸ List.mem_map_of_mem hp
      obtain ⟨q, hq, e⟩ := List.mem_map.mp this
      rw [← e]; exact hI q hq
    have conc : ∀ P : Obj → Obj → Prop, (P = if i = 0 then P1 else P2) → i < 2 → ∀ f s', AlEnd h₀ L m s I o G P f s' → EndO h₀ L I o ["name"] m (fun news₁ => ∃ uo' ao', news₁ = G uo' ao' ∧ (i + 1 = 0 → uo' = uo ∧ ao' = ao) ∧ (i + 1 = 1 → P1 uo' ao') ∧ (i + 1 = 2 → P2 uo' ao')) s Q f s' := by
      rintro P hP hi f s' ⟨rfl, h', tk', m', uo'', ao'', rfl, F', hm', N', hp⟩
      refine ⟨h', tk', m', G uo'' ao'', rfl, F', N', fun q hq e => ?_, hm', uo'', ao'', rfl, fun h => by omega, fun h => ?_, fun h => ?_⟩
      · have lt := lts uo'' ao''
        have hq2 : q.1 ∈ (G uo' ao').map (·.1) := by rw [adr]; rw [← adr uo'' ao'']; exact List.mem_map_of_mem hq
        obtain ⟨r, hr, er⟩ := List.mem_map.mp hq2
        exact hoff r hr (er.trans e)
      · rw [hP, if_pos (by omega)] at hp; exact hp
      · rw [hP, if_neg (by omega)] at hp; exact hp
    match i, hv with
    | 0, hv =>
      obtain rfl : Value.str (Str.ofString "A") tA = v := Option.some.inj hv
      obtain ⟨rfl, rfl⟩ := p0 rfl
      exact wpAny_mono (step0 I u h tk o (lts _ _) F₁ N₁) (fun _ s₃ h₃ => wpAny_mono h₃ (fun f s' h₄ => conc P1 rfl (by omega) f s' h₄) fun _ _ e => e) fun _ _ e => e
    | 1, hv =>
      obtain rfl : Value.str (Str.ofString "SYSTEM") tS = v := Option.some.inj hv
      exact wpAny_mono (step1 I u h tk o uo' ao' (p1 rfl) (lts _ _) F₁ N₁) (fun _ s₃ h₃ => wpAny_mono h₃ (fun f s' h₄ => conc P2 rfl (by omega) f s' h₄) fun _ _ e => e) fun _ _ e => e
    | i + 2, hv => cases hv
  · rintro h' tk' u news' F' N' ⟨uo', ao', rfl, p0, p1, p2⟩
    exact done h' tk' u uo' ao' (p2 rfl) F' N'
end
end
section
theorem off20 : True := by
  w_top off
  exact True.intro
local macro_rules | `(tactic| walk_at "none") => `(tactic| fail)
section
variable {w : World} {A A₀ : Around} {s : Shared} {base h₀ : Heap} {outer : List Env} {L : Addr} {m mg mb : Str → Option Value} {env : Env} {mean : ExcName → Option Value}
theorem in_strTab_eq {prog : Program} {w : World} {A : Around} {E : Value → Shared → Prop} {s : Shared} {d : Addr} {D : List (PyData × PyData)} {x : Str} {t : Tok} {b : Bool} {Q : Value → Shared → Prop} (T : StrTab prog w s.heap d D) (hb : (PySem.Spec.lookup (.str x) D).isSome = b) (h : Q (.bool b) { s with toks := s.toks + 1 }) :
    wpAny (model prog w) A (compareOp .In (.str x t) (.ref d)) Q E s := in_strTab T (by rw [hb]; exact h)
local macro_rules | `(tactic| item_end_look) => `(tactic| k_tabat)
local macro_rules | `(tactic| walk_at "compareOp In str ref") => `(tactic| exists in_strTab_eq, _, _, _)
theorem free0 {ud : Addr} {uo : Obj} {kvs : List (Str × Value)} {D : List (PyData × PyData)} {nm : Str} {t : Tok} {Q : Value → Shared → Prop}
    (KX : (hd.heap_1 w.params).In h₀) (T : Top hd.view_1 (looseW hd.view_1 [Str.ofString "Names", Str.ofString "expr_text"]) mean mg mb h₀) (B : Below A₀ base outer h₀) (fits : Fits A 450 4500 (env :: outer)) (hf : env.frame = some L) (hke : env.scope.kind = .function)
    (F : Fr h₀ L s.heap m) (N : News h₀ L s.heap [(ud, uo)]) (hu : uo.IsDictOf (PySem.strKind PG w) kvs) (hfl : PyProof.V.FlatPairs PyData.str kvs D) (lo : (ud == sysModules) = false)
    (h1 : (PySem.Spec.lookup (.str nm) D).isSome = false) (hn : nm = Str.ofString "A" ∨ nm = Str.ofString "SYSTEM")
    (hQ : ∀ h' tk' t', (∀ b o, s.heap.get? b = some o → h'.get? b = some o) → Fr h₀ L h' m → Q (.str nm t') { s with heap := h', toks := tk' }) :
    wpAny (model PG w) A (call (.ref 155) [.str nm t, .ref ud]) Q (fun _ _ => False) s := by
  refine call_pure (binds := [(Str.ofString "name", .str nm t), (Str.ofString "used", .ref ud)]) (P := fun v => ∃ t', v = .str nm t') 450 4500 B F N KX T fits hf hke (by k_is) (by k_is) (by decide) (BindsTo.of_eq rfl) (locs rfl) ?_ (fun v h' tk' hv hk F' => by obtain ⟨t', rfl⟩ := hv; exact hQ h' tk' t' hk F') rfl rfl rfl (by decide)
  intro g L' h₁ F' N' B' X' T' hkeep hlt
  (try dsimp only)
  (try k_fold)
  rcases hn with rfl | rfl
  · k_steps
    dsimp only
    change PureBack _ _ _ _ _ _
    refine pb_end (by assumption) (by assumption) ?_ ?_
    · repeat' (first | exact List.forall_mem_nil _ | refine List.forall_mem_cons.mpr ⟨by k_mem, ?_⟩)
    · exact ⟨_, rfl⟩
  · k_steps
    dsimp only
    change PureBack _ _ _ _ _ _
    refine pb_end (by assumption) (by assumption) ?_ ?_
    · repeat' (first | exact List.forall_mem_nil _ | refine List.forall_mem_cons.mpr ⟨by k_mem, ?_⟩)
    · exact ⟨_, rfl⟩
theorem free1 {ud : Addr} {uo : Obj} {kvs : List (Str × Value)} {D : List (PyData × PyData)} {t : Tok} {Q : Value → Shared → Prop}
    (KX : (hd.heap_1 w.params).In h₀) (T : Top hd.view_1 (looseW hd.view_1 [Str.ofString "Names", Str.ofString "expr_text"]) mean mg mb h₀) (B : Below A₀ base outer h₀) (fits : Fits A 450 4500 (env :: outer)) (hf : env.frame = some L) (hke : env.scope.kind = .function)
    (F : Fr h₀ L s.heap m) (N : News h₀ L s.heap [(ud, uo)]) (hu : uo.IsDictOf (PySem.strKind PG w) kvs) (hfl : PyProof.V.FlatPairs PyData.str kvs D) (lo : (ud == sysModules) = false)
    (h1 : (PySem.Spec.lookup (.str (Str.ofString "A")) D).isSome = true) (h2 : (PySem.Spec.lookup (.str (Str.ofString "A1")) D).isSome = false)
    (hQ : ∀ h' tk' t', (∀ b o, s.heap.get? b = some o → h'.get? b = some o) → Fr h₀ L h' m → Q (.str (Str.ofString "A1") t') { s with heap := h', toks := tk' }) :
    wpAny (model PG w) A (call (.ref 155) [.str (Str.ofString "A") t, .ref ud]) Q (fun _ _ => False) s := by
  refine call_pure (binds := [(Str.ofString "name", .str (Str.ofString "A") t), (Str.ofString "used", .ref ud)]) (P := fun v => ∃ t', v = .str (Str.ofString "A1") t') 450 4500 B F N KX T fits hf hke (by k_is) (by k_is) (by decide) (BindsTo.of_eq rfl) (locs rfl) ?_ (fun v h' tk' hv hk F' => by obtain ⟨t', rfl⟩ := hv; exact hQ h' tk' t' hk F') rfl rfl rfl (by decide)
  intro g L' h₁ F' N' B' X' T' hkeep hlt
  (try dsimp only)
  (try k_fold)
  · k_steps
    dsimp only
    change PureBack _ _ _ _ _ _
    refine pb_end (by assumption) (by assumption) ?_ ?_
    · repeat' (first | exact List.forall_mem_nil _ | refine List.forall_mem_cons.mpr ⟨by k_mem, ?_⟩)
    · exact ⟨_, rfl⟩
end
end
section
theorem off21 : True := by
  w_top off
  exact True.intro
local macro_rules | `(tactic| fold_ind_close) => `(tactic| (iterate 14 (first | done | assumption | apply And.right)); done)
local macro_rules | `(tactic| open_k0) => `(tactic| first | assumption | (apply And.left; fold_ind_close) | (apply And.right; fold_ind_close))
local macro_rules | `(tactic| k_ne) => `(tactic| (refine neN ?_; (try dsimp only); first | exact Nat.ne_of_lt (by open_k0) | exact Nat.ne_of_gt (by open_k0) | omega))
noncomputable abbrev preN : List Str := [Str.ofString "ABS", Str.ofString "ODD", Str.ofString "LEN", Str.ofString "LSL", Str.ofString "ASR", Str.ofString "ROR", Str.ofString "ORD", Str.ofString "CHR", Str.ofString "INC", Str.ofString "DEC", Str.ofString "INCL", Str.ofString "EXCL", Str.ofString "NEW", Str.ofString "ASSERT", Str.ofString "TRUE", Str.ofString "FALSE", Str.ofString "BOOLEAN", Str.ofString "BYTE", Str.ofString "CHAR", Str.ofString "INTEGER", Str.ofString "SET"]
noncomputable abbrev preT (ts : Nat → Tok) : List (Str × Tok) := [(Str.ofString "ABS", ts 0), (Str.ofString "ODD", ts 1), (Str.ofString "LEN", ts 2), (Str.ofString "LSL", ts 3), (Str.ofString "ASR", ts 4), (Str.ofString "ROR", ts 5), (Str.ofString "ORD", ts 6), (Str.ofString "CHR", ts 7), (Str.ofString "INC", ts 8), (Str.ofString "DEC", ts 9), (Str.ofString "INCL", ts 10), (Str.ofString "EXCL", ts 11), (Str.ofString "NEW", ts 12), (Str.ofString "ASSERT", ts 13), (Str.ofString "TRUE", ts 14), (Str.ofString "FALSE", ts 15), (Str.ofString "BOOLEAN", ts 16), (Str.ofString "BYTE", ts 17), (Str.ofString "CHAR", ts 18), (Str.ofString "INTEGER", ts 19), (Str.ofString "SET", ts 20)]
section
variable {w : World} {A A₀ : Around} {s : Shared} {base h₀ : Heap} {outer : List Env} {L : Addr} {m mg mb : Str → Option Value} {env : Env} {mean : ExcName → Option Value}
local macro_rules | `(tactic| end_err) => `(tactic| first | (rename_i hk _; have N' := News.keepAll ‹_› hk; (try dsimp only)) | (rename_i hl _ N'; dsimp only [preA] at N'; (try replace hl := allNe_of hl); (try simp only [AllNe, and_true] at hl); (try dsimp only)))
local macro_rules | `(tactic| walk_at "call ref") => `(tactic| exists pre_spec)
local macro_rules | `(tactic| walk_at "exec For") => `(tactic| dict_iter_look)
local macro_rules | `(tactic| walk_at "call ref") => `(tactic| exists free0)
local macro_rules | `(tactic| walk_at "call ref") => `(tactic| exists free1)
noncomputable def NP1 (w : World) (al : Str) (uo ao : Obj) : Prop := (∃ kvs D, uo.IsDictOf (PySem.strKind PG w) kvs ∧ PyProof.V.FlatPairs PyData.str kvs D ∧ D.length ≤ 40 ∧ (PySem.Spec.lookup (.str (Str.ofString "SYSTEM")) D).isSome = false) ∧ ∃ ta, ao.IsDictOf (PySem.strKind PG w) [(Str.ofString "A", .str al ta)]
noncomputable def NP2 (w : World) (al : Str) (uo ao : Obj) : Prop := ∃ ta ts, ao.IsDictOf (PySem.strKind PG w) [(Str.ofString "A", .str al ta), (Str.ofString "SYSTEM", .str (Str.ofString "SYSTEM") ts)]
noncomputable def tkN (tk : Bool) (t3 : Tok) : List (Str × Tok) := if tk = true then [(Str.ofString "A", t3)] else []
noncomputable def tkA (tk : Bool) : Str := if tk = true then Str.ofString "A1" else Str.ofString "A"
theorem tkN_len (tk : Bool) (t3 : Tok) : (tkN tk t3).length ≤ 1 := by
  unfold tkN; split
  · exact Nat.le_refl 1
  · exact Nat.zero_le 1
theorem tkN_pre (tk : Bool) (t3 : Tok) (ts : Nat → Tok) : (tkN tk t3 ++ preT ts).length ≤ 22 := by
  rw [List.length_append]
  exact Nat.add_le_add_right (tkN_len tk t3) 21
theorem names_newG {news : Ledger} {la lt : Addr} {ca ct : Nat} {t1 t2 t3 : Tok} {tk : Bool} {Q : Value → Shared → Prop}
    (KX : (hd.heap_1 w.params).In h₀) (T : Top hd.view_1 (looseW hd.view_1 [Str.ofString "Names", Str.ofString "expr_text"]) mean mg mb h₀) (B : Below A₀ base outer h₀) (fits : Fits A 400 4000 (env :: outer)) (hf : env.frame = some L) (hke : env.scope.kind = .function)
    (F : Fr h₀ L s.heap m) (N : News h₀ L s.heap news) (m1 : (la, listOf #[.str (Str.ofString "A") t2] ca) ∈ news) (m2 : (lt, listOf ((tkN tk t3).map fun p : Str × Tok => Value.str p.1 p.2).toArray ct) ∈ news)
    (hQ : ∀ x dx k ad ao sd so sc nl ta ts h' tk', ao.IsDictOf (PySem.strKind PG w) [(Str.ofString "A", .str (tkA tk) ta), (Str.ofString "SYSTEM", .str (Str.ofString "SYSTEM") ts)] → so.IsDictOf (PySem.strKind PG w) [] → (ad == sysModules) = false → (sd == sysModules) = false →
      (∀ p ∈ news, p.1 < dx) → @LT.lt Nat _ dx x → @LT.lt Nat _ x ad → @LT.lt Nat _ ad sd → @LT.lt Nat _ sd sc → @LT.lt Nat _ sc nl → Fr h₀ L h' m → News h₀ L h' ((x, instObj 137 dx) :: (dx, dictOf (namesE k ad sc nl) 5) :: (ad, ao) :: (sd, so) :: (sc, listOf #[.ref sd] 0) :: (nl, listOf #[] 0) :: news) → Q (.ref x) { s with heap := h', toks := tk' }) :
    wpAny (model PG w) A (call (.ref 137) [.str (Str.ofString "M") t1, .ref la, .ref lt]) Q (fun _ _ => False) s := by
  refine call_new (needX := [(la, listOf #[.str (Str.ofString "A") t2] ca), (lt, listOf ((tkN tk t3).map fun p : Str × Tok => Value.str p.1 p.2).toArray ct)]) (binds := fun x => [(Str.ofString "self", .ref x), (Str.ofString "module", .str (Str.ofString "M") t1), (Str.ofString "imports", .ref la), (Str.ofString "taken", .ref lt)])
    (P := fun x dx news' => ∃ k ad ao sd so sc nl ta ts, ao.IsDictOf (PySem.strKind PG w) [(Str.ofString "A", .str (tkA tk) ta), (Str.ofString "SYSTEM", .str (Str.ofString "SYSTEM") ts)] ∧ so.IsDictOf (PySem.strKind PG w) [] ∧ (ad == sysModules) = false ∧ (sd == sysModules) = false ∧
      @LT.lt Nat _ x ad ∧ @LT.lt Nat _ ad sd ∧ @LT.lt Nat _ sd sc ∧ @LT.lt Nat _ sc nl ∧ (x, instObj 137 dx) ∈ news' ∧ (dx, dictOf (namesE k ad sc nl) 5) ∈ news' ∧ (ad, ao) ∈ news' ∧ (sd, so) ∈ news' ∧ (sc, listOf #[.ref sd] 0) ∈ news' ∧ (nl, listOf #[] 0) ∈ news' ∧ (la, listOf #[.str (Str.ofString "A") t2] ca) ∈ news' ∧ (lt, listOf ((tkN tk t3).map fun p : Str × Tok => Value.str p.1 p.2).toArray ct) ∈ news') 400 4000 B F N (List.forall_mem_cons.mpr ⟨m1, List.forall_mem_cons.mpr ⟨m2, List.forall_mem_nil _⟩⟩) KX T fits hf hke (by k_is) (by k_is) (by k_is) (by k_is) (by k_is) (by decide) (fun _ _ hX => binds_K hX rfl (by k_is) rfl rfl rfl) (fun _ => locs rfl) ?_ ?_ rfl rfl rfl (by decide)
  · intro x dx s₁ g L' h₁ hlt F' N' hl B' X' T'
    have hle := tkN_len tk t3
    k_lt2 hlt
    k_lt hl
    (try dsimp only)
    (try k_fold)
    k_steps
    rename_i N3 _ h4 F4 N4
    have hsz := allLt_of fun p hp => Heap.lt_size (N3 p hp).1
    simp only [AllLt, and_true] at hsz
    refine' used_iter (names := tkN tk t3 ++ preT _) ?zhm ?zF ?zN ?zU ?zhl ?zhc ?zhd ?zh0 ?zstep ?zdone
    case zF => assumption
    case zhm => rfl
    case zN => assumption
    case zU => k_updF
    case zhl => intro o'; k_mem
    case zhc => rfl
    case zhd =>
      rw [List.map_append]
      rfl
    case zh0 => assumption
    case zstep =>
      intro I x' t u uo' kvs D h tk oI hd' hf' hlen F' N' hU
      (try dsimp only at N')
      k_steps
      refine setItem_K PyProof.V.same_str (strKind_is _ _ _ _) (PyProof.V.Flat.bool _) (by assumption) (by assumption) hU hd' hf' ?_ (Nat.le_trans hlen (Nat.le_trans (tkN_pre _ _ _) (Nat.le_of_ble_eq_true rfl)))
      intro h' o' F' N' hd2 hf2
      k_steps
      refine ⟨rfl, _, _, _, o', rfl, by assumption, ?_, by assumption, hd2, hf2⟩
      repeat' (first | exact ovl_start | refine ovl_set (by decide) ?_)
    case zdone =>
      intro h' tk' u uo' kvs D hd' hf' hlook hlen F' N'
      (try dsimp only at N')
      have hlen22 : D.length ≤ 22 := Nat.le_trans hlen (tkN_pre _ _ _)
      have hlen40 : D.length ≤ 40 := Nat.le_trans hlen22 (by decide)
      have hA : (PySem.Spec.lookup (.str (Str.ofString "A")) D).isSome = tk := (hlook _).trans (by cases tk <;> first | (show decide (Str.ofString "A" ∈ Str.ofString "A" :: preN) = true; decide +kernel) | (show decide (Str.ofString "A" ∈ preN) = false; decide +kernel))
      have hA1 : (PySem.Spec.lookup (.str (Str.ofString "A1")) D).isSome = false := (hlook _).trans (by cases tk <;> first | (show decide (Str.ofString "A1" ∈ Str.ofString "A" :: preN) = false; decide +kernel) | (show decide (Str.ofString "A1" ∈ preN) = false; decide +kernel))
      have hS : (PySem.Spec.lookup (.str (Str.ofString "SYSTEM")) D).isSome = false := (hlook _).trans (by cases tk <;> first | (show decide (Str.ofString "SYSTEM" ∈ Str.ofString "A" :: preN) = false; decide +kernel) | (show decide (Str.ofString "SYSTEM" ∈ preN) = false; decide +kernel))
      k_steps
      refine' alias_iter (P1 := NP1 w (tkA tk)) (P2 := NP2 w (tkA tk)) (k := kk [?_, ?_, ?_, ?_, ?_] [?_, ?_, ?_, ?_, ?_, ?_]) ?zF ?zN ?zhm ?zhx ?zU1 ?zU2 ?zhl ?zhc ?zhd ?zstep0 ?zstep1 ?zdone
      case zF => assumption
      case zN => assumption
      case zhm => rfl
      case zhx => k_mem
      case zU1 => k_updF
      case zU2 => intro u'; k_updF
      case zhl => intro u' a'; k_mem
      case zhc => rfl
      case zhd => rfl
      case zstep0 =>
        intro I u' h tkn oI hlt F' N'
        (try dsimp only at N')
        simp only [AllLt, and_true] at hlt
        by_cases htk : tk = true
        · have hal : tkA tk = Str.ofString "A1" := by rw [htk]; rfl
          have hAt := hA.trans htk
          clear hA
          rw [hal]
          k_steps
          refine' setItem_K PyProof.V.same_str (strKind_is _ _ _ _) (PyProof.V.Flat.bool _) ?zFz ?zNz ?zUz hd' hf' ?_ (Nat.le_trans hlen22 (Nat.le_of_ble_eq_true rfl))
          case zFz => assumption
          case zNz => assumption
          case zUz => k_updF
          intro h2 o2 F2 N2 hd2 hf2
          k_steps
          refine' ⟨rfl, _, _, _, o2, ?zaoz, rfl, by assumption, ?zovz, ?znnz, ⟨_, _, hd2, hf2, ?zlenz, ?zlookz⟩, ?ztaz, ?zalz⟩
          case zalz => assumption
          case znnz => assumption
          case zovz => repeat' (first | exact ovl_start | refine ovl_set (by decide) ?_)
          case zlenz => exact Nat.le_trans (PyProof.V.putD_length_le _ _ _) (Nat.succ_le_succ (Nat.le_trans hlen22 (Nat.le_of_ble_eq_true rfl)))
          case zlookz =>
            rw [PyProof.Rows.lookup_putK PyProof.V.keyEnc_str, if_neg (by decide +kernel)]
            exact hS
        · have htf : tk = false := by cases tk <;> first | rfl | exact absurd rfl htk
          have hal : tkA tk = Str.ofString "A" := by rw [htf]; rfl
          have hAt := hA.trans htf
          clear hA
          rw [hal]
          k_steps
          refine' setItem_K PyProof.V.same_str (strKind_is _ _ _ _) (PyProof.V.Flat.bool _) ?zFy ?zNy ?zUy hd' hf' ?_ (Nat.le_trans hlen22 (Nat.le_of_ble_eq_true rfl))
          case zFy => assumption
          case zNy => assumption
          case zUy => k_updF
          intro h2 o2 F2 N2 hd2 hf2
          k_steps
          refine' ⟨rfl, _, _, _, o2, ?zaoy, rfl, by assumption, ?zovy, ?znny, ⟨_, _, hd2, hf2, ?zleny, ?zlooky⟩, ?ztay, ?zaly⟩
          case zaly => assumption
          case znny => assumption
          case zovy => repeat' (first | exact ovl_start | refine ovl_set (by decide) ?_)
          case zleny => exact Nat.le_trans (PyProof.V.putD_length_le _ _ _) (Nat.succ_le_succ (Nat.le_trans hlen22 (Nat.le_of_ble_eq_true rfl)))
          case zlooky =>
            rw [PyProof.Rows.lookup_putK PyProof.V.keyEnc_str, if_neg (by decide +kernel)]
            exact hS
      case zstep1 =>
        intro I u' h tk oI uo' ao' hP hlt F' N'
        obtain ⟨⟨kvs1, D1, hd1, hf1, hlen1, hS1⟩, ta, hao⟩ := hP
        (try dsimp only at N')
        simp only [AllLt, and_true] at hlt
        k_steps
        refine' setItem_K PyProof.V.same_str (strKind_is _ _ _ _) (PyProof.V.Flat.bool _) ?zF2 ?zN2 ?zU2 hd1 hf1 ?_ (Nat.le_trans hlen1 (Nat.le_of_ble_eq_true rfl))
        case zF2 => assumption
        case zN2 => assumption
        case zU2 => k_updF
        intro h2 o2 F2 N2 hd2 hf2
        k_steps
        refine' ⟨rfl, _, _, _, o2, ?zao2, rfl, by assumption, ?zov2, ?znn2, ?zta2, ?zts2, ?zal2⟩
        case zal2 => assumption
        case znn2 => assumption
        case zov2 => repeat' (first | exact ovl_start | refine ovl_set (by decide) ?_)
      case zdone =>
        intro h' tk' u' uo' ao' hP F' N'
        obtain ⟨ta, ts, hao⟩ := hP
        (try dsimp only at N')
        k_steps
        refine' ⟨_, _, _, _, _, rfl, by assumption, by assumption, rfl, kk [?_, ?_, ?_, ?_, ?_] [?_, ?_, ?_, ?_, ?_, ?_], ?ze1, ?ze2, ?ze3, ?ze4, ?ze5, ?ze6, _, _, hao, ?zso3, ?zlo3, ?zlo4, ?zc1, ?zc2, ?zc3, ?zc4, ?zq1, ?zq2, ?zq3, ?zq4, ?zq5, ?zq6, ?zq7, ?zq8⟩
        case zq1 => k_mem
        case zq2 => k_mem
        case zq3 => k_mem
        case zq5 => k_mem
        case zq4 => k_mem
        case zq6 => k_mem
        case zq7 => k_mem
        case zq8 => k_mem
        case zso3 => assumption
        case zlo3 => assumption
        case zlo4 => assumption
        case zc1 => (try dsimp only); omega
        case zc2 => (try dsimp only); omega
        case zc3 => (try dsimp only); omega
        case zc4 => (try dsimp only); omega
  · rintro x dx h' tk' news' ⟨k, ad, ao, sd, so, sc, nl, ta, ts, a1, a2, a3, a4, c1, c2, c3, c4, q1, q2, q3, q4, q5, q6, q7, q8⟩ l1 l2 F' N' keep _
    refine hQ x dx k ad ao sd so sc nl ta ts h' tk' a1 a2 a3 a4 l1 l2 c1 c2 c3 c4 F' fun p hp => ?_
    iterate 6 (rcases List.mem_cons.mp hp with rfl | hp; exact N' _ (by assumption))
    by_cases q : p.1 ∈ [(la, listOf #[.str (Str.ofString "A") t2] ca), (lt, listOf ((tkN tk t3).map fun p : Str × Tok => Value.str p.1 p.2).toArray ct)].map (·.1)
    · have same : ∀ r, r ∈ news → r ∈ news' → p.1 = r.1 → p ∈ news' := fun r hr hr' e => by
        have e1 := (N p hp).1
        have e2 := (N r hr).1
        rw [e, e2] at e1
        have : p = r := Prod.ext e (Option.some.inj e1).symm
        rw [this]; exact hr'
      refine N' p ?_
      rcases List.mem_cons.mp q with q | q
      · exact same _ m1 q7 q
      rcases List.mem_cons.mp q with q | q
      · exact same _ m2 q8 q
      · exact nomatch q
    · exact keep p hp q
theorem names_new0 {news : Ledger} {la lt : Addr} {ca ct : Nat} {t1 t2 : Tok} {Q : Value → Shared → Prop}
    (KX : (hd.heap_1 w.params).In h₀) (T : Top hd.view_1 (looseW hd.view_1 [Str.ofString "Names", Str.ofString "expr_text"]) mean mg mb h₀) (B : Below A₀ base outer h₀) (fits : Fits A 400 4000 (env :: outer)) (hf : env.frame = some L) (hke : env.scope.kind = .function)
    (F : Fr h₀ L s.heap m) (N : News h₀ L s.heap news) (m1 : (la, listOf #[.str (Str.ofString "A") t2] ca) ∈ news) (m2 : (lt, listOf #[] ct) ∈ news)
    (hQ : ∀ x dx k ad ao sd so sc nl ta ts h' tk', ao.IsDictOf (PySem.strKind PG w) [(Str.ofString "A", .str (Str.ofString "A") ta), (Str.ofString "SYSTEM", .str (Str.ofString "SYSTEM") ts)] → so.IsDictOf (PySem.strKind PG w) [] → (ad == sysModules) = false → (sd == sysModules) = false →
      (∀ p ∈ news, p.1 < dx) → @LT.lt Nat _ dx x → @LT.lt Nat _ x ad → @LT.lt Nat _ ad sd → @LT.lt Nat _ sd sc → @LT.lt Nat _ sc nl → Fr h₀ L h' m → News h₀ L h' ((x, instObj 137 dx) :: (dx, dictOf (namesE k ad sc nl) 5) :: (ad, ao) :: (sd, so) :: (sc, listOf #[.ref sd] 0) :: (nl, listOf #[] 0) :: news) → Q (.ref x) { s with heap := h', toks := tk' }) :
    wpAny (model PG w) A (call (.ref 137) [.str (Str.ofString "M") t1, .ref la, .ref lt]) Q (fun _ _ => False) s :=
  names_newG (tk := false) (t3 := 0) KX T B fits hf hke F N m1 m2 hQ
theorem names_new1 {news : Ledger} {la lt : Addr} {ca ct : Nat} {t1 t2 t3 : Tok} {Q : Value → Shared → Prop}
    (KX : (hd.heap_1 w.params).In h₀) (T : Top hd.view_1 (looseW hd.view_1 [Str.ofString "Names", Str.ofString "expr_text"]) mean mg mb h₀) (B : Below A₀ base outer h₀) (fits : Fits A 400 4000 (env :: outer)) (hf : env.frame = some L) (hke : env.scope.kind = .function)
    (F : Fr h₀ L s.heap m) (N : News h₀ L s.heap news) (m1 : (la, listOf #[.str (Str.ofString "A") t2] ca) ∈ news) (m2 : (lt, listOf #[.str (Str.ofString "A") t3] ct) ∈ news)
    (hQ : ∀ x dx k ad ao sd so sc nl ta ts h' tk', ao.IsDictOf (PySem.strKind PG w) [(Str.ofString "A", .str (Str.ofString "A1") ta), (Str.ofString "SYSTEM", .str (Str.ofString "SYSTEM") ts)] → so.IsDictOf (PySem.strKind PG w) [] → (ad == sysModules) = false → (sd == sysModules) = false →
      (∀ p ∈ news, p.1 < dx) → @LT.lt Nat _ dx x → @LT.lt Nat _ x ad → @LT.lt Nat _ ad sd → @LT.lt Nat _ sd sc → @LT.lt Nat _ sc nl → Fr h₀ L h' m → News h₀ L h' ((x, instObj 137 dx) :: (dx, dictOf (namesE k ad sc nl) 5) :: (ad, ao) :: (sd, so) :: (sc, listOf #[.ref sd] 0) :: (nl, listOf #[] 0) :: news) → Q (.ref x) { s with heap := h', toks := tk' }) :
    wpAny (model PG w) A (call (.ref 137) [.str (Str.ofString "M") t1, .ref la, .ref lt]) Q (fun _ _ => False) s :=
  names_newG (tk := true) (t3 := t3) KX T B fits hf hke F N m1 m2 hQ
end
end
section
theorem off22 : True := by
  w_top off
  exact True.intro
/-- a dict keyed by tuples that lie in T; its values are any -/
noncomputable def KD (prog : Program) (w : World) (o : Obj) (T : Ledger) (n : Nat) : Prop :=
  ∃ (es : Array DictEntry) (ep : Nat) (xs : List (List MK × Addr × Value)), o.ExactDict ∧ o.data = .dict es ep ∧ es.toList = xs.map (entryOfKey (tupleKind (mixKind prog w))) ∧ (xs.map (·.1)).Nodup ∧ (∀ x ∈ xs, ∃ ok, (x.2.1, ok) ∈ T ∧ TupKeyObj (mixKind prog w) x.1 ok) ∧ xs.length ≤ n
section
variable {prog : Program} {w : World} {A : Around} {E : Value → Shared → Prop} {s : Shared} {h₀ : Heap} {L d a : Addr} {m : Locs} {news T : Ledger} {o ok : Obj} {ks : List MK} {n : Nat}
theorem KD.empty {K' : Type} [DecidableEq K'] {knd' : KeyKind prog w K'} (hd : o.IsDictOf knd' []) : KD prog w o T 0 := by
  obtain ⟨es, ep, hc, hdat, _, hp, _⟩ := hd
  have he : es.toList = [] := List.length_eq_zero_iff.mp hp.length
  exact ⟨es, ep, [], hc, hdat, he, List.nodup_nil, fun _ hx => by simp at hx, Nat.le_refl _⟩
theorem KD.set {g : Obj → Ledger} {v : Value} {Q : Unit → Shared → Prop} (K : KD prog w o T n) (hu : A.units + 1 < cLine) (F : Fr h₀ L s.heap m) (N : News h₀ L s.heap news) (U : UpdF d o news g) (hT : ∀ p ∈ T, p ∈ news) (hka : (a, ok) ∈ news) (tk : TupKeyObj (mixKind prog w) ks ok) (hn : n ≤ 100)
    (h : ∀ h' o', Fr h₀ L h' m → News h₀ L h' (g o') → KD prog w o' ((a, ok) :: T) (n + 1) → Q () { s with heap := h', toks := s.toks + (ks.length + 1) }) :
    wpAny (model prog w) A (setItem (.ref d) (.ref a) v) Q E s := by
  obtain ⟨es, ep, xs, hc, hd, he, hnd, hk, hlen⟩ := K
  have hm : (d, o) ∈ news := UpdF.mem U
  have hD : s.heap.DictOfH (tupleKind (mixKind prog w)) d xs := ⟨o, es, ep, N.get hm, hc, hd, he, fun x hx => let ⟨_, hmk, t⟩ := hk x hx; t.key (N.get (hT _ hmk)), hnd⟩
  refine wpAny_setItem_heap (hsz := Nat.le_trans hlen (Nat.le_trans hn (Nat.le_of_ble_eq_true rfl))) (knd := tupleKind (mixKind prog w)) (tupleKind_room_in1 hu) (tk.key (N.get hka)) hD fun h' hm' hs => ?_
  obtain ⟨o', es', ep', ho', hc', hd', he', _, hn'⟩ := hm'
  obtain ⟨pre, post, e1, e2, npre, npost⟩ := U.split
  refine h h' o' (F.change hs (N _ hm).2.1 (N.fresh hm)) ?_ ⟨es', ep', storedH xs ks a v, hc', hd', he', hn', fun x hx => ?_, ?_⟩
  · rw [e2]
    subst e1
    intro p hp
    have other : p ∈ pre ++ (d, o) :: post → p.1 ≠ d → h'.get? p.1 = some p.2 ∧ p.1 ≠ L ∧ h₀.get? p.1 = none := fun hp hne => ⟨(hs.2 _ hne).trans (N p hp).1, (N p hp).2⟩
    rcases List.mem_append.mp hp with hp | hp
    · exact other (List.mem_append_left _ hp) (npre p hp)
    rcases List.mem_cons.mp hp with rfl | hp
    · exact ⟨ho', (N _ hm).2⟩
    · exact other (List.mem_append_right _ (List.mem_cons_of_mem _ hp)) (npost p hp)
  · rcases mem_storedH hx with ⟨y, hy, f1, f2⟩ | ⟨f1, f2⟩
    · obtain ⟨oky, hmk, t⟩ := hk y hy
      exact ⟨oky, by rw [f2]; exact List.mem_cons_of_mem _ hmk, by rw [f1]; exact t⟩
    · exact ⟨ok, by rw [f2]; exact List.mem_cons_self .., by rw [f1]; exact tk⟩
  · unfold storedH
    split
    · rw [List.length_map]; omega
    · rw [List.length_append]; simp; omega
end
end
section
theorem off23 : True := by
  w_top off
  exact True.intro
theorem neT {d : Addr} : ∀ {l : Ledger}, AllLt d l → ∀ p ∈ l, p.1 ≠ d
  | [], _ => fun _ h => nomatch h
  | _ :: _, h => fun q hq => by
    rcases List.mem_cons.mp hq with rfl | hq
    · exact Nat.ne_of_lt h.1
    · exact neT h.2 q hq
theorem allLt_trans {a b : Addr} (l : @LT.lt Nat _ a b) : ∀ {T : Ledger}, AllLt a T → AllLt b T
  | [], _ => trivial
  | _ :: _, h => ⟨Nat.lt_trans h.1 l, allLt_trans l h.2⟩
theorem neTr {d : Addr} {l : Ledger} {r : Addr × Obj} (h : ∀ p ∈ l, p.1 ≠ d) (hr : r ∈ l) : @Ne Nat r.1 d := h r hr
local macro_rules | `(tactic| k_all) => `(tactic| first | assumption | exact neT (by assumption) | exact neT (And.right (by assumption)) | exact neT (And.right (And.right (by assumption))) | exact neT (And.right (And.right (And.right (by assumption)))) | exact neT (And.right (And.right (And.right (And.right (by assumption))))) | exact neT (And.right (And.right (And.right (And.right (And.right (by assumption)))))))
local macro_rules | `(tactic| walk_at "call ref") => `(tactic| exists type_new)
section
variable {w : World} {A A₀ : Around} {s : Shared} {base h₀ : Heap} {outer : List Env} {L : Addr} {m mg mb : Str → Option Value} {env : Env} {mean : ExcName → Option Value}
theorem new_ptr {ty dt kd : Addr} {okd : Obj} {T Tk : Ledger} {k0 : Keys} {b ch by' ig mk ni no : Addr} {n : Int} {q : Nat} {lbl : Str} {t1 t2 t3 t4 : Tok} {R : Result → Shared → Prop}
    (KX : (hd.heap_1 w.params).In h₀) (TT : Top hd.view_1 (looseW hd.view_1 [Str.ofString "Names", Str.ofString "expr_text"]) mean mg mb h₀) (B : Below A₀ base outer h₀) (fits : Fits A 500 5000 (env :: outer)) (hf : env.frame = some L) (hke : env.scope.kind = .function)
    (F : Fr h₀ L s.heap m) (N : News h₀ L s.heap ((ty, instObj 432 dt) :: (dt, dictOf (typesE k0 n kd b ch by' ig mk ni no) 9) :: (kd, okd) :: T)) (K : KD PG w okd Tk q) (hTk : ∀ p ∈ Tk, p ∈ T) (hq : q ≤ 100) (hn : 0 ≤ n ∧ n ≤ 100) (hl : lbl ≠ Str.ofString "") (hl8 : lbl.length ≤ 8)
    (n1 : @Ne Nat ty dt) (n2 : @Ne Nat kd ty) (n3 : @Ne Nat kd dt) (hT1 : ∀ p ∈ T, p.1 ≠ dt) (hT2 : ∀ p ∈ T, p.1 ≠ kd)
    (hQ : ∀ x dx k k' f p hh tp tup okd' h' tk', Fr h₀ L h' m → News h₀ L h' ((x, instObj 375 dx) :: (dx, dictOf (typeE k (n + 1) (Str.ofString "pointer") (Str.ofString "M") lbl 4 f p hh) 12) :: (ty, instObj 432 dt) :: (dt, dictOf (typesE k' (n + 1) kd b ch by' ig mk ni no) 9) :: (kd, okd') :: (tp, tup) :: T) →
      KD PG w okd' ((tp, tup) :: Tk) (q + 1) → AllLt dx ((ty, instObj 432 dt) :: (dt, dictOf (typesE k0 n kd b ch by' ig mk ni no) 9) :: (kd, okd) :: T) → @LT.lt Nat _ dx x → @LT.lt Nat _ x tp → R (.ok (.ret (.ref x))) { s with heap := h', toks := tk' }) :
    codeAny (model PG w) A (.call (.ref 422) ⟨[.ref ty, .str (Str.ofString "pointer") t1, .int 4 t2, .str (Str.ofString "M") t3, .str lbl t4], []⟩) R s := by
  refine code_mut (binds := [(Str.ofString "self", .ref ty), (Str.ofString "form", .str (Str.ofString "pointer") t1), (Str.ofString "size", .int 4 t2), (Str.ofString "module", .str (Str.ofString "M") t3), (Str.ofString "label", .str lbl t4)])
    (P := fun v news' => ∃ x dx k k' f p hh tp tup okd', v = .ref x ∧ (x, instObj 375 dx) ∈ news' ∧ (dx, dictOf (typeE k (n + 1) (Str.ofString "pointer") (Str.ofString "M") lbl 4 f p hh) 12) ∈ news' ∧ (ty, instObj 432 dt) ∈ news' ∧ (dt, dictOf (typesE k' (n + 1) kd b ch by' ig mk ni no) 9) ∈ news' ∧ (kd, okd') ∈ news' ∧ (tp, tup) ∈ news' ∧ (∀ p ∈ T, p ∈ news') ∧
      KD PG w okd' ((tp, tup) :: Tk) (q + 1) ∧ AllLt dx ((ty, instObj 432 dt) :: (dt, dictOf (typesE k0 n kd b ch by' ig mk ni no) 9) :: (kd, okd) :: T) ∧ @LT.lt Nat _ dx x ∧ @LT.lt Nat _ x tp)
    500 5000 B F N KX TT fits hf hke (by k_is) (by k_is) (by decide) (binds_K (KX.keeps F.keep) rfl (by k_is) rfl rfl rfl) (locs rfl) ?_ ?_ rfl rfl rfl (by decide)
  · intro g L' h₁ F' N' B' X' T' _ _
    (try dsimp only)
    (try k_fold)
    k_steps
    · refine' KD.set (ks := key2 (Str.ofString "M") lbl) K (Nat.le_of_ble_eq_true rfl) ?zF ?zN ?zU ?zhT ?zhka ?ztk hq ?_
      case zF => assumption
      case zN => assumption
      case zU => k_updF
      case zhT => exact fun p hp => by (replace hp := hTk p hp); repeat (first | exact hp | apply List.mem_cons_of_mem)
      case zhka => k_mem
      case ztk => exact ⟨rfl, _, _, rfl, key2_items _ _ _ _⟩
      intro h2 o2 F2 N2 K2
      k_steps
      dsimp only
      change MutBack _ _ _ _ _
      refine' ⟨_, _, _, _, _, rfl, by assumption, by assumption, _, ?zd, kk [?_, ?_, ?_, ?_, ?_, ?_, ?_, ?_, ?_, ?_, ?_, ?_] [?_, ?_, ?_, ?_, ?_, ?_, ?_, ?_, ?_, ?_, ?_, ?_, ?_, ?_, ?_, ?_, ?_, ?_, ?_, ?_], kk [?_, ?_, ?_, ?_, ?_, ?_, ?_, ?_, ?_] [?_, ?_, ?_, ?_, ?_, ?_, ?_, ?_, ?_, ?_], ?zf, ?zp, ?zhh, ?ztp, ?ztup, o2, rfl, ?zm1, ?zm2, ?zm3, ?zm4, ?zm5, ?zm6, ?zm7, K2, ?zn1, ?zn2, ?zn3⟩
      case zm1 => k_mem
      case zm2 => k_mem
      case zm3 => k_mem
      case zm4 => k_mem
      case zm5 => k_mem
      case zm6 => k_mem
      case zm7 => exact fun p hp => by repeat (first | exact hp | apply List.mem_cons_of_mem)
      case zn1 => exact ⟨by (refine ltN ?_; omega), by (refine ltN ?_; omega), by (refine ltN ?_; omega), And.right (And.right (And.right (by assumption)))⟩
      case zn2 => assumption
      case zn3 => exact And.left (by assumption)
    · exact absurd (by assumption) (by simpa using hl)
  · rintro v h' tk' news' ⟨x, dx, k, k', f, p, hh, tp, tup, okd', rfl, m1, m2, m3, m4, m5, m6, m7, K2, a1, a2, a3⟩ F' N' keep fresh
    refine hQ x dx k k' f p hh tp tup okd' h' tk' F' (fun r hr => ?_) K2 a1 a2 a3
    iterate 6 (rcases List.mem_cons.mp hr with rfl | hr; exact N' _ (by assumption))
    exact N' _ (m7 r hr)
end
end
section
theorem off24 : True := by
  w_top off
  exact True.intro
local macro_rules | `(tactic| k_mem) => `(tactic| assumption)
local macro_rules | `(tactic| end_err) => `(tactic| (rename_i hl _ _ _ _ _ _ _; k_lt hl))
local macro_rules | `(tactic| walk_at "call ref") => `(tactic| exists names_new1)
local macro_rules | `(tactic| walk_at "call ref") => `(tactic| exists names_new0)
section
variable {w : World} {s : Shared} {h₀ base : Heap} {L fa : Addr} {cd : Value} {mg mb : Str → Option Value} {mean : ExcName → Option Value} {Q E : Value → Shared → Prop}
noncomputable abbrev m2 (l D ty pl : Addr) : Locs := fun y => if y = Str.ofString "pointers_of" then some (.ref pl) else if y = Str.ofString "types" then some (.ref ty) else if y = Str.ofString "beans" then some (.ref D) else List.lookup y [(Str.ofString "script", Value.ref l)]
noncomputable abbrev m3 (l D ty pl nm : Addr) : Locs := fun y => if y = Str.ofString "names" then some (.ref nm) else m2 l D ty pl y
noncomputable def alOf (bs : List Int) : Str := if (bs.getD 0 0).fmod 3 = 1 then Str.ofString "A1" else Str.ofString "A"
theorem st3 {l D ty pl : Addr} {us : List Value} {bs : List Int} {c : Nat} {news : Ledger} {Q : Flow → Shared → Prop}
    (KX : (hd.heap_1 w.params).In h₀) (T : Top hd.view_1 (looseW hd.view_1 [Str.ofString "Names", Str.ofString "expr_text"]) mean mg mb h₀) (B : Below callerA h₀ [] h₀)
    (F : Fr h₀ L s.heap (m2 l D ty pl)) (N : News h₀ L s.heap news) (hD : (D, listOf us.toArray c) ∈ news)
    (hI : IntsAre us bs) (hlen : bs.length = 40) (hb : ∀ b ∈ bs, 0 ≤ b ∧ b < 1009)
    (hQ : ∀ x dx k ad ao sd so sc nl ta ts h' tk', ao.IsDictOf (PySem.strKind PG w) [(Str.ofString "A", .str (alOf bs) ta), (Str.ofString "SYSTEM", .str (Str.ofString "SYSTEM") ts)] → so.IsDictOf (PySem.strKind PG w) [] → (ad == sysModules) = false → (sd == sysModules) = false →
      AllLt dx news → @LT.lt Nat _ dx x → @LT.lt Nat _ x ad → @LT.lt Nat _ ad sd → @LT.lt Nat _ sd sc → @LT.lt Nat _ sc nl → Fr h₀ L h' (m3 l D ty pl x) → News h₀ L h' ((x, instObj 137 dx) :: (dx, dictOf (namesE k ad sc nl) 5) :: (ad, ao) :: (sd, so) :: (sc, listOf #[.ref sd] 0) :: (nl, listOf #[] 0) :: news) → Q .next { s with heap := h', toks := tk' }) :
    wpAny (model PG w) (callerA.deeper (lawEnv L fa cd)) (exec (lawSt 3) (lawEnv L fa cd)) Q (fun _ _ => False) s := by
  conv in lawSt 3 => whnf
  k_steps
  · have e : alOf bs = Str.ofString "A1" := if_pos (by assumption)
    rw [e] at hQ
    refine' hQ _ _ _ _ _ _ _ _ _ _ _ _ _ ?za ?zb ?zc ?zd ?ze ?zf ?zg ?zh ?zi ?zj ?zF ?zN
    case za => assumption
    case zb => assumption
    case zN =>
      refine News.sub (by assumption) ?zsub
      case zsub =>
        refine List.forall_mem_cons.mpr ⟨by k_mem, List.forall_mem_cons.mpr ⟨by k_mem, List.forall_mem_cons.mpr ⟨by k_mem, List.forall_mem_cons.mpr ⟨by k_mem, List.forall_mem_cons.mpr ⟨by k_mem, List.forall_mem_cons.mpr ⟨by k_mem, fun p hp => ?_⟩⟩⟩⟩⟩⟩
        exact List.mem_cons_of_mem _ (List.mem_cons_of_mem _ (List.mem_cons_of_mem _ (List.mem_cons_of_mem _ (List.mem_cons_of_mem _ (List.mem_cons_of_mem _ (List.mem_cons_of_mem _ (List.mem_cons_of_mem _ hp)))))))
    case zF => assumption
    case zc => assumption
    case zd => assumption
    case ze => exact And.right (And.right (by assumption))
    all_goals assumption
  · have e : alOf bs = Str.ofString "A" := if_neg (by assumption)
    rw [e] at hQ
    refine' hQ _ _ _ _ _ _ _ _ _ _ _ _ _ ?za2 ?zb2 ?zc2 ?zd2 ?ze2 ?zf2 ?zg2 ?zh2 ?zi2 ?zj2 ?zF2 ?zN2
    case za2 => assumption
    case zb2 => assumption
    case zN2 =>
      refine News.sub (by assumption) ?zsub2
      case zsub2 =>
        refine List.forall_mem_cons.mpr ⟨by k_mem, List.forall_mem_cons.mpr ⟨by k_mem, List.forall_mem_cons.mpr ⟨by k_mem, List.forall_mem_cons.mpr ⟨by k_mem, List.forall_mem_cons.mpr ⟨by k_mem, List.forall_mem_cons.mpr ⟨by k_mem, fun p hp => ?_⟩⟩⟩⟩⟩⟩
        exact List.mem_cons_of_mem _ (List.mem_cons_of_mem _ (List.mem_cons_of_mem _ (List.mem_cons_of_mem _ (List.mem_cons_of_mem _ (List.mem_cons_of_mem _ (List.mem_cons_of_mem _ (List.mem_cons_of_mem _ hp)))))))
    case zF2 => assumption
    case zc2 => assumption
    case zd2 => assumption
    case ze2 => exact And.right (And.right (by assumption))
    all_goals assumption
end
end
section
theorem off25 : True := by
  w_top off
  exact True.intro
structure BD where
  (D ty dt kd pl nm dn ad sd sc nl p0 d0 p1 d1 p2 d2 : Addr)
  (lo ao so : Obj)
  (kt kn k0 k1 k2 : Keys)
  (tb tc ty' ig tm ni no f0 q0 e0 f1 q1 e1 f2 q2 e2 : Addr)
  (l0 l1 l2 : Str)
  (cp : Nat)
  (ta ts u0 u1 u2 : Tok)
structure BaseOK (w : World) (al : Str) (b : BD) (R : Ledger) : Prop where
  mD : (b.D, b.lo) ∈ R
  mty : (b.ty, instObj 432 b.dt) ∈ R
  mdt : (b.dt, dictOf (typesE b.kt 10 b.kd b.tb b.tc b.ty' b.ig b.tm b.ni b.no) 9) ∈ R
  mpl : (b.pl, listOf #[.ref b.p0, .ref b.p1, .ref b.p2] b.cp) ∈ R
  mp0 : (b.p0, instObj 375 b.d0) ∈ R
  md0 : (b.d0, dictOf (typeE b.k0 (8 + ((0 : Nat) : Int)) (Str.ofString "pointer") (Str.ofString "M") b.l0 4 b.f0 b.q0 b.e0) 12) ∈ R
  mp1 : (b.p1, instObj 375 b.d1) ∈ R
  md1 : (b.d1, dictOf (typeE b.k1 (8 + ((1 : Nat) : Int)) (Str.ofString "pointer") (Str.ofString "M") b.l1 4 b.f1 b.q1 b.e1) 12) ∈ R
  mp2 : (b.p2, instObj 375 b.d2) ∈ R
  md2 : (b.d2, dictOf (typeE b.k2 (8 + ((2 : Nat) : Int)) (Str.ofString "pointer") (Str.ofString "M") b.l2 4 b.f2 b.q2 b.e2) 12) ∈ R
  mnm : (b.nm, instObj 137 b.dn) ∈ R
  mdn : (b.dn, dictOf (namesE b.kn b.ad b.sc b.nl) 5) ∈ R
  mad : (b.ad, b.ao) ∈ R
  hao : b.ao.IsDictOf (PySem.strKind PG w) [(Str.ofString "A", .str al b.ta), (Str.ofString "SYSTEM", .str (Str.ofString "SYSTEM") b.ts)]
  had : (b.ad == sysModules) = false
  msc : (b.sc, listOf #[.ref b.sd] 0) ∈ R
  msd : (b.sd, b.so) ∈ R
  hso : b.so.IsDictOf (PySem.strKind PG w) [(Str.ofString "T0", .int 8 b.u0), (Str.ofString "T1", .int 9 b.u1), (Str.ofString "T2", .int 10 b.u2)]
  hsd : (b.sd == sysModules) = false
  hnl : ∀ p ∈ R, @Ne Nat p.1 b.nl
theorem Fr.ovl {h₀ h : Heap} {L : Addr} {m' m : Locs} {S : List Str} (F : Fr h₀ L h m') (hm : ∀ y, S.contains y = false → m' y = m y) : Fr h₀ L h (ovl S m' m) := by
  have : Mine.ovl S m' m = m' := funext fun y => by
    unfold Mine.ovl
    split
    · rfl
    · rename_i q
      exact (hm y (by simpa using q)).symm
  rw [this]; exact F
theorem stored3 {prog : Program} {w : World} {o : Obj} {a b c a' b' c' : Str} {x y z : Value} (h : o.IsDictOf (PySem.strKind prog w) (stored (stored (stored [] a x) b y) c z)) (ha : a = a') (hb : b = b') (hc : c = c') (n1 : a' ≠ b') (n2 : a' ≠ c') (n3 : b' ≠ c') : o.IsDictOf (PySem.strKind prog w) [(a', x), (b', y), (c', z)] := by
  subst ha hb hc
  have : stored (stored (stored [] a x) b y) c z = [(a, x), (b, y), (c, z)] := by simp [stored, n1, n2, n3]
  rw [this] at h
  exact h
end
section
theorem off26 : True := by
  w_top off
  exact True.intro
section
variable {w : World} {A A₀ : Around} {s : Shared} {base h₀ : Heap} {outer : List Env} {L fa : Addr} {cd : Value} {m mg mb : Str → Option Value} {env : Env} {mean : ExcName → Option Value}
theorem News.rot {a b c d e : Addr × Obj} {h : Heap} {r : Ledger} (N : News h₀ L h (a :: b :: c :: d :: e :: r)) : News h₀ L h (c :: d :: e :: a :: b :: r) := fun p hp => N p (by
  rcases List.mem_cons.mp hp with rfl | hp
  · exact .tail _ (.tail _ (.head _))
  rcases List.mem_cons.mp hp with rfl | hp
  · exact .tail _ (.tail _ (.tail _ (.head _)))
  rcases List.mem_cons.mp hp with rfl | hp
  · exact .tail _ (.tail _ (.tail _ (.tail _ (.head _))))
  rcases List.mem_cons.mp hp with rfl | hp
  · exact .head _
  rcases List.mem_cons.mp hp with rfl | hp
  · exact .tail _ (.head _)
  exact .tail _ (.tail _ (.tail _ (.tail _ (.tail _ hp)))))
theorem News.rot1 {a c d e : Addr × Obj} {h : Heap} {r : Ledger} (N : News h₀ L h (a :: c :: d :: e :: r)) : News h₀ L h (c :: d :: e :: a :: r) := fun p hp => N p (by
  rcases List.mem_cons.mp hp with rfl | hp
  · exact .tail _ (.head _)
  rcases List.mem_cons.mp hp with rfl | hp
  · exact .tail _ (.tail _ (.head _))
  rcases List.mem_cons.mp hp with rfl | hp
  · exact .tail _ (.tail _ (.tail _ (.head _)))
  rcases List.mem_cons.mp hp with rfl | hp
  · exact .head _
  exact .tail _ (.tail _ (.tail _ (.tail _ hp))))
theorem News.rot3 {a b c d e f : Addr × Obj} {h : Heap} {r : Ledger} (N : News h₀ L h (a :: b :: c :: d :: e :: f :: r)) : News h₀ L h (d :: e :: f :: a :: b :: c :: r) := fun p hp => N p (by
  rcases List.mem_cons.mp hp with rfl | hp
  · exact .tail _ (.tail _ (.tail _ (.head _)))
  rcases List.mem_cons.mp hp with rfl | hp
  · exact .tail _ (.tail _ (.tail _ (.tail _ (.head _))))
  rcases List.mem_cons.mp hp with rfl | hp
  · exact .tail _ (.tail _ (.tail _ (.tail _ (.tail _ (.head _)))))
  rcases List.mem_cons.mp hp with rfl | hp
  · exact .head _
  rcases List.mem_cons.mp hp with rfl | hp
  · exact .tail _ (.head _)
  rcases List.mem_cons.mp hp with rfl | hp
  · exact .tail _ (.tail _ (.head _))
  exact .tail _ (.tail _ (.tail _ (.tail _ (.tail _ (.tail _ hp))))))
theorem new_ptrC {ty dt kd : Addr} {okd : Obj} {T Tk : Ledger} {k0 : Keys} {b ch by' ig mk ni no : Addr} {n : Int} {q : Nat} {lbl : Str} {t1 t2 t3 t4 : Tok} {Q E : Value → Shared → Prop}
    (KX : (hd.heap_1 w.params).In h₀) (TT : Top hd.view_1 (looseW hd.view_1 [Str.ofString "Names", Str.ofString "expr_text"]) mean mg mb h₀) (B : Below A₀ base outer h₀) (fits : Fits A 500 5000 (env :: outer)) (hf : env.frame = some L) (hke : env.scope.kind = .function)
    (F : Fr h₀ L s.heap m) (N : News h₀ L s.heap ((ty, instObj 432 dt) :: (dt, dictOf (typesE k0 n kd b ch by' ig mk ni no) 9) :: (kd, okd) :: T)) (K : KD PG w okd Tk q) (hTk : ∀ p ∈ Tk, p ∈ T) (hq : q ≤ 100) (hn : 0 ≤ n ∧ n ≤ 100) (hl : lbl ≠ Str.ofString "") (hl8 : lbl.length ≤ 8)
    (n1 : @Ne Nat ty dt) (n2 : @Ne Nat kd ty) (n3 : @Ne Nat kd dt) (hT1 : ∀ p ∈ T, p.1 ≠ dt) (hT2 : ∀ p ∈ T, p.1 ≠ kd)
    (hQ : ∀ x dx k k' f p hh tp tup okd' h' tk', Fr h₀ L h' m → News h₀ L h' ((x, instObj 375 dx) :: (dx, dictOf (typeE k (n + 1) (Str.ofString "pointer") (Str.ofString "M") lbl 4 f p hh) 12) :: (ty, instObj 432 dt) :: (dt, dictOf (typesE k' (n + 1) kd b ch by' ig mk ni no) 9) :: (kd, okd') :: (tp, tup) :: T) →
      KD PG w okd' ((tp, tup) :: Tk) (q + 1) → AllLt dx ((ty, instObj 432 dt) :: (dt, dictOf (typesE k0 n kd b ch by' ig mk ni no) 9) :: (kd, okd) :: T) → @LT.lt Nat _ dx x → @LT.lt Nat _ x tp → Q (.ref x) { s with heap := h', toks := tk' }) :
    wpAny (model PG w) A (call (.ref 422) [.ref ty, .str (Str.ofString "pointer") t1, .int 4 t2, .str (Str.ofString "M") t3, .str lbl t4]) Q E s :=
  wpAny_call (new_ptr KX TT B fits hf hke F N K hTk hq hn hl hl8 n1 n2 n3 hT1 hT2 hQ)
local macro_rules | `(tactic| item_end_look) => `(tactic| first | assumption | exact News.rot1 ‹_› | exact News.rot ‹_› | exact News.rot3 ‹_›)
local macro_rules | `(tactic| end_err) => `(tactic| (rename_i N' _ hlt _ _; simp only [AllLt, and_true] at hlt; (try dsimp only at N'); (try dsimp only)))
local macro_rules | `(tactic| walk_at "call ref") => `(tactic| exists new_ptrC)
variable {Q : Flow → Shared → Prop}
theorem st4 {l D ty dt kd pl nm dn ad sd sc nl b ch by' ig mk ni no : Addr} {okd ao so lo : Obj} {cp : Nat} {k0 kn : Keys}
    (KX : (hd.heap_1 w.params).In h₀) (T : Top hd.view_1 (looseW hd.view_1 [Str.ofString "Names", Str.ofString "expr_text"]) mean mg mb h₀) (B : Below callerA h₀ [] h₀)
    (F : Fr h₀ L s.heap (m3 l D ty pl nm)) (N : News h₀ L s.heap [(ty, instObj 432 dt), (dt, dictOf (typesE k0 7 kd b ch by' ig mk ni no) 9), (kd, okd), (nm, instObj 137 dn), (dn, dictOf (namesE kn ad sc nl) 5), (ad, ao), (sd, so), (sc, listOf #[.ref sd] 0), (nl, listOf #[] 0), (pl, listOf #[] 0), (D, lo)])
    (K : KD PG w okd [] 0) (hso : so.IsDictOf (PySem.strKind PG w) []) (hlo : (sd == sysModules) = false)
    (o1 : @LT.lt Nat _ D dt) (o2 : @LT.lt Nat _ dt ty) (o3 : @Ne Nat D kd) (o4 : @Ne Nat kd ty) (o5 : @Ne Nat kd dt) (o6 : @LT.lt Nat _ kd pl) (o7 : @LT.lt Nat _ ty pl) (o8 : @LT.lt Nat _ pl dn) (o9 : @LT.lt Nat _ dn nm) (o10 : @LT.lt Nat _ nm ad) (o11 : @LT.lt Nat _ ad sd) (o12 : @LT.lt Nat _ sd sc) (o13 : @LT.lt Nat _ sc nl) {al : Str} {ta ts : Tok} (hao : ao.IsDictOf (PySem.strKind PG w) [(Str.ofString "A", .str al ta), (Str.ofString "SYSTEM", .str (Str.ofString "SYSTEM") ts)]) (had : (ad == sysModules) = false)
    (hQ : ∀ b R u h' tk', BaseOK w al b R → b.lo = lo → Fr h₀ L h' (ovl ["each", "one"] u (m3 l b.D b.ty b.pl b.nm)) → News h₀ L h' ((b.nl, listOf #[] 0) :: R) → Q .next { s with heap := h', toks := tk' }) :
    wpAny (model PG w) (callerA.deeper (lawEnv L fa cd)) (exec (lawSt 4) (lawEnv L fa cd)) Q (fun _ _ => False) s := by
  conv in lawSt 4 => whnf
  have hfl : PyProof.V.FlatPairs PyData.str ([] : List (Str × Value)) [] := .nil
  k_steps
  refine' hQ { D := D, ty := ty, dt := dt, kd := kd, pl := pl, nm := nm, dn := dn, ad := ad, sd := sd, sc := sc, nl := nl, p0 := ?zp0, d0 := ?zd0, p1 := ?zp1, d1 := ?zd1, p2 := ?zp2, d2 := ?zd2, lo := lo, ao := ao, so := ?zso, kt := ?zkt, kn := kn, k0 := ?zk0, k1 := ?zk1, k2 := ?zk2, tb := b, tc := ch, ty' := by', ig := ig, tm := mk, ni := ni, no := no, f0 := ?zf0, q0 := ?zq0, e0 := ?ze0, f1 := ?zf1, q1 := ?zq1, e1 := ?ze1, f2 := ?zf2, q2 := ?zq2, e2 := ?ze2, l0 := ?zl0, l1 := ?zl1, l2 := ?zl2, cp := ?zcp, ta := ta, ts := ts, u0 := ?zu0, u1 := ?zu1, u2 := ?zu2 }
    [(pl, listOf #[.ref ?zp0, .ref ?zp1, .ref ?zp2] ?zcp), (?zp0, instObj 375 ?zd0), (?zd0, dictOf (typeE ?zk0 (8 + ((0 : Nat) : Int)) (Str.ofString "pointer") (Str.ofString "M") ?zl0 4 ?zf0 ?zq0 ?ze0) 12), (?zp1, instObj 375 ?zd1), (?zd1, dictOf (typeE ?zk1 (8 + ((1 : Nat) : Int)) (Str.ofString "pointer") (Str.ofString "M") ?zl1 4 ?zf1 ?zq1 ?ze1) 12), (?zp2, instObj 375 ?zd2), (?zd2, dictOf (typeE ?zk2 (8 + ((2 : Nat) : Int)) (Str.ofString "pointer") (Str.ofString "M") ?zl2 4 ?zf2 ?zq2 ?ze2) 12), (sd, ?zso), (nm, instObj 137 dn), (dn, dictOf (namesE kn ad sc nl) 5), (ad, ao), (sc, listOf #[.ref sd] 0), (ty, instObj 432 dt), (dt, dictOf (typesE ?zkt 10 kd b ch by' ig mk ni no) 9), (D, lo)] ?zu _ _ ?zbase rfl ?zF ?zN
  case zN =>
    refine News.sub (by assumption) ?zsub
    repeat' (first | exact List.forall_mem_nil _ | refine List.forall_mem_cons.mpr ⟨by k_mem, ?_⟩)
  case zF => exact Mine.Fr.ovl (by assumption) (by repeat' (first | exact fun _ _ => rfl | refine ovl_set (by decide) ?_))
  case zbase =>
    refine' { mD := ?_, mty := ?_, mdt := ?_, mpl := ?_, mp0 := ?_, md0 := ?_, mp1 := ?_, md1 := ?_, mp2 := ?_, md2 := ?_, mnm := ?_, mdn := ?_, mad := ?_, hao := hao, had := had, msc := ?_, msd := ?_, hso := stored3 (by assumption) (by decide +kernel) (by decide +kernel) (by decide +kernel) (by decide +kernel) (by decide +kernel) (by decide +kernel), hsd := hlo, hnl := ?znl }
    case znl => repeat' (first | exact List.forall_mem_nil _ | refine List.forall_mem_cons.mpr ⟨by k_ne, ?_⟩)
    all_goals k_mem
end
end
section
theorem off27 : True := by
  w_top off
  exact True.intro
local macro_rules | `(tactic| walk_at "none") => `(tactic| fail)
local macro_rules | `(tactic| k_all) => `(tactic| first | assumption | exact neT (by assumption) | exact neT (And.right (by assumption)) | exact neT (And.right (And.right (by assumption))))
local macro_rules | `(tactic| end_err) => `(tactic| (rename_i hl l1 _ _; replace l1 := ltN l1; have hl2 := allLt_of hl))
local macro_rules | `(tactic| walk_at "call ref") => `(tactic| exists obj_new)
section
variable {w : World} {A A₀ : Around} {s : Shared} {base h₀ : Heap} {outer : List Env} {L : Addr} {m mg mb : Str → Option Value} {env : Env} {mean : ExcName → Option Value}
theorem thing_new {news : Ledger} {md on : Str} {lv : Int} {t1 t2 t3 : Tok} {Q E : Value → Shared → Prop}
    (KX : (hd.heap_1 w.params).In h₀) (T : Top hd.view_1 (looseW hd.view_1 [Str.ofString "Names", Str.ofString "expr_text"]) mean mg mb h₀) (B : Below A₀ base outer h₀) (fits : Fits A 500 5000 (env :: outer)) (hf : env.frame = some L) (hke : env.scope.kind = .function)
    (F : Fr h₀ L s.heap m) (N : News h₀ L s.heap news)
    (hQ : ∀ x dx k h' tk', AllLt dx news → @LT.lt Nat _ dx x → Fr h₀ L h' m → News h₀ L h' ((x, instObj 396 dx) :: (dx, dictOf (objE k on (Str.ofString "var") .none lv md) 14) :: news) → Q (.ref x) { s with heap := h', toks := tk' }) :
    wpAny (model PG w) A (call (.ref 450) [.str md t1, .str on t2, .int lv t3]) Q E s := by
  refine wpAny_call (code_mut (need := news) (binds := [(Str.ofString "module", .str md t1), (Str.ofString "name", .str on t2), (Str.ofString "level", .int lv t3)])
    (P := fun v news' => ∃ x dx k, v = .ref x ∧ AllLt dx news ∧ @LT.lt Nat _ dx x ∧ (x, instObj 396 dx) ∈ news' ∧ (dx, dictOf (objE k on (Str.ofString "var") .none lv md) 14) ∈ news' ∧ ∀ p ∈ news, p ∈ news') 500 5000 B F N KX T fits hf hke (by k_is) (by k_is) (by decide) (BindsTo.of_eq rfl) (locs rfl) ?_ ?_ rfl rfl rfl (by decide))
  · intro g L' h₁ F' N' B' X' T' _ _
    (try dsimp only)
    (try k_fold)
    k_steps
    refine' ⟨_, _, _, _, _, rfl, by assumption, by assumption, _, ?zd, kk [?_, ?_, ?_, ?_, ?_, ?_, ?_, ?_, ?_, ?_, ?_, ?_, ?_, ?_] [?_, ?_, ?_, ?_, ?_, ?_, ?_, ?_, ?_, ?_, ?_, ?_, ?_, ?_, ?_, ?_, ?_, ?_, ?_, ?_, ?_, ?_], rfl, ?zlt, ?zl2, ?zm1, ?zm2, ?zm3⟩
    case zm1 => k_mem
    case zm2 => k_mem
    case zm3 => exact fun p hp => List.mem_cons_of_mem _ (List.mem_cons_of_mem _ hp)
    case zlt => assumption
    case zl2 => assumption
  · rintro v h' tk' news' ⟨x, dx, k, rfl, lt, l2, m1, m2, m3⟩ F' N' keep fresh
    refine hQ x dx k h' tk' lt l2 F' fun p hp => ?_
    rcases List.mem_cons.mp hp with rfl | hp
    · exact N' _ m1
    rcases List.mem_cons.mp hp with rfl | hp
    · exact N' _ m2
    · exact N' _ (m3 p hp)
end
end
section
theorem off28 : True := by
  w_top off
  exact True.intro
section
variable {prog : Program} {w : World} {A : Around} {s : Shared} {h₀ : Heap} {L : Addr} {m : Locs} {env : Env} {target : Expr} {body : List Stmt} {Q : Flow → Shared → Prop}
noncomputable def TwoEnd (h₀ : Heap) (L : Addr) (m : Locs) (S : List Str) (s : Shared) (I : Addr) (oI : Obj) (l : Addr) (lo : Obj) (J : Ledger → Prop) (f : Flow) (s' : Shared) : Prop :=
  f = .next ∧ ∃ h' tk' m' n', s' = { s with heap := h', toks := tk' } ∧ Fr h₀ L h' m' ∧ (∀ y : Str, S.contains y = false → m' y = m y) ∧ News h₀ L h' ((I, oI) :: (l, lo) :: n') ∧ (∀ p ∈ n', @Ne Nat p.1 I ∧ @Ne Nat p.1 l) ∧ J n'
theorem two_iter {l : Addr} {lo : Obj} {va vb : Value} {c : Nat} {news : Ledger} (S : List Str) (J0 J1 J2 : Ledger → Prop) (F : Fr h₀ L s.heap m) (N : News h₀ L s.heap ((l, lo) :: news)) (hc : lo.cls = .type "list") (hd : lo.data = .seq #[va, vb] c)
    (h0 : J0 news) (hl : ∀ p ∈ news, @Ne Nat p.1 l)
    (t0 : ∀ I u n h tk oI, J0 n → (∀ p ∈ n, @Ne Nat p.1 I ∧ @Ne Nat p.1 l) → @Ne Nat l I → Fr h₀ L h (ovl S u m) → News h₀ L h ((I, oI) :: (l, lo) :: n) →
      wpAny (model prog w) A (assign target env va) (fun _ s₃ => wpAny (model prog w) A (execs body env) (TwoEnd h₀ L m S s I oI l lo J1) (fun _ _ => False) s₃) (fun _ _ => False) { s with heap := h, toks := tk })
    (t1 : ∀ I u n h tk oI, J1 n → (∀ p ∈ n, @Ne Nat p.1 I ∧ @Ne Nat p.1 l) → @Ne Nat l I → Fr h₀ L h (ovl S u m) → News h₀ L h ((I, oI) :: (l, lo) :: n) →
      wpAny (model prog w) A (assign target env vb) (fun _ s₃ => wpAny (model prog w) A (execs body env) (TwoEnd h₀ L m S s I oI l lo J2) (fun _ _ => False) s₃) (fun _ _ => False) { s with heap := h, toks := tk })
    (done : ∀ h' tk' u n, J2 n → Fr h₀ L h' (ovl S u m) → News h₀ L h' n → Q .next { s with heap := h', toks := tk' })
    (hL : env.locals = L := by rfl) (hh : A.handled = none := by rfl) :
    wpAny (model prog w) A (pyIter (.ref l)) (fun it s₂ => LoopAtR prog w A h₀ env target body Q it s₂) (fun _ _ => False) s := by
  refine iter_listO (lo := lo) (vs := [va, vb]) S (fun i n => ∃ n2, n = (l, lo) :: n2 ∧ (∀ p ∈ n2, @Ne Nat p.1 l) ∧ (i = 0 → J0 n2) ∧ (i = 1 → J1 n2) ∧ (i = 2 → J2 n2)) F N hc hd ?_ ?_ ?_ ?_ hL hh
  · rintro i n ⟨n2, rfl, _⟩
    exact List.mem_cons_self ..
  · exact ⟨news, rfl, hl, fun _ => h0, fun h => by omega, fun h => by omega⟩
  · rintro I i v u n h tk o hI hv ⟨n2, rfl, hn, p0, p1, p2⟩ hoff F₁ N₁
    have hlI : @Ne Nat l I := hoff (l, lo) (List.mem_cons_self ..)
    have hboth : ∀ p ∈ n2, @Ne Nat p.1 I ∧ @Ne Nat p.1 l := fun p hp => ⟨hoff p (List.mem_cons_of_mem _ hp), hn p hp⟩
    have conc : ∀ J : Ledger → Prop, (J = if i = 0 then J1 else J2) → i < 2 → ∀ f s', TwoEnd h₀ L m S s I o l lo J f s' → EndO h₀ L I o S m (fun n => ∃ n2, n = (l, lo) :: n2 ∧ (∀ p ∈ n2, @Ne Nat p.1 l) ∧ (i + 1 = 0 → J0 n2) ∧ (i + 1 = 1 → J1 n2) ∧ (i + 1 = 2 → J2 n2)) s Q f s' := by
      rintro J hJ hi f s' ⟨rfl, h', tk', m', n', rfl, F', hm', N', hn', hj⟩
      refine ⟨h', tk', m', (l, lo) :: n', rfl, F', N', fun q hq e => ?_, hm', n', rfl, fun p hp => (hn' p hp).2, fun h => by omega, fun h => ?_, fun h => ?_⟩
      · rcases List.mem_cons.mp hq with rfl | hq
        · exact hlI e
        · exact (hn' q hq).1 e
      · rw [hJ, if_pos (by omega)] at hj; exact hj
      · rw [hJ, if_neg (by omega)] at hj; exact hj
    match i, hv with
    | 0, hv =>
      obtain rfl : va = v := Option.some.inj hv
      exact wpAny_mono (t0 I u n2 h tk o (p0 rfl) hboth hlI F₁ N₁) (fun _ s₃ h₃ => wpAny_mono h₃ (fun f s' h₄ => conc J1 rfl (by omega) f s' h₄) fun _ _ e => e) fun _ _ e => e
    | 1, hv =>
      obtain rfl : vb = v := Option.some.inj hv
      exact wpAny_mono (t1 I u n2 h tk o (p1 rfl) hboth hlI F₁ N₁) (fun _ s₃ h₃ => wpAny_mono h₃ (fun f s' h₄ => conc J2 rfl (by omega) f s' h₄) fun _ _ e => e) fun _ _ e => e
    | i + 2, hv => cases hv
  · rintro h' tk' u n F' N' ⟨n2, rfl, _, _, _, p2⟩
    exact done h' tk' u n2 (p2 rfl) F' (News.sub N' fun p hp => List.mem_cons_of_mem _ hp)
end
end
section
theorem off29 : True := by
  w_top off
  exact True.intro
section
variable {prog : Program} {w : World} {A : Around} {E : Value → Shared → Prop} {s : Shared} {h₀ : Heap} {L l b : Addr} {m : Locs} {news news' : Ledger} {its its2 : Array Value} {n n2 : Nat}
theorem inplace_list {a c : Value} {Q : Value → Shared → Prop} (ha : s.TypeIs a "list") (hb : s.TypeIs c "list")
    (hc : wpAny (model prog w) A (call (.builtin "list.__iadd__") [a, c]) Q E s) : wpAny (model prog w) A (inplaceOp .Add a c) Q E s := by
  unfold inplaceOp
  refine wpAny_holding ?_
  have hl := PySem.F.slot_list_iadd.lookup
  have hfi : fillsInplaceSlot (.type "list") "add" (Operator.Add == .Add) = pure false := by
    unfold fillsInplaceSlot
    show (typeLookup (.type "list") (dunderI "add") >>= fun fi => pure (fi.isSome && !isSeqSlot fi)) = pure false
    rw [hl]
    have e : isSeqSlot (some (.builtin "list.__iadd__")) = true := by decide +kernel
    simp only [pure_bind, Option.isSome_some, e, Bool.not_true, Bool.and_false]
  have hsi : seqSlot? (.type "list") (dunderI "add") = pure (some (.builtin "list.__iadd__")) := PySem.seqSlot_of hl (by decide +kernel)
  refine wpAny_bind (wpAny_typeOf ha (wpAny_bind (wpAny_of_eq hfi ?_)))
  show wpAny _ A (if false = true then _ else _) Q E s
  rw [if_neg Bool.false_ne_true]
  refine wpAny_bind (wpAny_binaryOp1_none (nm := "add") ha hb PySem.noFill_list_add ?_)
  refine wpAny_bind (wpAny_of_eq hsi ?_)
  exact wpAny_bind (wpAny_rule hc)
theorem iadd_K {Q : Value → Shared → Prop} (F : Fr h₀ L s.heap m) (N : News h₀ L s.heap news) (hb : (b, listOf its2 n2) ∈ news)
    (U : Upd l (listOf its n) (listOf (its ++ its2) (if (its ++ its2).size == its.size then n else n + 1)) news news')
    (h : ∀ h', Fr h₀ L h' m → News h₀ L h' news' → Q (.ref l) { s with heap := h' }) (hz : its.size + its2.size ≤ 1000) :
    wpAny (model prog w) A (inplaceOp .Add (.ref l) (.ref b)) Q E s := by
  obtain ⟨pre, post, rfl, rfl, a, c⟩ := U.split
  have z := N (l, listOf its n) (List.mem_append.mpr (.inr (.head _)))
  have zb := (N _ hb).1
  have hline : sizeLine ≥ 1000 := Nat.le_of_ble_eq_true rfl
  refine inplace_list ⟨_, z.1, rfl⟩ ⟨_, zb, rfl⟩ (call_meets PySem.F.slot_list_iadd ⟨_, z.1, rfl⟩ PySem.F.entry_list_iadd (PySem.F.args_list_iadd_2 _ _) (PySem.AutoSeq1.list___iadd___list_list_0 l its n b its2 n2 ?_ (by omega) (by omega)) ⟨z.1, zb, ?_⟩)
  · have : Builtin.List.listTooLong (its.size + its2.size) = false := by
      unfold Builtin.List.listTooLong
      exact decide_eq_false (by omega)
    rw [this]; simp
  · refine h _ (F.change (Heap.SameBut.update ..) z.2.1 z.2.2) (news_set N a c (Heap.SameBut.update ..) ?_)
    rw [Heap.get?_update_self _ z.1 (by rfl)]
    rfl
end
end
section
theorem off30 : True := by
  w_top off
  exact True.intro
local macro_rules | `(tactic| k_mem) => `(tactic| assumption)
local macro_rules | `(tactic| k_all) => `(tactic| assumption)
local macro_rules | `(tactic| end_err) => `(tactic| first | (rename_i hl _ _ _; simp only [AllLt, and_true] at hl; (try dsimp only)) | skip)
local macro_rules | `(tactic| walk_at "call ref") => `(tactic| exists thing_new)
local macro_rules | `(tactic| walk_at "exec For Name List cons nil") => `(tactic| dict_iter_look)
local macro_rules | `(tactic| walk_at "inplaceOp Add ref") => `(tactic| exists iadd_K)
section
variable {w : World} {s : Shared} {h₀ base : Heap} {L fa : Addr} {cd : Value} {mg mb : Str → Option Value} {mean : ExcName → Option Value} {Q : Flow → Shared → Prop}
noncomputable abbrev m5 (l : Addr) (b : BD) (u : Locs) : Locs := ovl ["each", "one"] u (m3 l b.D b.ty b.pl b.nm)
noncomputable abbrev m6 (l : Addr) (b : BD) (u : Locs) (th : Addr) : Locs := fun y => if y = Str.ofString "things" then some (.ref th) else m5 l b u y
noncomputable def thMd (j : Nat) : Str := if j % 4 = 3 then Str.ofString "A" else Str.ofString "M"
noncomputable def thNm (j : Nat) : Str := if j < 4 then Str.ofString "v" else Str.ofString "w"
noncomputable def thLv (j : Nat) : Int := if j % 4 = 3 then 0 else ((j % 4 : Nat) : Int)
structure Things (R : Ledger) (xs ds : Nat → Addr) (ks : Nat → Keys) : Prop where
  inst : ∀ j, j < 8 → (xs j, instObj 396 (ds j)) ∈ R
  dict : ∀ j, j < 8 → (ds j, dictOf (objE (ks j) (thNm j) (Str.ofString "var") .none (thLv j) (thMd j)) 14) ∈ R
noncomputable def J1 (R : Ledger) (th nl : Addr) (nlo : Obj) (n : Ledger) : Prop :=
  ∃ (x0 d0 : Addr) (k0 : Keys) (x1 d1 : Addr) (k1 : Keys) (x2 d2 : Addr) (k2 : Keys) (x3 d3 : Addr) (k3 : Keys) (c : Nat), n = (th, listOf #[.ref x0, .ref x1, .ref x2, .ref x3] c) :: (x3, instObj 396 d3) :: (d3, dictOf (objE k3 (Str.ofString "v") (Str.ofString "var") .none 0 (Str.ofString "A")) 14) :: (x2, instObj 396 d2) :: (d2, dictOf (objE k2 (Str.ofString "v") (Str.ofString "var") .none 2 (Str.ofString "M")) 14) :: (x1, instObj 396 d1) :: (d1, dictOf (objE k1 (Str.ofString "v") (Str.ofString "var") .none 1 (Str.ofString "M")) 14) :: (x0, instObj 396 d0) :: (d0, dictOf (objE k0 (Str.ofString "v") (Str.ofString "var") .none 0 (Str.ofString "M")) 14) :: (nl, nlo) :: R ∧ @LT.lt Nat _ th d0 ∧ @LT.lt Nat _ d0 x0 ∧ @LT.lt Nat _ x0 d1 ∧ @LT.lt Nat _ d1 x1 ∧ @LT.lt Nat _ x1 d2 ∧ @LT.lt Nat _ d2 x2 ∧ @LT.lt Nat _ x2 d3 ∧ @LT.lt Nat _ d3 x3 ∧ (∀ p ∈ R, p.1 < d0)
noncomputable def J2 (R : Ledger) (th nl : Addr) (nlo : Obj) (n : Ledger) : Prop :=
  ∃ (x0 d0 : Addr) (k0 : Keys) (x1 d1 : Addr) (k1 : Keys) (x2 d2 : Addr) (k2 : Keys) (x3 d3 : Addr) (k3 : Keys) (x4 d4 : Addr) (k4 : Keys) (x5 d5 : Addr) (k5 : Keys) (x6 d6 : Addr) (k6 : Keys) (x7 d7 : Addr) (k7 : Keys) (c : Nat), n = (th, listOf #[.ref x0, .ref x1, .ref x2, .ref x3, .ref x4, .ref x5, .ref x6, .ref x7] c) :: (x7, instObj 396 d7) :: (d7, dictOf (objE k7 (Str.ofString "w") (Str.ofString "var") .none 0 (Str.ofString "A")) 14) :: (x6, instObj 396 d6) :: (d6, dictOf (objE k6 (Str.ofString "w") (Str.ofString "var") .none 2 (Str.ofString "M")) 14) :: (x5, instObj 396 d5) :: (d5, dictOf (objE k5 (Str.ofString "w") (Str.ofString "var") .none 1 (Str.ofString "M")) 14) :: (x4, instObj 396 d4) :: (d4, dictOf (objE k4 (Str.ofString "w") (Str.ofString "var") .none 0 (Str.ofString "M")) 14) :: (x3, instObj 396 d3) :: (d3, dictOf (objE k3 (Str.ofString "v") (Str.ofString "var") .none 0 (Str.ofString "A")) 14) :: (x2, instObj 396 d2) :: (d2, dictOf (objE k2 (Str.ofString "v") (Str.ofString "var") .none 2 (Str.ofString "M")) 14) :: (x1, instObj 396 d1) :: (d1, dictOf (objE k1 (Str.ofString "v") (Str.ofString "var") .none 1 (Str.ofString "M")) 14) :: (x0, instObj 396 d0) :: (d0, dictOf (objE k0 (Str.ofString "v") (Str.ofString "var") .none 0 (Str.ofString "M")) 14) :: (nl, nlo) :: R ∧ @LT.lt Nat _ th d0 ∧ @LT.lt Nat _ d0 x0 ∧ @LT.lt Nat _ x0 d1 ∧ @LT.lt Nat _ d1 x1 ∧ @LT.lt Nat _ x1 d2 ∧ @LT.lt Nat _ d2 x2 ∧ @LT.lt Nat _ x2 d3 ∧ @LT.lt Nat _ d3 x3 ∧ @LT.lt Nat _ x3 d4 ∧ @LT.lt Nat _ d4 x4 ∧ @LT.lt Nat _ x4 d5 ∧ @LT.lt Nat _ d5 x5 ∧ @LT.lt Nat _ x5 d6 ∧ @LT.lt Nat _ d6 x6 ∧ @LT.lt Nat _ x6 d7 ∧ @LT.lt Nat _ d7 x7 ∧ (∀ p ∈ R, p.1 < d0)
theorem ovl_same {S : List Str} {m' m : Locs} {x : Str} {v : Option Value} (hx : m x = v) (h : ∀ y, S.contains y = false → m' y = m y) : ∀ y, S.contains y = false → (if y = x then v else m' y) = m y := fun y hy => by
  by_cases q : y = x
  · subst q; rw [if_pos rfl, hx]
  · rw [if_neg q]; exact h y hy
theorem st6 {l th nl : Addr} {b : BD} {u : Locs} {R : Ledger} {nlo : Obj}
    (KX : (hd.heap_1 w.params).In h₀) (T : Top hd.view_1 (looseW hd.view_1 [Str.ofString "Names", Str.ofString "expr_text"]) mean mg mb h₀) (B : Below callerA h₀ [] h₀)
    (F : Fr h₀ L s.heap (m6 l b u th)) (N : News h₀ L s.heap ((th, listOf #[] 0) :: (nl, nlo) :: R)) (hR : ∀ p ∈ R, p.1 ≠ th) (hR2 : ∀ p ∈ R, p.1 ≠ nl) (hnl : @LT.lt Nat _ nl th) 
    (hQ : ∀ R' xs ds ks c u' h' tk', Things R' xs ds ks → (∀ p ∈ R, p ∈ R') → (∀ p ∈ R', @Ne Nat p.1 th ∧ @Ne Nat p.1 nl) → Fr h₀ L h' (ovl ["name"] u' (m6 l b u th)) → News h₀ L h' ((th, listOf #[.ref (xs 0), .ref (xs 1), .ref (xs 2), .ref (xs 3), .ref (xs 4), .ref (xs 5), .ref (xs 6), .ref (xs 7)] c) :: (nl, nlo) :: R') → Q .next { s with heap := h', toks := tk' }) :
    wpAny (model PG w) (callerA.deeper (lawEnv L fa cd)) (exec (lawSt 6) (lawEnv L fa cd)) Q (fun _ _ => False) s := by
  conv in lawSt 6 => whnf
  k_steps
  refine' two_iter ["name"] (fun n => n = (th, listOf #[] 0) :: (nl, nlo) :: R) (J1 R th nl nlo) (J2 R th nl nlo) ?zF ?zN ?zhc ?zhd rfl ?zhl ?zt0 ?zt1 ?zdone (hL := ?zhL) (hh := ?zhh)
  case zhL => rfl
  case zhh => rfl
  case zF => assumption
  case zN => assumption
  case zhc => rfl
  case zhd => rfl
  case zhl => exact List.forall_mem_cons.mpr ⟨by k_ne, List.forall_mem_cons.mpr ⟨by k_ne, fun p hp => neTr (neT (And.right (And.right (by assumption)))) hp⟩⟩
  case zt0 =>
    rintro I u n h tk oI rfl hoff hlI F' N'
    have hthI := (hoff _ (List.mem_cons_self ..)).1
    have hthl := (hoff _ (List.mem_cons_self ..)).2
    dsimp only at hthI hthl
    k_steps
    refine' ⟨rfl, _, _, _, (th, listOf #[.ref ?zax0, .ref ?zax1, .ref ?zax2, .ref ?zax3] ?zac) :: (?zax3, instObj 396 ?zad3) :: (?zad3, dictOf (objE ?zak3 (Str.ofString "v") (Str.ofString "var") .none 0 (Str.ofString "A")) 14) :: (?zax2, instObj 396 ?zad2) :: (?zad2, dictOf (objE ?zak2 (Str.ofString "v") (Str.ofString "var") .none 2 (Str.ofString "M")) 14) :: (?zax1, instObj 396 ?zad1) :: (?zad1, dictOf (objE ?zak1 (Str.ofString "v") (Str.ofString "var") .none 1 (Str.ofString "M")) 14) :: (?zax0, instObj 396 ?zad0) :: (?zad0, dictOf (objE ?zak0 (Str.ofString "v") (Str.ofString "var") .none 0 (Str.ofString "M")) 14) :: (nl, nlo) :: R, rfl, by assumption, ?zaov, ?zaN, ?zaoff, ?zax0, ?zad0, ?zak0, ?zax1, ?zad1, ?zak1, ?zax2, ?zad2, ?zak2, ?zax3, ?zad3, ?zak3, ?zac, rfl, ?zach⟩
    case zaN =>
      refine News.sub (by assumption) ?zasub
      case zasub =>
        refine List.forall_mem_cons.mpr ⟨by k_mem, List.forall_mem_cons.mpr ⟨by k_mem, List.forall_mem_cons.mpr ⟨by k_mem, ?zar⟩⟩⟩
        case zar =>
          iterate 8 (refine List.forall_mem_cons.mpr ⟨by k_mem, ?_⟩)
          intro p hp
          repeat (first | exact hp | apply List.mem_cons_of_mem)
    case zaov => exact ovl_same rfl (by repeat' (first | exact ovl_start | refine ovl_set (by decide) ?_))
    case zach =>
      refine ⟨by (refine ltN ?_; omega), by (refine ltN ?_; omega), by (refine ltN ?_; omega), by (refine ltN ?_; omega), by (refine ltN ?_; omega), by (refine ltN ?_; omega), by (refine ltN ?_; omega), by (refine ltN ?_; omega), ?_⟩
      exact lt_of_all (And.right (And.right (And.right (And.right (by assumption)))))
    case zaoff =>
      iterate 10 (refine List.forall_mem_cons.mpr ⟨by first | exact hoff _ (by k_mem) | exact ⟨by k_ne, by k_ne⟩, ?_⟩)
      exact fun p hp => hoff p (by repeat (first | exact hp | apply List.mem_cons_of_mem))
  case zt1 =>
    rintro I u n h tk oI ⟨x0, d0, k0, x1, d1, k1, x2, d2, k2, x3, d3, k3, c, rfl, c1, c2, c3, c4, c5, c6, c7, c8, hRd⟩ hoff hlI F' N'
    have hthI := (hoff _ (List.mem_cons_self ..)).1
    have hthl := (hoff _ (List.mem_cons_self ..)).2
    dsimp only at hthI hthl
    k_steps
    refine' ⟨rfl, _, _, _, (th, listOf #[.ref ?zbx0, .ref ?zbx1, .ref ?zbx2, .ref ?zbx3, .ref ?zbx4, .ref ?zbx5, .ref ?zbx6, .ref ?zbx7] ?zbc) :: (?zbx7, instObj 396 ?zbd7) :: (?zbd7, dictOf (objE ?zbk7 (Str.ofString "w") (Str.ofString "var") .none 0 (Str.ofString "A")) 14) :: (?zbx6, instObj 396 ?zbd6) :: (?zbd6, dictOf (objE ?zbk6 (Str.ofString "w") (Str.ofString "var") .none 2 (Str.ofString "M")) 14) :: (?zbx5, instObj 396 ?zbd5) :: (?zbd5, dictOf (objE ?zbk5 (Str.ofString "w") (Str.ofString "var") .none 1 (Str.ofString "M")) 14) :: (?zbx4, instObj 396 ?zbd4) :: (?zbd4, dictOf (objE ?zbk4 (Str.ofString "w") (Str.ofString "var") .none 0 (Str.ofString "M")) 14) :: (?zbx3, instObj 396 ?zbd3) :: (?zbd3, dictOf (objE ?zbk3 (Str.ofString "v") (Str.ofString "var") .none 0 (Str.ofString "A")) 14) :: (?zbx2, instObj 396 ?zbd2) :: (?zbd2, dictOf (objE ?zbk2 (Str.ofString "v") (Str.ofString "var") .none 2 (Str.ofString "M")) 14) :: (?zbx1, instObj 396 ?zbd1) :: (?zbd1, dictOf (objE ?zbk1 (Str.ofString "v") (Str.ofString "var") .none 1 (Str.ofString "M")) 14) :: (?zbx0, instObj 396 ?zbd0) :: (?zbd0, dictOf (objE ?zbk0 (Str.ofString "v") (Str.ofString "var") .none 0 (Str.ofString "M")) 14) :: (nl, nlo) :: R, rfl, by assumption, ?zbov, ?zbN, ?zboff, ?zbx0, ?zbd0, ?zbk0, ?zbx1, ?zbd1, ?zbk1, ?zbx2, ?zbd2, ?zbk2, ?zbx3, ?zbd3, ?zbk3, ?zbx4, ?zbd4, ?zbk4, ?zbx5, ?zbd5, ?zbk5, ?zbx6, ?zbd6, ?zbk6, ?zbx7, ?zbd7, ?zbk7, ?zbc, rfl, ?zbch⟩
    case zbN =>
      refine News.sub (by assumption) ?zbsub
      case zbsub =>
        refine List.forall_mem_cons.mpr ⟨by k_mem, List.forall_mem_cons.mpr ⟨by k_mem, List.forall_mem_cons.mpr ⟨by k_mem, ?zbr⟩⟩⟩
        case zbr =>
          iterate 16 (refine List.forall_mem_cons.mpr ⟨by k_mem, ?_⟩)
          intro p hp
          repeat (first | exact hp | apply List.mem_cons_of_mem)
    case zbov => exact ovl_same rfl (by repeat' (first | exact ovl_start | refine ovl_set (by decide) ?_))
    case zbch =>
      refine ⟨by (refine ltN ?_; omega), by (refine ltN ?_; omega), by (refine ltN ?_; omega), by (refine ltN ?_; omega), by (refine ltN ?_; omega), by (refine ltN ?_; omega), by (refine ltN ?_; omega), by (refine ltN ?_; omega), by (refine ltN ?_; omega), by (refine ltN ?_; omega), by (refine ltN ?_; omega), by (refine ltN ?_; omega), by (refine ltN ?_; omega), by (refine ltN ?_; omega), by (refine ltN ?_; omega), by (refine ltN ?_; omega), ?_⟩
      exact hRd
    case zboff =>
      iterate 18 (refine List.forall_mem_cons.mpr ⟨by first | exact hoff _ (by k_mem) | exact ⟨by k_ne, by k_ne⟩, ?_⟩)
      exact fun p hp => hoff p (by repeat (first | exact hp | apply List.mem_cons_of_mem))
  case zdone =>
    rintro h' tk' u n ⟨x0, d0, k0, x1, d1, k1, x2, d2, k2, x3, d3, k3, x4, d4, k4, x5, d5, k5, x6, d6, k6, x7, d7, k7, c, rfl, c1, c2, c3, c4, c5, c6, c7, c8, c9, c10, c11, c12, c13, c14, c15, c16, hRd⟩ F' N'
    refine' hQ ((x7, instObj 396 d7) :: (d7, dictOf (objE k7 (Str.ofString "w") (Str.ofString "var") .none 0 (Str.ofString "A")) 14) :: (x6, instObj 396 d6) :: (d6, dictOf (objE k6 (Str.ofString "w") (Str.ofString "var") .none 2 (Str.ofString "M")) 14) :: (x5, instObj 396 d5) :: (d5, dictOf (objE k5 (Str.ofString "w") (Str.ofString "var") .none 1 (Str.ofString "M")) 14) :: (x4, instObj 396 d4) :: (d4, dictOf (objE k4 (Str.ofString "w") (Str.ofString "var") .none 0 (Str.ofString "M")) 14) :: (x3, instObj 396 d3) :: (d3, dictOf (objE k3 (Str.ofString "v") (Str.ofString "var") .none 0 (Str.ofString "A")) 14) :: (x2, instObj 396 d2) :: (d2, dictOf (objE k2 (Str.ofString "v") (Str.ofString "var") .none 2 (Str.ofString "M")) 14) :: (x1, instObj 396 d1) :: (d1, dictOf (objE k1 (Str.ofString "v") (Str.ofString "var") .none 1 (Str.ofString "M")) 14) :: (x0, instObj 396 d0) :: (d0, dictOf (objE k0 (Str.ofString "v") (Str.ofString "var") .none 0 (Str.ofString "M")) 14) :: R) (fun j => [x0, x1, x2, x3, x4, x5, x6, x7].getD j 0) (fun j => [d0, d1, d2, d3, d4, d5, d6, d7].getD j 0) (fun j => [k0, k1, k2, k3, k4, k5, k6, k7].getD j (fun _ => (0, 0))) c u h' tk' ⟨?zinst, ?zdict⟩ ?zsub9 ?zoff9 F' ?zN9
    case zinst =>
      intro j hj
      match j, hj with
      | 0, _ => k_mem
      | 1, _ => k_mem
      | 2, _ => k_mem
      | 3, _ => k_mem
      | 4, _ => k_mem
      | 5, _ => k_mem
      | 6, _ => k_mem
      | 7, _ => k_mem
      | n + 8, h => exact absurd h (by omega)
    case zdict =>
      intro j hj
      match j, hj with
      | 0, _ => k_mem
      | 1, _ => k_mem
      | 2, _ => k_mem
      | 3, _ => k_mem
      | 4, _ => k_mem
      | 5, _ => k_mem
      | 6, _ => k_mem
      | 7, _ => k_mem
      | n + 8, h => exact absurd h (by omega)
    case zsub9 =>
      intro p hp
      repeat (first | exact hp | apply List.mem_cons_of_mem)
    case zoff9 =>
      iterate 16 (refine List.forall_mem_cons.mpr ⟨⟨by k_ne, by k_ne⟩, ?_⟩)
      exact fun p hp => ⟨hR p hp, hR2 p hp⟩
    case zN9 =>
      refine News.sub N' ?zs9
      case zs9 =>
        iterate 18 (refine List.forall_mem_cons.mpr ⟨by k_mem, ?_⟩)
        intro p hp
        repeat (first | exact hp | apply List.mem_cons_of_mem)
end
end
section
theorem off31 : True := by
  w_top off
  exact True.intro
local macro_rules | `(tactic| k_mem) => `(tactic| assumption)
local macro_rules | `(tactic| k_all) => `(tactic| assumption)
local macro_rules | `(tactic| walk_at "exec For") => `(tactic| dict_iter_look)
local macro_rules | `(tactic| walk_at "exec For Name Call cons nil") => `(tactic| dict_iter_look)
/-- an entered case: its tuple, the thing's place, the type's place -/
structure EC where
  a : Addr
  j : Nat
  wh : Nat
  t : Tok
theorem things_at {xs : Nat → Addr} {k : Int} (h0 : 0 ≤ k) (h8 : k < 8) : (#[Value.ref (xs 0), .ref (xs 1), .ref (xs 2), .ref (xs 3), .ref (xs 4), .ref (xs 5), .ref (xs 6), .ref (xs 7)] : Array Value)[k.toNat]? = some (.ref (xs k.toNat)) := by
  match k, h0, h8 with
  | .ofNat 0, _, _ => rfl
  | .ofNat 1, _, _ => rfl
  | .ofNat 2, _, _ => rfl
  | .ofNat 3, _, _ => rfl
  | .ofNat 4, _, _ => rfl
  | .ofNat 5, _, _ => rfl
  | .ofNat 6, _, _ => rfl
  | .ofNat 7, _, _ => rfl
  | .ofNat (n + 8), _, h => exact absurd h (by simp only [Int.ofNat_eq_natCast]; omega)
  | .negSucc n, h, _ => exact absurd h (by omega)
theorem push_map {E : List EC} {e : EC} : ((E ++ [e]).map fun e : EC => Value.ref e.a).toArray = (E.map fun e : EC => Value.ref e.a).toArray.push (.ref e.a) := by simp
theorem item_things {prog : Program} {w : World} {A : Around} {E : Value → Shared → Prop} {s : Shared} {h₀ : Heap} {L th : Addr} {news : Ledger} {value slice : Expr} {xs : Nat → Addr} {k : Int} {u : Tok} {c : Nat} {Q : Value → Shared → Prop} (N : News h₀ L s.heap news)
    (hm : (th, listOf #[.ref (xs 0), .ref (xs 1), .ref (xs 2), .ref (xs 3), .ref (xs 4), .ref (xs 5), .ref (xs 6), .ref (xs 7)] c) ∈ news) (h0 : 0 ≤ k) (h8 : k < 8) (h : Q (.ref (xs k.toNat)) s)
    (hs : subscripted slice false (.ref th) (.int k u) = operate [.ref th, .int k u] (getItem (.ref th) (.int k u)) := by with_unfolding_all rfl) (hg : ∀ r, letTemporaryGo value (.ref th) r = pure () := by intro _; with_unfolding_all rfl) :
    wpAny (model prog w) A (subscriptTail value slice (.ref th) (.int k u)) Q E s :=
  item_list ⟨_, (N _ hm).1, rfl, _, rfl⟩ h0 (by omega) (things_at h0 h8) h hs hg
theorem fm8 (x : Int) : 0 ≤ x.fmod 8 ∧ x.fmod 8 < 8 := ⟨Int.fmod_nonneg_of_pos _ (by decide), Int.fmod_lt_of_pos _ (by decide)⟩
theorem fm7 (x : Int) : 0 ≤ x.fmod 7 ∧ x.fmod 7 < 7 := ⟨Int.fmod_nonneg_of_pos _ (by decide), Int.fmod_lt_of_pos _ (by decide)⟩
theorem fm3 (x : Int) : 0 ≤ x.fmod 3 ∧ x.fmod 3 < 3 := ⟨Int.fmod_nonneg_of_pos _ (by decide), Int.fmod_lt_of_pos _ (by decide)⟩
local macro_rules | `(tactic| item_end_look) => `(tactic| first | exact (fm8 _).1 | exact (fm8 _).2 | (simp only [List.size_toArray, List.length_map]; exact Nat.le_trans (by omega) (Nat.le_of_ble_eq_true rfl : 100 ≤ sizeLine)))
local macro_rules | `(tactic| walk_at "subscriptTail") => `(tactic| exists item_things, _, _, _, _)
local macro_rules | `(tactic| walk_at "call builtin:list.append") => `(tactic| (k_here; (with_reducible show wpAny _ _ (call (Value.builtin _) [Value.ref _, _]) _ _ _); exists append_K))
section
variable {w : World} {s : Shared} {h₀ base : Heap} {L fa : Addr} {cd : Value} {mg mb : Str → Option Value} {mean : ExcName → Option Value} {Q : Flow → Shared → Prop}
noncomputable abbrev m7 (l : Addr) (b : BD) (u u2 : Locs) (th ec : Addr) : Locs := fun y => if y = Str.ofString "entered_cases" then some (.ref ec) else ovl ["name"] u2 (m6 l b u th) y
noncomputable abbrev EC.obj (xs : Nat → Addr) (e : EC) : Obj := { cls := .type "tuple", data := .seq #[.ref (xs e.j), .int (e.wh : Int) e.t] }
noncomputable def Cases (R : Ledger) (xs : Nat → Addr) (E : List EC) : Prop := ∀ e ∈ E, (e.a, e.obj xs) ∈ R ∧ e.j < 8 ∧ e.wh < 3
theorem st8 {l th ec nl : Addr} {nlo : Obj} {b : BD} {u u2 : Locs} {R : Ledger} {xs : Nat → Addr} {c : Nat} {us : List Value} {bs : List Int} {cD : Nat}
    (KX : (hd.heap_1 w.params).In h₀) (T : Top hd.view_1 (looseW hd.view_1 [Str.ofString "Names", Str.ofString "expr_text"]) mean mg mb h₀) (B : Below callerA h₀ [] h₀)
    (F : Fr h₀ L s.heap (m7 l b u u2 th ec)) (N : News h₀ L s.heap ((ec, listOf #[] 0) :: (nl, nlo) :: R)) (hnl : @LT.lt Nat _ nl ec) (hR : ∀ p ∈ R, @Ne Nat p.1 ec ∧ @Ne Nat p.1 nl)
    (hth : (th, listOf #[.ref (xs 0), .ref (xs 1), .ref (xs 2), .ref (xs 3), .ref (xs 4), .ref (xs 5), .ref (xs 6), .ref (xs 7)] c) ∈ R)
    (hD : (b.D, listOf us.toArray cD) ∈ R) (hI : IntsAre us bs) (hlen : bs.length = 40) (hb : ∀ b ∈ bs, 0 ≤ b ∧ b < 1009)
    (hQ : ∀ R' E c' u' h' tk', Cases R' xs E → E.length ≤ 6 → (∀ p ∈ R, p ∈ R') → (∀ p ∈ R', @Ne Nat p.1 ec ∧ @Ne Nat p.1 nl) → Fr h₀ L h' (ovl ["each", "thing"] u' (m7 l b u u2 th ec)) → News h₀ L h' ((ec, listOf (E.map fun e : EC => Value.ref e.a).toArray c') :: (nl, nlo) :: R') → Q .next { s with heap := h', toks := tk' }) :
    wpAny (model PG w) (callerA.deeper (lawEnv L fa cd)) (exec (lawSt 8) (lawEnv L fa cd)) Q (fun _ _ => False) s := by
  conv in lawSt 8 => whnf
  k_steps
  refine' iter_rangeO (n := ((bs.getD (Int.toNat 1) 0).fmod 7 - 0).toNat) ["each", "thing"] (fun i news => ∃ R' E c, news = (ec, listOf (E.map fun e : EC => Value.ref e.a).toArray c) :: (nl, nlo) :: R' ∧ E.length = i ∧ Cases R' xs E ∧ (∀ p ∈ R, p ∈ R') ∧ (∀ p ∈ R', @Ne Nat p.1 ec ∧ @Ne Nat p.1 nl)) ?zF ?zN ?zhr ?zsmall (rangeSize_nat _ _) ?zh0 ?zturn ?zdone
  case zF => assumption
  case zN => assumption
  case zhr => assumption
  case zsmall => exact small_one (by decide) (by decide) (by have := (fm7 (bs.getD (Int.toNat 1) 0)).1; omega) (by have := (fm7 (bs.getD (Int.toNat 1) 0)).2; omega)
  case zh0 => exact ⟨R, [], 0, rfl, rfl, (show Cases R xs [] from fun e h => absurd h (by simp)), fun _ h => h, hR⟩
  case zturn =>
    rintro I i t u' news₁ h tk o hI hi ⟨R', E, c', rfl, hE, hC, hsub, hR'⟩ hoff F₁ N₁
    have hth' := hsub _ hth
    have hD' := hsub _ hD
    have hi6 : i < 7 := by have := (fm7 (bs.getD (Int.toNat 1) 0)).2; omega
    have heI := hoff _ (List.mem_cons_self ..)
    dsimp only at heI
    have heI2 : @Ne Nat ec I := heI
    clear heI
    have hRI : ∀ p ∈ R', p.1 ≠ I := fun p hp => hoff p (List.mem_cons_of_mem _ (List.mem_cons_of_mem _ hp))
    have hRe : ∀ p ∈ R', p.1 ≠ ec := fun p hp => (hR' p hp).1
    clear hI
    k_steps
    have e3 : (((bs.getD (3 + 2 * (0 + (i : Int))).toNat 0).fmod 3).toNat : Int) = (bs.getD (3 + 2 * (0 + (i : Int))).toNat 0).fmod 3 := Int.toNat_of_nonneg (fm3 _).1
    refine' ⟨_, _, _, (ec, listOf ((E.map fun e : EC => Value.ref e.a).toArray.push (.ref ?zD)) (c' + 1)) :: (nl, nlo) :: (?zD, ?ztup) :: R', rfl, by assumption, ?zN2, ?zoff, ?zov, (?zD, ?ztup) :: R', E ++ [⟨?zD, ((bs.getD (2 + 2 * (0 + (i : Int))).toNat 0).fmod 8).toNat, ((bs.getD (3 + 2 * (0 + (i : Int))).toNat 0).fmod 3).toNat, ?ztk⟩], c' + 1, ?zeq, ?zlen, ?zC, ?zsub, ?zne⟩
    case zN2 =>
      refine News.sub (by assumption) ?zs2
      case zs2 =>
        iterate 4 (refine List.forall_mem_cons.mpr ⟨by k_mem, ?_⟩)
        intro p hp
        repeat (first | exact hp | apply List.mem_cons_of_mem)
    case zeq => rw [push_map]
    case zlen => simp [hE]
    case zC =>
      intro e he
      rcases List.mem_append.mp he with he | he
      · exact ⟨List.mem_cons_of_mem _ (hC e he).1, (hC e he).2⟩
      · rw [List.mem_singleton.mp he]
        refine ⟨?_, by have := fm8 (bs.getD (2 + 2 * (0 + (i : Int))).toNat 0); dsimp only; omega, by have := fm3 (bs.getD (3 + 2 * (0 + (i : Int))).toNat 0); dsimp only; omega⟩
        simp only [EC.obj, e3]
        exact List.mem_cons_self ..
    case zoff =>
      refine List.forall_mem_cons.mpr ⟨heI2, List.forall_mem_cons.mpr ⟨hoff _ (List.mem_cons_of_mem _ (List.mem_cons_self ..)), List.forall_mem_cons.mpr ⟨by k_ne, hRI⟩⟩⟩
    case zov => repeat' (first | exact ovl_start | refine ovl_set (by decide) ?_)
    case zsub => exact fun p hp => List.mem_cons_of_mem _ (hsub p hp)
    case zne => exact List.forall_mem_cons.mpr ⟨⟨by k_ne, by k_ne⟩, hR'⟩
  case zdone =>
    rintro h' tk' u' news' F' N' ⟨R', E, c', rfl, hE, hC, hsub, hR'⟩
    have := (fm7 (bs.getD (Int.toNat 1) 0)).2
    exact hQ R' E c' u' h' tk' hC (by omega) hsub hR' F' N'
end
end
section
theorem off32 : True := by
  w_top off
  exact True.intro
local macro_rules | `(tactic| walk_at "none") => `(tactic| fail)
noncomputable def BD.ps (b : BD) (i : Nat) : Addr := match i with | 0 => b.p0 | 1 => b.p1 | _ => b.p2
noncomputable def BD.pd (b : BD) (i : Nat) : Addr := match i with | 0 => b.d0 | 1 => b.d1 | _ => b.d2
noncomputable def BD.pk (b : BD) (i : Nat) : Keys := match i with | 0 => b.k0 | 1 => b.k1 | _ => b.k2
noncomputable def BD.pb (b : BD) (i : Nat) : Str := match i with | 0 => b.l0 | 1 => b.l1 | _ => b.l2
noncomputable def BD.pf (b : BD) (i : Nat) : Addr := match i with | 0 => b.f0 | 1 => b.f1 | _ => b.f2
noncomputable def BD.pq (b : BD) (i : Nat) : Addr := match i with | 0 => b.q0 | 1 => b.q1 | _ => b.q2
noncomputable def BD.pe (b : BD) (i : Nat) : Addr := match i with | 0 => b.e0 | 1 => b.e1 | _ => b.e2
theorem BaseOK.ptr {w : World} {al : Str} {b : BD} {R : Ledger} (h : BaseOK w al b R) {i : Nat} (hi : i < 3) : (b.ps i, instObj 375 (b.pd i)) ∈ R ∧ (b.pd i, dictOf (typeE (b.pk i) (8 + (i : Int)) (Str.ofString "pointer") (Str.ofString "M") (b.pb i) 4 (b.pf i) (b.pq i) (b.pe i)) 12) ∈ R := by
  match i, hi with
  | 0, _ => exact ⟨h.mp0, h.md0⟩
  | 1, _ => exact ⟨h.mp1, h.md1⟩
  | 2, _ => exact ⟨h.mp2, h.md2⟩
  | n + 3, h => exact absurd h (by omega)
theorem BaseOK.mono {w : World} {al : Str} {b : BD} {R R' : Ledger} (h : BaseOK w al b R) (hs : ∀ p ∈ R, p ∈ R') (hn : ∀ p ∈ R', @Ne Nat p.1 b.nl) : BaseOK w al b R' :=
  { mD := hs _ h.mD, mty := hs _ h.mty, mdt := hs _ h.mdt, mpl := hs _ h.mpl, mp0 := hs _ h.mp0, md0 := hs _ h.md0, mp1 := hs _ h.mp1, md1 := hs _ h.md1, mp2 := hs _ h.mp2, md2 := hs _ h.md2, mnm := hs _ h.mnm, mdn := hs _ h.mdn, mad := hs _ h.mad, hao := h.hao, had := h.had, msc := hs _ h.msc, msd := hs _ h.msd, hso := h.hso, hsd := h.hsd, hnl := hn }
theorem Things.mono {R R' : Ledger} {xs ds : Nat → Addr} {ks : Nat → Keys} (h : Things R xs ds ks) (hs : ∀ p ∈ R, p ∈ R') : Things R' xs ds ks := ⟨fun j hj => hs _ (h.inst j hj), fun j hj => hs _ (h.dict j hj)⟩
theorem item_ptrs {prog : Program} {w : World} {A : Around} {E : Value → Shared → Prop} {s : Shared} {h₀ : Heap} {L : Addr} {news : Ledger} {value slice : Expr} {b : BD} {k : Nat} {u : Tok} {Q : Value → Shared → Prop} (N : News h₀ L s.heap news)
    (hm : (b.pl, listOf #[.ref b.p0, .ref b.p1, .ref b.p2] b.cp) ∈ news) (h3 : k < 3) (h : Q (.ref (b.ps k)) s)
    (hs : subscripted slice false (.ref b.pl) (.int (k : Int) u) = operate [.ref b.pl, .int (k : Int) u] (getItem (.ref b.pl) (.int (k : Int) u)) := by with_unfolding_all rfl) (hg : ∀ r, letTemporaryGo value (.ref b.pl) r = pure () := by intro _; with_unfolding_all rfl) :
    wpAny (model prog w) A (subscriptTail value slice (.ref b.pl) (.int (k : Int) u)) Q E s :=
  item_list ⟨_, (N _ hm).1, rfl, _, rfl⟩ (by omega) (by omega) (by
    rw [Int.toNat_natCast]
    match k, h3 with
    | 0, _ => rfl
    | 1, _ => rfl
    | 2, _ => rfl
    | n + 3, h => exact absurd h (by omega)) h hs hg
local macro_rules | `(tactic| k_mem) => `(tactic| assumption)
local macro_rules | `(tactic| k_all) => `(tactic| assumption)
local macro_rules | `(tactic| walk_at "exec For") => `(tactic| dict_iter_look)
local macro_rules | `(tactic| walk_at "exec For Tuple Name cons nil") => `(tactic| dict_iter_look)
local macro_rules | `(tactic| item_end_look) => `(tactic| (simp only [List.size_toArray, List.length_map]; exact Nat.le_trans (by omega) (Nat.le_of_ble_eq_true rfl : 100 ≤ sizeLine)))
local macro_rules | `(tactic| walk_at "subscriptTail") => `(tactic| exists item_ptrs, _, _, _, _)
local macro_rules | `(tactic| walk_at "call builtin:list.append") => `(tactic| (k_here; (with_reducible show wpAny _ _ (call (Value.builtin _) [Value.ref _, _]) _ _ _); exists append_K))
section
variable {w : World} {s : Shared} {h₀ base : Heap} {L fa : Addr} {cd : Value} {mg mb : Str → Option Value} {mean : ExcName → Option Value} {Q : Flow → Shared → Prop}
noncomputable abbrev m8 (l : Addr) (b : BD) (u u2 u3 : Locs) (th ec : Addr) : Locs := ovl ["each", "thing"] u3 (m7 l b u u2 th ec)
noncomputable abbrev NE.key (n : NE) : Str × Str × Int × Int := (n.md, n.nm, n.lv, n.num)
noncomputable abbrev EC.key (e : EC) : Str × Str × Int × Int := (thMd e.j, thNm e.j, thLv e.j, 8 + (e.wh : Int))
theorem push_mapN {E : List NE} {e : NE} : ((E ++ [e]).map fun e : NE => Value.ref e.a).toArray = (E.map fun e : NE => Value.ref e.a).toArray.push (.ref e.a) := by simp
theorem st9 {l th ec : Addr} {b : BD} {u u2 u3 : Locs} {R : Ledger} {xs ds : Nat → Addr} {ks : Nat → Keys} {c : Nat} {E : List EC} {al : Str}
    (KX : (hd.heap_1 w.params).In h₀) (T : Top hd.view_1 (looseW hd.view_1 [Str.ofString "Names", Str.ofString "expr_text"]) mean mg mb h₀) (B : Below callerA h₀ [] h₀)
    (F : Fr h₀ L s.heap (m8 l b u u2 u3 th ec)) (N : News h₀ L s.heap ((ec, listOf (E.map fun e : EC => Value.ref e.a).toArray c) :: (b.nl, listOf #[] 0) :: R)) (hne : @Ne Nat b.nl ec) (hR : ∀ p ∈ R, @Ne Nat p.1 ec ∧ @Ne Nat p.1 b.nl)
    (hB : BaseOK w al b R) (hT : Things R xs ds ks) (hC : Cases R xs E) (hE : E.length ≤ 6)
    (hQ : ∀ (R' : Ledger) (D : List NE) (c2 : Nat) u' h' tk', D.map NE.key = E.map EC.key → (∀ n ∈ D, (n.a, n.obj) ∈ R') → (∀ p ∈ R, p ∈ R') → (∀ p ∈ R', @Ne Nat p.1 ec ∧ @Ne Nat p.1 b.nl) → Fr h₀ L h' (ovl ["thing", "which"] u' (m8 l b u u2 u3 th ec)) → News h₀ L h' ((ec, listOf (E.map fun e : EC => Value.ref e.a).toArray c) :: (b.nl, listOf (D.map fun e : NE => Value.ref e.a).toArray c2) :: R') → Q .next { s with heap := h', toks := tk' }) :
    wpAny (model PG w) (callerA.deeper (lawEnv L fa cd)) (exec (lawSt 9) (lawEnv L fa cd)) Q (fun _ _ => False) s := by
  conv in lawSt 9 => whnf
  k_steps
  refine' iter_listO (lo := listOf (E.map fun e : EC => Value.ref e.a).toArray c) (vs := E.map fun e : EC => Value.ref e.a) ["thing", "which"] (fun i news => ∃ (R' : Ledger) (D : List NE) (c2 : Nat), news = (ec, listOf (E.map fun e : EC => Value.ref e.a).toArray c) :: (b.nl, listOf (D.map fun e : NE => Value.ref e.a).toArray c2) :: R' ∧ D.map NE.key = (E.take i).map EC.key ∧ (∀ n ∈ D, (n.a, n.obj) ∈ R') ∧ (∀ p ∈ R, p ∈ R') ∧ (∀ p ∈ R', @Ne Nat p.1 ec ∧ @Ne Nat p.1 b.nl)) ?zF ?zN rfl rfl ?zhJ ?zh0 ?zturn ?zdone
  case zF => assumption
  case zN => assumption
  case zhJ =>
    rintro i news ⟨R', D, c2, rfl, _⟩
    exact List.mem_cons_self ..
  case zh0 => exact ⟨R, [], 0, rfl, rfl, (fun e h => absurd h (by simp)), fun _ h => h, hR⟩
  case zturn =>
    rintro I i v u' news₁ h tk o hI hv ⟨R', D, c2, rfl, hD, hDm, hsub, hR'⟩ hoff F₁ N₁
    obtain ⟨e, he, rfl⟩ : ∃ e, E[i]? = some e ∧ v = .ref e.a := by
      rw [List.getElem?_map] at hv
      obtain ⟨e, he, hv⟩ := Option.map_eq_some_iff.mp hv
      exact ⟨e, he, hv.symm⟩
    have hmem : e ∈ E := List.mem_of_getElem? he
    obtain ⟨hem, hj8, hw3⟩ := hC e hmem
    have ht : IsTup h e.a #[.ref (xs e.j), .int (e.wh : Int) e.t] := News.isTup N₁ (List.mem_cons_of_mem _ (List.mem_cons_of_mem _ (List.mem_cons_of_mem _ (hsub _ hem))))
    have hxi := hsub _ (hT.inst e.j hj8)
    have hxd := hsub _ (hT.dict e.j hj8)
    have hp1 := hsub _ (hB.ptr hw3).1
    have hp2 := hsub _ (hB.ptr hw3).2
    have hpl := hsub _ hB.mpl
    have hnm := hsub _ hB.mnm
    have hdn := hsub _ hB.mdn
    have hlenD : D.length ≤ 6 := by
      have := congrArg List.length hD
      simp only [List.length_map, List.length_take] at this
      omega
    have heI : @Ne Nat ec I := hoff _ (List.mem_cons_self ..)
    have hnI : @Ne Nat b.nl I := hoff _ (List.mem_cons_of_mem _ (List.mem_cons_self ..))
    have hRI : ∀ p ∈ R', p.1 ≠ I := fun p hp => hoff p (List.mem_cons_of_mem _ (List.mem_cons_of_mem _ hp))
    have hRe : ∀ p ∈ R', p.1 ≠ ec := fun p hp => (hR' p hp).1
    have hRn : ∀ p ∈ R', p.1 ≠ b.nl := fun p hp => (hR' p hp).2
    clear hI
    refine unpackN_ F₁ N₁ ht rfl rfl rfl fun h2 F₂ N₂ => ?_
    k_steps
    refine' ⟨_, _, _, (ec, listOf (E.map fun e : EC => Value.ref e.a).toArray c) :: (b.nl, listOf ((D.map fun e : NE => Value.ref e.a).toArray.push (.ref ?zD)) (c2 + 1)) :: (?zD, ?ztup) :: R', rfl, by assumption, ?zN2, ?zoff, ?zov, (?zD, ?ztup) :: R', D ++ [⟨?zD, thMd e.j, thNm e.j, thLv e.j, 8 + (e.wh : Int), ?zta, ?ztb, ?ztc, ?ztd⟩], c2 + 1, ?zeq, ?zkey, ?zmem, ?zsub, ?zne⟩
    case zN2 =>
      refine News.sub (by assumption) ?zs2
      case zs2 =>
        iterate 4 (refine List.forall_mem_cons.mpr ⟨by k_mem, ?_⟩)
        intro p hp
        repeat (first | exact hp | apply List.mem_cons_of_mem)
    case zmem =>
      refine fun n hn => ?zm1
      rcases List.mem_append.mp hn with hn | hn
      · exact List.mem_cons_of_mem _ (hDm n hn)
      · rw [List.mem_singleton.mp hn]
        exact List.mem_cons_self ..
    case zeq => rw [push_mapN]
    case zkey =>
      rw [List.map_append, hD, List.take_add_one, he, List.map_append]
      rfl
    case zoff =>
      refine List.forall_mem_cons.mpr ⟨heI, List.forall_mem_cons.mpr ⟨hnI, List.forall_mem_cons.mpr ⟨by k_ne, hRI⟩⟩⟩
    case zov => repeat' (first | exact ovl_start | refine ovl_set (by decide) ?_)
    case zsub => exact fun p hp => List.mem_cons_of_mem _ (hsub p hp)
    case zne => exact List.forall_mem_cons.mpr ⟨⟨by k_ne, by k_ne⟩, hR'⟩
  case zdone =>
    rintro h' tk' u' news' F' N' ⟨R', D, c2, rfl, hD, hDm, hsub, hR'⟩
    rw [List.length_map, List.take_length] at hD
    exact hQ R' D c2 u' h' tk' hD hDm hsub hR' F' N'
end
end
section
theorem off33 : True := by
  w_top off
  exact True.intro
local macro_rules | `(tactic| k_mem) => `(tactic| assumption)
local macro_rules | `(tactic| k_all) => `(tactic| assumption)
local macro_rules | `(tactic| walk_at "exec For Name Call cons nil") => `(tactic| dict_iter_look)
theorem len_E {prog : Program} {w : World} {A : Around} {E : Value → Shared → Prop} {s : Shared} {h₀ : Heap} {L ec : Addr} {news : Ledger} {Es : List EC} {c : Nat} {Q : Value → Shared → Prop} (N : News h₀ L s.heap news)
    (hm : (ec, listOf (Es.map fun e : EC => Value.ref e.a).toArray c) ∈ news) (hs : Es.length ≤ 100) (h : Q (.int (Es.length : Int) (s.toks + 1)) { s with toks := s.toks + 1 + 1 }) :
    wpAny (model prog w) A (call (.builtin "len") [.ref ec]) Q E s :=
  len_list ⟨_, (N _ hm).1, rfl, _, rfl⟩ (by simp only [List.size_toArray, List.length_map]; omega) (by simpa only [List.size_toArray, List.length_map] using h)
local macro_rules | `(tactic| item_end_look) => `(tactic| omega)
local macro_rules | `(tactic| walk_at "call builtin:len") => `(tactic| exists len_E, _, _, _)
section
variable {w : World} {s : Shared} {h₀ base : Heap} {L fa : Addr} {cd : Value} {mg mb : Str → Option Value} {mean : ExcName → Option Value} {Q : Flow → Shared → Prop}
noncomputable abbrev m9 (l : Addr) (b : BD) (u u2 u3 u4 : Locs) (th ec : Addr) : Locs := ovl ["thing", "which"] u4 (m8 l b u u2 u3 th ec)
noncomputable def popBody : List Stmt := match lawSt 10 with
  | .For _ _ b _ _ => b
  | _ => []
noncomputable def popTgt : Expr := match lawSt 10 with
  | .For t _ _ _ _ => t
  | _ => default
theorem kl_lastE (f : Value) : ∀ l : List Value, kl_last (l ++ [f]) = some (l, f)
  | [] => rfl
  | x :: r => by
    rw [List.cons_append, kl_last, kl_lastE f r]
theorem kl_lastC {E : List EC} {e : EC} : kl_last (((E ++ [e]).map fun e : EC => Value.ref e.a).toArray.toList) = some (E.map fun e : EC => Value.ref e.a, .ref e.a) := by
  rw [List.map_append]; exact kl_lastE _ _
theorem kl_lastN {E : List NE} {e : NE} : kl_last (((E ++ [e]).map fun e : NE => Value.ref e.a).toArray.toList) = some (E.map fun e : NE => Value.ref e.a, .ref e.a) := by
  rw [List.map_append]; exact kl_lastE _ _
local macro_rules | `(tactic| item_end_look) => `(tactic| first | exact kl_lastC | exact kl_lastN | (simp only [List.length_map, List.length_append, List.length_cons, List.length_nil]; exact Nat.le_trans (by omega) (Nat.le_of_ble_eq_true rfl : 100 ≤ sizeLine)))
local macro_rules | `(tactic| walk_at "call builtin:list.pop") => `(tactic| (k_here; k_dflt (apply kl_pop; top_name; top_name; (all_goals intro _); intros)))
theorem pops {l th ec r : Addr} {b : BD} {u u2 u3 u4 : Locs} {R : Ledger} {c c2 : Nat} {E : List EC} {D : List NE} {al : Str} {kk : Int} {t₀ u₀ v₀ : Tok}
    (KX : (hd.heap_1 w.params).In h₀) (T : Top hd.view_1 (looseW hd.view_1 [Str.ofString "Names", Str.ofString "expr_text"]) mean mg mb h₀) (B : Below callerA h₀ [] h₀)
    (F : Fr h₀ L s.heap (m9 l b u u2 u3 u4 th ec)) (N : News h₀ L s.heap ((ec, listOf (E.map fun e : EC => Value.ref e.a).toArray c) :: (b.nl, listOf (D.map fun e : NE => Value.ref e.a).toArray c2) :: R)) (hne : @Ne Nat b.nl ec) (hR : ∀ p ∈ R, @Ne Nat p.1 ec ∧ @Ne Nat p.1 b.nl)
    (hB : BaseOK w al b R) (hlen2 : D.length = E.length) (hE : E.length ≤ 6) (hr : IsRange s.heap r 0 kk 1 t₀ u₀ v₀) (hk0 : 0 ≤ kk) (hk1 : kk ≤ E.length)
    (hQ : ∀ (n : Nat) c c2 u' h' tk', n ≤ E.length → Fr h₀ L h' (ovl ["_"] u' (m9 l b u u2 u3 u4 th ec)) → News h₀ L h' ((ec, listOf ((E.take n).map fun e : EC => Value.ref e.a).toArray c) :: (b.nl, listOf ((D.take n).map fun e : NE => Value.ref e.a).toArray c2) :: R) → Q .next { s with heap := h', toks := tk' }) :
    wpAny (model PG w) (callerA.deeper (lawEnv L fa cd)) (pyIter (.ref r)) (fun it s₂ => LoopAtR PG w (callerA.deeper (lawEnv L fa cd)) h₀ (lawEnv L fa cd) popTgt popBody Q it s₂) (fun _ _ => False) s := by
  conv in popBody => whnf
  conv in popTgt => whnf
  refine' iter_rangeO (n := (kk - 0).toNat) ["_"] (fun i news => ∃ c c2, news = (ec, listOf ((E.take (E.length - i)).map fun e : EC => Value.ref e.a).toArray c) :: (b.nl, listOf ((D.take (E.length - i)).map fun e : NE => Value.ref e.a).toArray c2) :: R) F N hr (small_one (by decide) (by decide) (by omega) (by omega)) (rangeSize_nat _ _) ?zh0 ?zturn ?zdone
  case zh0 => exact ⟨c, c2, by rw [Nat.sub_zero, List.take_length, ← hlen2, List.take_length]⟩
  case zturn =>
    rintro I i t u' news₁ h tk o hI hi ⟨c3, c4, rfl⟩ hoff F₁ N₁
    have hi2 : i < E.length := by omega
    obtain ⟨k, hk⟩ : ∃ k, E.length - i = k + 1 := ⟨E.length - i - 1, by omega⟩
    have hkE : k < E.length := by omega
    have hkD : k < D.length := by omega
    have eE : E.take (E.length - i) = E.take k ++ [E[k]] := by rw [hk, List.take_add_one, List.getElem?_eq_getElem hkE]; rfl
    have eD : D.take (E.length - i) = D.take k ++ [D[k]] := by rw [hk, List.take_add_one, List.getElem?_eq_getElem hkD]; rfl
    have hkk : E.length - (i + 1) = k := by omega
    rw [eE, eD] at N₁
    have heI : @Ne Nat ec I := hoff _ (List.mem_cons_self ..)
    have hnI : @Ne Nat b.nl I := hoff _ (List.mem_cons_of_mem _ (List.mem_cons_self ..))
    have hRI : ∀ p ∈ R, p.1 ≠ I := fun p hp => hoff p (List.mem_cons_of_mem _ (List.mem_cons_of_mem _ hp))
    have hRe : ∀ p ∈ R, p.1 ≠ ec := fun p hp => (hR p hp).1
    have hRn : ∀ p ∈ R, p.1 ≠ b.nl := fun p hp => (hR p hp).2
    have hnm := hB.mnm
    have hdn := hB.mdn
    have tE : (E.take k).length ≤ 6 := by rw [List.length_take]; omega
    have tD : (D.take k).length ≤ 6 := by rw [List.length_take]; omega
    clear hI hoff
    k_steps
    refine ⟨_, _, _, _, rfl, by assumption, by assumption, List.forall_mem_cons.mpr ⟨heI, List.forall_mem_cons.mpr ⟨hnI, hRI⟩⟩, (by repeat' (first | exact ovl_start | refine ovl_set (by decide) ?_)), _, _, by rw [hkk]⟩
  case zdone =>
    rintro h' tk' u' news' F' N' ⟨c3, c4, rfl⟩
    exact hQ _ c3 c4 u' h' tk' (Nat.sub_le _ _) F' N'
theorem st10 {l th ec : Addr} {b : BD} {u u2 u3 u4 : Locs} {R : Ledger} {c c2 : Nat} {E : List EC} {D : List NE} {al : Str} {us : List Value} {bs : List Int} {cD : Nat}
    (KX : (hd.heap_1 w.params).In h₀) (T : Top hd.view_1 (looseW hd.view_1 [Str.ofString "Names", Str.ofString "expr_text"]) mean mg mb h₀) (B : Below callerA h₀ [] h₀)
    (F : Fr h₀ L s.heap (m9 l b u u2 u3 u4 th ec)) (N : News h₀ L s.heap ((ec, listOf (E.map fun e : EC => Value.ref e.a).toArray c) :: (b.nl, listOf (D.map fun e : NE => Value.ref e.a).toArray c2) :: R)) (hne : @Ne Nat b.nl ec) (hR : ∀ p ∈ R, @Ne Nat p.1 ec ∧ @Ne Nat p.1 b.nl)
    (hB : BaseOK w al b R) (hlen2 : D.length = E.length) (hE : E.length ≤ 6)
    (hD : (b.D, listOf us.toArray cD) ∈ R) (hI : IntsAre us bs) (hlen : bs.length = 40) (hb : ∀ b ∈ bs, 0 ≤ b ∧ b < 1009)
    (hQ : ∀ (n : Nat) c c2 u' h' tk', n ≤ E.length → Fr h₀ L h' (ovl ["_"] u' (m9 l b u u2 u3 u4 th ec)) → News h₀ L h' ((ec, listOf ((E.take n).map fun e : EC => Value.ref e.a).toArray c) :: (b.nl, listOf ((D.take n).map fun e : NE => Value.ref e.a).toArray c2) :: R) → Q .next { s with heap := h', toks := tk' }) :
    wpAny (model PG w) (callerA.deeper (lawEnv L fa cd)) (exec (lawSt 10) (lawEnv L fa cd)) Q (fun _ _ => False) s := by
  conv in lawSt 10 => whnf
  have hRe : ∀ p ∈ R, p.1 ≠ ec := fun p hp => (hR p hp).1
  k_steps
  · refine pops KX T B (by assumption) (by assumption) hne hR hB hlen2 hE (by assumption) (Int.fmod_nonneg_of_pos _ (by omega)) (by have := Int.fmod_lt_of_pos (bs.getD (Int.toNat 16) 0) (show (0:Int) < (E.length : Int) + 1 by omega); omega) hQ
  · refine pops KX T B (by assumption) (by assumption) hne hR hB hlen2 hE (by assumption) (by decide) (by omega) hQ
end
end
section
theorem off34 : True := by
  w_top off
  exact True.intro
noncomputable abbrev XS := List (List MK × Addr × Value)
noncomputable def SFx (prog : Program) (w : World) (o : Obj) (T : Ledger) (xs : XS) : Prop :=
  ∃ (es : Array DictEntry) (ep : Nat), o.ExactDict ∧ o.data = .dict es ep ∧ es.toList = xs.map (entryOfKey (tupleKind (mixKind prog w))) ∧ (xs.map (·.1)).Nodup ∧ (∀ x ∈ xs, ∃ ok, (x.2.1, ok) ∈ T ∧ TupKeyObj (mixKind prog w) x.1 ok)
section
variable {prog : Program} {w : World} {A : Around} {E : Value → Shared → Prop} {s : Shared} {h₀ : Heap} {L d a : Addr} {m : Locs} {news T : Ledger} {o ok : Obj} {ks : List MK} {xs : XS}
theorem SFx.empty {K' : Type} [DecidableEq K'] {knd' : KeyKind prog w K'} (hd : o.IsDictOf knd' []) : SFx prog w o T [] := by
  obtain ⟨es, ep, hc, hdat, _, hp, _⟩ := hd
  have he : es.toList = [] := List.length_eq_zero_iff.mp hp.length
  exact ⟨es, ep, hc, hdat, he, List.nodup_nil, fun _ hx => by simp at hx⟩
theorem SFx.dict (K : SFx prog w o T xs) (N : News h₀ L s.heap news) (hm : (d, o) ∈ news) (hT : ∀ p ∈ T, p ∈ news) : s.heap.DictOfH (tupleKind (mixKind prog w)) d xs := by
  obtain ⟨es, ep, hc, hd, he, hnd, hk⟩ := K
  exact ⟨o, es, ep, N.get hm, hc, hd, he, fun x hx => let ⟨_, hmk, t⟩ := hk x hx; t.key (N.get (hT _ hmk)), hnd⟩
theorem SFx.set {g : Obj → Ledger} {v : Value} {Q : Unit → Shared → Prop} (K : SFx prog w o T xs) (hu : A.units + 1 < cLine) (F : Fr h₀ L s.heap m) (N : News h₀ L s.heap news) (U : UpdF d o news g) (hT : ∀ p ∈ T, p ∈ news) (hka : (a, ok) ∈ news) (tk : TupKeyObj (mixKind prog w) ks ok) (hn : xs.length ≤ 100)
    (h : ∀ h' o', Fr h₀ L h' m → News h₀ L h' (g o') → SFx prog w o' ((a, ok) :: T) (storedH xs ks a v) → Q () { s with heap := h', toks := s.toks + (ks.length + 1) }) :
    wpAny (model prog w) A (setItem (.ref d) (.ref a) v) Q E s := by
  have hm : (d, o) ∈ news := UpdF.mem U
  have hD := K.dict N hm hT
  obtain ⟨es, ep, hc, hd, he, hnd, hk⟩ := K
  refine wpAny_setItem_heap (hsz := Nat.le_trans hn (Nat.le_of_ble_eq_true rfl)) (knd := tupleKind (mixKind prog w)) (tupleKind_room_in1 hu) (tk.key (N.get hka)) hD fun h' hm' hs => ?_
  obtain ⟨o', es', ep', ho', hc', hd', he', _, hn'⟩ := hm'
  obtain ⟨pre, post, e1, e2, npre, npost⟩ := U.split
  refine h h' o' (F.change hs (N _ hm).2.1 (N.fresh hm)) ?_ ⟨es', ep', hc', hd', he', hn', fun x hx => ?_⟩
  · rw [e2]
    subst e1
    intro p hp
    have other : p ∈ pre ++ (d, o) :: post → p.1 ≠ d → h'.get? p.1 = some p.2 ∧ p.1 ≠ L ∧ h₀.get? p.1 = none := fun hp hne => ⟨(hs.2 _ hne).trans (N p hp).1, (N p hp).2⟩
    rcases List.mem_append.mp hp with hp | hp
    · exact other (List.mem_append_left _ hp) (npre p hp)
    rcases List.mem_cons.mp hp with rfl | hp
    · exact ⟨ho', (N _ hm).2⟩
    · exact other (List.mem_append_right _ (List.mem_cons_of_mem _ hp)) (npost p hp)
  · rcases mem_storedH hx with ⟨y, hy, f1, f2⟩ | ⟨f1, f2⟩
    · obtain ⟨oky, hmk, t⟩ := hk y hy
      exact ⟨oky, by rw [f2]; exact List.mem_cons_of_mem _ hmk, by rw [f1]; exact t⟩
    · exact ⟨ok, by rw [f2]; exact List.mem_cons_self .., by rw [f1]; exact tk⟩
theorem SFx.get {Q : Value → Shared → Prop} (K : SFx prog w o T xs) (lo : (d == sysModules) = false) (hu : A.units + 1 < cLine) (N : News h₀ L s.heap news) (hm : (d, o) ∈ news) (hT : ∀ p ∈ T, p ∈ news) (hka : (a, ok) ∈ news) (tk : TupKeyObj (mixKind prog w) ks ok)
    (h : Q ((valueAt (kvsOf xs) ks).getD .none) { s with toks := s.toks + (ks.length + 1) }) :
    wpAny (model prog w) A (call (.builtin "dict.get") [.ref d, .ref a]) Q E s := by
  have hD := K.dict N hm hT
  refine call_meetsIn PySem.F.slot_dict_get hD.typeIs PySem.F.entry_dict_get (PySem.F.args_dict_get_2 _ _) (meetsH_dict_get (tupleKind (mixKind prog w)) d a lo) ⟨tupleKind_room_in1 hu, ks, xs, tk.key (N.get hka), hD, ?_⟩
  rw [valueAt_kvsOf] at h
  exact h
end
end
section
theorem off35 : True := by
  w_top off
  exact True.intro
noncomputable def hitE (md nm : Str) (lv : Int) (e : EC) : Bool := decide (thMd e.j = md ∧ thNm e.j = nm ∧ thLv e.j = lv)
noncomputable def lastW (E : List EC) (md nm : Str) (lv : Int) : Option Nat := (E.reverse.find? (hitE md nm lv)).map (·.wh)
theorem lastW_nil (md nm : Str) (lv : Int) : lastW [] md nm lv = none := rfl
theorem lastW_snoc (E : List EC) (e : EC) (md nm : Str) (lv : Int) : lastW (E ++ [e]) md nm lv = if hitE md nm lv e = true then some e.wh else lastW E md nm lv := by
  unfold lastW
  rw [List.reverse_append]
  show ((e :: E.reverse).find? _).map _ = _
  rw [List.find?_cons]
  cases hitE md nm lv e <;> simp
theorem nar_find {md nm : Str} {lv : Int} {wh : Nat} : ∀ {D : List NE} {E : List EC}, D.map NE.key = E.map EC.key → narR md nm lv (8 + (wh : Int)) D = decide ((E.find? (hitE md nm lv)).map (·.wh) = some wh)
  | [], [], _ => rfl
  | [], _ :: _, h => by simp at h
  | _ :: _, [], h => by simp at h
  | d :: D, e :: E, h => by
    simp only [List.map_cons, List.cons.injEq] at h
    obtain ⟨hk, ht⟩ := h
    simp only [NE.key, EC.key, Prod.mk.injEq] at hk
    obtain ⟨k1, k2, k3, k4⟩ := hk
    rw [narR, List.find?_cons]
    by_cases q : d.md = md ∧ d.nm = nm ∧ d.lv = lv
    · have : hitE md nm lv e = true := decide_eq_true (by rw [← k1, ← k2, ← k3]; exact q)
      rw [if_pos q, this]
      simp only [Option.map_some, Option.some.injEq]
      rw [k4]
      exact decide_eq_decide.mpr ⟨fun h => by omega, fun h => by omega⟩
    · have : hitE md nm lv e = false := decide_eq_false (by rw [← k1, ← k2, ← k3]; exact q)
      rw [if_neg q, this]
      exact nar_find ht
theorem nar_last {md nm : Str} {lv : Int} {wh : Nat} {D : List NE} {E : List EC} (h : D.map NE.key = E.map EC.key) : narR md nm lv (8 + (wh : Int)) D.reverse = decide (lastW E md nm lv = some wh) :=
  nar_find (by rw [List.map_reverse, List.map_reverse, h])
theorem valueAt_stored {K : Type} [DecidableEq K] (kvs : List (K × Value)) (k k' : K) (v : Value) : valueAt (stored kvs k v) k' = if k' = k then some v else valueAt kvs k' := by
  have gen : ∀ kvs : List (K × Value), valueAt (kvs.map fun kv => if kv.1 = k then (kv.1, v) else kv) k' = if k' = k then (if kvs.any (fun kv => kv.1 = k) then some v else none) else valueAt kvs k' := by
    intro kvs
    induction kvs with
    | nil => simp [valueAt]
    | cons x xs ih =>
      unfold valueAt at ih ⊢
      rw [List.map_cons, List.find?_cons, List.any_cons]
      by_cases h1 : x.1 = k
      · by_cases h2 : k' = k
        · subst h2; simp [h1]
        · have h3 : ¬ k = k' := fun e => h2 e.symm
          have h4 : ¬ x.1 = k' := fun e => h2 (by rw [← e, h1])
          simp only [h1, if_true, h3, decide_false, h2, if_false, List.find?_cons, h4] at ih ⊢
          exact ih
      · by_cases h2 : x.1 = k'
        · have h3 : ¬ k' = k := fun e => h1 (h2.trans e)
          simp [h1, h2, h3]
        · simp only [h1, if_false, h2, decide_false, Bool.false_or, List.find?_cons] at ih ⊢
          exact ih
  unfold stored
  split
  · rename_i hany
    rw [gen, hany]; simp
  · rename_i hany
    unfold valueAt
    rw [List.find?_append]
    by_cases h2 : k' = k
    · subst h2
      have : kvs.find? (fun kv => kv.1 = k') = none := by
        rw [List.find?_eq_none]
        intro x hx hd
        exact hany (List.any_eq_true.mpr ⟨x, hx, hd⟩)
      rw [this]; simp
    · have h3 : ¬ k = k' := fun e => h2 e.symm
      simp [h2, h3]
theorem key3_inj {a b a' b' : Str} {c c' : Int} : key3 a b c = key3 a' b' c' ↔ a = a' ∧ b = b' ∧ c = c' := by
  simp [key3]
noncomputable def SInv (xs : XS) (E : List EC) : Prop := ∀ md nm lv, match valueAt (kvsOf xs) (key3 md nm lv) with
  | none => lastW E md nm lv = none
  | some v => ∃ (wh : Nat) (t : Tok), v = .int (wh : Int) t ∧ lastW E md nm lv = some wh
theorem SInv.nil : SInv [] [] := fun md nm lv => rfl
theorem SInv.step {xs : XS} {E : List EC} {e : EC} {a : Addr} {t : Tok} (h : SInv xs E) : SInv (storedH xs (key3 (thMd e.j) (thNm e.j) (thLv e.j)) a (.int (e.wh : Int) t)) (E ++ [e]) := by
  intro md nm lv
  rw [kvsOf_storedH, valueAt_stored, lastW_snoc]
  by_cases q : key3 md nm lv = key3 (thMd e.j) (thNm e.j) (thLv e.j)
  · obtain ⟨q1, q2, q3⟩ := key3_inj.mp q
    have : hitE md nm lv e = true := decide_eq_true ⟨q1.symm, q2.symm, q3.symm⟩
    rw [if_pos q, this]
    exact ⟨e.wh, t, rfl, rfl⟩
  · have : hitE md nm lv e = false := decide_eq_false (fun ⟨a, b, c⟩ => q (key3_inj.mpr ⟨a.symm, b.symm, c.symm⟩))
    rw [if_neg q, this]
    exact h md nm lv
end
section
theorem off36 : True := by
  w_top off
  exact True.intro
local macro_rules | `(tactic| k_mem) => `(tactic| assumption)
local macro_rules | `(tactic| k_all) => `(tactic| assumption)
local macro_rules | `(tactic| walk_at "exec For Tuple Name cons nil") => `(tactic| dict_iter_look)
section
variable {w : World} {s : Shared} {h₀ base : Heap} {L fa : Addr} {cd : Value} {mg mb : Str → Option Value} {mean : ExcName → Option Value} {Q : Flow → Shared → Prop}
noncomputable abbrev m10 (l : Addr) (b : BD) (u u2 u3 u4 u5 : Locs) (th ec sf : Addr) : Locs := fun y => if y = Str.ofString "stands_for" then some (.ref sf) else ovl ["_"] u5 (m9 l b u u2 u3 u4 th ec) y
theorem st12 {l th ec sf : Addr} {b : BD} {u u2 u3 u4 u5 : Locs} {R : Ledger} {xs ds : Nat → Addr} {ks : Nat → Keys} {c : Nat} {E : List EC} {nlo sfo : Obj}
    (KX : (hd.heap_1 w.params).In h₀) (T : Top hd.view_1 (looseW hd.view_1 [Str.ofString "Names", Str.ofString "expr_text"]) mean mg mb h₀) (B : Below callerA h₀ [] h₀)
    (F : Fr h₀ L s.heap (m10 l b u u2 u3 u4 u5 th ec sf)) (N : News h₀ L s.heap ((sf, sfo) :: (ec, listOf (E.map fun e : EC => Value.ref e.a).toArray c) :: (b.nl, nlo) :: R)) (hsf : SFx PG w sfo [] []) (hes : @Ne Nat ec sf) (hns : @Ne Nat b.nl sf) (hR : ∀ p ∈ R, @Ne Nat p.1 sf)
    (hT : Things R xs ds ks) (hC : Cases R xs E) (hE : E.length ≤ 6)
    (hQ : ∀ (R' T' : Ledger) (xx : XS) (sfo' : Obj) u' h' tk', SFx PG w sfo' T' xx → (∀ p ∈ T', p ∈ R') → SInv xx E → (∀ p ∈ R, p ∈ R') → Fr h₀ L h' (ovl ["thing", "which"] u' (m10 l b u u2 u3 u4 u5 th ec sf)) → News h₀ L h' ((sf, sfo') :: (ec, listOf (E.map fun e : EC => Value.ref e.a).toArray c) :: (b.nl, nlo) :: R') → Q .next { s with heap := h', toks := tk' }) :
    wpAny (model PG w) (callerA.deeper (lawEnv L fa cd)) (exec (lawSt 12) (lawEnv L fa cd)) Q (fun _ _ => False) s := by
  conv in lawSt 12 => whnf
  k_steps
  refine' iter_listO (lo := listOf (E.map fun e : EC => Value.ref e.a).toArray c) (vs := E.map fun e : EC => Value.ref e.a) ["thing", "which"] (fun i news => ∃ (R' T' : Ledger) (xx : XS) (sfo' : Obj), news = (sf, sfo') :: (ec, listOf (E.map fun e : EC => Value.ref e.a).toArray c) :: (b.nl, nlo) :: R' ∧ SFx PG w sfo' T' xx ∧ (∀ p ∈ T', p ∈ R') ∧ SInv xx (E.take i) ∧ xx.length ≤ i ∧ (∀ p ∈ R, p ∈ R') ∧ (∀ p ∈ R', @Ne Nat p.1 sf)) ?zF ?zN rfl rfl ?zhJ ?zh0 ?zturn ?zdone
  case zF => assumption
  case zN => assumption
  case zhJ =>
    rintro i news ⟨R', T', xx, sfo', rfl, _⟩
    exact List.mem_cons_of_mem _ (List.mem_cons_self ..)
  case zh0 => exact ⟨R, [], [], sfo, rfl, hsf, (fun e h => absurd h (by simp)), SInv.nil, Nat.le_refl _, fun _ h => h, hR⟩
  case zturn =>
    rintro I i v u' news₁ h tk o hI hv ⟨R', T', xx, sfo', rfl, hS, hT', hinv, hxl, hsub, hR'⟩ hoff F₁ N₁
    obtain ⟨e, he, rfl⟩ : ∃ e, E[i]? = some e ∧ v = .ref e.a := by
      rw [List.getElem?_map] at hv
      obtain ⟨e, he, hv⟩ := Option.map_eq_some_iff.mp hv
      exact ⟨e, he, hv.symm⟩
    have hmem : e ∈ E := List.mem_of_getElem? he
    have hi6 : i < E.length := (List.getElem?_eq_some_iff.mp he).1
    obtain ⟨hem, hj8, hw3⟩ := hC e hmem
    have ht : IsTup h e.a #[.ref (xs e.j), .int (e.wh : Int) e.t] := News.isTup N₁ (List.mem_cons_of_mem _ (List.mem_cons_of_mem _ (List.mem_cons_of_mem _ (List.mem_cons_of_mem _ (hsub _ hem)))))
    have hxi := hsub _ (hT.inst e.j hj8)
    have hxd := hsub _ (hT.dict e.j hj8)
    have hsI : @Ne Nat sf I := hoff _ (List.mem_cons_self ..)
    have heI : @Ne Nat ec I := hoff _ (List.mem_cons_of_mem _ (List.mem_cons_self ..))
    have hnI : @Ne Nat b.nl I := hoff _ (List.mem_cons_of_mem _ (List.mem_cons_of_mem _ (List.mem_cons_self ..)))
    have hRI : ∀ p ∈ R', p.1 ≠ I := fun p hp => hoff p (List.mem_cons_of_mem _ (List.mem_cons_of_mem _ (List.mem_cons_of_mem _ hp)))
    have hRs : ∀ p ∈ R', p.1 ≠ sf := hR'
    clear hI
    refine unpackN_ F₁ N₁ ht rfl rfl rfl fun h2 F₂ N₂ => ?_
    k_steps
    refine' SFx.set (ks := key3 (thMd e.j) (thNm e.j) (thLv e.j)) hS (Nat.le_of_ble_eq_true rfl) ?zF3 ?zN3 ?zU ?zhT3 ?zhka ?ztk (by omega) ?_
    case zF3 => assumption
    case zN3 => assumption
    case zU => k_updF
    case zhT3 => exact fun p hp => by (replace hp := hT' p hp); repeat (first | exact hp | apply List.mem_cons_of_mem)
    case zhka => k_mem
    case ztk => exact ⟨rfl, _, _, rfl, key3_items _ _ _ _ _ _⟩
    intro h3 o3 F3 N3 S3
    k_steps
    refine' ⟨_, _, _, (sf, o3) :: (ec, listOf (E.map fun e : EC => Value.ref e.a).toArray c) :: (b.nl, nlo) :: (?ztp, ?ztup) :: R', rfl, by assumption, ?zN4, ?zoff, ?zov, (?ztp, ?ztup) :: R', (?ztp, ?ztup) :: T', _, o3, rfl, S3, ?ztt, ?zinv, ?zlen, ?zsub, ?zne⟩
    case zN4 =>
      refine News.sub (by assumption) ?zs2
      case zs2 =>
        iterate 4 (refine List.forall_mem_cons.mpr ⟨by k_mem, ?_⟩)
        refine List.forall_mem_cons.mpr ⟨List.Mem.head _, ?_⟩
        intro p hp
        repeat (first | exact hp | apply List.mem_cons_of_mem)
    case zoff =>
      refine List.forall_mem_cons.mpr ⟨hsI, List.forall_mem_cons.mpr ⟨heI, List.forall_mem_cons.mpr ⟨hnI, List.forall_mem_cons.mpr ⟨by k_ne, hRI⟩⟩⟩⟩
    case zov => repeat' (first | exact ovl_start | refine ovl_set (by decide) ?_)
    case ztt =>
      intro p hp
      rcases List.mem_cons.mp hp with rfl | hp
      · exact List.mem_cons_self ..
      · exact List.mem_cons_of_mem _ (hT' p hp)
    case zinv =>
      rw [show E.take (i + 1) = E.take i ++ [e] by rw [List.take_add_one, he]; rfl]
      exact SInv.step hinv
    case zlen =>
      unfold storedH
      split
      · rw [List.length_map]; omega
      · rw [List.length_append]; simp only [List.length_cons, List.length_nil]; omega
    case zsub => exact fun p hp => List.mem_cons_of_mem _ (hsub p hp)
    case zne => exact List.forall_mem_cons.mpr ⟨by k_ne, hR'⟩
  case zdone =>
    rintro h' tk' u' news' F' N' ⟨R', T', xx, sfo', rfl, hS, hT', hinv, hxl, hsub, hR'⟩
    rw [List.length_map, List.take_length] at hinv
    exact hQ R' T' xx sfo' u' h' tk' hS hT' hinv hsub F' N'
end
end
section
theorem off37 : True := by
  w_top off
  exact True.intro
local macro_rules | `(tactic| walk_at "call ref") => `(tactic| exists object_name_spec, 134)
section
variable {w : World} {A A₀ : Around} {s : Shared} {base h₀ : Heap} {outer : List Env} {L : Addr} {m mg mb : Str → Option Value} {env : Env} {mean : ExcName → Option Value}
theorem in_tupN {prog : Program} {w : World} {A : Around} {E : Value → Shared → Prop} {s : Shared} {t : Addr} {items : Array Value} {ys : List Str} {x : Str} {u : Tok} {Q : Value → Shared → Prop} (ht : IsTup s.heap t items) (hi : StrsAre items.toList ys) (hn : ys.any (· == x) = false)
    (h : Q (.bool false) s) : wpAny (model prog w) A (compareOp .In (.str x u) (.ref t)) Q E s := in_tuple_strs ht hi (hn.symm ▸ h)
noncomputable abbrev lv1 : List Str := [Str.ofString "=", Str.ofString "#", Str.ofString "<", Str.ofString "<=", Str.ofString ">", Str.ofString ">=", Str.ofString "s<=", Str.ofString "s>=", Str.ofString "IN", Str.ofString "IS"]
noncomputable abbrev lv2 : List Str := [Str.ofString "+", Str.ofString "-", Str.ofString "OR", Str.ofString "s+", Str.ofString "s-", Str.ofString "neg", Str.ofString "s~"]
noncomputable abbrev lv3 : List Str := [Str.ofString "*", Str.ofString "DIV", Str.ofString "MOD", Str.ofString "&", Str.ofString "s*", Str.ofString "s/"]
local macro_rules | `(tactic| walk_at "compareOp In str ref") => `(tactic| (k_here; (with_unfolding_all refine' in_tupN ?k1 ?k2 ?k3 ?_; (case k1 => exact News.isTup (by k_asm) (by news_mem)); (case k2 => kde_strs); (case k3 => assumption); k_whole)))
theorem level_spec {un du kd : Addr} {k3 : Keys} {op : Str} {pl : Int} {ty2 val : Value} {c3 : Nat} {Q : Value → Shared → Prop}
    (KX : (hd.heap_1 w.params).In h₀) (T : Top hd.view_1 (looseW hd.view_1 [Str.ofString "Names", Str.ofString "expr_text"]) mean mg mb h₀) (B : Below A₀ base outer h₀) (fits : Fits A 800 8000 (env :: outer)) (hf : env.frame = some L) (hke : env.scope.kind = .function)
    (F : Fr h₀ L s.heap m) (N : News h₀ L s.heap [(un, instObj 354 du), (du, dictOf (nodeE k3 op pl ty2 kd val) c3)])
    (hop : op = Str.ofString "var" ∨ op = Str.ofString "guard" ∨ op = Str.ofString "deref" ∨ op = Str.ofString "field")
    (hQ : ∀ h' tk' tv, (∀ b o, s.heap.get? b = some o → h'.get? b = some o) → Fr h₀ L h' m → Q (.int 4 tv) { s with heap := h', toks := tk' }) :
    wpAny (model PG w) A (call (.ref 215) [.ref un]) Q (fun _ _ => False) s := by
  have h1 : lv1.any (· == op) = false := by rcases hop with rfl | rfl | rfl | rfl <;> decide +kernel
  have h2 : lv2.any (· == op) = false := by rcases hop with rfl | rfl | rfl | rfl <;> decide +kernel
  have h3 : lv3.any (· == op) = false := by rcases hop with rfl | rfl | rfl | rfl <;> decide +kernel
  refine call_pure (binds := [(Str.ofString "node", .ref un)]) (P := fun v => ∃ tv, v = .int 4 tv) 800 8000 B F N KX T fits hf hke (by k_is) (by k_is) (by decide) (BindsTo.of_eq rfl) (locs rfl) ?_ (fun v h' tk' hv hk F' => by obtain ⟨tv, rfl⟩ := hv; exact hQ h' tk' tv hk F') rfl rfl rfl (by decide)
  intro g L' h₁ F' N' B' X' T' hkeep hlt
  (try dsimp only)
  (try k_fold)
  k_steps
  dsimp only
  change PureBack _ _ _ _ _ _
  refine pb_end (by assumption) (by assumption) ?_ ?_
  · repeat' (first | exact List.forall_mem_nil _ | refine List.forall_mem_cons.mpr ⟨by k_mem, ?_⟩)
  · exact ⟨_, rfl⟩
end
section
variable {w : World} {A A₀ : Around} {s : Shared} {base h₀ : Heap} {outer : List Env} {L : Addr} {m mg mb : Str → Option Value} {env : Env} {mean : ExcName → Option Value}
local macro_rules | `(tactic| walk_at "none") => `(tactic| fail)
local macro_rules | `(tactic| walk_at "call ref") => `(tactic| exists level_spec, 215)
theorem under_spec {nm dn ad sc nl ob dx un du kd : Addr} {oad : Obj} {c0 c2 c3 : Nat} {k0 k2 k3 : Keys} {on kind md al : Str} {ta ts t4 : Tok} {ty ty2 : Value} {lv : Int} {Q : Value → Shared → Prop}
    (KX : (hd.heap_1 w.params).In h₀) (T : Top hd.view_1 (looseW hd.view_1 [Str.ofString "Names", Str.ofString "expr_text"]) mean mg mb h₀) (B : Below A₀ base outer h₀) (fits : Fits A 700 7000 (env :: outer)) (hf : env.frame = some L) (hke : env.scope.kind = .function)
    (F : Fr h₀ L s.heap m)
    (N : News h₀ L s.heap [(nm, instObj 137 dn), (dn, dictOf (namesE k0 ad sc nl) c0), (ad, oad), (un, instObj 354 du), (du, dictOf (nodeE k3 (Str.ofString "var") 1 ty2 kd (.ref ob)) c3), (ob, instObj 396 dx), (dx, dictOf (objE k2 on kind ty lv md) c2)])
    (had : oad.IsDictOf (PySem.strKind PG w) [(Str.ofString "A", .str al ta), (Str.ofString "SYSTEM", .str (Str.ofString "SYSTEM") ts)]) (hlo : (ad == sysModules) = false)
    (hmd : md = Str.ofString "M" ∨ md = Str.ofString "A") (hon : on.length ≤ 8) (hal : al.length ≤ 8)
    (hQ : ∀ h' tk' tv, (∀ b o, s.heap.get? b = some o → h'.get? b = some o) → Fr h₀ L h' m → Q (.str (shownS md on al) tv) { s with heap := h', toks := tk' }) :
    wpAny (model PG w) A (call (.ref 279) [.ref nm, .ref un, .int 4 t4]) Q (fun _ _ => False) s := by
  refine call_pure (binds := [(Str.ofString "names", .ref nm), (Str.ofString "node", .ref un), (Str.ofString "least", .int 4 t4)]) (P := fun v => ∃ tv, v = .str (shownS md on al) tv) 700 7000 B F N KX T fits hf hke (by k_is) (by k_is) (by decide) (binds_K (KX.keeps F.keep) rfl (by k_is) rfl rfl rfl) (locs rfl) ?_ (fun v h' tk' hv hk F' => by obtain ⟨tv, rfl⟩ := hv; exact hQ h' tk' tv hk F') rfl rfl rfl (by decide)
  intro g L' h₁ F' N' B' X' T' hkeep hlt
  (try dsimp only)
  (try k_fold)
  k_steps
  dsimp only
  change PureBack _ _ _ _ _ _
  refine pb_end (by assumption) (by assumption) ?_ ?_
  · repeat' (first | exact List.forall_mem_nil _ | refine List.forall_mem_cons.mpr ⟨by k_mem, ?_⟩)
  · exact ⟨_, rfl⟩
end
local macro_rules | `(tactic| k_mem) => `(tactic| assumption)
theorem item_first {prog : Program} {w : World} {A : Around} {E : Value → Shared → Prop} {s : Shared} {h₀ : Heap} {L l : Addr} {news : Ledger} {value slice : Expr} {x : Value} {u : Tok} {c : Nat} {Q : Value → Shared → Prop} (N : News h₀ L s.heap news)
    (hm : (l, listOf #[x] c) ∈ news) (h : Q x s)
    (hs : subscripted slice false (.ref l) (.int 0 u) = operate [.ref l, .int 0 u] (getItem (.ref l) (.int 0 u)) := by with_unfolding_all rfl) (hg : ∀ r, letTemporaryGo value (.ref l) r = pure () := by intro _; with_unfolding_all rfl) :
    wpAny (model prog w) A (subscriptTail value slice (.ref l) (.int 0 u)) Q E s :=
  item_list ⟨_, (N _ hm).1, rfl, _, rfl⟩ (by decide) (by decide) rfl h hs hg
local macro_rules | `(tactic| walk_at "subscriptTail") => `(tactic| exists item_first, 0, _, _, _)
noncomputable def tS (wh : Nat) : Str := Str.ofString "T" ++ Str.ofString (toString (wh : Int))
/-- what a guard of a thing shows -/
noncomputable def guardS (md on al : Str) (lv : Int) (wh : Nat) (D : List NE) : Str :=
  if narR md on lv (8 + (wh : Int)) D.reverse = true then shownS md on al else shownS md on al ++ Str.ofString "(" ++ tS wh ++ Str.ofString ")"
theorem len_shown {md on al : Str} (h1 : on.length ≤ 8) (h2 : al.length ≤ 8) : (shownS md on al).length ≤ 20 := by
  unfold shownS
  split
  · omega
  · have e1 : (al ++ Str.ofString "." ++ on).length = al.length + 1 + on.length := by
      have : ∀ a b : Str, (a ++ b).length = a.length + b.length := fun a b => by
        show (a.cps ++ b.cps).size = _
        rw [Array.size_append]; rfl
      rw [this, this]; rfl
    omega
local macro_rules | `(tactic| walk_at "call ref") => `(tactic| exists level_spec, 215)
local macro_rules | `(tactic| walk_at "call ref") => `(tactic| exists under_spec, 279)
local macro_rules | `(tactic| walk_at "call ref") => `(tactic| exists is_narrowed_spec, 127)
local macro_rules | `(tactic| walk_at "call ref") => `(tactic| exists type_text_spec, 162)
section
variable {w : World} {A A₀ : Around} {s : Shared} {base h₀ : Heap} {outer : List Env} {L : Addr} {m mg mb : Str → Option Value} {env : Env} {mean : ExcName → Option Value}
noncomputable def exprDef : List Stmt × Scope := (findDef (Str.ofString "expr_text") PySem.Challenge.pw_pq0758_01.main.body).getD default
noncomputable def exprB : List Stmt := exprDef.1
noncomputable def exprS : Scope := exprDef.2
theorem guard_core {news : Ledger} {nm dn ad sc nl sd ob dx un du kdu pt dpt : Addr} {oad osd : Obj} {c0 c1 c2 c3 cn csc : Nat} {k0 k2 k3 kp : Keys} {on kind md al lb0 : Str} {ta ts u0 u1 u2 : Tok} {ty : Value} {lv : Int} {D : List NE} {f0 q0 e0 : Addr} {wp : Nat}
    {gd dg kdg tw dtw : Addr} {k4 kw : Keys} {cg ckg cw : Nat} {wh : Nat} {lbw : Str} {fw qw ew : Addr}  {lz : Int} {tz : Tok} {fa L' : Addr} {cdv : Value} {s₀ : Shared} {g h₁ : Heap} {t₁ : Nat}
    (KX : (hd.heap_1 w.params).In g) (T : Top hd.view_1 (looseW hd.view_1 [Str.ofString "Names", Str.ofString "expr_text"]) mean mg mb g) (B : Below (bigA 600 6000 (env :: outer)) base (env :: outer) g) (hlz : lz ≤ 4)
    (F : Fr g L' h₁ (fun y => [(Str.ofString "names", Value.ref nm), (Str.ofString "node", .ref gd), (Str.ofString "least", .int lz tz)].reverse.lookup y)) (N : News g L' h₁ news)
    (a13 : (gd, instObj 354 dg) ∈ news) (a14 : (dg, dictOf (nodeE k4 (Str.ofString "guard") 2 (.ref tw) kdg (.ref tw)) cg) ∈ news) (a15 : (kdg, listOf #[.ref un] ckg) ∈ news)
    (a9 : (un, instObj 354 du) ∈ news) (a10 : (du, dictOf (nodeE k3 (Str.ofString "var") 1 (.ref pt) kdu (.ref ob)) c3) ∈ news)
    (a7 : (ob, instObj 396 dx) ∈ news) (a8 : (dx, dictOf (objE k2 on kind ty lv md) c2) ∈ news)
    (a11 : (pt, instObj 375 dpt) ∈ news) (a12 : (dpt, dictOf (typeE kp (8 + (wp : Int)) (Str.ofString "pointer") (Str.ofString "M") lb0 4 f0 q0 e0) c1) ∈ news)
    (a16 : (tw, instObj 375 dtw) ∈ news) (a17 : (dtw, dictOf (typeE kw (8 + (wh : Int)) (Str.ofString "pointer") (Str.ofString "M") lbw 4 fw qw ew) cw) ∈ news)
    (a1 : (nm, instObj 137 dn) ∈ news) (a2 : (dn, dictOf (namesE k0 ad sc nl) c0) ∈ news) (a3 : (ad, oad) ∈ news) (a4 : (sc, listOf #[.ref sd] csc) ∈ news) (a5 : (sd, osd) ∈ news) (a6 : (nl, listOf (D.map fun e => Value.ref e.a).toArray cn) ∈ news)
    (hDm : ∀ e ∈ D, (e.a, e.obj) ∈ news)
    (had : oad.IsDictOf (PySem.strKind PG w) [(Str.ofString "A", .str al ta), (Str.ofString "SYSTEM", .str (Str.ofString "SYSTEM") ts)]) (hlo : (ad == sysModules) = false)
    (hsd : osd.IsDictOf (PySem.strKind PG w) [(Str.ofString "T0", .int 8 u0), (Str.ofString "T1", .int 9 u1), (Str.ofString "T2", .int 10 u2)]) (hlo2 : (sd == sysModules) = false)
    (hmd : md = Str.ofString "M" ∨ md = Str.ofString "A") (hon : on.length ≤ 8) (hal : al.length ≤ 8) (hwh : wh = 0 ∨ wh = 1 ∨ wh = 2) :
    wpAny (model PG w) ((bigA 600 6000 (env :: outer)).deeper (envOf (Str.ofString "expr_text") exprS L' fa cdv)) (execs exprB (envOf (Str.ofString "expr_text") exprS L' fa cdv))
      (fun fl s' => PureBack g news s₀ (fun v => ∃ tv, v = .str (guardS md on al lv wh D) tv) (match fl with | .ret v => v | _ => .none) s') (fun _ _ => False) { s₀ with heap := h₁, toks := t₁ } := by
  conv in exprB => whnf
  conv in (occs := *) exprS => all_goals whnf
  (try dsimp only)
  (try k_fold)
  have hls := len_shown (md := md) hon hal
  k_steps
  · skip
    dsimp only
    change PureBack _ _ _ _ _ _
    refine pb_end (by assumption) (by assumption) ?_ ?_
    · exact fun p hp => by repeat (first | exact hp | apply List.mem_cons_of_mem)
    · exact ⟨_, congrArg (fun x => Value.str x _) (if_pos (by assumption)).symm⟩
  · skip
    dsimp only
    change PureBack _ _ _ _ _ _
    refine pb_end (by assumption) (by assumption) ?_ ?_
    · exact fun p hp => by repeat (first | exact hp | apply List.mem_cons_of_mem)
    · exact ⟨_, congrArg (fun x => Value.str x _) (if_neg (ne_true_of_eq_false (by assumption))).symm⟩
theorem guard4 {news : Ledger} {nm dn ad sc nl sd ob dx un du kdu pt dpt : Addr} {oad osd : Obj} {c0 c1 c2 c3 cn csc : Nat} {k0 k2 k3 kp : Keys} {on kind md al lb0 : Str} {ta ts u0 u1 u2 : Tok} {ty : Value} {lv : Int} {D : List NE} {f0 q0 e0 : Addr} {wp : Nat}
    {gd dg kdg tw dtw : Addr} {k4 kw : Keys} {cg ckg cw : Nat} {wh : Nat} {lbw : Str} {fw qw ew : Addr}  {t4 : Tok} {Q : Value → Shared → Prop}
    (KX : (hd.heap_1 w.params).In h₀) (T : Top hd.view_1 (looseW hd.view_1 [Str.ofString "Names", Str.ofString "expr_text"]) mean mg mb h₀) (B : Below A₀ base outer h₀) (fits : Fits A 600 6000 (env :: outer)) (hf : env.frame = some L) (hke : env.scope.kind = .function)
    (F : Fr h₀ L s.heap m) (N : News h₀ L s.heap news)
    (a13 : (gd, instObj 354 dg) ∈ news) (a14 : (dg, dictOf (nodeE k4 (Str.ofString "guard") 2 (.ref tw) kdg (.ref tw)) cg) ∈ news) (a15 : (kdg, listOf #[.ref un] ckg) ∈ news)
    (a9 : (un, instObj 354 du) ∈ news) (a10 : (du, dictOf (nodeE k3 (Str.ofString "var") 1 (.ref pt) kdu (.ref ob)) c3) ∈ news)
    (a7 : (ob, instObj 396 dx) ∈ news) (a8 : (dx, dictOf (objE k2 on kind ty lv md) c2) ∈ news)
    (a11 : (pt, instObj 375 dpt) ∈ news) (a12 : (dpt, dictOf (typeE kp (8 + (wp : Int)) (Str.ofString "pointer") (Str.ofString "M") lb0 4 f0 q0 e0) c1) ∈ news)
    (a16 : (tw, instObj 375 dtw) ∈ news) (a17 : (dtw, dictOf (typeE kw (8 + (wh : Int)) (Str.ofString "pointer") (Str.ofString "M") lbw 4 fw qw ew) cw) ∈ news)
    (a1 : (nm, instObj 137 dn) ∈ news) (a2 : (dn, dictOf (namesE k0 ad sc nl) c0) ∈ news) (a3 : (ad, oad) ∈ news) (a4 : (sc, listOf #[.ref sd] csc) ∈ news) (a5 : (sd, osd) ∈ news) (a6 : (nl, listOf (D.map fun e => Value.ref e.a).toArray cn) ∈ news)
    (hDm : ∀ e ∈ D, (e.a, e.obj) ∈ news)
    (had : oad.IsDictOf (PySem.strKind PG w) [(Str.ofString "A", .str al ta), (Str.ofString "SYSTEM", .str (Str.ofString "SYSTEM") ts)]) (hlo : (ad == sysModules) = false)
    (hsd : osd.IsDictOf (PySem.strKind PG w) [(Str.ofString "T0", .int 8 u0), (Str.ofString "T1", .int 9 u1), (Str.ofString "T2", .int 10 u2)]) (hlo2 : (sd == sysModules) = false)
    (hmd : md = Str.ofString "M" ∨ md = Str.ofString "A") (hon : on.length ≤ 8) (hal : al.length ≤ 8) (hwh : wh = 0 ∨ wh = 1 ∨ wh = 2)
    (hQ : ∀ h' tk' tv, (∀ b o, s.heap.get? b = some o → h'.get? b = some o) → Fr h₀ L h' m → Q (.str (guardS md on al lv wh D) tv) { s with heap := h', toks := tk' }) :
    wpAny (model PG w) A (call (.ref 279) [.ref nm, .ref gd, .int 4 t4]) Q (fun _ _ => False) s := by
  refine call_pure (binds := [(Str.ofString "names", .ref nm), (Str.ofString "node", .ref gd), (Str.ofString "least", .int 4 t4)]) (P := fun v => ∃ tv, v = .str (guardS md on al lv wh D) tv) 600 6000 B F N KX T fits hf hke (by k_is) (by k_is) (by decide) (binds_K (KX.keeps F.keep) rfl (by k_is) rfl rfl rfl) (locs rfl) ?_ (fun v h' tk' hv hk F' => by obtain ⟨tv, rfl⟩ := hv; exact hQ h' tk' tv hk F') rfl rfl rfl (by decide)
  intro g L' h₁ F' N' B' X' T' hkeep hlt
  exact guard_core X' T' B' (by decide) F' N' a13 a14 a15 a9 a10 a7 a8 a11 a12 a16 a17 a1 a2 a3 a4 a5 a6 hDm had hlo hsd hlo2 hmd hon hal hwh
theorem guard1 {news : Ledger} {nm dn ad sc nl sd ob dx un du kdu pt dpt : Addr} {oad osd : Obj} {c0 c1 c2 c3 cn csc : Nat} {k0 k2 k3 kp : Keys} {on kind md al lb0 : Str} {ta ts u0 u1 u2 : Tok} {ty : Value} {lv : Int} {D : List NE} {f0 q0 e0 : Addr} {wp : Nat}
    {gd dg kdg tw dtw : Addr} {k4 kw : Keys} {cg ckg cw : Nat} {wh : Nat} {lbw : Str} {fw qw ew : Addr}  {t4 : Tok} {Q : Value → Shared → Prop}
    (KX : (hd.heap_1 w.params).In h₀) (T : Top hd.view_1 (looseW hd.view_1 [Str.ofString "Names", Str.ofString "expr_text"]) mean mg mb h₀) (B : Below A₀ base outer h₀) (fits : Fits A 600 6000 (env :: outer)) (hf : env.frame = some L) (hke : env.scope.kind = .function)
    (F : Fr h₀ L s.heap m) (N : News h₀ L s.heap news)
    (a13 : (gd, instObj 354 dg) ∈ news) (a14 : (dg, dictOf (nodeE k4 (Str.ofString "guard") 2 (.ref tw) kdg (.ref tw)) cg) ∈ news) (a15 : (kdg, listOf #[.ref un] ckg) ∈ news)
    (a9 : (un, instObj 354 du) ∈ news) (a10 : (du, dictOf (nodeE k3 (Str.ofString "var") 1 (.ref pt) kdu (.ref ob)) c3) ∈ news)
    (a7 : (ob, instObj 396 dx) ∈ news) (a8 : (dx, dictOf (objE k2 on kind ty lv md) c2) ∈ news)
    (a11 : (pt, instObj 375 dpt) ∈ news) (a12 : (dpt, dictOf (typeE kp (8 + (wp : Int)) (Str.ofString "pointer") (Str.ofString "M") lb0 4 f0 q0 e0) c1) ∈ news)
    (a16 : (tw, instObj 375 dtw) ∈ news) (a17 : (dtw, dictOf (typeE kw (8 + (wh : Int)) (Str.ofString "pointer") (Str.ofString "M") lbw 4 fw qw ew) cw) ∈ news)
    (a1 : (nm, instObj 137 dn) ∈ news) (a2 : (dn, dictOf (namesE k0 ad sc nl) c0) ∈ news) (a3 : (ad, oad) ∈ news) (a4 : (sc, listOf #[.ref sd] csc) ∈ news) (a5 : (sd, osd) ∈ news) (a6 : (nl, listOf (D.map fun e => Value.ref e.a).toArray cn) ∈ news)
    (hDm : ∀ e ∈ D, (e.a, e.obj) ∈ news)
    (had : oad.IsDictOf (PySem.strKind PG w) [(Str.ofString "A", .str al ta), (Str.ofString "SYSTEM", .str (Str.ofString "SYSTEM") ts)]) (hlo : (ad == sysModules) = false)
    (hsd : osd.IsDictOf (PySem.strKind PG w) [(Str.ofString "T0", .int 8 u0), (Str.ofString "T1", .int 9 u1), (Str.ofString "T2", .int 10 u2)]) (hlo2 : (sd == sysModules) = false)
    (hmd : md = Str.ofString "M" ∨ md = Str.ofString "A") (hon : on.length ≤ 8) (hal : al.length ≤ 8) (hwh : wh = 0 ∨ wh = 1 ∨ wh = 2)
    (hQ : ∀ h' tk' tv, (∀ b o, s.heap.get? b = some o → h'.get? b = some o) → Fr h₀ L h' m → Q (.str (guardS md on al lv wh D) tv) { s with heap := h', toks := tk' }) :
    wpAny (model PG w) A (call (.ref 279) [.ref nm, .ref gd]) Q (fun _ _ => False) s := by
  refine call_pure (binds := [(Str.ofString "names", .ref nm), (Str.ofString "node", .ref gd), (Str.ofString "least", .int 1 505)]) (P := fun v => ∃ tv, v = .str (guardS md on al lv wh D) tv) 600 6000 B F N KX T fits hf hke (by k_is) (by k_is) (by decide) (binds_K (KX.keeps F.keep) rfl (by k_is) rfl rfl rfl) (locs rfl) ?_ (fun v h' tk' hv hk F' => by obtain ⟨tv, rfl⟩ := hv; exact hQ h' tk' tv hk F') rfl rfl rfl (by decide)
  intro g L' h₁ F' N' B' X' T' hkeep hlt
  exact guard_core X' T' B' (by decide) F' N' a13 a14 a15 a9 a10 a7 a8 a11 a12 a16 a17 a1 a2 a3 a4 a5 a6 hDm had hlo hsd hlo2 hmd hon hal hwh
end
theorem len_app (a b : Str) : (a ++ b).length = a.length + b.length := by
  show (a.cps ++ b.cps).size = _
  rw [Array.size_append]; rfl
theorem len_tS {wh : Nat} (h : wh = 0 ∨ wh = 1 ∨ wh = 2) : (tS wh).length ≤ 5 := by
  rcases h with rfl | rfl | rfl <;> decide +kernel
theorem len_guard {md on al : Str} {lv : Int} {wh : Nat} {D : List NE} (h1 : on.length ≤ 8) (h2 : al.length ≤ 8) (h : wh = 0 ∨ wh = 1 ∨ wh = 2) : (guardS md on al lv wh D).length ≤ 30 := by
  have a := len_shown (md := md) h1 h2
  have b := len_tS h
  unfold guardS
  split
  · omega
  · rw [len_app, len_app, len_app]
    have e1 : (Str.ofString "(").length = 1 := rfl
    have e2 : (Str.ofString ")").length = 1 := rfl
    omega
section
local macro_rules | `(tactic| walk_at "call ref") => `(tactic| exists guard4, 279, [_, _, Value.int 4 _])
variable {w : World} {A A₀ : Around} {s : Shared} {base h₀ : Heap} {outer : List Env} {L : Addr} {m mg mb : Str → Option Value} {env : Env} {mean : ExcName → Option Value}
theorem deref4 {news : Ledger} {nm dn ad sc nl sd ob dx un du kdu pt dpt : Addr} {oad osd : Obj} {c0 c1 c2 c3 cn csc : Nat} {k0 k2 k3 kp : Keys} {on kind md al lb0 : Str} {ta ts u0 u1 u2 : Tok} {ty : Value} {lv : Int} {D : List NE} {f0 q0 e0 : Addr} {wp : Nat}
    {gd dg kdg tw dtw : Addr} {k4 kw : Keys} {cg ckg cw : Nat} {wh : Nat} {lbw : Str} {fw qw ew : Addr} {df ddf kdf : Addr} {k5 : Keys} {ckd cdf : Nat} {tyd : Value} {t4 : Tok} {Q : Value → Shared → Prop}
    (KX : (hd.heap_1 w.params).In h₀) (T : Top hd.view_1 (looseW hd.view_1 [Str.ofString "Names", Str.ofString "expr_text"]) mean mg mb h₀) (B : Below A₀ base outer h₀) (fits : Fits A 500 5000 (env :: outer)) (hf : env.frame = some L) (hke : env.scope.kind = .function)
    (F : Fr h₀ L s.heap m) (N : News h₀ L s.heap news)
    (b1 : (df, instObj 354 ddf) ∈ news) (b2 : (ddf, dictOf (nodeE k5 (Str.ofString "deref") 3 tyd kdf .none) cdf) ∈ news) (b3 : (kdf, listOf #[.ref gd] ckd) ∈ news)
    (a13 : (gd, instObj 354 dg) ∈ news) (a14 : (dg, dictOf (nodeE k4 (Str.ofString "guard") 2 (.ref tw) kdg (.ref tw)) cg) ∈ news) (a15 : (kdg, listOf #[.ref un] ckg) ∈ news)
    (a9 : (un, instObj 354 du) ∈ news) (a10 : (du, dictOf (nodeE k3 (Str.ofString "var") 1 (.ref pt) kdu (.ref ob)) c3) ∈ news)
    (a7 : (ob, instObj 396 dx) ∈ news) (a8 : (dx, dictOf (objE k2 on kind ty lv md) c2) ∈ news)
    (a11 : (pt, instObj 375 dpt) ∈ news) (a12 : (dpt, dictOf (typeE kp (8 + (wp : Int)) (Str.ofString "pointer") (Str.ofString "M") lb0 4 f0 q0 e0) c1) ∈ news)
    (a16 : (tw, instObj 375 dtw) ∈ news) (a17 : (dtw, dictOf (typeE kw (8 + (wh : Int)) (Str.ofString "pointer") (Str.ofString "M") lbw 4 fw qw ew) cw) ∈ news)
    (a1 : (nm, instObj 137 dn) ∈ news) (a2 : (dn, dictOf (namesE k0 ad sc nl) c0) ∈ news) (a3 : (ad, oad) ∈ news) (a4 : (sc, listOf #[.ref sd] csc) ∈ news) (a5 : (sd, osd) ∈ news) (a6 : (nl, listOf (D.map fun e => Value.ref e.a).toArray cn) ∈ news)
    (hDm : ∀ e ∈ D, (e.a, e.obj) ∈ news)
    (had : oad.IsDictOf (PySem.strKind PG w) [(Str.ofString "A", .str al ta), (Str.ofString "SYSTEM", .str (Str.ofString "SYSTEM") ts)]) (hlo : (ad == sysModules) = false)
    (hsd : osd.IsDictOf (PySem.strKind PG w) [(Str.ofString "T0", .int 8 u0), (Str.ofString "T1", .int 9 u1), (Str.ofString "T2", .int 10 u2)]) (hlo2 : (sd == sysModules) = false)
    (hmd : md = Str.ofString "M" ∨ md = Str.ofString "A") (hon : on.length ≤ 8) (hal : al.length ≤ 8) (hwh : wh = 0 ∨ wh = 1 ∨ wh = 2)
    (hQ : ∀ h' tk' tv, (∀ b o, s.heap.get? b = some o → h'.get? b = some o) → Fr h₀ L h' m → Q (.str (guardS md on al lv wh D ++ Str.ofString "^") tv) { s with heap := h', toks := tk' }) :
    wpAny (model PG w) A (call (.ref 279) [.ref nm, .ref df, .int 4 t4]) Q (fun _ _ => False) s := by
  refine call_pure (binds := [(Str.ofString "names", .ref nm), (Str.ofString "node", .ref df), (Str.ofString "least", .int 4 t4)]) (P := fun v => ∃ tv, v = .str (guardS md on al lv wh D ++ Str.ofString "^") tv) 500 5000 B F N KX T fits hf hke (by k_is) (by k_is) (by decide) (binds_K (KX.keeps F.keep) rfl (by k_is) rfl rfl rfl) (locs rfl) ?_ (fun v h' tk' hv hk F' => by obtain ⟨tv, rfl⟩ := hv; exact hQ h' tk' tv hk F') rfl rfl rfl (by decide)
  intro g L' h₁ F' N' B' X' T' hkeep hlt
  (try dsimp only)
  (try k_fold)
  have hlg := len_guard (md := md) (lv := lv) (D := D) hon hal hwh
  k_steps
  (try dsimp only)
  change PureBack _ _ _ _ _ _
  refine pb_end (by assumption) (by assumption) ?_ ?_
  · exact fun p hp => by repeat (first | exact hp | apply List.mem_cons_of_mem)
  · exact ⟨_, rfl⟩
theorem double1 {news : Ledger} {nm dn ad sc nl sd ob dx un du kdu pt dpt : Addr} {oad osd : Obj} {c0 c1 c2 c3 cn csc : Nat} {k0 k2 k3 kp : Keys} {on kind md al lb0 : Str} {ta ts u0 u1 u2 : Tok} {ty : Value} {lv : Int} {D : List NE} {f0 q0 e0 : Addr} {wp : Nat}
    {gd dg kdg tw dtw : Addr} {k4 kw : Keys} {cg ckg cw : Nat} {wh : Nat} {lbw : Str} {fw qw ew : Addr} {gg dgg kgg ow dow : Addr} {k8 kq : Keys} {cgg ckgg co wo : Nat} {lbo : Str} {fo qo eo : Addr} {t4 : Tok} {Q : Value → Shared → Prop}
    (KX : (hd.heap_1 w.params).In h₀) (T : Top hd.view_1 (looseW hd.view_1 [Str.ofString "Names", Str.ofString "expr_text"]) mean mg mb h₀) (B : Below A₀ base outer h₀) (fits : Fits A 400 4000 (env :: outer)) (hf : env.frame = some L) (hke : env.scope.kind = .function)
    (F : Fr h₀ L s.heap m) (N : News h₀ L s.heap news)
    (b1 : (gg, instObj 354 dgg) ∈ news) (b2 : (dgg, dictOf (nodeE k8 (Str.ofString "guard") 5 (.ref ow) kgg (.ref ow)) cgg) ∈ news) (b3 : (kgg, listOf #[.ref gd] ckgg) ∈ news) (b4 : (ow, instObj 375 dow) ∈ news) (b5 : (dow, dictOf (typeE kq (8 + (wo : Int)) (Str.ofString "pointer") (Str.ofString "M") lbo 4 fo qo eo) co) ∈ news) (hwo : wo = 0 ∨ wo = 1 ∨ wo = 2)
    (a13 : (gd, instObj 354 dg) ∈ news) (a14 : (dg, dictOf (nodeE k4 (Str.ofString "guard") 2 (.ref tw) kdg (.ref tw)) cg) ∈ news) (a15 : (kdg, listOf #[.ref un] ckg) ∈ news)
    (a9 : (un, instObj 354 du) ∈ news) (a10 : (du, dictOf (nodeE k3 (Str.ofString "var") 1 (.ref pt) kdu (.ref ob)) c3) ∈ news)
    (a7 : (ob, instObj 396 dx) ∈ news) (a8 : (dx, dictOf (objE k2 on kind ty lv md) c2) ∈ news)
    (a11 : (pt, instObj 375 dpt) ∈ news) (a12 : (dpt, dictOf (typeE kp (8 + (wp : Int)) (Str.ofString "pointer") (Str.ofString "M") lb0 4 f0 q0 e0) c1) ∈ news)
    (a16 : (tw, instObj 375 dtw) ∈ news) (a17 : (dtw, dictOf (typeE kw (8 + (wh : Int)) (Str.ofString "pointer") (Str.ofString "M") lbw 4 fw qw ew) cw) ∈ news)
    (a1 : (nm, instObj 137 dn) ∈ news) (a2 : (dn, dictOf (namesE k0 ad sc nl) c0) ∈ news) (a3 : (ad, oad) ∈ news) (a4 : (sc, listOf #[.ref sd] csc) ∈ news) (a5 : (sd, osd) ∈ news) (a6 : (nl, listOf (D.map fun e => Value.ref e.a).toArray cn) ∈ news)
    (hDm : ∀ e ∈ D, (e.a, e.obj) ∈ news)
    (had : oad.IsDictOf (PySem.strKind PG w) [(Str.ofString "A", .str al ta), (Str.ofString "SYSTEM", .str (Str.ofString "SYSTEM") ts)]) (hlo : (ad == sysModules) = false)
    (hsd : osd.IsDictOf (PySem.strKind PG w) [(Str.ofString "T0", .int 8 u0), (Str.ofString "T1", .int 9 u1), (Str.ofString "T2", .int 10 u2)]) (hlo2 : (sd == sysModules) = false)
    (hmd : md = Str.ofString "M" ∨ md = Str.ofString "A") (hon : on.length ≤ 8) (hal : al.length ≤ 8) (hwh : wh = 0 ∨ wh = 1 ∨ wh = 2)
    (hQ : ∀ h' tk' tv, (∀ b o, s.heap.get? b = some o → h'.get? b = some o) → Fr h₀ L h' m → Q (.str (guardS md on al lv wh D ++ Str.ofString "(" ++ tS wo ++ Str.ofString ")") tv) { s with heap := h', toks := tk' }) :
    wpAny (model PG w) A (call (.ref 279) [.ref nm, .ref gg]) Q (fun _ _ => False) s := by
  refine call_pure (binds := [(Str.ofString "names", .ref nm), (Str.ofString "node", .ref gg), (Str.ofString "least", .int 1 505)]) (P := fun v => ∃ tv, v = .str (guardS md on al lv wh D ++ Str.ofString "(" ++ tS wo ++ Str.ofString ")") tv) 400 4000 B F N KX T fits hf hke (by k_is) (by k_is) (by decide) (binds_K (KX.keeps F.keep) rfl (by k_is) rfl rfl rfl) (locs rfl) ?_ (fun v h' tk' hv hk F' => by obtain ⟨tv, rfl⟩ := hv; exact hQ h' tk' tv hk F') rfl rfl rfl (by decide)
  intro g L' h₁ F' N' B' X' T' hkeep hlt
  (try dsimp only)
  (try k_fold)
  have hlg := len_guard (md := md) (lv := lv) (D := D) hon hal hwh
  k_steps
  (try dsimp only)
  change PureBack _ _ _ _ _ _
  refine pb_end (by assumption) (by assumption) ?_ ?_
  · exact fun p hp => by repeat (first | exact hp | apply List.mem_cons_of_mem)
  · exact ⟨_, rfl⟩
end
section
local macro_rules | `(tactic| walk_at "none") => `(tactic| fail)
local macro_rules | `(tactic| walk_at "call ref") => `(tactic| exists deref4, 279, [_, _, Value.int 4 _])
variable {w : World} {A A₀ : Around} {s : Shared} {base h₀ : Heap} {outer : List Env} {L : Addr} {m mg mb : Str → Option Value} {env : Env} {mean : ExcName → Option Value}
theorem field1 {news : Ledger} {nm dn ad sc nl sd ob dx un du kdu pt dpt : Addr} {oad osd : Obj} {c0 c1 c2 c3 cn csc : Nat} {k0 k2 k3 kp : Keys} {on kind md al lb0 : Str} {ta ts u0 u1 u2 : Tok} {ty : Value} {lv : Int} {D : List NE} {f0 q0 e0 : Addr} {wp : Nat}
    {gd dg kdg tw dtw : Addr} {k4 kw : Keys} {cg ckg cw : Nat} {wh : Nat} {lbw : Str} {fw qw ew : Addr} {df ddf kdf : Addr} {k5 : Keys} {ckd cdf : Nat} {tyd : Value}{ff dff kff fo dfo : Addr} {k6 k7 : Keys} {cff ckff cfo : Nat} {tyf tyo : Value} {t4 : Tok} {Q : Value → Shared → Prop}
    (KX : (hd.heap_1 w.params).In h₀) (T : Top hd.view_1 (looseW hd.view_1 [Str.ofString "Names", Str.ofString "expr_text"]) mean mg mb h₀) (B : Below A₀ base outer h₀) (fits : Fits A 400 4000 (env :: outer)) (hf : env.frame = some L) (hke : env.scope.kind = .function)
    (F : Fr h₀ L s.heap m) (N : News h₀ L s.heap news)
    (b4 : (ff, instObj 354 dff) ∈ news) (b5 : (dff, dictOf (nodeE k6 (Str.ofString "field") 4 tyf kff (.ref fo)) cff) ∈ news) (b6 : (kff, listOf #[.ref df] ckff) ∈ news) (b7 : (fo, instObj 396 dfo) ∈ news) (b8 : (dfo, dictOf (objE k7 (Str.ofString "f") (Str.ofString "field") tyo 0 (Str.ofString "")) cfo) ∈ news)
    (b1 : (df, instObj 354 ddf) ∈ news) (b2 : (ddf, dictOf (nodeE k5 (Str.ofString "deref") 3 tyd kdf .none) cdf) ∈ news) (b3 : (kdf, listOf #[.ref gd] ckd) ∈ news)
    (a13 : (gd, instObj 354 dg) ∈ news) (a14 : (dg, dictOf (nodeE k4 (Str.ofString "guard") 2 (.ref tw) kdg (.ref tw)) cg) ∈ news) (a15 : (kdg, listOf #[.ref un] ckg) ∈ news)
    (a9 : (un, instObj 354 du) ∈ news) (a10 : (du, dictOf (nodeE k3 (Str.ofString "var") 1 (.ref pt) kdu (.ref ob)) c3) ∈ news)
    (a7 : (ob, instObj 396 dx) ∈ news) (a8 : (dx, dictOf (objE k2 on kind ty lv md) c2) ∈ news)
    (a11 : (pt, instObj 375 dpt) ∈ news) (a12 : (dpt, dictOf (typeE kp (8 + (wp : Int)) (Str.ofString "pointer") (Str.ofString "M") lb0 4 f0 q0 e0) c1) ∈ news)
    (a16 : (tw, instObj 375 dtw) ∈ news) (a17 : (dtw, dictOf (typeE kw (8 + (wh : Int)) (Str.ofString "pointer") (Str.ofString "M") lbw 4 fw qw ew) cw) ∈ news)
    (a1 : (nm, instObj 137 dn) ∈ news) (a2 : (dn, dictOf (namesE k0 ad sc nl) c0) ∈ news) (a3 : (ad, oad) ∈ news) (a4 : (sc, listOf #[.ref sd] csc) ∈ news) (a5 : (sd, osd) ∈ news) (a6 : (nl, listOf (D.map fun e => Value.ref e.a).toArray cn) ∈ news)
    (hDm : ∀ e ∈ D, (e.a, e.obj) ∈ news)
    (had : oad.IsDictOf (PySem.strKind PG w) [(Str.ofString "A", .str al ta), (Str.ofString "SYSTEM", .str (Str.ofString "SYSTEM") ts)]) (hlo : (ad == sysModules) = false)
    (hsd : osd.IsDictOf (PySem.strKind PG w) [(Str.ofString "T0", .int 8 u0), (Str.ofString "T1", .int 9 u1), (Str.ofString "T2", .int 10 u2)]) (hlo2 : (sd == sysModules) = false)
    (hmd : md = Str.ofString "M" ∨ md = Str.ofString "A") (hon : on.length ≤ 8) (hal : al.length ≤ 8) (hwh : wh = 0 ∨ wh = 1 ∨ wh = 2)
    (hQ : ∀ h' tk' tv, (∀ b o, s.heap.get? b = some o → h'.get? b = some o) → Fr h₀ L h' m → Q (.str (guardS md on al lv wh D ++ Str.ofString "^" ++ Str.ofString "." ++ Str.ofString "f") tv) { s with heap := h', toks := tk' }) :
    wpAny (model PG w) A (call (.ref 279) [.ref nm, .ref ff]) Q (fun _ _ => False) s := by
  refine call_pure (binds := [(Str.ofString "names", .ref nm), (Str.ofString "node", .ref ff), (Str.ofString "least", .int 1 505)]) (P := fun v => ∃ tv, v = .str (guardS md on al lv wh D ++ Str.ofString "^" ++ Str.ofString "." ++ Str.ofString "f") tv) 400 4000 B F N KX T fits hf hke (by k_is) (by k_is) (by decide) (binds_K (KX.keeps F.keep) rfl (by k_is) rfl rfl rfl) (locs rfl) ?_ (fun v h' tk' hv hk F' => by obtain ⟨tv, rfl⟩ := hv; exact hQ h' tk' tv hk F') rfl rfl rfl (by decide)
  intro g L' h₁ F' N' B' X' T' hkeep hlt
  (try dsimp only)
  (try k_fold)
  have hlg : (guardS md on al lv wh D ++ Str.ofString "^").length ≤ 40 := by
    have a := len_guard (md := md) (lv := lv) (D := D) hon hal hwh
    rw [len_app]
    have e1 : (Str.ofString "^").length = 1 := rfl
    omega
  k_steps
  (try dsimp only)
  change PureBack _ _ _ _ _ _
  refine pb_end (by assumption) (by assumption) ?_ ?_
  · exact fun p hp => by repeat (first | exact hp | apply List.mem_cons_of_mem)
  · exact ⟨_, rfl⟩
end
noncomputable def st15In : Stmt := match lawSt 15 with
  | .For _ _ b _ _ => b.getD 1 default
  | _ => default
noncomputable def inBody : List Stmt := match st15In with
  | .For _ _ b _ _ => b
  | _ => []
theorem inBody_len : inBody.length = 12 := by decide +kernel
theorem item_ptrsI {prog : Program} {w : World} {A : Around} {E : Value → Shared → Prop} {s : Shared} {h₀ : Heap} {L : Addr} {news : Ledger} {value slice : Expr} {b : BD} {k : Int} {u : Tok} {Q : Value → Shared → Prop} (N : News h₀ L s.heap news)
    (hm : (b.pl, listOf #[.ref b.p0, .ref b.p1, .ref b.p2] b.cp) ∈ news) (h0 : 0 ≤ k) (h3 : k < 3) (h : Q (.ref (b.ps k.toNat)) s)
    (hs : subscripted slice false (.ref b.pl) (.int k u) = operate [.ref b.pl, .int k u] (getItem (.ref b.pl) (.int k u)) := by with_unfolding_all rfl) (hg : ∀ r, letTemporaryGo value (.ref b.pl) r = pure () := by intro _; with_unfolding_all rfl) :
    wpAny (model prog w) A (subscriptTail value slice (.ref b.pl) (.int k u)) Q E s :=
  item_list ⟨_, (N _ hm).1, rfl, _, rfl⟩ h0 (by omega) (by
    match k, h0, h3 with
    | .ofNat 0, _, _ => rfl
    | .ofNat 1, _, _ => rfl
    | .ofNat 2, _, _ => rfl
    | .ofNat (n + 3), _, h => exact absurd h (by simp only [Int.ofNat_eq_natCast]; omega)
    | .negSucc n, h, _ => exact absurd h (by omega)) h hs hg
theorem str_assoc (a b c : Str) : a ++ b ++ c = a ++ (b ++ c) := by
  show (⟨(a.cps ++ b.cps) ++ c.cps⟩ : Str) = ⟨a.cps ++ (b.cps ++ c.cps)⟩
  rw [Array.append_assoc]
theorem due_else (x y : Str) : x ++ Str.ofString "(" ++ (Str.ofString "T" ++ y) ++ Str.ofString ")" = x ++ Str.ofString "(T" ++ y ++ Str.ofString ")" := by
  have e : Str.ofString "(T" = Str.ofString "(" ++ Str.ofString "T" := by decide +kernel
  rw [e]; simp only [str_assoc]
theorem due_field (x : Str) : x ++ Str.ofString "^" ++ Str.ofString "." ++ Str.ofString "f" = x ++ Str.ofString "^.f" := by
  have e : Str.ofString "^.f" = Str.ofString "^" ++ (Str.ofString "." ++ Str.ofString "f") := by decide +kernel
  rw [e]; simp only [str_assoc]
theorem guard_else {md on al : Str} {lv : Int} {wh : Nat} {D : List NE} (h : narR md on lv (8 + (wh : Int)) D.reverse = false) : guardS md on al lv wh D = shownS md on al ++ Str.ofString "(T" ++ Str.ofString (toString (wh : Int)) ++ Str.ofString ")" := by
  unfold guardS tS
  rw [if_neg (by rw [h]; decide), due_else]
theorem guard_then {md on al : Str} {lv : Int} {wh : Nat} {D : List NE} (h : narR md on lv (8 + (wh : Int)) D.reverse = true) : guardS md on al lv wh D = shownS md on al := by
  unfold guardS
  rw [if_pos h]
theorem ne_self {a b : Str} (e : a = b) (h : (a != b) = true) : False := by subst e; simp at h
theorem SFx.meth {prog : Program} {w : World} {A : Around} {E : Value → Shared → Prop} {s : Shared} {h₀ : Heap} {L d : Addr} {news T : Ledger} {o : Obj} {xs : XS} {pl : Sem Bool} {Q : Value × List Value → Shared → Prop} (N : News h₀ L s.heap news) (K : SFx prog w o T xs) (hm : (d, o) ∈ news) (hT : ∀ p ∈ T, p ∈ news) (h : Q (.builtin "dict.get", [.ref d]) s) :
    wpAny (model prog w) A (getMethod (.ref d) (Str.ofString "get") pl) Q E s :=
  let hD := K.dict N hm hT
  getMethod_builtin hD.typeIs PySem.F.plainAttrs_dict PySem.F.slot_dict_get PySem.F.type_dict_get (dictOfH_noDict hD) h
theorem SFx.get' {prog : Program} {w : World} {A : Around} {E : Value → Shared → Prop} {s : Shared} {h₀ : Heap} {L d a : Addr} {news T : Ledger} {o ok : Obj} {xs : XS} {ks : List MK} {v : Value} {Q : Value → Shared → Prop} (N : News h₀ L s.heap news) (K : SFx prog w o T xs) (hv : (valueAt (kvsOf xs) ks).getD .none = v) (lo : (d == sysModules) = false) (hu : A.units + 1 < cLine) (hm : (d, o) ∈ news) (hT : ∀ p ∈ T, p ∈ news) (hka : (a, ok) ∈ news) (tk : TupKeyObj (mixKind prog w) ks ok)
    (h : Q v { s with toks := s.toks + (ks.length + 1) }) : wpAny (model prog w) A (call (.builtin "dict.get") [.ref d, .ref a]) Q E s := K.get lo hu N hm hT hka tk (by rw [hv]; exact h)
local macro_rules | `(tactic| walk_at "subscriptTail") => `(tactic| exists item_ptrs, _, _, _, _)
local macro_rules | `(tactic| walk_at "getMethod ref") => `(tactic| exists SFx.meth, _, _, _)
local macro_rules | `(tactic| item_end_look) => `(tactic| first | with_reducible assumption | exact (fun p hp => by (replace hp := (by assumption : ∀ p ∈ _, p ∈ _) p hp); repeat (first | exact hp | apply List.mem_cons_of_mem)) | exact ⟨rfl, _, _, rfl, key3_items _ _ _ _ _ _⟩ | exact (fm3 _).1 | exact (fm3 _).2)
local macro_rules | `(tactic| walk_at "call builtin:dict.get") => `(tactic| exists SFx.get', _, _, _)
local macro_rules | `(tactic| walk_at "subscriptTail") => `(tactic| exists item_ptrsI, _, _, _, _)
local macro_rules | `(tactic| walk_at "call ref") => `(tactic| exists node_new, 354)
local macro_rules | `(tactic| walk_at "call ref") => `(tactic| exists guard1 (t4 := 0), 279, [_, _])
local macro_rules | `(tactic| walk_at "call ref") => `(tactic| exists double1 (t4 := 0), 279, [_, _])
local macro_rules | `(tactic| walk_at "call ref") => `(tactic| exists field1 (t4 := 0), 279, [_, _])
section
variable {w : World} {s : Shared} {h₀ base : Heap} {L fa : Addr} {cd : Value} {mg mb : Str → Option Value} {mean : ExcName → Option Value} {Q : Flow → Shared → Prop}
noncomputable abbrev m11 (l : Addr) (b : BD) (u u2 u3 u4 u5 u6 : Locs) (th ec sf : Addr) : Locs := ovl ["thing", "which"] u6 (m10 l b u u2 u3 u4 u5 th ec sf)
noncomputable abbrev m12 (l : Addr) (b : BD) (u u2 u3 u4 u5 u6 : Locs) (th ec sf fo : Addr) (al : Str) (tal : Tok) : Locs := fun y => if y = Str.ofString "field" then some (.ref fo) else if y = Str.ofString "outside" then some (.str al tal) else m11 l b u u2 u3 u4 u5 u6 th ec sf y
noncomputable abbrev inS : List Str := ["thing", "shown", "which", "bare", "wanted_type", "under", "guard", "due", "deep", "other", "double_one"].map Str.ofString
noncomputable abbrev inW : List Str := ["which", "bare", "wanted_type", "under", "guard", "due", "deep", "other", "double_one"].map Str.ofString
theorem cmp_bv {prog : Program} {w : World} {A : Around} {E : Value → Shared → Prop} {s : Shared} {bv : Value} {wh : Nat} {tw : Tok} {br : Bool} {Q : Value → Shared → Prop}
    (hbr : (bv = .none ∧ br = false) ∨ ∃ (wh2 : Nat) (t2 : Tok), bv = .int (wh2 : Int) t2 ∧ ((wh2 : Int) == (wh : Int)) = br) (h : Q (.bool br) s) :
    wpAny (model prog w) A (compareOp .Eq bv (.int (wh : Int) tw)) Q E s := by
  rcases hbr with ⟨rfl, rfl⟩ | ⟨wh2, t2, rfl, rfl⟩
  · k_steps
    exact h
  · k_steps
    exact h
noncomputable def dueE : Expr := match inBody.getD 5 default with
  | .Assign _ v _ => v
  | _ => default
noncomputable def dueS (br : Bool) (sh : Str) (wh : Nat) : Str := if br = true then sh else sh ++ Str.ofString "(T" ++ Str.ofString (toString (wh : Int)) ++ Str.ofString ")"
theorem due_eval {br : Bool} {sh : Str} {wh : Nat} {tsh tw : Tok} {m : Locs} {Q : Value → Shared → Prop} (F : Fr h₀ L s.heap m) (N : News h₀ L s.heap []) (hw012 : wh = 0 ∨ wh = 1 ∨ wh = 2)
    (hm1 : m (Str.ofString "shown") = some (.str sh tsh)) (hm2 : m (Str.ofString "which") = some (.int (wh : Int) tw)) (hm3 : m (Str.ofString "bare") = some (.bool br)) (hls : sh.length ≤ 20)
    (T : Top hd.view_1 (looseW hd.view_1 [Str.ofString "Names", Str.ofString "expr_text"]) mean mg mb h₀) (KX : (hd.heap_1 w.params).In h₀) (B : Below callerA h₀ [] h₀)
    (hQ : ∀ t tk', Q (.str (dueS br sh wh) t) { s with toks := tk' }) :
    wpAny (model PG w) (callerA.deeper (lawEnv L fa cd)) (eval dueE (lawEnv L fa cd)) Q (fun _ _ => False) s := by
  have e : m = fun y => if y = Str.ofString "bare" then some (.bool br) else if y = Str.ofString "which" then some (.int (wh : Int) tw) else if y = Str.ofString "shown" then some (.str sh tsh) else m y := by
    funext y
    by_cases h1 : y = Str.ofString "bare"
    · subst h1; rw [if_pos rfl, hm3]
    · by_cases h2 : y = Str.ofString "which"
      · subst h2; rw [if_neg h1, if_pos rfl, hm2]
      · by_cases h3 : y = Str.ofString "shown"
        · subst h3; rw [if_neg h1, if_neg h2, if_pos rfl, hm1]
        · rw [if_neg h1, if_neg h2, if_neg h3]
  rw [e] at F
  clear e hm1 hm2 hm3
  conv in dueE => whnf
  cases br
  · k_steps
    exact hQ _ _
  · k_steps
    exact hQ _ _
local macro_rules | `(tactic| walk_at "eval IfExp") => `(tactic| exists due_eval)
local macro_rules | `(tactic| walk_at "compareOp Eq") => `(tactic| (k_here; (refine cmp_bv (by assumption) ?_)))
theorem st15g {l th ec sf fo dfo : Addr} {b : BD} {u u2 u3 u4 u5 u6 u7 : Locs} {W R T' : Ledger} {xs ds : Nat → Addr} {ks : Nat → Keys} {E : List EC} {D : List NE} {xx : XS} {sfo : Obj} {al : Str} {tal tsh tw : Tok} {kf : Keys} {tyf : Value} {cnl j wh : Nat} {bv : Value} {br : Bool}
    (KX : (hd.heap_1 w.params).In h₀) (T : Top hd.view_1 (looseW hd.view_1 [Str.ofString "Names", Str.ofString "expr_text"]) mean mg mb h₀) (B : Below callerA h₀ [] h₀)
    (F : Fr h₀ L s.heap (fun y => if y = Str.ofString "which" then some (.int (wh : Int) tw) else if y = Str.ofString "shown" then some (.str (shownS (thMd j) (thNm j) al) tsh) else if y = Str.ofString "thing" then some (.ref (xs j)) else ovl inS u7 (m12 l b u u2 u3 u4 u5 u6 th ec sf fo al tal) y)) (N : News h₀ L s.heap W)
    (hB : BaseOK w al b R) (hRW : ∀ p ∈ R, p ∈ W) (hx1 : (xs j, instObj 396 (ds j)) ∈ W) (hx2 : (ds j, dictOf (objE (ks j) (thNm j) (Str.ofString "var") .none (thLv j) (thMd j)) 14) ∈ W)
    (hsf : SFx PG w sfo T' xx) (hT' : ∀ p ∈ T', p ∈ W) (hsm : (sf, sfo) ∈ W) (hslo : (sf == sysModules) = false) (hv : (valueAt (kvsOf xx) (key3 (thMd j) (thNm j) (thLv j))).getD .none = bv)
    (hnl : (b.nl, listOf (D.map fun e : NE => Value.ref e.a).toArray cnl) ∈ W) (hDm : ∀ n ∈ D, (n.a, n.obj) ∈ W) (hwh : wh < 3)
    (hfo1 : (fo, instObj 396 dfo) ∈ W) (hfo2 : (dfo, dictOf (objE kf (Str.ofString "f") (Str.ofString "field") tyf 0 (Str.ofString "")) 14) ∈ W)
    (hmd : thMd j = Str.ofString "M" ∨ thMd j = Str.ofString "A") (hon : (thNm j).length ≤ 8) (hal : al.length ≤ 8) (hwo : (((wh : Int) + 1).fmod 3).toNat = 0 ∨ (((wh : Int) + 1).fmod 3).toNat = 1 ∨ (((wh : Int) + 1).fmod 3).toNat = 2) (hw012 : wh = 0 ∨ wh = 1 ∨ wh = 2)
    (hnar : narR (thMd j) (thNm j) (thLv j) (8 + (wh : Int)) D.reverse = br)
    (hbr : (bv = .none ∧ br = false) ∨ ∃ (wh2 : Nat) (t2 : Tok), bv = .int (wh2 : Int) t2 ∧ ((wh2 : Int) == (wh : Int)) = br)
    (hQ : ∀ h' tk' m', (∀ y, inW.contains y = false → m' y = (fun y => if y = Str.ofString "shown" then some (.str (shownS (thMd j) (thNm j) al) tsh) else if y = Str.ofString "thing" then some (.ref (xs j)) else ovl inS u7 (m12 l b u u2 u3 u4 u5 u6 th ec sf fo al tal) y) y) → Fr h₀ L h' m' → News h₀ L h' W → Q .next { s with heap := h', toks := tk' }) :
    wpAny (model PG w) (callerA.deeper (lawEnv L fa cd)) (execs (inBody) (lawEnv L fa cd)) Q (fun _ _ => False) s := by
  conv in inBody => whnf
  have hpl := hRW _ hB.mpl
  have hp1 := hRW _ (hB.ptr hwh).1
  have hp2 := hRW _ (hB.ptr hwh).2
  have hnm := hRW _ hB.mnm
  have hdn := hRW _ hB.mdn
  have hls := len_shown (md := thMd j) hon hal
  have hlg := len_guard (md := thMd j) (lv := thLv j) (D := D) hon hal hw012
  have hty := hRW _ hB.mty
  have hdt := hRW _ hB.mdt
  have hmad := hRW _ hB.mad
  have hhao := hB.hao
  have hhad := hB.had
  have hmsc := hRW _ hB.msc
  have hmsd := hRW _ hB.msd
  have hhso := hB.hso
  have hhsd := hB.hsd
  have hmp0 := hRW _ hB.mp0
  have hmd0 := hRW _ hB.md0
  have ho1 := hRW _ (hB.ptr (i := (((wh : Int) + 1).fmod 3).toNat) (by have := fm3 ((wh : Int) + 1); omega)).1
  have ho2 := hRW _ (hB.ptr (i := (((wh : Int) + 1).fmod 3).toNat) (by have := fm3 ((wh : Int) + 1); omega)).2
  have hge : guardS (thMd j) (thNm j) al (thLv j) wh D = dueS br (shownS (thMd j) (thNm j) al) wh := by
    unfold dueS
    cases br
    · rw [if_neg (by decide)]; exact guard_else hnar
    · rw [if_pos rfl]; exact guard_then hnar
  have hld : (dueS br (shownS (thMd j) (thNm j) al) wh).length ≤ _ := hge ▸ hlg
  have hfe : guardS (thMd j) (thNm j) al (thLv j) wh D ++ Str.ofString "^" ++ Str.ofString "." ++ Str.ofString "f" = dueS br (shownS (thMd j) (thNm j) al) wh ++ Str.ofString "^.f" := by rw [hge, due_field]
  have hde : guardS (thMd j) (thNm j) al (thLv j) wh D ++ Str.ofString "(" ++ tS (((wh : Int) + 1).fmod 3).toNat ++ Str.ofString ")" = dueS br (shownS (thMd j) (thNm j) al) wh ++ Str.ofString "(T" ++ Str.ofString (toString (((wh : Int) + 1).fmod 3)) ++ Str.ofString ")" := by
    rw [hge]; unfold tS; rw [Int.toNat_of_nonneg (fm3 _).1, due_else]
  clear hB hRW
  k_steps
  · rename_i ha
    rw [hnar] at ha
    cases br <;> exact absurd ha (by decide)
  · exact (ne_self hge (by assumption)).elim
  · exact (ne_self hfe (by assumption)).elim
  · exact (ne_self hde (by assumption)).elim
  · refine hQ _ _ _ ?_ (by assumption) (News.sub (by assumption) ?_)
    · repeat' (first | exact fun _ _ => rfl | refine ovl_set (by decide) ?_)
    · exact fun p hp => by repeat (first | exact hp | apply List.mem_cons_of_mem)
end
end
section
theorem off38 : True := by
  w_top off
  exact True.intro
local macro_rules | `(tactic| k_mem) => `(tactic| assumption)
local macro_rules | `(tactic| k_all) => `(tactic| assumption)
noncomputable def Stopped (P : Prop) : Prop := P
theorem stopped {P : Prop} (h : Stopped P) : P := h
theorem unstop {P : Prop} (h : P) : Stopped P := h
noncomputable def inTgt : Expr := match st15In with
  | .For t _ _ _ _ => t
  | _ => default
theorem inS_eq (y : Str) : inS.contains y = (y == Str.ofString "thing" || (y == Str.ofString "shown" || inW.contains y)) := by
  show (Str.ofString "thing" :: Str.ofString "shown" :: inW).contains y = _
  rw [List.contains_cons, List.contains_cons]
theorem merge15 {u7 u8 mb : Locs} {sh th : Option Value} : ovl inW u8 (fun y => if y = Str.ofString "shown" then sh else if y = Str.ofString "thing" then th else ovl inS u7 mb y) = fun y => if y = Str.ofString "shown" then sh else if y = Str.ofString "thing" then th else ovl inS (fun y => if inW.contains y = true then u8 y else u7 y) mb y := by
  funext y
  show (if inW.contains y = true then u8 y else (if y = Str.ofString "shown" then sh else if y = Str.ofString "thing" then th else if inS.contains y = true then u7 y else mb y)) = (if y = Str.ofString "shown" then sh else if y = Str.ofString "thing" then th else if inS.contains y = true then (if inW.contains y = true then u8 y else u7 y) else mb y)
  by_cases h3 : inW.contains y = true
  · have h1 : y ≠ Str.ofString "shown" := fun e => by subst e; exact absurd h3 (by decide)
    have h2 : y ≠ Str.ofString "thing" := fun e => by subst e; exact absurd h3 (by decide)
    have h4 : inS.contains y = true := by rw [inS_eq, h3, Bool.or_true, Bool.or_true]
    rw [if_pos h3, if_neg h1, if_neg h2, if_pos h4, if_pos h3]
  · rw [if_neg h3, if_neg h3]
section
variable {w : World} {s : Shared} {h₀ base : Heap} {L fa : Addr} {cd : Value} {mg mb : Str → Option Value} {mean : ExcName → Option Value} {Q : Flow → Shared → Prop}
noncomputable abbrev mT (l : Addr) (b : BD) (u u2 u3 u4 u5 u6 u7 : Locs) (th ec sf fo : Addr) (al : Str) (tal : Tok) (sh : Str) (tsh : Tok) (x : Addr) : Locs := fun y => if y = Str.ofString "shown" then some (.str sh tsh) else if y = Str.ofString "thing" then some (.ref x) else ovl inS u7 (m12 l b u u2 u3 u4 u5 u6 th ec sf fo al tal) y
structure Fin15 (w : World) (W R T' : Ledger) (al : Str) (b : BD) (xs ds : Nat → Addr) (ks : Nat → Keys) (E : List EC) (D : List NE) (xx : XS) (sf : Addr) (sfo : Obj) (fo dfo : Addr) (kf : Keys) (tyf : Value) (cnl : Nat) : Prop where
  hB : BaseOK w al b R
  hR : ∀ p ∈ R, p ∈ W
  hT : Things W xs ds ks
  hsf : SFx PG w sfo T' xx
  hT' : ∀ p ∈ T', p ∈ W
  hsm : (sf, sfo) ∈ W
  hslo : (sf == sysModules) = false
  hinv : SInv xx E
  hnl : (b.nl, listOf (D.map fun e : NE => Value.ref e.a).toArray cnl) ∈ W
  hDm : ∀ n ∈ D, (n.a, n.obj) ∈ W
  hED : D.map NE.key = E.map EC.key
  hfo1 : (fo, instObj 396 dfo) ∈ W
  hfo2 : (dfo, dictOf (objE kf (Str.ofString "f") (Str.ofString "field") tyf 0 (Str.ofString "")) 14) ∈ W
  hal : al.length ≤ 8
theorem thMd_or (j : Nat) : thMd j = Str.ofString "M" ∨ thMd j = Str.ofString "A" := by
  unfold thMd; split
  · exact .inr rfl
  · exact .inl rfl
theorem thNm_len (j : Nat) : (thNm j).length ≤ 8 := by
  unfold thNm; split <;> decide
theorem turn15 {l th ec sf fo dfo : Addr} {b : BD} {u u2 u3 u4 u5 u6 u7 u8 : Locs} {W W0 R T' : Ledger} {xs ds : Nat → Addr} {ks : Nat → Keys} {E : List EC} {D : List NE} {xx : XS} {sfo : Obj} {al sh : Str} {tal tsh tw : Tok} {kf : Keys} {tyf : Value} {cnl j wh : Nat}
    (KX : (hd.heap_1 w.params).In h₀) (T : Top hd.view_1 (looseW hd.view_1 [Str.ofString "Names", Str.ofString "expr_text"]) mean mg mb h₀) (B : Below callerA h₀ [] h₀)
    (F : Fr h₀ L s.heap (fun y => if y = Str.ofString "which" then some (.int (wh : Int) tw) else ovl inW u8 (mT l b u u2 u3 u4 u5 u6 u7 th ec sf fo al tal sh tsh (xs j)) y)) (N : News h₀ L s.heap W) (hW : ∀ p ∈ W0, p ∈ W)
    (H : Fin15 w W0 R T' al b xs ds ks E D xx sf sfo fo dfo kf tyf cnl) (hj : j < 8) (hwh : wh < 3) (hsh : sh = shownS (thMd j) (thNm j) al)
    (hQ : ∀ h' tk' m', (∀ y, inW.contains y = false → m' y = mT l b u u2 u3 u4 u5 u6 u7 th ec sf fo al tal sh tsh (xs j) y) → Fr h₀ L h' m' → News h₀ L h' W → Q .next { s with heap := h', toks := tk' }) :
    wpAny (model PG w) (callerA.deeper (lawEnv L fa cd)) (execs (inBody) (lawEnv L fa cd)) Q (fun _ _ => False) s := by
  subst hsh
  rw [merge15] at F
  have hQ' : ∀ h' tk' m', (∀ y, inW.contains y = false → m' y = (fun y => if y = Str.ofString "shown" then some (.str (shownS (thMd j) (thNm j) al) tsh) else if y = Str.ofString "thing" then some (.ref (xs j)) else ovl inS (fun y => if inW.contains y = true then u8 y else u7 y) (m12 l b u u2 u3 u4 u5 u6 th ec sf fo al tal) y) y) → Fr h₀ L h' m' → News h₀ L h' W → Q .next { s with heap := h', toks := tk' } :=
    fun h' tk' m' hm F' N' => hQ h' tk' m' (fun y hy => (hm y hy).trans ((congrFun merge15 y).symm.trans (ovl_off hy))) F' N'
  have hwo : (((wh : Int) + 1).fmod 3).toNat = 0 ∨ (((wh : Int) + 1).fmod 3).toNat = 1 ∨ (((wh : Int) + 1).fmod 3).toNat = 2 := by have := fm3 ((wh : Int) + 1); omega
  have hw012 : wh = 0 ∨ wh = 1 ∨ wh = 2 := by omega
  have hi := H.hinv (thMd j) (thNm j) (thLv j)
  have hnar := nar_last (md := thMd j) (nm := thNm j) (lv := thLv j) (wh := wh) H.hED
  have hbr : ((valueAt (kvsOf xx) (key3 (thMd j) (thNm j) (thLv j))).getD .none = .none ∧ decide (lastW E (thMd j) (thNm j) (thLv j) = some wh) = false) ∨ ∃ (wh2 : Nat) (t2 : Tok), (valueAt (kvsOf xx) (key3 (thMd j) (thNm j) (thLv j))).getD .none = .int (wh2 : Int) t2 ∧ ((wh2 : Int) == (wh : Int)) = decide (lastW E (thMd j) (thNm j) (thLv j) = some wh) := by
    cases hva : valueAt (kvsOf xx) (key3 (thMd j) (thNm j) (thLv j)) with
    | none =>
      rw [hva] at hi
      exact .inl ⟨rfl, by rw [hi]; rfl⟩
    | some v =>
      rw [hva] at hi
      obtain ⟨wh2, t2, rfl, hl⟩ := hi
      refine .inr ⟨wh2, t2, rfl, ?_⟩
      rw [hl]
      by_cases hne : wh2 = wh
      · subst hne
        rw [decide_eq_true rfl]; exact beq_self_eq_true _
      · rw [decide_eq_false (fun e => hne (Option.some.inj e))]
        exact beq_eq_false_iff_ne.mpr (by omega)
  exact st15g (E := E) KX T B F N H.hB (fun p hp => hW p (H.hR p hp)) (hW _ (H.hT.inst j hj)) (hW _ (H.hT.dict j hj)) H.hsf (fun p hp => hW p (H.hT' p hp)) (hW _ H.hsm) H.hslo rfl (hW _ H.hnl) (fun n hn => hW _ (H.hDm n hn)) hwh (hW _ H.hfo1) (hW _ H.hfo2) (thMd_or j) (thNm_len j) H.hal hwo hw012 hnar hbr hQ'
section
local macro_rules | `(tactic| walk_at "execs") => `(tactic| (k_here; refine stopped ?_))
theorem inner15 {l th ec sf fo dfo r : Addr} {b : BD} {u u2 u3 u4 u5 u6 u7 : Locs} {W W0 R T' : Ledger} {xs ds : Nat → Addr} {ks : Nat → Keys} {E : List EC} {D : List NE} {xx : XS} {sfo : Obj} {al sh : Str} {tal tsh t₀ u₀ v₀ : Tok} {kf : Keys} {tyf : Value} {cnl j : Nat}
    (KX : (hd.heap_1 w.params).In h₀) (T : Top hd.view_1 (looseW hd.view_1 [Str.ofString "Names", Str.ofString "expr_text"]) mean mg mb h₀) (B : Below callerA h₀ [] h₀)
    (F : Fr h₀ L s.heap (mT l b u u2 u3 u4 u5 u6 u7 th ec sf fo al tal sh tsh (xs j))) (N : News h₀ L s.heap W) (hW : ∀ p ∈ W0, p ∈ W)
    (H : Fin15 w W0 R T' al b xs ds ks E D xx sf sfo fo dfo kf tyf cnl) (hj : j < 8) (hsh : sh = shownS (thMd j) (thNm j) al) (hr : IsRange s.heap r 0 3 1 t₀ u₀ v₀)
    (hQ : ∀ h' tk' u8, Fr h₀ L h' (ovl inW u8 (mT l b u u2 u3 u4 u5 u6 u7 th ec sf fo al tal sh tsh (xs j))) → News h₀ L h' W → Q .next { s with heap := h', toks := tk' }) :
    wpAny (model PG w) (callerA.deeper (lawEnv L fa cd)) (pyIter (.ref r)) (fun it s₂ => LoopAtR PG w (callerA.deeper (lawEnv L fa cd)) h₀ (lawEnv L fa cd) inTgt inBody Q it s₂) (fun _ _ => False) s := by
  conv in inTgt => whnf
  refine' iter_rangeO (n := (3 - 0 : Int).toNat) inW (fun _ n => n = W) F N hr (small_one (by decide) (by decide) (by decide) (by decide)) (rangeSize_nat _ _) rfl ?zturn ?zdone
  case zturn =>
    rintro I i t u8 n h tk o hI hi rfl hoff F₁ N₁
    have hi3 : i < 3 := hi
    rw [Int.zero_add]
    k_steps
    refine unstop ?_
    rename_i h1 F1 N1
    refine turn15 (L := L) (s := ⟨h1, _, _, _, _⟩) KX T B F1 N1 (fun p hp => List.mem_cons_of_mem _ (hW p hp)) H hj hi3 hsh fun h' tk' m' hm F' N' => ?_
    exact ⟨h', tk', m', n, rfl, F', N', hoff, hm, rfl⟩
  case zdone =>
    rintro h' tk' u' n F' N' rfl
    exact hQ h' tk' u' F' N'
end
local macro_rules | `(tactic| walk_at "exec For") => `(tactic| dict_iter_look)
local macro_rules | `(tactic| walk_at "exec For Name Call cons nil") => `(tactic| dict_iter_look)
local macro_rules | `(tactic| walk_at "exec For Name Name cons nil") => `(tactic| dict_iter_look)
theorem st15 {l th ec sf fo dfo : Addr} {b : BD} {u u2 u3 u4 u5 u6 : Locs} {W R T' : Ledger} {xs ds : Nat → Addr} {ks : Nat → Keys} {E : List EC} {D : List NE} {xx : XS} {sfo : Obj} {al : Str} {tal : Tok} {kf : Keys} {tyf : Value} {cnl cth : Nat}
    (KX : (hd.heap_1 w.params).In h₀) (T : Top hd.view_1 (looseW hd.view_1 [Str.ofString "Names", Str.ofString "expr_text"]) mean mg mb h₀) (B : Below callerA h₀ [] h₀)
    (F : Fr h₀ L s.heap (m12 l b u u2 u3 u4 u5 u6 th ec sf fo al tal)) (N : News h₀ L s.heap W)
    (H : Fin15 w W R T' al b xs ds ks E D xx sf sfo fo dfo kf tyf cnl) (hth : (th, listOf #[.ref (xs 0), .ref (xs 1), .ref (xs 2), .ref (xs 3), .ref (xs 4), .ref (xs 5), .ref (xs 6), .ref (xs 7)] cth) ∈ W)
    (hQ : ∀ h' tk' m', Fr h₀ L h' m' → Q .next { s with heap := h', toks := tk' }) :
    wpAny (model PG w) (callerA.deeper (lawEnv L fa cd)) (exec (lawSt 15) (lawEnv L fa cd)) Q (fun _ _ => False) s := by
  conv in lawSt 15 => whnf
  k_steps
  refine' iter_listO (lo := listOf #[.ref (xs 0), .ref (xs 1), .ref (xs 2), .ref (xs 3), .ref (xs 4), .ref (xs 5), .ref (xs 6), .ref (xs 7)] cth) (vs := [.ref (xs 0), .ref (xs 1), .ref (xs 2), .ref (xs 3), .ref (xs 4), .ref (xs 5), .ref (xs 6), .ref (xs 7)]) inS (fun _ n => n = W) (by assumption) (by assumption) rfl rfl ?zhJ rfl ?zturn ?zdone
  case zhJ => rintro i n rfl; exact hth
  case zturn =>
    rintro I i v u7 n h tk o hI hv rfl hoff F₁ N₁
    obtain ⟨hi8, rfl⟩ : i < 8 ∧ v = .ref (xs i) := by
      match i, hv with
      | 0, hv => exact ⟨by decide, (Option.some.inj hv).symm⟩
      | 1, hv => exact ⟨by decide, (Option.some.inj hv).symm⟩
      | 2, hv => exact ⟨by decide, (Option.some.inj hv).symm⟩
      | 3, hv => exact ⟨by decide, (Option.some.inj hv).symm⟩
      | 4, hv => exact ⟨by decide, (Option.some.inj hv).symm⟩
      | 5, hv => exact ⟨by decide, (Option.some.inj hv).symm⟩
      | 6, hv => exact ⟨by decide, (Option.some.inj hv).symm⟩
      | 7, hv => exact ⟨by decide, (Option.some.inj hv).symm⟩
      | n + 8, hv => cases hv
    have hx1 := H.hT.inst i hi8
    have hx2 := H.hT.dict i hi8
    have hal := H.hal
    have hon := thNm_len i
    clear hI
    k_steps
    · have e : shownS (thMd i) (thNm i) al = thNm i := if_pos (eq_of_beq (by assumption))
      rename_i hr F2 N2 _
      refine inner15 (s := ⟨_, _, _, _, _⟩) KX T B F2 N2 (fun p hp => List.mem_cons_of_mem _ hp) H hi8 e.symm hr fun h' tk' u8 F' N' => ?_
      refine wpAny_execs_nil ⟨h', tk', _, n, rfl, F', N', hoff, fun y hy => ?_, rfl⟩
      rw [merge15]
      exact ovl_set (by decide) (ovl_set (by decide) ovl_start) y hy
    · have e : shownS (thMd i) (thNm i) al = al ++ Str.ofString "." ++ thNm i := if_neg (fun q => by simp [q] at *)
      rename_i hr F2 N2 _
      refine inner15 (s := ⟨_, _, _, _, _⟩) KX T B F2 N2 (fun p hp => List.mem_cons_of_mem _ hp) H hi8 e.symm hr fun h' tk' u8 F' N' => ?_
      refine wpAny_execs_nil ⟨h', tk', _, n, rfl, F', N', hoff, fun y hy => ?_, rfl⟩
      rw [merge15]
      exact ovl_set (by decide) (ovl_set (by decide) ovl_start) y hy
  case zdone =>
    rintro h' tk' u' n F' N' rfl
    exact hQ h' tk' _ F'
end
end
section
theorem off39 : True := by
  w_top off
  exact True.intro
local macro_rules | `(tactic| k_mem) => `(tactic| assumption)
local macro_rules | `(tactic| k_all) => `(tactic| assumption)
local macro_rules | `(tactic| end_err) => `(tactic| skip)
local macro_rules | `(tactic| walk_at "call ref") => `(tactic| exists obj_new)
section
variable {w : World} {s : Shared} {h₀ base : Heap} {L fa : Addr} {cd : Value} {mg mb : Str → Option Value} {mean : ExcName → Option Value} {Q : Flow → Shared → Prop}
theorem st13t {l th ec sf : Addr} {b : BD} {u u2 u3 u4 u5 u6 : Locs} {news : Ledger} {us : List Value} {bs : List Int} {cD : Nat}
    (KX : (hd.heap_1 w.params).In h₀) (T : Top hd.view_1 (looseW hd.view_1 [Str.ofString "Names", Str.ofString "expr_text"]) mean mg mb h₀) (B : Below callerA h₀ [] h₀)
    (F : Fr h₀ L s.heap (m11 l b u u2 u3 u4 u5 u6 th ec sf)) (N : News h₀ L s.heap news)
    (hD : (b.D, listOf us.toArray cD) ∈ news) (hI : IntsAre us bs) (hlen : bs.length = 40) (hb : ∀ b ∈ bs, 0 ≤ b ∧ b < 1009)
    (hQ : ∀ tal h' tk', Fr h₀ L h' (fun y => if y = Str.ofString "outside" then some (.str (alOf bs) tal) else m11 l b u u2 u3 u4 u5 u6 th ec sf y) → News h₀ L h' news → Q .next { s with heap := h', toks := tk' }) :
    wpAny (model PG w) (callerA.deeper (lawEnv L fa cd)) (exec (lawSt 13) (lawEnv L fa cd)) Q (fun _ _ => False) s := by
  conv in lawSt 13 => whnf
  k_steps
  · have e : alOf bs = Str.ofString "A1" := if_pos (by assumption)
    rw [e] at hQ
    exact hQ _ _ _ (by assumption) (by assumption)
  · have e : alOf bs = Str.ofString "A" := if_neg (by assumption)
    rw [e] at hQ
    exact hQ _ _ _ (by assumption) (by assumption)
theorem st14t {l th ec sf : Addr} {b : BD} {u u2 u3 u4 u5 u6 : Locs} {news : Ledger} {al : Str} {tal : Tok}
    (KX : (hd.heap_1 w.params).In h₀) (T : Top hd.view_1 (looseW hd.view_1 [Str.ofString "Names", Str.ofString "expr_text"]) mean mg mb h₀) (B : Below callerA h₀ [] h₀)
    (F : Fr h₀ L s.heap (fun y => if y = Str.ofString "outside" then some (.str al tal) else m11 l b u u2 u3 u4 u5 u6 th ec sf y)) (N : News h₀ L s.heap news)
    (hty : (b.ty, instObj 432 b.dt) ∈ news) (hdt : (b.dt, dictOf (typesE b.kt 10 b.kd b.tb b.tc b.ty' b.ig b.tm b.ni b.no) 9) ∈ news)
    (hQ : ∀ fo dfo k tyf h' tk', Fr h₀ L h' (m12 l b u u2 u3 u4 u5 u6 th ec sf fo al tal) → News h₀ L h' ((fo, instObj 396 dfo) :: (dfo, dictOf (objE k (Str.ofString "f") (Str.ofString "field") tyf 0 (Str.ofString "")) 14) :: news) → Q .next { s with heap := h', toks := tk' }) :
    wpAny (model PG w) (callerA.deeper (lawEnv L fa cd)) (exec (lawSt 14) (lawEnv L fa cd)) Q (fun _ _ => False) s := by
  conv in lawSt 14 => whnf
  k_steps
  exact hQ _ _ _ _ _ _ (by assumption) (by assumption)
theorem st16t {m : Locs} (F : Fr h₀ L s.heap m)
    (hQ : ∀ tk', Q (.ret (.bool true)) { s with toks := tk' }) :
    wpAny (model PG w) (callerA.deeper (lawEnv L fa cd)) (exec (lawSt 16) (lawEnv L fa cd)) Q (fun _ _ => False) s := by
  conv in lawSt 16 => whnf
  k_steps
  exact hQ _
end
end
section
theorem off40 : True := by
  w_top off
  exact True.intro
local macro_rules | `(tactic| walk_at "none") => `(tactic| fail)
local macro_rules | `(tactic| k_mem) => `(tactic| assumption)
local macro_rules | `(tactic| k_all) => `(tactic| assumption)
section
variable {w : World} {s : Shared} {h₀ base : Heap} {L fa : Addr} {cd : Value} {mg mb : Str → Option Value} {mean : ExcName → Option Value} {Q : Flow → Shared → Prop}
noncomputable abbrev m0 (l D : Addr) : Locs := fun y => if y = Str.ofString "beans" then some (.ref D) else List.lookup y [(Str.ofString "script", Value.ref l)]
noncomputable abbrev m1 (l D ty : Addr) : Locs := fun y => if y = Str.ofString "types" then some (.ref ty) else m0 l D y
local macro_rules | `(tactic| end_err) => `(tactic| skip)
local macro_rules | `(tactic| walk_at "call ref") => `(tactic| exists types_new)
theorem st1t {l D : Addr} {news : Ledger}
    (KX : (hd.heap_1 w.params).In h₀) (T : Top hd.view_1 (looseW hd.view_1 [Str.ofString "Names", Str.ofString "expr_text"]) mean mg mb h₀) (B : Below callerA h₀ [] h₀)
    (F : Fr h₀ L s.heap (m0 l D)) (N : News h₀ L s.heap news)
    (hQ : ∀ x dx k kd okd b ch by' ig mk ni no h' tk', okd.IsDictOf (PySem.strKind PG w) [] → (kd == sysModules) = false → (∀ p ∈ news, p.1 < dx) → @LT.lt Nat _ dx x → (∀ p ∈ news, @Ne Nat p.1 kd) → @Ne Nat kd x → @Ne Nat kd dx → Fr h₀ L h' (m1 l D x) → News h₀ L h' ((x, instObj 432 dx) :: (dx, dictOf (typesE k 7 kd b ch by' ig mk ni no) 9) :: (kd, okd) :: news) → Q .next { s with heap := h', toks := tk' }) :
    wpAny (model PG w) (callerA.deeper (lawEnv L fa cd)) (exec (lawSt 1) (lawEnv L fa cd)) Q (fun _ _ => False) s := by
  conv in lawSt 1 => whnf
  k_steps
  refine' hQ _ _ _ _ _ _ _ _ _ _ _ _ _ _ ?_ ?_ ?_ ?_ ?_ ?_ ?_ ?zF ?zN
  case zF => assumption
  case zN => assumption
  all_goals assumption
theorem st2t {l D ty : Addr} {news : Ledger}
    (KX : (hd.heap_1 w.params).In h₀) (T : Top hd.view_1 (looseW hd.view_1 [Str.ofString "Names", Str.ofString "expr_text"]) mean mg mb h₀) (B : Below callerA h₀ [] h₀)
    (F : Fr h₀ L s.heap (m1 l D ty)) (N : News h₀ L s.heap news)
    (hQ : ∀ pl h' tk', (∀ p ∈ news, p.1 < pl) → Fr h₀ L h' (m2 l D ty pl) → News h₀ L h' ((pl, listOf #[] 0) :: news) → Q .next { s with heap := h', toks := tk' }) :
    wpAny (model PG w) (callerA.deeper (lawEnv L fa cd)) (exec (lawSt 2) (lawEnv L fa cd)) Q (fun _ _ => False) s := by
  conv in lawSt 2 => whnf
  k_steps
  exact hQ _ _ _ (by assumption) (by assumption) (by assumption)
theorem st5t {l : Addr} {b : BD} {u : Locs} {news : Ledger}
    (KX : (hd.heap_1 w.params).In h₀) (T : Top hd.view_1 (looseW hd.view_1 [Str.ofString "Names", Str.ofString "expr_text"]) mean mg mb h₀) (B : Below callerA h₀ [] h₀)
    (F : Fr h₀ L s.heap (m5 l b u)) (N : News h₀ L s.heap news)
    (hQ : ∀ th h' tk', (∀ p ∈ news, p.1 < th) → Fr h₀ L h' (m6 l b u th) → News h₀ L h' ((th, listOf #[] 0) :: news) → Q .next { s with heap := h', toks := tk' }) :
    wpAny (model PG w) (callerA.deeper (lawEnv L fa cd)) (exec (lawSt 5) (lawEnv L fa cd)) Q (fun _ _ => False) s := by
  conv in lawSt 5 => whnf
  k_steps
  exact hQ _ _ _ (by assumption) (by assumption) (by assumption)
theorem st7t {l th : Addr} {b : BD} {u u2 : Locs} {news : Ledger}
    (KX : (hd.heap_1 w.params).In h₀) (T : Top hd.view_1 (looseW hd.view_1 [Str.ofString "Names", Str.ofString "expr_text"]) mean mg mb h₀) (B : Below callerA h₀ [] h₀)
    (F : Fr h₀ L s.heap (ovl ["name"] u2 (m6 l b u th))) (N : News h₀ L s.heap news)
    (hQ : ∀ ec h' tk', (∀ p ∈ news, p.1 < ec) → Fr h₀ L h' (m7 l b u u2 th ec) → News h₀ L h' ((ec, listOf #[] 0) :: news) → Q .next { s with heap := h', toks := tk' }) :
    wpAny (model PG w) (callerA.deeper (lawEnv L fa cd)) (exec (lawSt 7) (lawEnv L fa cd)) Q (fun _ _ => False) s := by
  conv in lawSt 7 => whnf
  k_steps
  exact hQ _ _ _ (by assumption) (by assumption) (by assumption)
theorem st11t {l th ec : Addr} {b : BD} {u u2 u3 u4 u5 : Locs} {news : Ledger}
    (KX : (hd.heap_1 w.params).In h₀) (T : Top hd.view_1 (looseW hd.view_1 [Str.ofString "Names", Str.ofString "expr_text"]) mean mg mb h₀) (B : Below callerA h₀ [] h₀)
    (F : Fr h₀ L s.heap (ovl ["_"] u5 (m9 l b u u2 u3 u4 th ec))) (N : News h₀ L s.heap news)
    (hQ : ∀ sf sfo h' tk', sfo.IsDictOf (PySem.strKind PG w) [] → (sf == sysModules) = false → (∀ p ∈ news, p.1 < sf) → Fr h₀ L h' (m10 l b u u2 u3 u4 u5 th ec sf) → News h₀ L h' ((sf, sfo) :: news) → Q .next { s with heap := h', toks := tk' }) :
    wpAny (model PG w) (callerA.deeper (lawEnv L fa cd)) (exec (lawSt 11) (lawEnv L fa cd)) Q (fun _ _ => False) s := by
  conv in lawSt 11 => whnf
  k_steps
  exact hQ _ _ _ _ (by assumption) (by assumption) (by assumption) (by assumption) (by assumption)
end
end
section
theorem off41 : True := by
  w_top off
  exact True.intro
theorem lawBody_eq : lawBody = [lawSt 0, lawSt 1, lawSt 2, lawSt 3, lawSt 4, lawSt 5, lawSt 6, lawSt 7, lawSt 8, lawSt 9, lawSt 10, lawSt 11, lawSt 12, lawSt 13, lawSt 14, lawSt 15, lawSt 16] := rfl
theorem alOf_len (bs : List Int) : (alOf bs).length ≤ 8 := by
  unfold alOf; split <;> decide
section
variable {w : World} {s : Shared} {h₀ base : Heap} {L fa : Addr} {cd : Value} {mg mb : Str → Option Value} {mean : ExcName → Option Value} {Q : Flow → Shared → Prop}
theorem flat {M : Model} {A : Around} {t : Sem Flow} {Q' : Flow → Shared → Prop} {E : Value → Shared → Prop} {h1 h2 : Heap} {k1 k2 : Nat} (h : wpAny M A t Q' E { s with heap := h2, toks := k2 }) : wpAny M A t Q' E { { s with heap := h1, toks := k1 } with heap := h2, toks := k2 } := h
theorem law_body {l : Addr} {vs : List Value} {ns : List Int}
    (KX : (hd.heap_1 w.params).In h₀) (T : Top hd.view_1 (looseW hd.view_1 [Str.ofString "Names", Str.ofString "expr_text"]) mean mg mb h₀) (B : Below callerA h₀ [] h₀)
    (hL : h₀.IsList l vs.toArray) (hI : IntsAre vs ns) (hlen : ns.length ≤ 63)
    (F : Fr h₀ L s.heap (fun y => List.lookup y [(Str.ofString "script", Value.ref l)])) (N : News h₀ L s.heap [])
    (hQ : ∀ h' tk' m', Fr h₀ L h' m' → Q (.ret (.bool true)) { s with heap := h', toks := tk' }) :
    wpAny (model PG w) (callerA.deeper (lawEnv L fa cd)) (execs lawBody (lawEnv L fa cd)) Q (fun _ _ => False) s := by
  rw [lawBody_eq]
  refine wpAny_execs_cons (wpAny_mono (st1 KX T B hL hI hlen F N) ?_ (fun _ _ e => e))
  rintro f s' ⟨rfl, h1, tk1, D, us, cD, bs, rfl, F1, N1, hus, hbl, hbb⟩
  refine wpAny_execs_cons (st1t KX T B F1 N1 ?_)
  intro ty dt k0 kd okd tb tc ty' ig tm ni no h2 tk2 hkd hkdlo lt1 lt2 ne1 ne2 ne3 F2 N2
  refine flat (wpAny_execs_cons (st2t KX T B F2 N2 ?_))
  intro pl h3 tk3 lt3 F3 N3
  refine flat (wpAny_execs_cons (st3 KX T B F3 N3 (.tail _ (.tail _ (.tail _ (.tail _ (.head _))))) hus hbl hbb ?_))
  intro nm dn kn ad ao sd so sc nl ta ts h4 tk4 hao hso hadlo hsdlo lt4 lt5 lt6 lt7 lt8 lt9 F4 N4
  refine flat (wpAny_execs_cons (st4 (cp := 0) (b := tb) (ch := tc) (by' := ty') (ig := ig) (mk := tm) (ni := ni) (no := no) (kn := kn) (k0 := k0) (okd := okd) (ao := ao) (so := so) (lo := listOf us.toArray cD) KX T B F4 (News.sub N4 ?_) (KD.empty hkd) hso hsdlo (lt1 _ (.head _)) lt2 (ne1 _ (.head _)) ne2 ne3 (lt3 _ (.tail _ (.tail _ (.head _)))) (lt3 _ (.head _)) lt4.1 lt5 lt6 lt7 lt8 lt9 hao hadlo ?_))
  · iterate 11 (refine List.forall_mem_cons.mpr ⟨by k_mem, ?_⟩)
    exact List.forall_mem_nil _
  intro b R u h5 tk5 hB hblo F5 N5
  refine flat (wpAny_execs_cons (st5t KX T B F5 N5 ?_))
  intro th h6 tk6 lt10 F6 N6
  refine flat (wpAny_execs_cons (st6 KX T B F6 N6 (fun p hp => Nat.ne_of_lt (lt10 p (.tail _ hp))) hB.hnl (lt10 _ (.head _)) ?_))
  intro R1 xs ds ks cth u2 h7 tk7 hT hsub1 hoff1 F7 N7
  refine flat (wpAny_execs_cons (st7t KX T B F7 N7 ?_))
  intro ec h8 tk8 lt11 F8 N8
  have hnlec : @LT.lt Nat _ b.nl ec := lt11 _ (.tail _ (.head _))
  have hnlth : @LT.lt Nat _ b.nl th := lt10 _ (.head _)
  refine flat (wpAny_execs_cons (st8 (R := (th, listOf #[.ref (xs 0), .ref (xs 1), .ref (xs 2), .ref (xs 3), .ref (xs 4), .ref (xs 5), .ref (xs 6), .ref (xs 7)] cth) :: R1) (nl := b.nl) (nlo := listOf #[] 0) (us := us) (bs := bs) (cD := cD) KX T B F8 (News.sub N8 ?_) hnlec ?_ (.head _) (.tail _ (hsub1 _ (hblo ▸ hB.mD))) hus hbl hbb ?_))
  · exact List.forall_mem_cons.mpr ⟨.head _, List.forall_mem_cons.mpr ⟨.tail _ (.tail _ (.head _)), List.forall_mem_cons.mpr ⟨.tail _ (.head _), fun p hp => .tail _ (.tail _ (.tail _ hp))⟩⟩⟩
  · exact List.forall_mem_cons.mpr ⟨⟨Nat.ne_of_lt (lt11 _ (.head _)), (Nat.ne_of_lt hnlth).symm⟩, fun p hp => ⟨Nat.ne_of_lt (lt11 p (.tail _ (.tail _ hp))), (hoff1 p hp).2⟩⟩
  intro R2 E c2 u3 h9 tk9 hC hE6 hsub2 hoff2 F9 N9
  have hB2 : BaseOK w (alOf bs) b R2 := hB.mono (fun p hp => hsub2 _ (.tail _ (hsub1 p hp))) (fun p hp => (hoff2 p hp).2)
  have hT2 : Things R2 xs ds ks := hT.mono (fun p hp => hsub2 _ (.tail _ hp))
  have hth2 := hsub2 _ (.head _)
  have hD2 : (b.D, listOf us.toArray cD) ∈ R2 := hblo ▸ hB2.mD
  refine flat (wpAny_execs_cons (st9 KX T B F9 N9 (Nat.ne_of_lt hnlec) hoff2 hB2 hT2 hC hE6 ?_))
  intro R3 DD c3 u4 h10 tk10 hDk hDm hsub3 hoff3 F10 N10
  have hB3 := hB2.mono hsub3 (fun p hp => (hoff3 p hp).2)
  have hlen2 : DD.length = E.length := by
    have := congrArg List.length hDk
    simpa only [List.length_map] using this
  refine flat (wpAny_execs_cons (st10 KX T B F10 N10 (Nat.ne_of_lt hnlec) hoff3 hB3 hlen2 hE6 (hsub3 _ hD2) hus hbl hbb ?_))
  intro n c4 c5 u5 h11 tk11 hn F11 N11
  refine flat (wpAny_execs_cons (st11t KX T B F11 N11 ?_))
  intro sf sfo h12 tk12 hsfd hslo lt12 F12 N12
  refine flat (wpAny_execs_cons (st12 (xs := xs) (E := E.take n) KX T B F12 N12 (SFx.empty hsfd) (Nat.ne_of_lt (lt12 _ (.head _))) (Nat.ne_of_lt (lt12 _ (.tail _ (.head _)))) (fun p hp => Nat.ne_of_lt (lt12 p (.tail _ (.tail _ hp)))) (hT2.mono hsub3) (fun e he => ⟨hsub3 _ (hC e (List.mem_of_mem_take he)).1, (hC e (List.mem_of_mem_take he)).2⟩) (by rw [List.length_take]; omega) ?_))
  intro R4 T4 xx sfo4 u6 h13 tk13 hSF hT4 hinv hsub4 F13 N13
  refine flat (wpAny_execs_cons (st13t (us := us) (bs := bs) (cD := cD) KX T B F13 N13 (.tail _ (.tail _ (.tail _ (hsub4 _ (hsub3 _ hD2))))) hus hbl hbb ?_))
  intro tal h14 tk14 F14 N14
  refine flat (wpAny_execs_cons (st14t KX T B F14 N14 (.tail _ (.tail _ (.tail _ (hsub4 _ hB3.mty)))) (.tail _ (.tail _ (.tail _ (hsub4 _ hB3.mdt)))) ?_))
  intro fo dfo kf tyf h15 tk15 F15 N15
  have up : ∀ p ∈ R3, p ∈ (fo, instObj 396 dfo) :: (dfo, dictOf (objE kf (Str.ofString "f") (Str.ofString "field") tyf 0 (Str.ofString "")) 14) :: (sf, sfo4) :: (ec, listOf ((E.take n).map fun e : EC => Value.ref e.a).toArray c4) :: (b.nl, listOf ((DD.take n).map fun e : NE => Value.ref e.a).toArray c5) :: R4 := fun p hp => .tail _ (.tail _ (.tail _ (.tail _ (.tail _ (hsub4 p hp)))))
  refine flat (wpAny_execs_cons (st15 (R := R3) (T' := T4) (E := E.take n) (D := DD.take n) (xx := xx) (ds := ds) (ks := ks) KX T B F15 N15 ⟨hB3, up, (hT2.mono hsub3).mono up, hSF, fun p hp => .tail _ (.tail _ (.tail _ (.tail _ (.tail _ (hT4 p hp))))), .tail _ (.tail _ (.head _)), hslo, hinv, .tail _ (.tail _ (.tail _ (.tail _ (.head _)))), fun e he => up _ (hDm e (List.mem_of_mem_take he)), by rw [List.map_take, List.map_take, hDk], .head _, .tail _ (.head _), alOf_len bs⟩ (up _ (hsub3 _ hth2)) ?_))
  intro h16 tk16 m16 F16
  refine flat (wpAny_execs_cons (st16t F16 ?_))
  intro tk17
  exact hQ _ _ _ F16
end
end
section
theorem off42 : True := by
  w_top off
  exact True.intro
theorem fin : PySem.Challenge.rw_pq0758_01.Holds := hd (by
  k_go0
  (all_goals try k_fold)
  refine tp_wpE ?_
  refine law_body (by assumption) (by assumption) (by assumption) (by assumption) (by assumption) (by omega) (by assumption) (by assumption) ?_
  intro h' tk' m' F'
  k_steps)
end
end Mine
set_option maxRecDepth 100000 in
set_option maxHeartbeats 8000000 in
theorem PySem.Challenge.cw_pq0758_01_holds : PySem.Challenge.rw_pq0758_01.Holds :=
  Mine.fin
