import PyProof.Rows.All
import Wide.All
import OpenK.AllK
import Wide.FinOn
import Lean
import PySem.Challenge.RW_pq0478_02
open PySem PySem.W PyProof.Rows PySem.Calls
set_option Elab.async false
set_option compiler.extract_closed false
set_option maxRecDepth 100000
set_option maxHeartbeats 8000000
set_option rowWalk.seconds 0
set_option linter.unusedVariables false
set_option linter.unusedSimpArgs false
set_option bootstrap.genMatcherCode false
set_option genSizeOf false
set_option genSizeOfSpec false
set_option genInjectivity false
namespace Mine
noncomputable abbrev pw : Program := PySem.Challenge.pw_pq0478_02
section
variable {tb : String → Option Builtin} {p : Program} {w : World} {n₀ : Nat} {ann : Option Value} {env : Env} {q : Pos}
theorem run_of_body {α : Type} {k0 kb kn kf : Nat} {S0 Sa : Shared} {SbT : SharedT} {b : List Stmt} {cE : Code} {stub : Thread} {pos0 posb : Pos} {L : Shared → α} {v : α}
    (hpre : topGo tb p w n₀ ann k0 S0 stub = some (Sa, ⟨denote tb (.body b env), cE, pos0, [topFrame q]⟩))
    (hblk : segRun tb p w n₀ ann 1 kb Sa (blockOf b env cE pos0 [topFrame q]) = some (.next, SbT.abs, cE, posb))
    (hbody : (segRunT tb p w n₀ ann 1 kn SbT (piecesOf b env cE posb [topFrame q])).map (fun x => (x.1, x.2.2.1, (topRun tb p w n₀ ann kf x.2.1.abs ⟨doneF .next, cE, x.2.2.2, [topFrame q]⟩).map L)) = some (.next, cE, some v)) :
    ∃ r, topRun tb p w n₀ ann (k0 + (kb + (kn + kf))) S0 stub = some r ∧ L r = v := by
  obtain ⟨⟨f, s', c', p'⟩, h1, h2⟩ := Option.map_eq_some_iff.mp hbody
  simp only [Prod.mk.injEq] at h2
  obtain ⟨rfl, rfl, h3⟩ := h2
  obtain ⟨r, hr, hL⟩ := Option.map_eq_some_iff.mp h3
  refine ⟨r, ?_, hL⟩
  refine go_top hpre (piece_block hblk ?_)
  have h4 := segRun_of h1
  have := piece_app (rest := []) h4 (piece_nil hr)
  rwa [List.append_nil] at this
end
theorem leftO_of {p q : Program} {loose : List PySem.Str} {Xt : Shared → Bool} {α : Type} {Yf : Shared → α} {Ya : World → α} {N : Nat} {g0 : Bool} {H₀ : Params → Heap} {gs₀ : Array GenState} {d₀ : Drawn} {k₀ : Nat} {m₀ : Nat} {ann : Option Value} {M : Nat}
    (open_ : ∀ w : World, (fencedOpening treeTable p w N).map (fun s => (s.heap, s.gens, s.drawn, s.toks)) = some (H₀ w.params, gs₀, d₀, k₀))
    (size : ∀ w : World, ((H₀ w.params).isNs mainGlobals && gs₀.size == 0, (H₀ w.params).objs.size, (H₀ w.params).nsMap mainGlobals "__annotations__") = (true, m₀, ann))
    (run : ∀ (w : World) (os : OsState), ∃ r, topRun treeTable p w m₀ ann M ⟨H₀ w.params, gs₀, d₀, k₀, os⟩ (topStub p) = some r ∧
      ((staticsOk (importedModules p.main.body) (H₀ w.params) r.heap && namesBound p r.heap && gensDone r && laidKept (H₀ w.params) r.heap), openSeen q loose (importedModules p.main.body) Xt g0 r, Yf r) = (true, openGood q loose, Ya w))
    (le : Nat.ble M N = true) : LeftO p q loose Xt Yf Ya N g0 := fun w => by
  obtain ⟨⟨h, gs, d, k, os⟩, e, e'⟩ := Option.map_eq_some_iff.mp (open_ w)
  obtain ⟨rfl, rfl, rfl, rfl⟩ : h = H₀ w.params ∧ gs = gs₀ ∧ d = d₀ ∧ k = k₀ := by simpa using e'
  obtain ⟨z1, z2, z3⟩ : _ ∧ _ ∧ _ := by simpa only [Prod.mk.injEq] using size w
  obtain ⟨r, hr, hl⟩ := run w os
  obtain ⟨l1, l2, l3⟩ : _ ∧ _ ∧ _ := by simpa only [Prod.mk.injEq] using hl
  have hr := topRun_mono (N - M) _ _ _ _ hr
  rw [show M + (N - M) = N by have := Nat.le_of_ble_eq_true le; omega] at hr
  have t : topFrom treeTable p w N ⟨H₀ w.params, gs, d, k, os⟩ = some r := by
    unfold topFrom
    try dsimp only
    rw [z1, z2, z3, hr]
    show (match staticsOk (importedModules p.main.body) (H₀ w.params) r.heap && namesBound p r.heap && gensDone r && laidKept (H₀ w.params) r.heap with | true => _ | false => _) = _
    rw [l1]
  unfold openEnds
  rw [e]
  show ((topFrom treeTable p w N ⟨H₀ w.params, gs, d, k, os⟩).map _) = _
  rw [t]
  show some (openSeen q loose (importedModules p.main.body) Xt g0 r, Yf r) = _
  rw [l2, l3]
theorem objs_abs {K : Frag} {A : List Addr} {T : BT} {n N : Nat} {life : Life} (h : A.map T.get = K.map fun p => some p.2) (hn : n = N) (lo : (A.all fun a => Nat.blt a N) = true) (al : (K.all fun p => !p.2.isFreed) = true) :
    A.map (absHeap T n life).get? = K.map fun p => some p.2 := by
  subst hn
  induction A generalizing K with
  | nil => cases K with
    | nil => rfl
    | cons p K => cases h
  | cons a A ih => cases K with
    | nil => cases h
    | cons p K =>
      simp only [List.map_cons, List.cons.injEq, List.all_cons, Bool.and_eq_true] at h lo al ⊢
      refine ⟨?_, by first | exact ih h.2 lo.2 al.2 | exact ih h.2 al.2 lo.2⟩
      rw [abs_get (by simpa [Nat.blt_eq] using lo.1) h.1]
      obtain ⟨q, ⟨c, d, dt, sl⟩⟩ := p
      have al1 := al.1
      cases dt <;> first | rfl | cases al1
noncomputable def sT (i : Nat) : Stmt := (pw.main.body[i]?).getD (.Pass ⟨0, 0, 0, 0⟩)
noncomputable def cT (s : Stmt) (j : Nat) : Stmt := match s with | .ClassDef _ _ _ b .. => (b[j]?).getD (.Pass ⟨0, 0, 0, 0⟩) | _ => .Pass ⟨0, 0, 0, 0⟩
noncomputable def fP (s : Stmt) : Arguments := match s with | .FunctionDef _ a .. => a | _ => ⟨[], [], none, [], [], none, []⟩
noncomputable def fB (s : Stmt) : List Stmt := match s with | .FunctionDef _ _ b .. => b | _ => []
noncomputable def fS (s : Stmt) : Scope := match s with | .FunctionDef _ _ _ _ _ _ sc .. => sc | _ => ⟨.function, [], false, false, []⟩
noncomputable def fQ (s : Stmt) : Pos := match s with | .FunctionDef _ _ _ _ _ _ _ _ _ q => q | _ => ⟨0, 0, 0, 0⟩
noncomputable def p36 : Arguments := by
  refine (?f : (x : Arguments) → x = fP (cT (sT 2) 0) → Arguments) _ (by (conv => rhs; whnf))
  exact fun x _ => x
noncomputable def b36 : List Stmt := by
  refine (?f : (x : List Stmt) → x = fB (cT (sT 2) 0) → List Stmt) _ (by (conv => rhs; whnf))
  exact fun x _ => x
noncomputable def s36 : Scope := by
  refine (?f : (x : Scope) → x = fS (cT (sT 2) 0) → Scope) _ (by (conv => rhs; whnf))
  exact fun x _ => x
noncomputable def p68 : Arguments := by
  refine (?f : (x : Arguments) → x = fP (cT (sT 5) 0) → Arguments) _ (by (conv => rhs; whnf))
  exact fun x _ => x
noncomputable def b68 : List Stmt := by
  refine (?f : (x : List Stmt) → x = fB (cT (sT 5) 0) → List Stmt) _ (by (conv => rhs; whnf))
  exact fun x _ => x
noncomputable def s68 : Scope := by
  refine (?f : (x : Scope) → x = fS (cT (sT 5) 0) → Scope) _ (by (conv => rhs; whnf))
  exact fun x _ => x
noncomputable def p89 : Arguments := by
  refine (?f : (x : Arguments) → x = fP (cT (sT 6) 0) → Arguments) _ (by (conv => rhs; whnf))
  exact fun x _ => x
noncomputable def b89 : List Stmt := by
  refine (?f : (x : List Stmt) → x = fB (cT (sT 6) 0) → List Stmt) _ (by (conv => rhs; whnf))
  exact fun x _ => x
noncomputable def s89 : Scope := by
  refine (?f : (x : Scope) → x = fS (cT (sT 6) 0) → Scope) _ (by (conv => rhs; whnf))
  exact fun x _ => x
noncomputable def p96 : Arguments := by
  refine (?f : (x : Arguments) → x = fP (cT (sT 6) 1) → Arguments) _ (by (conv => rhs; whnf))
  exact fun x _ => x
noncomputable def b96 : List Stmt := by
  refine (?f : (x : List Stmt) → x = fB (cT (sT 6) 1) → List Stmt) _ (by (conv => rhs; whnf))
  exact fun x _ => x
noncomputable def s96 : Scope := by
  refine (?f : (x : Scope) → x = fS (cT (sT 6) 1) → Scope) _ (by (conv => rhs; whnf))
  exact fun x _ => x
noncomputable def p117 : Arguments := by
  refine (?f : (x : Arguments) → x = fP (cT (sT 7) 0) → Arguments) _ (by (conv => rhs; whnf))
  exact fun x _ => x
noncomputable def b117 : List Stmt := by
  refine (?f : (x : List Stmt) → x = fB (cT (sT 7) 0) → List Stmt) _ (by (conv => rhs; whnf))
  exact fun x _ => x
noncomputable def s117 : Scope := by
  refine (?f : (x : Scope) → x = fS (cT (sT 7) 0) → Scope) _ (by (conv => rhs; whnf))
  exact fun x _ => x
noncomputable def p124 : Arguments := by
  refine (?f : (x : Arguments) → x = fP (cT (sT 7) 1) → Arguments) _ (by (conv => rhs; whnf))
  exact fun x _ => x
noncomputable def b124 : List Stmt := by
  refine (?f : (x : List Stmt) → x = fB (cT (sT 7) 1) → List Stmt) _ (by (conv => rhs; whnf))
  exact fun x _ => x
noncomputable def s124 : Scope := by
  refine (?f : (x : Scope) → x = fS (cT (sT 7) 1) → Scope) _ (by (conv => rhs; whnf))
  exact fun x _ => x
noncomputable def p132 : Arguments := by
  refine (?f : (x : Arguments) → x = fP (cT (sT 7) 2) → Arguments) _ (by (conv => rhs; whnf))
  exact fun x _ => x
noncomputable def b132 : List Stmt := by
  refine (?f : (x : List Stmt) → x = fB (cT (sT 7) 2) → List Stmt) _ (by (conv => rhs; whnf))
  exact fun x _ => x
noncomputable def s132 : Scope := by
  refine (?f : (x : Scope) → x = fS (cT (sT 7) 2) → Scope) _ (by (conv => rhs; whnf))
  exact fun x _ => x
noncomputable def p139 : Arguments := by
  refine (?f : (x : Arguments) → x = fP (cT (sT 7) 3) → Arguments) _ (by (conv => rhs; whnf))
  exact fun x _ => x
noncomputable def b139 : List Stmt := by
  refine (?f : (x : List Stmt) → x = fB (cT (sT 7) 3) → List Stmt) _ (by (conv => rhs; whnf))
  exact fun x _ => x
noncomputable def s139 : Scope := by
  refine (?f : (x : Scope) → x = fS (cT (sT 7) 3) → Scope) _ (by (conv => rhs; whnf))
  exact fun x _ => x
noncomputable def p146 : Arguments := by
  refine (?f : (x : Arguments) → x = fP (cT (sT 7) 4) → Arguments) _ (by (conv => rhs; whnf))
  exact fun x _ => x
noncomputable def b146 : List Stmt := by
  refine (?f : (x : List Stmt) → x = fB (cT (sT 7) 4) → List Stmt) _ (by (conv => rhs; whnf))
  exact fun x _ => x
noncomputable def s146 : Scope := by
  refine (?f : (x : Scope) → x = fS (cT (sT 7) 4) → Scope) _ (by (conv => rhs; whnf))
  exact fun x _ => x
noncomputable def p153 : Arguments := by
  refine (?f : (x : Arguments) → x = fP (cT (sT 7) 5) → Arguments) _ (by (conv => rhs; whnf))
  exact fun x _ => x
noncomputable def b153 : List Stmt := by
  refine (?f : (x : List Stmt) → x = fB (cT (sT 7) 5) → List Stmt) _ (by (conv => rhs; whnf))
  exact fun x _ => x
noncomputable def s153 : Scope := by
  refine (?f : (x : Scope) → x = fS (cT (sT 7) 5) → Scope) _ (by (conv => rhs; whnf))
  exact fun x _ => x
noncomputable def p160 : Arguments := by
  refine (?f : (x : Arguments) → x = fP (cT (sT 7) 6) → Arguments) _ (by (conv => rhs; whnf))
  exact fun x _ => x
noncomputable def b160 : List Stmt := by
  refine (?f : (x : List Stmt) → x = fB (cT (sT 7) 6) → List Stmt) _ (by (conv => rhs; whnf))
  exact fun x _ => x
noncomputable def s160 : Scope := by
  refine (?f : (x : Scope) → x = fS (cT (sT 7) 6) → Scope) _ (by (conv => rhs; whnf))
  exact fun x _ => x
noncomputable def p167 : Arguments := by
  refine (?f : (x : Arguments) → x = fP (cT (sT 7) 7) → Arguments) _ (by (conv => rhs; whnf))
  exact fun x _ => x
noncomputable def b167 : List Stmt := by
  refine (?f : (x : List Stmt) → x = fB (cT (sT 7) 7) → List Stmt) _ (by (conv => rhs; whnf))
  exact fun x _ => x
noncomputable def s167 : Scope := by
  refine (?f : (x : Scope) → x = fS (cT (sT 7) 7) → Scope) _ (by (conv => rhs; whnf))
  exact fun x _ => x
noncomputable def p174 : Arguments := by
  refine (?f : (x : Arguments) → x = fP (cT (sT 7) 8) → Arguments) _ (by (conv => rhs; whnf))
  exact fun x _ => x
noncomputable def b174 : List Stmt := by
  refine (?f : (x : List Stmt) → x = fB (cT (sT 7) 8) → List Stmt) _ (by (conv => rhs; whnf))
  exact fun x _ => x
noncomputable def s174 : Scope := by
  refine (?f : (x : Scope) → x = fS (cT (sT 7) 8) → Scope) _ (by (conv => rhs; whnf))
  exact fun x _ => x
noncomputable def p181 : Arguments := by
  refine (?f : (x : Arguments) → x = fP (cT (sT 7) 9) → Arguments) _ (by (conv => rhs; whnf))
  exact fun x _ => x
noncomputable def b181 : List Stmt := by
  refine (?f : (x : List Stmt) → x = fB (cT (sT 7) 9) → List Stmt) _ (by (conv => rhs; whnf))
  exact fun x _ => x
noncomputable def s181 : Scope := by
  refine (?f : (x : Scope) → x = fS (cT (sT 7) 9) → Scope) _ (by (conv => rhs; whnf))
  exact fun x _ => x
noncomputable def p188 : Arguments := by
  refine (?f : (x : Arguments) → x = fP (cT (sT 7) 10) → Arguments) _ (by (conv => rhs; whnf))
  exact fun x _ => x
noncomputable def b188 : List Stmt := by
  refine (?f : (x : List Stmt) → x = fB (cT (sT 7) 10) → List Stmt) _ (by (conv => rhs; whnf))
  exact fun x _ => x
noncomputable def s188 : Scope := by
  refine (?f : (x : Scope) → x = fS (cT (sT 7) 10) → Scope) _ (by (conv => rhs; whnf))
  exact fun x _ => x
noncomputable def p196 : Arguments := by
  refine (?f : (x : Arguments) → x = fP (cT (sT 7) 11) → Arguments) _ (by (conv => rhs; whnf))
  exact fun x _ => x
noncomputable def b196 : List Stmt := by
  refine (?f : (x : List Stmt) → x = fB (cT (sT 7) 11) → List Stmt) _ (by (conv => rhs; whnf))
  exact fun x _ => x
noncomputable def s196 : Scope := by
  refine (?f : (x : Scope) → x = fS (cT (sT 7) 11) → Scope) _ (by (conv => rhs; whnf))
  exact fun x _ => x
noncomputable def p210 : Arguments := by
  refine (?f : (x : Arguments) → x = fP (sT 9) → Arguments) _ (by (conv => rhs; whnf))
  exact fun x _ => x
noncomputable def b210 : List Stmt := by
  refine (?f : (x : List Stmt) → x = fB (sT 9) → List Stmt) _ (by (conv => rhs; whnf))
  exact fun x _ => x
noncomputable def s210 : Scope := by
  refine (?f : (x : Scope) → x = fS (sT 9) → Scope) _ (by (conv => rhs; whnf))
  exact fun x _ => x
noncomputable def p218 : Arguments := by
  refine (?f : (x : Arguments) → x = fP (sT 10) → Arguments) _ (by (conv => rhs; whnf))
  exact fun x _ => x
noncomputable def b218 : List Stmt := by
  refine (?f : (x : List Stmt) → x = fB (sT 10) → List Stmt) _ (by (conv => rhs; whnf))
  exact fun x _ => x
noncomputable def s218 : Scope := by
  refine (?f : (x : Scope) → x = fS (sT 10) → Scope) _ (by (conv => rhs; whnf))
  exact fun x _ => x
noncomputable def p232 : Arguments := by
  refine (?f : (x : Arguments) → x = fP (sT 15) → Arguments) _ (by (conv => rhs; whnf))
  exact fun x _ => x
noncomputable def b232 : List Stmt := by
  refine (?f : (x : List Stmt) → x = fB (sT 15) → List Stmt) _ (by (conv => rhs; whnf))
  exact fun x _ => x
noncomputable def s232 : Scope := by
  refine (?f : (x : Scope) → x = fS (sT 15) → Scope) _ (by (conv => rhs; whnf))
  exact fun x _ => x
noncomputable def p260 : Arguments := by
  refine (?f : (x : Arguments) → x = fP (sT 19) → Arguments) _ (by (conv => rhs; whnf))
  exact fun x _ => x
noncomputable def b260 : List Stmt := by
  refine (?f : (x : List Stmt) → x = fB (sT 19) → List Stmt) _ (by (conv => rhs; whnf))
  exact fun x _ => x
noncomputable def s260 : Scope := by
  refine (?f : (x : Scope) → x = fS (sT 19) → Scope) _ (by (conv => rhs; whnf))
  exact fun x _ => x
noncomputable def p267 : Arguments := by
  refine (?f : (x : Arguments) → x = fP (sT 20) → Arguments) _ (by (conv => rhs; whnf))
  exact fun x _ => x
noncomputable def b267 : List Stmt := by
  refine (?f : (x : List Stmt) → x = fB (sT 20) → List Stmt) _ (by (conv => rhs; whnf))
  exact fun x _ => x
noncomputable def s267 : Scope := by
  refine (?f : (x : Scope) → x = fS (sT 20) → Scope) _ (by (conv => rhs; whnf))
  exact fun x _ => x
noncomputable def p274 : Arguments := by
  refine (?f : (x : Arguments) → x = fP (sT 24) → Arguments) _ (by (conv => rhs; whnf))
  exact fun x _ => x
noncomputable def b274 : List Stmt := by
  refine (?f : (x : List Stmt) → x = fB (sT 24) → List Stmt) _ (by (conv => rhs; whnf))
  exact fun x _ => x
noncomputable def s274 : Scope := by
  refine (?f : (x : Scope) → x = fS (sT 24) → Scope) _ (by (conv => rhs; whnf))
  exact fun x _ => x
noncomputable def p293 : Arguments := by
  refine (?f : (x : Arguments) → x = fP (sT 27) → Arguments) _ (by (conv => rhs; whnf))
  exact fun x _ => x
noncomputable def b293 : List Stmt := by
  refine (?f : (x : List Stmt) → x = fB (sT 27) → List Stmt) _ (by (conv => rhs; whnf))
  exact fun x _ => x
noncomputable def s293 : Scope := by
  refine (?f : (x : Scope) → x = fS (sT 27) → Scope) _ (by (conv => rhs; whnf))
  exact fun x _ => x
noncomputable def p307 : Arguments := by
  refine (?f : (x : Arguments) → x = fP (cT (sT 28) 0) → Arguments) _ (by (conv => rhs; whnf))
  exact fun x _ => x
noncomputable def b307 : List Stmt := by
  refine (?f : (x : List Stmt) → x = fB (cT (sT 28) 0) → List Stmt) _ (by (conv => rhs; whnf))
  exact fun x _ => x
noncomputable def s307 : Scope := by
  refine (?f : (x : Scope) → x = fS (cT (sT 28) 0) → Scope) _ (by (conv => rhs; whnf))
  exact fun x _ => x
noncomputable def p314 : Arguments := by
  refine (?f : (x : Arguments) → x = fP (cT (sT 28) 1) → Arguments) _ (by (conv => rhs; whnf))
  exact fun x _ => x
noncomputable def b314 : List Stmt := by
  refine (?f : (x : List Stmt) → x = fB (cT (sT 28) 1) → List Stmt) _ (by (conv => rhs; whnf))
  exact fun x _ => x
noncomputable def s314 : Scope := by
  refine (?f : (x : Scope) → x = fS (cT (sT 28) 1) → Scope) _ (by (conv => rhs; whnf))
  exact fun x _ => x
noncomputable def p321 : Arguments := by
  refine (?f : (x : Arguments) → x = fP (cT (sT 28) 2) → Arguments) _ (by (conv => rhs; whnf))
  exact fun x _ => x
noncomputable def b321 : List Stmt := by
  refine (?f : (x : List Stmt) → x = fB (cT (sT 28) 2) → List Stmt) _ (by (conv => rhs; whnf))
  exact fun x _ => x
noncomputable def s321 : Scope := by
  refine (?f : (x : Scope) → x = fS (cT (sT 28) 2) → Scope) _ (by (conv => rhs; whnf))
  exact fun x _ => x
noncomputable def p328 : Arguments := by
  refine (?f : (x : Arguments) → x = fP (cT (sT 28) 3) → Arguments) _ (by (conv => rhs; whnf))
  exact fun x _ => x
noncomputable def b328 : List Stmt := by
  refine (?f : (x : List Stmt) → x = fB (cT (sT 28) 3) → List Stmt) _ (by (conv => rhs; whnf))
  exact fun x _ => x
noncomputable def s328 : Scope := by
  refine (?f : (x : Scope) → x = fS (cT (sT 28) 3) → Scope) _ (by (conv => rhs; whnf))
  exact fun x _ => x
noncomputable def p335 : Arguments := by
  refine (?f : (x : Arguments) → x = fP (cT (sT 28) 4) → Arguments) _ (by (conv => rhs; whnf))
  exact fun x _ => x
noncomputable def b335 : List Stmt := by
  refine (?f : (x : List Stmt) → x = fB (cT (sT 28) 4) → List Stmt) _ (by (conv => rhs; whnf))
  exact fun x _ => x
noncomputable def s335 : Scope := by
  refine (?f : (x : Scope) → x = fS (cT (sT 28) 4) → Scope) _ (by (conv => rhs; whnf))
  exact fun x _ => x
noncomputable def p342 : Arguments := by
  refine (?f : (x : Arguments) → x = fP (cT (sT 28) 5) → Arguments) _ (by (conv => rhs; whnf))
  exact fun x _ => x
noncomputable def b342 : List Stmt := by
  refine (?f : (x : List Stmt) → x = fB (cT (sT 28) 5) → List Stmt) _ (by (conv => rhs; whnf))
  exact fun x _ => x
noncomputable def s342 : Scope := by
  refine (?f : (x : Scope) → x = fS (cT (sT 28) 5) → Scope) _ (by (conv => rhs; whnf))
  exact fun x _ => x
noncomputable def p349 : Arguments := by
  refine (?f : (x : Arguments) → x = fP (cT (sT 28) 6) → Arguments) _ (by (conv => rhs; whnf))
  exact fun x _ => x
noncomputable def b349 : List Stmt := by
  refine (?f : (x : List Stmt) → x = fB (cT (sT 28) 6) → List Stmt) _ (by (conv => rhs; whnf))
  exact fun x _ => x
noncomputable def s349 : Scope := by
  refine (?f : (x : Scope) → x = fS (cT (sT 28) 6) → Scope) _ (by (conv => rhs; whnf))
  exact fun x _ => x
noncomputable def p356 : Arguments := by
  refine (?f : (x : Arguments) → x = fP (cT (sT 28) 7) → Arguments) _ (by (conv => rhs; whnf))
  exact fun x _ => x
noncomputable def b356 : List Stmt := by
  refine (?f : (x : List Stmt) → x = fB (cT (sT 28) 7) → List Stmt) _ (by (conv => rhs; whnf))
  exact fun x _ => x
noncomputable def s356 : Scope := by
  refine (?f : (x : Scope) → x = fS (cT (sT 28) 7) → Scope) _ (by (conv => rhs; whnf))
  exact fun x _ => x
noncomputable def p391 : Arguments := by
  refine (?f : (x : Arguments) → x = fP (cT (sT 28) 12) → Arguments) _ (by (conv => rhs; whnf))
  exact fun x _ => x
noncomputable def b391 : List Stmt := by
  refine (?f : (x : List Stmt) → x = fB (cT (sT 28) 12) → List Stmt) _ (by (conv => rhs; whnf))
  exact fun x _ => x
noncomputable def s391 : Scope := by
  refine (?f : (x : Scope) → x = fS (cT (sT 28) 12) → Scope) _ (by (conv => rhs; whnf))
  exact fun x _ => x
noncomputable def p398 : Arguments := by
  refine (?f : (x : Arguments) → x = fP (cT (sT 28) 13) → Arguments) _ (by (conv => rhs; whnf))
  exact fun x _ => x
noncomputable def b398 : List Stmt := by
  refine (?f : (x : List Stmt) → x = fB (cT (sT 28) 13) → List Stmt) _ (by (conv => rhs; whnf))
  exact fun x _ => x
noncomputable def s398 : Scope := by
  refine (?f : (x : Scope) → x = fS (cT (sT 28) 13) → Scope) _ (by (conv => rhs; whnf))
  exact fun x _ => x
noncomputable def p405 : Arguments := by
  refine (?f : (x : Arguments) → x = fP (cT (sT 28) 14) → Arguments) _ (by (conv => rhs; whnf))
  exact fun x _ => x
noncomputable def b405 : List Stmt := by
  refine (?f : (x : List Stmt) → x = fB (cT (sT 28) 14) → List Stmt) _ (by (conv => rhs; whnf))
  exact fun x _ => x
noncomputable def s405 : Scope := by
  refine (?f : (x : Scope) → x = fS (cT (sT 28) 14) → Scope) _ (by (conv => rhs; whnf))
  exact fun x _ => x
noncomputable def p440 : Arguments := by
  refine (?f : (x : Arguments) → x = fP (cT (sT 28) 19) → Arguments) _ (by (conv => rhs; whnf))
  exact fun x _ => x
noncomputable def b440 : List Stmt := by
  refine (?f : (x : List Stmt) → x = fB (cT (sT 28) 19) → List Stmt) _ (by (conv => rhs; whnf))
  exact fun x _ => x
noncomputable def s440 : Scope := by
  refine (?f : (x : Scope) → x = fS (cT (sT 28) 19) → Scope) _ (by (conv => rhs; whnf))
  exact fun x _ => x
noncomputable def p447 : Arguments := by
  refine (?f : (x : Arguments) → x = fP (cT (sT 28) 20) → Arguments) _ (by (conv => rhs; whnf))
  exact fun x _ => x
noncomputable def b447 : List Stmt := by
  refine (?f : (x : List Stmt) → x = fB (cT (sT 28) 20) → List Stmt) _ (by (conv => rhs; whnf))
  exact fun x _ => x
noncomputable def s447 : Scope := by
  refine (?f : (x : Scope) → x = fS (cT (sT 28) 20) → Scope) _ (by (conv => rhs; whnf))
  exact fun x _ => x
noncomputable def p480 : Arguments := by
  refine (?f : (x : Arguments) → x = fP (sT 30) → Arguments) _ (by (conv => rhs; whnf))
  exact fun x _ => x
noncomputable def b480 : List Stmt := by
  refine (?f : (x : List Stmt) → x = fB (sT 30) → List Stmt) _ (by (conv => rhs; whnf))
  exact fun x _ => x
noncomputable def s480 : Scope := by
  refine (?f : (x : Scope) → x = fS (sT 30) → Scope) _ (by (conv => rhs; whnf))
  exact fun x _ => x
noncomputable def p494 : Arguments := by
  refine (?f : (x : Arguments) → x = fP (cT (sT 31) 0) → Arguments) _ (by (conv => rhs; whnf))
  exact fun x _ => x
noncomputable def b494 : List Stmt := by
  refine (?f : (x : List Stmt) → x = fB (cT (sT 31) 0) → List Stmt) _ (by (conv => rhs; whnf))
  exact fun x _ => x
noncomputable def s494 : Scope := by
  refine (?f : (x : Scope) → x = fS (cT (sT 31) 0) → Scope) _ (by (conv => rhs; whnf))
  exact fun x _ => x
noncomputable def p501 : Arguments := by
  refine (?f : (x : Arguments) → x = fP (cT (sT 31) 1) → Arguments) _ (by (conv => rhs; whnf))
  exact fun x _ => x
noncomputable def b501 : List Stmt := by
  refine (?f : (x : List Stmt) → x = fB (cT (sT 31) 1) → List Stmt) _ (by (conv => rhs; whnf))
  exact fun x _ => x
noncomputable def s501 : Scope := by
  refine (?f : (x : Scope) → x = fS (cT (sT 31) 1) → Scope) _ (by (conv => rhs; whnf))
  exact fun x _ => x
noncomputable def p508 : Arguments := by
  refine (?f : (x : Arguments) → x = fP (cT (sT 31) 2) → Arguments) _ (by (conv => rhs; whnf))
  exact fun x _ => x
noncomputable def b508 : List Stmt := by
  refine (?f : (x : List Stmt) → x = fB (cT (sT 31) 2) → List Stmt) _ (by (conv => rhs; whnf))
  exact fun x _ => x
noncomputable def s508 : Scope := by
  refine (?f : (x : Scope) → x = fS (cT (sT 31) 2) → Scope) _ (by (conv => rhs; whnf))
  exact fun x _ => x
noncomputable def p515 : Arguments := by
  refine (?f : (x : Arguments) → x = fP (cT (sT 31) 3) → Arguments) _ (by (conv => rhs; whnf))
  exact fun x _ => x
noncomputable def b515 : List Stmt := by
  refine (?f : (x : List Stmt) → x = fB (cT (sT 31) 3) → List Stmt) _ (by (conv => rhs; whnf))
  exact fun x _ => x
noncomputable def s515 : Scope := by
  refine (?f : (x : Scope) → x = fS (cT (sT 31) 3) → Scope) _ (by (conv => rhs; whnf))
  exact fun x _ => x
noncomputable def p620 : Arguments := by
  refine (?f : (x : Arguments) → x = fP (cT (sT 31) 18) → Arguments) _ (by (conv => rhs; whnf))
  exact fun x _ => x
noncomputable def b620 : List Stmt := by
  refine (?f : (x : List Stmt) → x = fB (cT (sT 31) 18) → List Stmt) _ (by (conv => rhs; whnf))
  exact fun x _ => x
noncomputable def s620 : Scope := by
  refine (?f : (x : Scope) → x = fS (cT (sT 31) 18) → Scope) _ (by (conv => rhs; whnf))
  exact fun x _ => x
noncomputable def p627 : Arguments := by
  refine (?f : (x : Arguments) → x = fP (cT (sT 31) 19) → Arguments) _ (by (conv => rhs; whnf))
  exact fun x _ => x
noncomputable def b627 : List Stmt := by
  refine (?f : (x : List Stmt) → x = fB (cT (sT 31) 19) → List Stmt) _ (by (conv => rhs; whnf))
  exact fun x _ => x
noncomputable def s627 : Scope := by
  refine (?f : (x : Scope) → x = fS (cT (sT 31) 19) → Scope) _ (by (conv => rhs; whnf))
  exact fun x _ => x
noncomputable def p634 : Arguments := by
  refine (?f : (x : Arguments) → x = fP (cT (sT 31) 20) → Arguments) _ (by (conv => rhs; whnf))
  exact fun x _ => x
noncomputable def b634 : List Stmt := by
  refine (?f : (x : List Stmt) → x = fB (cT (sT 31) 20) → List Stmt) _ (by (conv => rhs; whnf))
  exact fun x _ => x
noncomputable def s634 : Scope := by
  refine (?f : (x : Scope) → x = fS (cT (sT 31) 20) → Scope) _ (by (conv => rhs; whnf))
  exact fun x _ => x
noncomputable def p641 : Arguments := by
  refine (?f : (x : Arguments) → x = fP (cT (sT 31) 21) → Arguments) _ (by (conv => rhs; whnf))
  exact fun x _ => x
noncomputable def b641 : List Stmt := by
  refine (?f : (x : List Stmt) → x = fB (cT (sT 31) 21) → List Stmt) _ (by (conv => rhs; whnf))
  exact fun x _ => x
noncomputable def s641 : Scope := by
  refine (?f : (x : Scope) → x = fS (cT (sT 31) 21) → Scope) _ (by (conv => rhs; whnf))
  exact fun x _ => x
noncomputable def p648 : Arguments := by
  refine (?f : (x : Arguments) → x = fP (cT (sT 31) 22) → Arguments) _ (by (conv => rhs; whnf))
  exact fun x _ => x
noncomputable def b648 : List Stmt := by
  refine (?f : (x : List Stmt) → x = fB (cT (sT 31) 22) → List Stmt) _ (by (conv => rhs; whnf))
  exact fun x _ => x
noncomputable def s648 : Scope := by
  refine (?f : (x : Scope) → x = fS (cT (sT 31) 22) → Scope) _ (by (conv => rhs; whnf))
  exact fun x _ => x
noncomputable def p688 : Arguments := by
  refine (?f : (x : Arguments) → x = fP (sT 33) → Arguments) _ (by (conv => rhs; whnf))
  exact fun x _ => x
noncomputable def b688 : List Stmt := by
  refine (?f : (x : List Stmt) → x = fB (sT 33) → List Stmt) _ (by (conv => rhs; whnf))
  exact fun x _ => x
noncomputable def s688 : Scope := by
  refine (?f : (x : Scope) → x = fS (sT 33) → Scope) _ (by (conv => rhs; whnf))
  exact fun x _ => x
noncomputable def p709 : Arguments := by
  refine (?f : (x : Arguments) → x = fP (cT (sT 34) 1) → Arguments) _ (by (conv => rhs; whnf))
  exact fun x _ => x
noncomputable def b709 : List Stmt := by
  refine (?f : (x : List Stmt) → x = fB (cT (sT 34) 1) → List Stmt) _ (by (conv => rhs; whnf))
  exact fun x _ => x
noncomputable def s709 : Scope := by
  refine (?f : (x : Scope) → x = fS (cT (sT 34) 1) → Scope) _ (by (conv => rhs; whnf))
  exact fun x _ => x
noncomputable def p772 : Arguments := by
  refine (?f : (x : Arguments) → x = fP (cT (sT 34) 10) → Arguments) _ (by (conv => rhs; whnf))
  exact fun x _ => x
noncomputable def b772 : List Stmt := by
  refine (?f : (x : List Stmt) → x = fB (cT (sT 34) 10) → List Stmt) _ (by (conv => rhs; whnf))
  exact fun x _ => x
noncomputable def s772 : Scope := by
  refine (?f : (x : Scope) → x = fS (cT (sT 34) 10) → Scope) _ (by (conv => rhs; whnf))
  exact fun x _ => x
noncomputable def p779 : Arguments := by
  refine (?f : (x : Arguments) → x = fP (cT (sT 34) 11) → Arguments) _ (by (conv => rhs; whnf))
  exact fun x _ => x
noncomputable def b779 : List Stmt := by
  refine (?f : (x : List Stmt) → x = fB (cT (sT 34) 11) → List Stmt) _ (by (conv => rhs; whnf))
  exact fun x _ => x
noncomputable def s779 : Scope := by
  refine (?f : (x : Scope) → x = fS (cT (sT 34) 11) → Scope) _ (by (conv => rhs; whnf))
  exact fun x _ => x
noncomputable def p786 : Arguments := by
  refine (?f : (x : Arguments) → x = fP (cT (sT 34) 12) → Arguments) _ (by (conv => rhs; whnf))
  exact fun x _ => x
noncomputable def b786 : List Stmt := by
  refine (?f : (x : List Stmt) → x = fB (cT (sT 34) 12) → List Stmt) _ (by (conv => rhs; whnf))
  exact fun x _ => x
noncomputable def s786 : Scope := by
  refine (?f : (x : Scope) → x = fS (cT (sT 34) 12) → Scope) _ (by (conv => rhs; whnf))
  exact fun x _ => x
noncomputable def p793 : Arguments := by
  refine (?f : (x : Arguments) → x = fP (cT (sT 34) 13) → Arguments) _ (by (conv => rhs; whnf))
  exact fun x _ => x
noncomputable def b793 : List Stmt := by
  refine (?f : (x : List Stmt) → x = fB (cT (sT 34) 13) → List Stmt) _ (by (conv => rhs; whnf))
  exact fun x _ => x
noncomputable def s793 : Scope := by
  refine (?f : (x : Scope) → x = fS (cT (sT 34) 13) → Scope) _ (by (conv => rhs; whnf))
  exact fun x _ => x
noncomputable def p805 : Arguments := by
  refine (?f : (x : Arguments) → x = fP (sT 36) → Arguments) _ (by (conv => rhs; whnf))
  exact fun x _ => x
noncomputable def b805 : List Stmt := by
  refine (?f : (x : List Stmt) → x = fB (sT 36) → List Stmt) _ (by (conv => rhs; whnf))
  exact fun x _ => x
noncomputable def s805 : Scope := by
  refine (?f : (x : Scope) → x = fS (sT 36) → Scope) _ (by (conv => rhs; whnf))
  exact fun x _ => x
noncomputable def p812 : Arguments := by
  refine (?f : (x : Arguments) → x = fP (sT 37) → Arguments) _ (by (conv => rhs; whnf))
  exact fun x _ => x
noncomputable def b812 : List Stmt := by
  refine (?f : (x : List Stmt) → x = fB (sT 37) → List Stmt) _ (by (conv => rhs; whnf))
  exact fun x _ => x
noncomputable def s812 : Scope := by
  refine (?f : (x : Scope) → x = fS (sT 37) → Scope) _ (by (conv => rhs; whnf))
  exact fun x _ => x
noncomputable def p819 : Arguments := by
  refine (?f : (x : Arguments) → x = fP (sT 38) → Arguments) _ (by (conv => rhs; whnf))
  exact fun x _ => x
noncomputable def b819 : List Stmt := by
  refine (?f : (x : List Stmt) → x = fB (sT 38) → List Stmt) _ (by (conv => rhs; whnf))
  exact fun x _ => x
noncomputable def s819 : Scope := by
  refine (?f : (x : Scope) → x = fS (sT 38) → Scope) _ (by (conv => rhs; whnf))
  exact fun x _ => x
noncomputable def p826 : Arguments := by
  refine (?f : (x : Arguments) → x = fP (sT 39) → Arguments) _ (by (conv => rhs; whnf))
  exact fun x _ => x
noncomputable def b826 : List Stmt := by
  refine (?f : (x : List Stmt) → x = fB (sT 39) → List Stmt) _ (by (conv => rhs; whnf))
  exact fun x _ => x
noncomputable def s826 : Scope := by
  refine (?f : (x : Scope) → x = fS (sT 39) → Scope) _ (by (conv => rhs; whnf))
  exact fun x _ => x
noncomputable def p833 : Arguments := by
  refine (?f : (x : Arguments) → x = fP (sT 40) → Arguments) _ (by (conv => rhs; whnf))
  exact fun x _ => x
noncomputable def b833 : List Stmt := by
  refine (?f : (x : List Stmt) → x = fB (sT 40) → List Stmt) _ (by (conv => rhs; whnf))
  exact fun x _ => x
noncomputable def s833 : Scope := by
  refine (?f : (x : Scope) → x = fS (sT 40) → Scope) _ (by (conv => rhs; whnf))
  exact fun x _ => x
noncomputable def p840 : Arguments := by
  refine (?f : (x : Arguments) → x = fP (sT 41) → Arguments) _ (by (conv => rhs; whnf))
  exact fun x _ => x
noncomputable def b840 : List Stmt := by
  refine (?f : (x : List Stmt) → x = fB (sT 41) → List Stmt) _ (by (conv => rhs; whnf))
  exact fun x _ => x
noncomputable def s840 : Scope := by
  refine (?f : (x : Scope) → x = fS (sT 41) → Scope) _ (by (conv => rhs; whnf))
  exact fun x _ => x
noncomputable def p847 : Arguments := by
  refine (?f : (x : Arguments) → x = fP (sT 42) → Arguments) _ (by (conv => rhs; whnf))
  exact fun x _ => x
noncomputable def b847 : List Stmt := by
  refine (?f : (x : List Stmt) → x = fB (sT 42) → List Stmt) _ (by (conv => rhs; whnf))
  exact fun x _ => x
noncomputable def s847 : Scope := by
  refine (?f : (x : Scope) → x = fS (sT 42) → Scope) _ (by (conv => rhs; whnf))
  exact fun x _ => x
noncomputable def headK : Params → Frag := fun P => (nat_lit 2, (.mk .none none (.dict #[⟨PyData.keyHash P "type.__subclasses__.Exception.0", (.str "type.__subclasses__.Exception.0" 228), (.int (39) 0)⟩, ⟨PyData.keyHash P "type.__subclasses__.Exception.n", (.str "type.__subclasses__.Exception.n" 229), (.int (1) 0)⟩] 2) #[] : Obj)) :: (nat_lit 3, (.mk (.type "dict") none (.dict #[⟨PyData.keyHash P "__name__", (.str "__name__" 165), (.str "law_pq0478_02" 1270)⟩, ⟨PyData.keyHash P "__doc__", (.str "__doc__" 166), .none⟩, ⟨PyData.keyHash P "__package__", (.str "__package__" 167), .none⟩, ⟨PyData.keyHash P "__loader__", (.str "__loader__" 168), (.builtin "__main__.__loader__#opaque")⟩, ⟨PyData.keyHash P "__spec__", (.str "__spec__" 169), .none⟩, ⟨PyData.keyHash P "__annotations__", (.str "__annotations__" 170), (.ref 6)⟩, ⟨PyData.keyHash P "__builtins__", (.str "__builtins__" 171), (.ref 4)⟩, ⟨PyData.keyHash P "__file__", (.str "__file__" 173), (.str "/claim/cut.py" 172)⟩, ⟨PyData.keyHash P "__cached__", (.str "__cached__" 174), .none⟩, ⟨PyData.keyHash P "_wall", (.str "_wall" 193), (.ref 21)⟩, ⟨PyData.keyHash P "GateloomError", (.str "GateloomError" 231), (.ref 39)⟩, ⟨PyData.keyHash P "SourceError", (.str "SourceError" 247), (.ref 52)⟩, ⟨PyData.keyHash P "Token", (.str "Token" 282), (.ref 71)⟩, ⟨PyData.keyHash P "TokenRow", (.str "TokenRow" 321), (.ref 99)⟩, ⟨PyData.keyHash P "Cursor", (.str "Cursor" 444), (.ref 199)⟩, ⟨PyData.keyHash P "mask", (.str "mask" 453), (.ref 210)⟩, ⟨PyData.keyHash P "vec", (.str "vec" 464), (.ref 218)⟩, ⟨PyData.keyHash P "MOST_BITS", (.str "MOST_BITS" 468), (.int (65536) 467)⟩, ⟨PyData.keyHash P "PLAIN_BITS", (.str "PLAIN_BITS" 470), (.int (32) 469)⟩, ⟨PyData.keyHash P "digit_bits", (.str "digit_bits" 477), (.ref 225)⟩, ⟨PyData.keyHash P "decimal_value", (.str "decimal_value" 486), (.ref 232)⟩, ⟨PyData.keyHash P "size_value", (.str "size_value" 495), (.ref 239)⟩, ⟨PyData.keyHash P "digit_pair", (.str "digit_pair" 503), (.ref 246)⟩, ⟨PyData.keyHash P "grouped", (.str "grouped" 518), (.ref 253)⟩, ⟨PyData.keyHash P "padded_vec", (.str "padded_vec" 530), (.ref 260)⟩, ⟨PyData.keyHash P "numeral", (.str "numeral" 548), (.ref 267)⟩, ⟨PyData.keyHash P "MOST_NEST", (.str "MOST_NEST" 552), (.int (60) 551)⟩, ⟨PyData.keyHash P "MOST_HEIGHT", (.str "MOST_HEIGHT" 554), (.int (200) 553)⟩, ⟨PyData.keyHash P "precedence", (.str "precedence" 561), (.ref 274)⟩, ⟨PyData.keyHash P "is_unary", (.str "is_unary" 568), (.ref 281)⟩, ⟨PyData.keyHash P "plain_operator", (.str "plain_operator" 575), (.ref 288)⟩, ⟨PyData.keyHash P "is_high", (.str "is_high" 581), (.ref 293)⟩, ⟨PyData.keyHash P "ExprParser", (.str "ExprParser" 819), (.ref 471)⟩, ⟨PyData.keyHash P "fixed_range", (.str "fixed_range" 831), (.ref 480)⟩, ⟨PyData.keyHash P "StmtParser", (.str "StmtParser" 1119), (.ref 679)⟩, ⟨PyData.keyHash P "net_kind", (.str "net_kind" 1128), (.ref 688)⟩, ⟨PyData.keyHash P "DeclParser", (.str "DeclParser" 1269), (.ref 796)⟩, ⟨PyData.keyHash P "_law_twigs", (.str "_law_twigs" 1282), (.ref 805)⟩, ⟨PyData.keyHash P "_law_twig", (.str "_law_twig" 1290), (.ref 812)⟩, ⟨PyData.keyHash P "_law_say", (.str "_law_say" 1299), (.ref 819)⟩, ⟨PyData.keyHash P "_law_number", (.str "_law_number" 1307), (.ref 826)⟩, ⟨PyData.keyHash P "_law_shape", (.str "_law_shape" 1323), (.ref 833)⟩, ⟨PyData.keyHash P "_law_ports", (.str "_law_ports" 1340), (.ref 840)⟩, ⟨PyData.keyHash P "law", (.str "law" 1368), (.ref 847)⟩] 44) #[] : Obj)) :: (nat_lit 15, (.mk (.type "tuple") none (.seq #[] 0) #[] : Obj)) :: (nat_lit 17, (.mk (.type "tuple") none (.seq #[(.str "k" 190)] 0) #[] : Obj)) :: (nat_lit 18, (.mk (.type "tuple") none (.seq #[] 0) #[] : Obj)) :: (nat_lit 22, (.mk (.type "tuple") none (.seq #[(.type "Exception")] 0) #[] : Obj)) :: (nat_lit 29, (.mk (.type "tuple") none (.seq #[(.int (-1) 209), (.str "" 210)] 0) #[] : Obj)) :: (nat_lit 30, (.mk (.type "tuple") none (.seq #[] 0) #[] : Obj)) :: (nat_lit 32, (.mk (.type "tuple") none (.seq #[(.str "self" 214), (.str "kind" 215), (.str "at" 216), (.str "detail" 217)] 0) #[] : Obj)) :: (nat_lit 33, (.mk (.type "tuple") none (.seq #[] 0) #[] : Obj)) :: (nat_lit 35, (.mk (.type "code") none (.fields #[(.str "__init__" 211), (.str "GateloomError.__init__" 212), (.str "/claim/cut.py" 213), (.int (7) 0), (.int (4) 0), (.int (0) 0), (.int (0) 0), (.int (3) 0), (.ref 30), (.bool true), (.int (181) 0), (.ref 31), .none, (.ref 32), (.ref 33), (.ref 34), (.int (218) 0), (.int (7) 0), (.str "/claim/cut.py" 219)]) #[] : Obj)) :: (nat_lit 36, (.mk (.type "function") none (.func (fnX "__init__" "GateloomError.__init__" p36 b36 s36 [] (.ref 29) .none .none (.str "gateloom.errors" 194) none (.ref 35) .none)) #[] : Obj)) :: (nat_lit 37, (.mk (.type "tuple") none (.seq #[(.str "at" 221), (.str "detail" 222), (.str "kind" 223)] 0) #[] : Obj)) :: (nat_lit 38, (.mk (.type "dict") none (.dict #[⟨PyData.keyHash P "__module__", (.str "__module__" 203), (.str "gateloom.errors" 194)⟩, ⟨PyData.keyHash P "__firstlineno__", (.str "__firstlineno__" 207), (.int (5) 206)⟩, ⟨PyData.keyHash P "__init__", (.str "__init__" 220), (.ref 36)⟩, ⟨PyData.keyHash P "__static_attributes__", (.str "__static_attributes__" 224), (.ref 37)⟩, ⟨PyData.keyHash P "__weakref__", (.str "__weakref__" 226), (.ref 40)⟩, ⟨PyData.keyHash P "__doc__", (.str "__doc__" 227), .none⟩] 3) #[] : Obj)) :: (nat_lit 39, (.mk (.type "type") none (.cls ⟨"GateloomError", [(.type "Exception")], [(.ref 39), (.type "Exception"), (.type "BaseException"), (.type "object")], 38, "GateloomError", true, [], [(.ref 52)], false, none, false⟩) #[(some (.ref 22)), none, (some (.str "GateloomError" 196)), (some (.str "GateloomError" 204)), (some (.builtin "Exception.__new__")), (some (.bool true))] : Obj)) :: (nat_lit 40, (.mk (.type "getset_descriptor") none (.fields #[(.str "__weakref__" 225), (.ref 39), (.builtin "ExceptionGroup.__weakref__"), .none]) #[] : Obj)) :: (nat_lit 43, (.mk (.type "tuple") none (.seq #[(.ref 39)] 0) #[] : Obj)) :: (nat_lit 50, (.mk (.type "tuple") none (.seq #[] 0) #[] : Obj)) :: (nat_lit 51, (.mk (.type "dict") none (.dict #[⟨PyData.keyHash P "__module__", (.str "__module__" 239), (.str "gateloom.errors" 194)⟩, ⟨PyData.keyHash P "__firstlineno__", (.str "__firstlineno__" 243), (.int (11) 242)⟩, ⟨PyData.keyHash P "__static_attributes__", (.str "__static_attributes__" 244), (.ref 50)⟩, ⟨PyData.keyHash P "__doc__", (.str "__doc__" 245), .none⟩] 2) #[] : Obj)) :: (nat_lit 52, (.mk (.type "type") none (.cls ⟨"SourceError", [(.ref 39)], [(.ref 52), (.ref 39), (.type "Exception"), (.type "BaseException"), (.type "object")], 51, "SourceError", true, [], [], false, none, false⟩) #[(some (.ref 43)), none, (some (.str "SourceError" 232)), (some (.str "SourceError" 240)), (some (.builtin "Exception.__new__")), (some (.bool true))] : Obj)) :: (nat_lit 62, (.mk (.type "tuple") none (.seq #[] 0) #[] : Obj)) :: (nat_lit 64, (.mk (.type "tuple") none (.seq #[(.str "self" 265), (.str "kind" 266), (.str "value" 267), (.str "at" 268)] 0) #[] : Obj)) :: (nat_lit 65, (.mk (.type "tuple") none (.seq #[] 0) #[] : Obj)) :: (nat_lit 67, (.mk (.type "code") none (.fields #[(.str "__init__" 262), (.str "Token.__init__" 263), (.str "/claim/cut.py" 264), (.int (16) 0), (.int (4) 0), (.int (0) 0), (.int (0) 0), (.int (3) 0), (.ref 62), (.bool true), (.int (181) 0), (.ref 63), .none, (.ref 64), (.ref 65), (.ref 66), (.int (269) 0), (.int (16) 0), (.str "/claim/cut.py" 270)]) #[] : Obj)) :: (nat_lit 68, (.mk (.type "function") none (.func (fnX "__init__" "Token.__init__" p68 b68 s68 [] .none .none .none (.str "gateloom.tokens" 248) none (.ref 67) .none)) #[] : Obj)) :: (nat_lit 69, (.mk (.type "tuple") none (.seq #[(.str "at" 272), (.str "kind" 273), (.str "value" 274)] 0) #[] : Obj)) :: (nat_lit 70, (.mk (.type "dict") none (.dict #[⟨PyData.keyHash P "__module__", (.str "__module__" 257), (.str "gateloom.tokens" 248)⟩, ⟨PyData.keyHash P "__firstlineno__", (.str "__firstlineno__" 261), (.int (14) 260)⟩, ⟨PyData.keyHash P "__init__", (.str "__init__" 271), (.ref 68)⟩, ⟨PyData.keyHash P "__static_attributes__", (.str "__static_attributes__" 275), (.ref 69)⟩, ⟨PyData.keyHash P "__dict__", (.str "__dict__" 277), (.ref 72)⟩, ⟨PyData.keyHash P "__weakref__", (.str "__weakref__" 279), (.ref 73)⟩, ⟨PyData.keyHash P "__doc__", (.str "__doc__" 280), .none⟩] 4) #[] : Obj)) :: (nat_lit 71, (.mk (.type "type") none (.cls ⟨"Token", [(.type "object")], [(.ref 71), (.type "object")], 70, "Token", true, [], [], false, none, false⟩) #[none, none, (some (.str "Token" 250)), (some (.str "Token" 258)), (some (.builtin "object.__new__")), (some (.bool true))] : Obj)) :: (nat_lit 72, (.mk (.type "getset_descriptor") none (.fields #[(.str "__dict__" 276), (.ref 71), (.builtin "function.__dict__"), (.builtin "function.__dict__#set")]) #[] : Obj)) :: (nat_lit 73, (.mk (.type "getset_descriptor") none (.fields #[(.str "__weakref__" 278), (.ref 71), (.builtin "ExceptionGroup.__weakref__"), .none]) #[] : Obj)) :: (nat_lit 83, (.mk (.type "tuple") none (.seq #[] 0) #[] : Obj)) :: (nat_lit 85, (.mk (.type "tuple") none (.seq #[(.str "self" 298), (.str "tokens" 299)] 0) #[] : Obj)) :: (nat_lit 86, (.mk (.type "tuple") none (.seq #[] 0) #[] : Obj)) :: (nat_lit 88, (.mk (.type "code") none (.fields #[(.str "__init__" 295), (.str "TokenRow.__init__" 296), (.str "/claim/cut.py" 297), (.int (22) 0), (.int (2) 0), (.int (0) 0), (.int (0) 0), (.int (3) 0), (.ref 83), (.bool true), (.int (181) 0), (.ref 84), .none, (.ref 85), (.ref 86), (.ref 87), (.int (300) 0), (.int (22) 0), (.str "/claim/cut.py" 301)]) #[] : Obj)) :: (nat_lit 89, (.mk (.type "function") none (.func (fnX "__init__" "TokenRow.__init__" p89 b89 s89 [] .none .none .none (.str "gateloom.tokens" 248) none (.ref 88) .none)) #[] : Obj)) :: (nat_lit 90, (.mk (.type "tuple") none (.seq #[] 0) #[] : Obj)) :: (nat_lit 92, (.mk (.type "tuple") none (.seq #[(.str "self" 306), (.str "token" 307)] 0) #[] : Obj)) :: (nat_lit 93, (.mk (.type "tuple") none (.seq #[] 0) #[] : Obj)) :: (nat_lit 95, (.mk (.type "code") none (.fields #[(.str "next_token" 303), (.str "TokenRow.next_token" 304), (.str "/claim/cut.py" 305), (.int (27) 0), (.int (1) 0), (.int (0) 0), (.int (0) 0), (.int (3) 0), (.ref 90), (.bool true), (.int (181) 0), (.ref 91), .none, (.ref 92), (.ref 93), (.ref 94), (.int (308) 0), (.int (27) 0), (.str "/claim/cut.py" 309)]) #[] : Obj)) :: (nat_lit 96, (.mk (.type "function") none (.func (fnX "next_token" "TokenRow.next_token" p96 b96 s96 [] .none .none .none (.str "gateloom.tokens" 248) none (.ref 95) .none)) #[] : Obj)) :: (nat_lit 97, (.mk (.type "tuple") none (.seq #[(.str "parted" 311), (.str "place" 312), (.str "tokens" 313)] 0) #[] : Obj)) :: (nat_lit 98, (.mk (.type "dict") none (.dict #[⟨PyData.keyHash P "__module__", (.str "__module__" 290), (.str "gateloom.tokens" 248)⟩, ⟨PyData.keyHash P "__firstlineno__", (.str "__firstlineno__" 294), (.int (20) 293)⟩, ⟨PyData.keyHash P "__init__", (.str "__init__" 302), (.ref 89)⟩, ⟨PyData.keyHash P "next_token", (.str "next_token" 310), (.ref 96)⟩, ⟨PyData.keyHash P "__static_attributes__", (.str "__static_attributes__" 314), (.ref 97)⟩, ⟨PyData.keyHash P "__dict__", (.str "__dict__" 316), (.ref 100)⟩, ⟨PyData.keyHash P "__weakref__", (.str "__weakref__" 318), (.ref 101)⟩, ⟨PyData.keyHash P "__doc__", (.str "__doc__" 319), .none⟩] 4) #[] : Obj)) :: (nat_lit 99, (.mk (.type "type") none (.cls ⟨"TokenRow", [(.type "object")], [(.ref 99), (.type "object")], 98, "TokenRow", true, [], [], false, none, false⟩) #[none, none, (some (.str "TokenRow" 283)), (some (.str "TokenRow" 291)), (some (.builtin "object.__new__")), (some (.bool true))] : Obj)) :: (nat_lit 100, (.mk (.type "getset_descriptor") none (.fields #[(.str "__dict__" 315), (.ref 99), (.builtin "function.__dict__"), (.builtin "function.__dict__#set")]) #[] : Obj)) :: (nat_lit 101, (.mk (.type "getset_descriptor") none (.fields #[(.str "__weakref__" 317), (.ref 99), (.builtin "ExceptionGroup.__weakref__"), .none]) #[] : Obj)) :: (nat_lit 111, (.mk (.type "tuple") none (.seq #[] 0) #[] : Obj)) :: (nat_lit 113, (.mk (.type "tuple") none (.seq #[(.str "self" 337), (.str "source" 338)] 0) #[] : Obj)) :: (nat_lit 114, (.mk (.type "tuple") none (.seq #[] 0) #[] : Obj)) :: (nat_lit 116, (.mk (.type "code") none (.fields #[(.str "__init__" 334), (.str "Cursor.__init__" 335), (.str "/claim/cut.py" 336), (.int (35) 0), (.int (2) 0), (.int (0) 0), (.int (0) 0), (.int (3) 0), (.ref 111), (.bool true), (.int (181) 0), (.ref 112), .none, (.ref 113), (.ref 114), (.ref 115), (.int (339) 0), (.int (35) 0), (.str "/claim/cut.py" 340)]) #[] : Obj)) :: (nat_lit 117, (.mk (.type "function") none (.func (fnX "__init__" "Cursor.__init__" p117 b117 s117 [] .none .none .none (.str "gateloom.tokens" 248) none (.ref 116) .none)) #[] : Obj)) :: (nat_lit 118, (.mk (.type "tuple") none (.seq #[] 0) #[] : Obj)) :: (nat_lit 120, (.mk (.type "tuple") none (.seq #[(.str "self" 345), (.str "token" 346)] 0) #[] : Obj)) :: (nat_lit 121, (.mk (.type "tuple") none (.seq #[] 0) #[] : Obj)) :: (nat_lit 123, (.mk (.type "code") none (.fields #[(.str "fetch" 342), (.str "Cursor.fetch" 343), (.str "/claim/cut.py" 344), (.int (42) 0), (.int (1) 0), (.int (0) 0), (.int (0) 0), (.int (3) 0), (.ref 118), (.bool true), (.int (181) 0), (.ref 119), .none, (.ref 120), (.ref 121), (.ref 122), (.int (347) 0), (.int (42) 0), (.str "/claim/cut.py" 348)]) #[] : Obj)) :: (nat_lit 124, (.mk (.type "function") none (.func (fnX "fetch" "Cursor.fetch" p124 b124 s124 [] .none .none .none (.str "gateloom.tokens" 248) none (.ref 123) .none)) #[] : Obj)) :: (nat_lit 125, (.mk (.type "tuple") none (.seq #[(.int (0) 350)] 0) #[] : Obj)) :: (nat_lit 126, (.mk (.type "tuple") none (.seq #[] 0) #[] : Obj)) :: (nat_lit 128, (.mk (.type "tuple") none (.seq #[(.str "self" 354), (.str "n" 355)] 0) #[] : Obj)) :: (nat_lit 129, (.mk (.type "tuple") none (.seq #[] 0) #[] : Obj)) :: (nat_lit 131, (.mk (.type "code") none (.fields #[(.str "peek" 351), (.str "Cursor.peek" 352), (.str "/claim/cut.py" 353), (.int (48) 0), (.int (2) 0), (.int (0) 0), (.int (0) 0), (.int (3) 0), (.ref 126), (.bool true), (.int (181) 0), (.ref 127), .none, (.ref 128), (.ref 129), (.ref 130), (.int (356) 0), (.int (48) 0), (.str "/claim/cut.py" 357)]) #[] : Obj)) :: (nat_lit 132, (.mk (.type "function") none (.func (fnX "peek" "Cursor.peek" p132 b132 s132 [] (.ref 125) .none .none (.str "gateloom.tokens" 248) none (.ref 131) .none)) #[] : Obj)) :: (nat_lit 133, (.mk (.type "tuple") none (.seq #[] 0) #[] : Obj)) :: (nat_lit 135, (.mk (.type "tuple") none (.seq #[(.str "self" 362), (.str "token" 363)] 0) #[] : Obj)) :: (nat_lit 136, (.mk (.type "tuple") none (.seq #[] 0) #[] : Obj)) :: (nat_lit 138, (.mk (.type "code") none (.fields #[(.str "take" 359), (.str "Cursor.take" 360), (.str "/claim/cut.py" 361), (.int (55) 0), (.int (1) 0), (.int (0) 0), (.int (0) 0), (.int (3) 0), (.ref 133), (.bool true), (.int (181) 0), (.ref 134), .none, (.ref 135), (.ref 136), (.ref 137), (.int (364) 0), (.int (55) 0), (.str "/claim/cut.py" 365)]) #[] : Obj)) :: (nat_lit 139, (.mk (.type "function") none (.func (fnX "take" "Cursor.take" p139 b139 s139 [] .none .none .none (.str "gateloom.tokens" 248) none (.ref 138) .none)) #[] : Obj)) :: (nat_lit 140, (.mk (.type "tuple") none (.seq #[] 0) #[] : Obj)) :: (nat_lit 142, (.mk (.type "tuple") none (.seq #[(.str "self" 370), (.str "text" 371)] 0) #[] : Obj)) :: (nat_lit 143, (.mk (.type "tuple") none (.seq #[] 0) #[] : Obj)) :: (nat_lit 145, (.mk (.type "code") none (.fields #[(.str "is_op" 367), (.str "Cursor.is_op" 368), (.str "/claim/cut.py" 369), (.int (64) 0), (.int (2) 0), (.int (0) 0), (.int (0) 0), (.int (3) 0), (.ref 140), (.bool true), (.int (181) 0), (.ref 141), .none, (.ref 142), (.ref 143), (.ref 144), (.int (372) 0), (.int (64) 0), (.str "/claim/cut.py" 373)]) #[] : Obj)) :: (nat_lit 146, (.mk (.type "function") none (.func (fnX "is_op" "Cursor.is_op" p146 b146 s146 [] .none .none .none (.str "gateloom.tokens" 248) none (.ref 145) .none)) #[] : Obj)) :: (nat_lit 147, (.mk (.type "tuple") none (.seq #[] 0) #[] : Obj)) :: (nat_lit 149, (.mk (.type "tuple") none (.seq #[(.str "self" 378), (.str "text" 379)] 0) #[] : Obj)) :: (nat_lit 150, (.mk (.type "tuple") none (.seq #[] 0) #[] : Obj)) :: (nat_lit 152, (.mk (.type "code") none (.fields #[(.str "is_key" 375), (.str "Cursor.is_key" 376), (.str "/claim/cut.py" 377), (.int (67) 0), (.int (2) 0), (.int (0) 0), (.int (0) 0), (.int (3) 0), (.ref 147), (.bool true), (.int (181) 0), (.ref 148), .none, (.ref 149), (.ref 150), (.ref 151), (.int (380) 0), (.int (67) 0), (.str "/claim/cut.py" 381)]) #[] : Obj)) :: (nat_lit 153, (.mk (.type "function") none (.func (fnX "is_key" "Cursor.is_key" p153 b153 s153 [] .none .none .none (.str "gateloom.tokens" 248) none (.ref 152) .none)) #[] : Obj)) :: (nat_lit 154, (.mk (.type "tuple") none (.seq #[] 0) #[] : Obj)) :: (nat_lit 156, (.mk (.type "tuple") none (.seq #[(.str "self" 386), (.str "text" 387)] 0) #[] : Obj)) :: (nat_lit 157, (.mk (.type "tuple") none (.seq #[] 0) #[] : Obj)) :: (nat_lit 159, (.mk (.type "code") none (.fields #[(.str "accept_op" 383), (.str "Cursor.accept_op" 384), (.str "/claim/cut.py" 385), (.int (70) 0), (.int (2) 0), (.int (0) 0), (.int (0) 0), (.int (3) 0), (.ref 154), (.bool true), (.int (181) 0), (.ref 155), .none, (.ref 156), (.ref 157), (.ref 158), (.int (388) 0), (.int (70) 0), (.str "/claim/cut.py" 389)]) #[] : Obj)) :: (nat_lit 160, (.mk (.type "function") none (.func (fnX "accept_op" "Cursor.accept_op" p160 b160 s160 [] .none .none .none (.str "gateloom.tokens" 248) none (.ref 159) .none)) #[] : Obj)) :: (nat_lit 161, (.mk (.type "tuple") none (.seq #[] 0) #[] : Obj)) :: (nat_lit 163, (.mk (.type "tuple") none (.seq #[(.str "self" 394), (.str "text" 395)] 0) #[] : Obj)) :: (nat_lit 164, (.mk (.type "tuple") none (.seq #[] 0) #[] : Obj)) :: (nat_lit 166, (.mk (.type "code") none (.fields #[(.str "accept_key" 391), (.str "Cursor.accept_key" 392), (.str "/claim/cut.py" 393), (.int (76) 0), (.int (2) 0), (.int (0) 0), (.int (0) 0), (.int (3) 0), (.ref 161), (.bool true), (.int (181) 0), (.ref 162), .none, (.ref 163), (.ref 164), (.ref 165), (.int (396) 0), (.int (76) 0), (.str "/claim/cut.py" 397)]) #[] : Obj)) :: (nat_lit 167, (.mk (.type "function") none (.func (fnX "accept_key" "Cursor.accept_key" p167 b167 s167 [] .none .none .none (.str "gateloom.tokens" 248) none (.ref 166) .none)) #[] : Obj)) :: (nat_lit 168, (.mk (.type "tuple") none (.seq #[] 0) #[] : Obj)) :: (nat_lit 170, (.mk (.type "tuple") none (.seq #[(.str "self" 402), (.str "text" 403)] 0) #[] : Obj)) :: (nat_lit 171, (.mk (.type "tuple") none (.seq #[] 0) #[] : Obj)) :: (nat_lit 173, (.mk (.type "code") none (.fields #[(.str "expect_op" 399), (.str "Cursor.expect_op" 400), (.str "/claim/cut.py" 401), (.int (82) 0), (.int (2) 0), (.int (0) 0), (.int (0) 0), (.int (3) 0), (.ref 168), (.bool true), (.int (181) 0), (.ref 169), .none, (.ref 170), (.ref 171), (.ref 172), (.int (404) 0), (.int (82) 0), (.str "/claim/cut.py" 405)]) #[] : Obj)) :: (nat_lit 174, (.mk (.type "function") none (.func (fnX "expect_op" "Cursor.expect_op" p174 b174 s174 [] .none .none .none (.str "gateloom.tokens" 248) none (.ref 173) .none)) #[] : Obj)) :: (nat_lit 175, (.mk (.type "tuple") none (.seq #[] 0) #[] : Obj)) :: (nat_lit 177, (.mk (.type "tuple") none (.seq #[(.str "self" 410), (.str "text" 411)] 0) #[] : Obj)) :: (nat_lit 178, (.mk (.type "tuple") none (.seq #[] 0) #[] : Obj)) :: (nat_lit 180, (.mk (.type "code") none (.fields #[(.str "expect_key" 407), (.str "Cursor.expect_key" 408), (.str "/claim/cut.py" 409), (.int (86) 0), (.int (2) 0), (.int (0) 0), (.int (0) 0), (.int (3) 0), (.ref 175), (.bool true), (.int (181) 0), (.ref 176), .none, (.ref 177), (.ref 178), (.ref 179), (.int (412) 0), (.int (86) 0), (.str "/claim/cut.py" 413)]) #[] : Obj)) :: (nat_lit 181, (.mk (.type "function") none (.func (fnX "expect_key" "Cursor.expect_key" p181 b181 s181 [] .none .none .none (.str "gateloom.tokens" 248) none (.ref 180) .none)) #[] : Obj)) :: (nat_lit 182, (.mk (.type "tuple") none (.seq #[] 0) #[] : Obj)) :: (nat_lit 184, (.mk (.type "tuple") none (.seq #[(.str "self" 418)] 0) #[] : Obj)) :: (nat_lit 185, (.mk (.type "tuple") none (.seq #[] 0) #[] : Obj)) :: (nat_lit 187, (.mk (.type "code") none (.fields #[(.str "expect_id" 415), (.str "Cursor.expect_id" 416), (.str "/claim/cut.py" 417), (.int (90) 0), (.int (1) 0), (.int (0) 0), (.int (0) 0), (.int (3) 0), (.ref 182), (.bool true), (.int (181) 0), (.ref 183), .none, (.ref 184), (.ref 185), (.ref 186), (.int (419) 0), (.int (90) 0), (.str "/claim/cut.py" 420)]) #[] : Obj)) :: (nat_lit 188, (.mk (.type "function") none (.func (fnX "expect_id" "Cursor.expect_id" p188 b188 s188 [] .none .none .none (.str "gateloom.tokens" 248) none (.ref 187) .none)) #[] : Obj)) :: (nat_lit 189, (.mk (.type "tuple") none (.seq #[(.str "" 422)] 0) #[] : Obj)) :: (nat_lit 190, (.mk (.type "tuple") none (.seq #[] 0) #[] : Obj)) :: (nat_lit 192, (.mk (.type "tuple") none (.seq #[(.str "self" 426), (.str "kind" 427), (.str "detail" 428)] 0) #[] : Obj)) :: (nat_lit 193, (.mk (.type "tuple") none (.seq #[] 0) #[] : Obj)) :: (nat_lit 195, (.mk (.type "code") none (.fields #[(.str "fail" 423), (.str "Cursor.fail" 424), (.str "/claim/cut.py" 425), (.int (95) 0), (.int (3) 0), (.int (0) 0), (.int (0) 0), (.int (3) 0), (.ref 190), (.bool true), (.int (181) 0), (.ref 191), .none, (.ref 192), (.ref 193), (.ref 194), (.int (429) 0), (.int (95) 0), (.str "/claim/cut.py" 430)]) #[] : Obj)) :: (nat_lit 196, (.mk (.type "function") none (.func (fnX "fail" "Cursor.fail" p196 b196 s196 [] (.ref 189) .none .none (.str "gateloom.tokens" 248) none (.ref 195) .none)) #[] : Obj)) :: (nat_lit 197, (.mk (.type "tuple") none (.seq #[(.str "ahead" 432), (.str "at" 433), (.str "hashed" 434), (.str "source" 435), (.str "token" 436)] 0) #[] : Obj)) :: (nat_lit 198, (.mk (.type "dict") none (.dict #[⟨PyData.keyHash P "__module__", (.str "__module__" 329), (.str "gateloom.tokens" 248)⟩, ⟨PyData.keyHash P "__firstlineno__", (.str "__firstlineno__" 333), (.int (33) 332)⟩, ⟨PyData.keyHash P "__init__", (.str "__init__" 341), (.ref 117)⟩, ⟨PyData.keyHash P "fetch", (.str "fetch" 349), (.ref 124)⟩, ⟨PyData.keyHash P "peek", (.str "peek" 358), (.ref 132)⟩, ⟨PyData.keyHash P "take", (.str "take" 366), (.ref 139)⟩, ⟨PyData.keyHash P "is_op", (.str "is_op" 374), (.ref 146)⟩, ⟨PyData.keyHash P "is_key", (.str "is_key" 382), (.ref 153)⟩, ⟨PyData.keyHash P "accept_op", (.str "accept_op" 390), (.ref 160)⟩, ⟨PyData.keyHash P "accept_key", (.str "accept_key" 398), (.ref 167)⟩, ⟨PyData.keyHash P "expect_op", (.str "expect_op" 406), (.ref 174)⟩, ⟨PyData.keyHash P "expect_key", (.str "expect_key" 414), (.ref 181)⟩, ⟨PyData.keyHash P "expect_id", (.str "expect_id" 421), (.ref 188)⟩, ⟨PyData.keyHash P "fail", (.str "fail" 431), (.ref 196)⟩, ⟨PyData.keyHash P "__static_attributes__", (.str "__static_attributes__" 437), (.ref 197)⟩, ⟨PyData.keyHash P "__dict__", (.str "__dict__" 439), (.ref 200)⟩, ⟨PyData.keyHash P "__weakref__", (.str "__weakref__" 441), (.ref 201)⟩, ⟨PyData.keyHash P "__doc__", (.str "__doc__" 442), .none⟩] 4) #[] : Obj)) :: (nat_lit 199, (.mk (.type "type") none (.cls ⟨"Cursor", [(.type "object")], [(.ref 199), (.type "object")], 198, "Cursor", true, [], [(.ref 471)], false, none, false⟩) #[none, none, (some (.str "Cursor" 322)), (some (.str "Cursor" 330)), (some (.builtin "object.__new__")), (some (.bool true))] : Obj)) :: (nat_lit 200, (.mk (.type "getset_descriptor") none (.fields #[(.str "__dict__" 438), (.ref 199), (.builtin "function.__dict__"), (.builtin "function.__dict__#set")]) #[] : Obj)) :: (nat_lit 201, (.mk (.type "getset_descriptor") none (.fields #[(.str "__weakref__" 440), (.ref 199), (.builtin "ExceptionGroup.__weakref__"), .none]) #[] : Obj)) :: (nat_lit 204, (.mk (.type "tuple") none (.seq #[] 0) #[] : Obj)) :: (nat_lit 206, (.mk (.type "tuple") none (.seq #[(.str "w" 450)] 0) #[] : Obj)) :: (nat_lit 207, (.mk (.type "tuple") none (.seq #[] 0) #[] : Obj)) :: (nat_lit 209, (.mk (.type "code") none (.fields #[(.str "mask" 447), (.str "mask" 448), (.str "/claim/cut.py" 449), (.int (98) 0), (.int (1) 0), (.int (0) 0), (.int (0) 0), (.int (3) 0), (.ref 204), (.bool true), (.int (181) 0), (.ref 205), .none, (.ref 206), (.ref 207), (.ref 208), (.int (451) 0), (.int (98) 0), (.str "/claim/cut.py" 452)]) #[] : Obj)) :: (nat_lit 210, (.mk (.type "function") none (.func (fnX "mask" "mask" p210 b210 s210 [] .none .none .none (.str "gateloom.vec" 445) none (.ref 209) .none)) #[] : Obj)) :: (nat_lit 211, (.mk (.type "tuple") none (.seq #[(.int (0) 454)] 0) #[] : Obj)) :: (nat_lit 212, (.mk (.type "tuple") none (.seq #[] 0) #[] : Obj)) :: (nat_lit 214, (.mk (.type "tuple") none (.seq #[(.str "w" 458), (.str "a" 459), (.str "b" 460), (.str "full" 461)] 0) #[] : Obj)) :: (nat_lit 215, (.mk (.type "tuple") none (.seq #[] 0) #[] : Obj)) :: (nat_lit 217, (.mk (.type "code") none (.fields #[(.str "vec" 455), (.str "vec" 456), (.str "/claim/cut.py" 457), (.int (100) 0), (.int (3) 0), (.int (0) 0), (.int (0) 0), (.int (3) 0), (.ref 212), (.bool true), (.int (181) 0), (.ref 213), .none, (.ref 214), (.ref 215), (.ref 216), (.int (462) 0), (.int (100) 0), (.str "/claim/cut.py" 463)]) #[] : Obj)) :: (nat_lit 218, (.mk (.type "function") none (.func (fnX "vec" "vec" p218 b218 s218 [] (.ref 211) .none .none (.str "gateloom.vec" 445) none (.ref 217) .none)) #[] : Obj)) :: (nat_lit 219, (.mk (.type "tuple") none (.seq #[] 0) #[] : Obj)) :: (nat_lit 221, (.mk (.type "tuple") none (.seq #[(.str "base" 474)] 0) #[] : Obj)) :: (nat_lit 222, (.mk (.type "tuple") none (.seq #[] 0) #[] : Obj)) :: (nat_lit 226, (.mk (.type "tuple") none (.seq #[] 0) #[] : Obj)) :: (nat_lit 228, (.mk (.type "tuple") none (.seq #[(.str "digits" 481), (.str "value" 482), (.str "digit" 483)] 0) #[] : Obj)) :: (nat_lit 229, (.mk (.type "tuple") none (.seq #[] 0) #[] : Obj)) :: (nat_lit 231, (.mk (.type "code") none (.fields #[(.str "decimal_value" 478), (.str "decimal_value" 479), (.str "/claim/cut.py" 480), (.int (112) 0), (.int (1) 0), (.int (0) 0), (.int (0) 0), (.int (3) 0), (.ref 226), (.bool true), (.int (181) 0), (.ref 227), .none, (.ref 228), (.ref 229), (.ref 230), (.int (484) 0), (.int (112) 0), (.str "/claim/cut.py" 485)]) #[] : Obj)) :: (nat_lit 232, (.mk (.type "function") none (.func (fnX "decimal_value" "decimal_value" p232 b232 s232 [] .none .none .none (.str "gateloom.numerals" 465) none (.ref 231) .none)) #[] : Obj)) :: (nat_lit 233, (.mk (.type "tuple") none (.seq #[] 0) #[] : Obj)) :: (nat_lit 235, (.mk (.type "tuple") none (.seq #[(.str "size" 490), (.str "at" 491), (.str "digits" 492)] 0) #[] : Obj)) :: (nat_lit 236, (.mk (.type "tuple") none (.seq #[] 0) #[] : Obj)) :: (nat_lit 240, (.mk (.type "tuple") none (.seq #[] 0) #[] : Obj)) :: (nat_lit 242, (.mk (.type "tuple") none (.seq #[(.str "digit" 499), (.str "full" 500)] 0) #[] : Obj)) :: (nat_lit 243, (.mk (.type "tuple") none (.seq #[] 0) #[] : Obj)) :: (nat_lit 247, (.mk (.type "tuple") none (.seq #[] 0) #[] : Obj)) :: (nat_lit 249, (.mk (.type "tuple") none (.seq #[(.str "base" 507), (.str "digits" 508), (.str "count" 509), (.str "full" 510), (.str "a" 511), (.str "b" 512), (.str "digit" 513), (.str "low" 514), (.str "high" 515)] 0) #[] : Obj)) :: (nat_lit 250, (.mk (.type "tuple") none (.seq #[] 0) #[] : Obj)) :: (nat_lit 254, (.mk (.type "tuple") none (.seq #[] 0) #[] : Obj)) :: (nat_lit 256, (.mk (.type "tuple") none (.seq #[(.str "w" 522), (.str "width" 523), (.str "a" 524), (.str "b" 525), (.str "first" 526), (.str "fill" 527)] 0) #[] : Obj)) :: (nat_lit 257, (.mk (.type "tuple") none (.seq #[] 0) #[] : Obj)) :: (nat_lit 259, (.mk (.type "code") none (.fields #[(.str "padded_vec" 519), (.str "padded_vec" 520), (.str "/claim/cut.py" 521), (.int (138) 0), (.int (5) 0), (.int (0) 0), (.int (0) 0), (.int (3) 0), (.ref 254), (.bool true), (.int (181) 0), (.ref 255), .none, (.ref 256), (.ref 257), (.ref 258), (.int (528) 0), (.int (138) 0), (.str "/claim/cut.py" 529)]) #[] : Obj)) :: (nat_lit 260, (.mk (.type "function") none (.func (fnX "padded_vec" "padded_vec" p260 b260 s260 [] .none .none .none (.str "gateloom.numerals" 465) none (.ref 259) .none)) #[] : Obj)) :: (nat_lit 261, (.mk (.type "tuple") none (.seq #[] 0) #[] : Obj)) :: (nat_lit 263, (.mk (.type "tuple") none (.seq #[(.str "value" 534), (.str "at" 535), (.str "size" 536), (.str "base" 537), (.str "signed" 538), (.str "digits" 539), (.str "first" 540), (.str "plain" 541), (.str "width" 542), (.str "a" 543), (.str "b" 544), (.str "w" 545)] 0) #[] : Obj)) :: (nat_lit 264, (.mk (.type "tuple") none (.seq #[] 0) #[] : Obj)) :: (nat_lit 266, (.mk (.type "code") none (.fields #[(.str "numeral" 531), (.str "numeral" 532), (.str "/claim/cut.py" 533), (.int (146) 0), (.int (2) 0), (.int (0) 0), (.int (0) 0), (.int (3) 0), (.ref 261), (.bool true), (.int (181) 0), (.ref 262), .none, (.ref 263), (.ref 264), (.ref 265), (.int (546) 0), (.int (146) 0), (.str "/claim/cut.py" 547)]) #[] : Obj)) :: (nat_lit 267, (.mk (.type "function") none (.func (fnX "numeral" "numeral" p267 b267 s267 [] .none .none .none (.str "gateloom.numerals" 465) none (.ref 266) .none)) #[] : Obj)) :: (nat_lit 268, (.mk (.type "tuple") none (.seq #[] 0) #[] : Obj)) :: (nat_lit 270, (.mk (.type "tuple") none (.seq #[(.str "op" 558)] 0) #[] : Obj)) :: (nat_lit 271, (.mk (.type "tuple") none (.seq #[] 0) #[] : Obj)) :: (nat_lit 273, (.mk (.type "code") none (.fields #[(.str "precedence" 555), (.str "precedence" 556), (.str "/claim/cut.py" 557), (.int (172) 0), (.int (1) 0), (.int (0) 0), (.int (0) 0), (.int (3) 0), (.ref 268), (.bool true), (.int (181) 0), (.ref 269), .none, (.ref 270), (.ref 271), (.ref 272), (.int (559) 0), (.int (172) 0), (.str "/claim/cut.py" 560)]) #[] : Obj)) :: (nat_lit 274, (.mk (.type "function") none (.func (fnX "precedence" "precedence" p274 b274 s274 [] .none .none .none (.str "gateloom.exprparse" 549) none (.ref 273) .none)) #[] : Obj)) :: (nat_lit 275, (.mk (.type "tuple") none (.seq #[] 0) #[] : Obj)) :: (nat_lit 277, (.mk (.type "tuple") none (.seq #[(.str "op" 565)] 0) #[] : Obj)) :: (nat_lit 278, (.mk (.type "tuple") none (.seq #[] 0) #[] : Obj)) :: (nat_lit 282, (.mk (.type "tuple") none (.seq #[] 0) #[] : Obj)) :: (nat_lit 284, (.mk (.type "tuple") none (.seq #[(.str "op" 572)] 0) #[] : Obj)) :: (nat_lit 285, (.mk (.type "tuple") none (.seq #[] 0) #[] : Obj)) :: (nat_lit 289, (.mk (.type "tuple") none (.seq #[] 0) #[] : Obj)) :: (nat_lit 292, (.mk (.type "code") none (.fields #[(.str "is_high" 576), (.str "is_high" 577), (.str "/claim/cut.py" 578), (.int (202) 0), (.int (1) 0), (.int (0) 0), (.int (0) 0), (.int (3) 0), (.ref 289), (.bool true), (.int (181) 0), (.ref 290), .none, .none, .none, (.ref 291), (.int (579) 0), (.int (202) 0), (.str "/claim/cut.py" 580)]) #[] : Obj)) :: (nat_lit 293, (.mk (.type "function") none (.func (fnX "is_high" "is_high" p293 b293 s293 [] .none .none .none (.str "gateloom.exprparse" 549) none (.ref 292) .none)) #[] : Obj)) :: (nat_lit 294, (.mk (.type "tuple") none (.seq #[(.ref 199)] 0) #[] : Obj)) :: (nat_lit 301, (.mk (.type "tuple") none (.seq #[] 0) #[] : Obj)) :: (nat_lit 303, (.mk (.type "tuple") none (.seq #[(.str "self" 597), (.str "source" 598)] 0) #[] : Obj)) :: (nat_lit 304, (.mk (.type "tuple") none (.seq #[] 0) #[] : Obj)) :: (nat_lit 306, (.mk (.type "code") none (.fields #[(.str "__init__" 594), (.str "ExprParser.__init__" 595), (.str "/claim/cut.py" 596), (.int (211) 0), (.int (2) 0), (.int (0) 0), (.int (0) 0), (.int (3) 0), (.ref 301), (.bool true), (.int (181) 0), (.ref 302), .none, (.ref 303), (.ref 304), (.ref 305), (.int (599) 0), (.int (211) 0), (.str "/claim/cut.py" 600)]) #[] : Obj)) :: (nat_lit 307, (.mk (.type "function") none (.func (fnX "__init__" "ExprParser.__init__" p307 b307 s307 [] .none .none .none (.str "gateloom.exprparse" 549) none (.ref 306) .none)) #[] : Obj)) :: (nat_lit 308, (.mk (.type "tuple") none (.seq #[] 0) #[] : Obj)) :: (nat_lit 310, (.mk (.type "tuple") none (.seq #[(.str "self" 605)] 0) #[] : Obj)) :: (nat_lit 311, (.mk (.type "tuple") none (.seq #[] 0) #[] : Obj)) :: (nat_lit 313, (.mk (.type "code") none (.fields #[(.str "enter" 602), (.str "ExprParser.enter" 603), (.str "/claim/cut.py" 604), (.int (217) 0), (.int (1) 0), (.int (0) 0), (.int (0) 0), (.int (3) 0), (.ref 308), (.bool true), (.int (181) 0), (.ref 309), .none, (.ref 310), (.ref 311), (.ref 312), (.int (606) 0), (.int (217) 0), (.str "/claim/cut.py" 607)]) #[] : Obj)) :: (nat_lit 314, (.mk (.type "function") none (.func (fnX "enter" "ExprParser.enter" p314 b314 s314 [] .none .none .none (.str "gateloom.exprparse" 549) none (.ref 313) .none)) #[] : Obj)) :: (nat_lit 315, (.mk (.type "tuple") none (.seq #[] 0) #[] : Obj)) :: (nat_lit 317, (.mk (.type "tuple") none (.seq #[(.str "self" 612)] 0) #[] : Obj)) :: (nat_lit 318, (.mk (.type "tuple") none (.seq #[] 0) #[] : Obj)) :: (nat_lit 320, (.mk (.type "code") none (.fields #[(.str "leave" 609), (.str "ExprParser.leave" 610), (.str "/claim/cut.py" 611), (.int (222) 0), (.int (1) 0), (.int (0) 0), (.int (0) 0), (.int (3) 0), (.ref 315), (.bool true), (.int (181) 0), (.ref 316), .none, (.ref 317), (.ref 318), (.ref 319), (.int (613) 0), (.int (222) 0), (.str "/claim/cut.py" 614)]) #[] : Obj)) :: (nat_lit 321, (.mk (.type "function") none (.func (fnX "leave" "ExprParser.leave" p321 b321 s321 [] .none .none .none (.str "gateloom.exprparse" 549) none (.ref 320) .none)) #[] : Obj)) :: (nat_lit 322, (.mk (.type "tuple") none (.seq #[] 0) #[] : Obj)) :: (nat_lit 324, (.mk (.type "tuple") none (.seq #[(.str "self" 619), (.str "at" 620), (.str "found" 621)] 0) #[] : Obj)) :: (nat_lit 325, (.mk (.type "tuple") none (.seq #[] 0) #[] : Obj)) :: (nat_lit 327, (.mk (.type "code") none (.fields #[(.str "expression" 616), (.str "ExprParser.expression" 617), (.str "/claim/cut.py" 618), (.int (225) 0), (.int (1) 0), (.int (0) 0), (.int (0) 0), (.int (3) 0), (.ref 322), (.bool true), (.int (181) 0), (.ref 323), .none, (.ref 324), (.ref 325), (.ref 326), (.int (622) 0), (.int (225) 0), (.str "/claim/cut.py" 623)]) #[] : Obj)) :: (nat_lit 328, (.mk (.type "function") none (.func (fnX "expression" "ExprParser.expression" p328 b328 s328 [] .none .none .none (.str "gateloom.exprparse" 549) none (.ref 327) .none)) #[] : Obj)) :: (nat_lit 329, (.mk (.type "tuple") none (.seq #[] 0) #[] : Obj)) :: (nat_lit 331, (.mk (.type "tuple") none (.seq #[(.str "self" 628), (.str "tests" 629), (.str "last" 630), (.str "at" 631), (.str "chosen" 632), (.str "test" 633)] 0) #[] : Obj)) :: (nat_lit 332, (.mk (.type "tuple") none (.seq #[] 0) #[] : Obj)) :: (nat_lit 334, (.mk (.type "code") none (.fields #[(.str "inner_expression" 625), (.str "ExprParser.inner_expression" 626), (.str "/claim/cut.py" 627), (.int (236) 0), (.int (1) 0), (.int (0) 0), (.int (0) 0), (.int (3) 0), (.ref 329), (.bool true), (.int (181) 0), (.ref 330), .none, (.ref 331), (.ref 332), (.ref 333), (.int (634) 0), (.int (236) 0), (.str "/claim/cut.py" 635)]) #[] : Obj)) :: (nat_lit 335, (.mk (.type "function") none (.func (fnX "inner_expression" "ExprParser.inner_expression" p335 b335 s335 [] .none .none .none (.str "gateloom.exprparse" 549) none (.ref 334) .none)) #[] : Obj)) :: (nat_lit 336, (.mk (.type "tuple") none (.seq #[] 0) #[] : Obj)) :: (nat_lit 338, (.mk (.type "tuple") none (.seq #[(.str "self" 640), (.str "least" 641), (.str "left" 642), (.str "at" 643), (.str "op" 644), (.str "right" 645)] 0) #[] : Obj)) :: (nat_lit 339, (.mk (.type "tuple") none (.seq #[] 0) #[] : Obj)) :: (nat_lit 341, (.mk (.type "code") none (.fields #[(.str "binary" 637), (.str "ExprParser.binary" 638), (.str "/claim/cut.py" 639), (.int (250) 0), (.int (2) 0), (.int (0) 0), (.int (0) 0), (.int (3) 0), (.ref 336), (.bool true), (.int (181) 0), (.ref 337), .none, (.ref 338), (.ref 339), (.ref 340), (.int (646) 0), (.int (250) 0), (.str "/claim/cut.py" 647)]) #[] : Obj)) :: (nat_lit 342, (.mk (.type "function") none (.func (fnX "binary" "ExprParser.binary" p342 b342 s342 [] .none .none .none (.str "gateloom.exprparse" 549) none (.ref 341) .none)) #[] : Obj)) :: (nat_lit 343, (.mk (.type "tuple") none (.seq #[] 0) #[] : Obj)) :: (nat_lit 345, (.mk (.type "tuple") none (.seq #[(.str "self" 652), (.str "signs" 653), (.str "operand" 654), (.str "at" 655), (.str "op" 656)] 0) #[] : Obj)) :: (nat_lit 346, (.mk (.type "tuple") none (.seq #[] 0) #[] : Obj)) :: (nat_lit 348, (.mk (.type "code") none (.fields #[(.str "unary" 649), (.str "ExprParser.unary" 650), (.str "/claim/cut.py" 651), (.int (261) 0), (.int (1) 0), (.int (0) 0), (.int (0) 0), (.int (3) 0), (.ref 343), (.bool true), (.int (181) 0), (.ref 344), .none, (.ref 345), (.ref 346), (.ref 347), (.int (657) 0), (.int (261) 0), (.str "/claim/cut.py" 658)]) #[] : Obj)) :: (nat_lit 349, (.mk (.type "function") none (.func (fnX "unary" "ExprParser.unary" p349 b349 s349 [] .none .none .none (.str "gateloom.exprparse" 549) none (.ref 348) .none)) #[] : Obj)) :: (nat_lit 350, (.mk (.type "tuple") none (.seq #[] 0) #[] : Obj)) :: (nat_lit 352, (.mk (.type "tuple") none (.seq #[(.str "self" 663), (.str "kind" 664), (.str "at" 665), (.str "vec" 666), (.str "signed" 667), (.str "sized" 668), (.str "text" 669), (.str "name" 670), (.str "inner" 671)] 0) #[] : Obj)) :: (nat_lit 353, (.mk (.type "tuple") none (.seq #[] 0) #[] : Obj)) :: (nat_lit 355, (.mk (.type "code") none (.fields #[(.str "primary" 660), (.str "ExprParser.primary" 661), (.str "/claim/cut.py" 662), (.int (271) 0), (.int (1) 0), (.int (0) 0), (.int (0) 0), (.int (3) 0), (.ref 350), (.bool true), (.int (181) 0), (.ref 351), .none, (.ref 352), (.ref 353), (.ref 354), (.int (672) 0), (.int (271) 0), (.str "/claim/cut.py" 673)]) #[] : Obj)) :: (nat_lit 356, (.mk (.type "function") none (.func (fnX "primary" "ExprParser.primary" p356 b356 s356 [] .none .none .none (.str "gateloom.exprparse" 549) none (.ref 355) .none)) #[] : Obj)) :: (nat_lit 357, (.mk (.type "tuple") none (.seq #[] 0) #[] : Obj)) :: (nat_lit 359, (.mk (.type "tuple") none (.seq #[(.str "self" 678), (.str "base" 679)] 0) #[] : Obj)) :: (nat_lit 360, (.mk (.type "tuple") none (.seq #[] 0) #[] : Obj)) :: (nat_lit 364, (.mk (.type "tuple") none (.seq #[] 0) #[] : Obj)) :: (nat_lit 366, (.mk (.type "tuple") none (.seq #[(.str "self" 686), (.str "at" 687), (.str "first" 688), (.str "items" 689)] 0) #[] : Obj)) :: (nat_lit 367, (.mk (.type "tuple") none (.seq #[] 0) #[] : Obj)) :: (nat_lit 371, (.mk (.type "tuple") none (.seq #[] 0) #[] : Obj)) :: (nat_lit 373, (.mk (.type "tuple") none (.seq #[(.str "self" 696), (.str "items" 697)] 0) #[] : Obj)) :: (nat_lit 374, (.mk (.type "tuple") none (.seq #[] 0) #[] : Obj)) :: (nat_lit 378, (.mk (.type "tuple") none (.seq #[] 0) #[] : Obj)) :: (nat_lit 380, (.mk (.type "tuple") none (.seq #[(.str "self" 704), (.str "items" 705)] 0) #[] : Obj)) :: (nat_lit 381, (.mk (.type "tuple") none (.seq #[] 0) #[] : Obj)) :: (nat_lit 385, (.mk (.type "tuple") none (.seq #[] 0) #[] : Obj)) :: (nat_lit 387, (.mk (.type "tuple") none (.seq #[(.str "self" 712), (.str "first" 713), (.str "typical" 714)] 0) #[] : Obj)) :: (nat_lit 388, (.mk (.type "tuple") none (.seq #[] 0) #[] : Obj)) :: (nat_lit 390, (.mk (.type "code") none (.fields #[(.str "mintypmax" 709), (.str "ExprParser.mintypmax" 710), (.str "/claim/cut.py" 711), (.int (333) 0), (.int (1) 0), (.int (0) 0), (.int (0) 0), (.int (3) 0), (.ref 385), (.bool true), (.int (181) 0), (.ref 386), .none, (.ref 387), (.ref 388), (.ref 389), (.int (715) 0), (.int (333) 0), (.str "/claim/cut.py" 716)]) #[] : Obj)) :: (nat_lit 391, (.mk (.type "function") none (.func (fnX "mintypmax" "ExprParser.mintypmax" p391 b391 s391 [] .none .none .none (.str "gateloom.exprparse" 549) none (.ref 390) .none)) #[] : Obj)) :: (nat_lit 392, (.mk (.type "tuple") none (.seq #[] 0) #[] : Obj)) :: (nat_lit 394, (.mk (.type "tuple") none (.seq #[(.str "self" 721), (.str "at" 722), (.str "parts" 723), (.str "select" 724), (.str "name" 725)] 0) #[] : Obj)) :: (nat_lit 395, (.mk (.type "tuple") none (.seq #[] 0) #[] : Obj)) :: (nat_lit 397, (.mk (.type "code") none (.fields #[(.str "reference" 718), (.str "ExprParser.reference" 719), (.str "/claim/cut.py" 720), (.int (342) 0), (.int (1) 0), (.int (0) 0), (.int (0) 0), (.int (3) 0), (.ref 392), (.bool true), (.int (181) 0), (.ref 393), .none, (.ref 394), (.ref 395), (.ref 396), (.int (726) 0), (.int (342) 0), (.str "/claim/cut.py" 727)]) #[] : Obj)) :: (nat_lit 398, (.mk (.type "function") none (.func (fnX "reference" "ExprParser.reference" p398 b398 s398 [] .none .none .none (.str "gateloom.exprparse" 549) none (.ref 397) .none)) #[] : Obj)) :: (nat_lit 399, (.mk (.type "tuple") none (.seq #[] 0) #[] : Obj)) :: (nat_lit 401, (.mk (.type "tuple") none (.seq #[(.str "self" 732), (.str "at" 733), (.str "parts" 734)] 0) #[] : Obj)) :: (nat_lit 402, (.mk (.type "tuple") none (.seq #[] 0) #[] : Obj)) :: (nat_lit 404, (.mk (.type "code") none (.fields #[(.str "path_term" 729), (.str "ExprParser.path_term" 730), (.str "/claim/cut.py" 731), (.int (357) 0), (.int (3) 0), (.int (0) 0), (.int (0) 0), (.int (3) 0), (.ref 399), (.bool true), (.int (181) 0), (.ref 400), .none, (.ref 401), (.ref 402), (.ref 403), (.int (735) 0), (.int (357) 0), (.str "/claim/cut.py" 736)]) #[] : Obj)) :: (nat_lit 405, (.mk (.type "function") none (.func (fnX "path_term" "ExprParser.path_term" p405 b405 s405 [] .none .none .none (.str "gateloom.exprparse" 549) none (.ref 404) .none)) #[] : Obj)) :: (nat_lit 406, (.mk (.type "tuple") none (.seq #[] 0) #[] : Obj)) :: (nat_lit 408, (.mk (.type "tuple") none (.seq #[(.str "self" 741), (.str "base" 742)] 0) #[] : Obj)) :: (nat_lit 409, (.mk (.type "tuple") none (.seq #[] 0) #[] : Obj)) :: (nat_lit 413, (.mk (.type "tuple") none (.seq #[] 0) #[] : Obj)) :: (nat_lit 415, (.mk (.type "tuple") none (.seq #[(.str "self" 749), (.str "first" 750), (.str "second" 751), (.str "kind" 752)] 0) #[] : Obj)) :: (nat_lit 416, (.mk (.type "tuple") none (.seq #[] 0) #[] : Obj)) :: (nat_lit 420, (.mk (.type "tuple") none (.seq #[] 0) #[] : Obj)) :: (nat_lit 422, (.mk (.type "tuple") none (.seq #[(.str "self" 759), (.str "base" 760), (.str "select" 761)] 0) #[] : Obj)) :: (nat_lit 423, (.mk (.type "tuple") none (.seq #[] 0) #[] : Obj)) :: (nat_lit 427, (.mk (.type "tuple") none (.seq #[] 0) #[] : Obj)) :: (nat_lit 429, (.mk (.type "tuple") none (.seq #[(.str "self" 768), (.str "at" 769), (.str "items" 770)] 0) #[] : Obj)) :: (nat_lit 430, (.mk (.type "tuple") none (.seq #[] 0) #[] : Obj)) :: (nat_lit 434, (.mk (.type "tuple") none (.seq #[] 0) #[] : Obj)) :: (nat_lit 436, (.mk (.type "tuple") none (.seq #[(.str "self" 777), (.str "term" 778)] 0) #[] : Obj)) :: (nat_lit 437, (.mk (.type "tuple") none (.seq #[] 0) #[] : Obj)) :: (nat_lit 439, (.mk (.type "code") none (.fields #[(.str "name_path" 774), (.str "ExprParser.name_path" 775), (.str "/claim/cut.py" 776), (.int (402) 0), (.int (1) 0), (.int (0) 0), (.int (0) 0), (.int (3) 0), (.ref 434), (.bool true), (.int (181) 0), (.ref 435), .none, (.ref 436), (.ref 437), (.ref 438), (.int (779) 0), (.int (402) 0), (.str "/claim/cut.py" 780)]) #[] : Obj)) :: (nat_lit 440, (.mk (.type "function") none (.func (fnX "name_path" "ExprParser.name_path" p440 b440 s440 [] .none .none .none (.str "gateloom.exprparse" 549) none (.ref 439) .none)) #[] : Obj)) :: (nat_lit 441, (.mk (.type "tuple") none (.seq #[] 0) #[] : Obj)) :: (nat_lit 443, (.mk (.type "tuple") none (.seq #[(.str "self" 785), (.str "msb" 786), (.str "lsb" 787)] 0) #[] : Obj)) :: (nat_lit 444, (.mk (.type "tuple") none (.seq #[] 0) #[] : Obj)) :: (nat_lit 446, (.mk (.type "code") none (.fields #[(.str "range_or_none" 782), (.str "ExprParser.range_or_none" 783), (.str "/claim/cut.py" 784), (.int (408) 0), (.int (1) 0), (.int (0) 0), (.int (0) 0), (.int (3) 0), (.ref 441), (.bool true), (.int (181) 0), (.ref 442), .none, (.ref 443), (.ref 444), (.ref 445), (.int (788) 0), (.int (408) 0), (.str "/claim/cut.py" 789)]) #[] : Obj)) :: (nat_lit 447, (.mk (.type "function") none (.func (fnX "range_or_none" "ExprParser.range_or_none" p447 b447 s447 [] .none .none .none (.str "gateloom.exprparse" 549) none (.ref 446) .none)) #[] : Obj)) :: (nat_lit 448, (.mk (.type "tuple") none (.seq #[] 0) #[] : Obj)) :: (nat_lit 450, (.mk (.type "tuple") none (.seq #[(.str "self" 794)] 0) #[] : Obj)) :: (nat_lit 451, (.mk (.type "tuple") none (.seq #[] 0) #[] : Obj)) :: (nat_lit 455, (.mk (.type "tuple") none (.seq #[] 0) #[] : Obj)) :: (nat_lit 457, (.mk (.type "tuple") none (.seq #[(.str "self" 801), (.str "inner" 802)] 0) #[] : Obj)) :: (nat_lit 458, (.mk (.type "tuple") none (.seq #[] 0) #[] : Obj)) :: (nat_lit 462, (.mk (.type "tuple") none (.seq #[] 0) #[] : Obj)) :: (nat_lit 464, (.mk (.type "tuple") none (.seq #[(.str "self" 809)] 0) #[] : Obj)) :: (nat_lit 465, (.mk (.type "tuple") none (.seq #[] 0) #[] : Obj)) :: (nat_lit 469, (.mk (.type "tuple") none (.seq #[(.str "depth" 813), (.str "nested" 814), (.str "within" 815)] 0) #[] : Obj)) :: (nat_lit 470, (.mk (.type "dict") none (.dict #[⟨PyData.keyHash P "__module__", (.str "__module__" 589), (.str "gateloom.exprparse" 549)⟩, ⟨PyData.keyHash P "__firstlineno__", (.str "__firstlineno__" 593), (.int (209) 592)⟩, ⟨PyData.keyHash P "__init__", (.str "__init__" 601), (.ref 307)⟩, ⟨PyData.keyHash P "enter", (.str "enter" 608), (.ref 314)⟩, ⟨PyData.keyHash P "leave", (.str "leave" 615), (.ref 321)⟩, ⟨PyData.keyHash P "expression", (.str "expression" 624), (.ref 328)⟩, ⟨PyData.keyHash P "inner_expression", (.str "inner_expression" 636), (.ref 335)⟩, ⟨PyData.keyHash P "binary", (.str "binary" 648), (.ref 342)⟩, ⟨PyData.keyHash P "unary", (.str "unary" 659), (.ref 349)⟩, ⟨PyData.keyHash P "primary", (.str "primary" 674), (.ref 356)⟩, ⟨PyData.keyHash P "named_primary", (.str "named_primary" 682), (.ref 363)⟩, ⟨PyData.keyHash P "braces", (.str "braces" 692), (.ref 370)⟩, ⟨PyData.keyHash P "expression_list", (.str "expression_list" 700), (.ref 377)⟩, ⟨PyData.keyHash P "arguments", (.str "arguments" 708), (.ref 384)⟩, ⟨PyData.keyHash P "mintypmax", (.str "mintypmax" 717), (.ref 391)⟩, ⟨PyData.keyHash P "reference", (.str "reference" 728), (.ref 398)⟩, ⟨PyData.keyHash P "path_term", (.str "path_term" 737), (.ref 405)⟩, ⟨PyData.keyHash P "selects", (.str "selects" 745), (.ref 412)⟩, ⟨PyData.keyHash P "bracket", (.str "bracket" 755), (.ref 419)⟩, ⟨PyData.keyHash P "with_select", (.str "with_select" 764), (.ref 426)⟩, ⟨PyData.keyHash P "lvalue", (.str "lvalue" 773), (.ref 433)⟩, ⟨PyData.keyHash P "name_path", (.str "name_path" 781), (.ref 440)⟩, ⟨PyData.keyHash P "range_or_none", (.str "range_or_none" 790), (.ref 447)⟩, ⟨PyData.keyHash P "delay_value", (.str "delay_value" 797), (.ref 454)⟩, ⟨PyData.keyHash P "delay", (.str "delay" 805), (.ref 461)⟩, ⟨PyData.keyHash P "delays", (.str "delays" 812), (.ref 468)⟩, ⟨PyData.keyHash P "__static_attributes__", (.str "__static_attributes__" 816), (.ref 469)⟩, ⟨PyData.keyHash P "__doc__", (.str "__doc__" 817), .none⟩] 2) #[] : Obj)) :: (nat_lit 471, (.mk (.type "type") none (.cls ⟨"ExprParser", [(.ref 199)], [(.ref 471), (.ref 199), (.type "object")], 470, "ExprParser", true, [], [(.ref 679)], false, none, false⟩) #[(some (.ref 294)), none, (some (.str "ExprParser" 582)), (some (.str "ExprParser" 590)), (some (.builtin "object.__new__")), (some (.bool true))] : Obj)) :: (nat_lit 474, (.mk (.type "tuple") none (.seq #[] 0) #[] : Obj)) :: (nat_lit 476, (.mk (.type "tuple") none (.seq #[(.str "at" 825), (.str "msb" 826), (.str "high" 827), (.str "low" 828)] 0) #[] : Obj)) :: (nat_lit 477, (.mk (.type "tuple") none (.seq #[] 0) #[] : Obj)) :: (nat_lit 479, (.mk (.type "code") none (.fields #[(.str "fixed_range" 822), (.str "fixed_range" 823), (.str "/claim/cut.py" 824), (.int (434) 0), (.int (2) 0), (.int (0) 0), (.int (0) 0), (.int (3) 0), (.ref 474), (.bool true), (.int (181) 0), (.ref 475), .none, (.ref 476), (.ref 477), (.ref 478), (.int (829) 0), (.int (434) 0), (.str "/claim/cut.py" 830)]) #[] : Obj)) :: (nat_lit 480, (.mk (.type "function") none (.func (fnX "fixed_range" "fixed_range" p480 b480 s480 [] .none .none .none (.str "gateloom.stmtparse" 820) none (.ref 479) .none)) #[] : Obj)) :: (nat_lit 481, (.mk (.type "tuple") none (.seq #[(.ref 471)] 0) #[] : Obj)) :: (nat_lit 488, (.mk (.type "tuple") none (.seq #[] 0) #[] : Obj)) :: (nat_lit 490, (.mk (.type "tuple") none (.seq #[(.str "self" 847), (.str "at" 848), (.str "found" 849)] 0) #[] : Obj)) :: (nat_lit 491, (.mk (.type "tuple") none (.seq #[] 0) #[] : Obj)) :: (nat_lit 493, (.mk (.type "code") none (.fields #[(.str "statement" 844), (.str "StmtParser.statement" 845), (.str "/claim/cut.py" 846), (.int (440) 0), (.int (1) 0), (.int (0) 0), (.int (0) 0), (.int (3) 0), (.ref 488), (.bool true), (.int (181) 0), (.ref 489), .none, (.ref 490), (.ref 491), (.ref 492), (.int (850) 0), (.int (440) 0), (.str "/claim/cut.py" 851)]) #[] : Obj)) :: (nat_lit 494, (.mk (.type "function") none (.func (fnX "statement" "StmtParser.statement" p494 b494 s494 [] .none .none .none (.str "gateloom.stmtparse" 820) none (.ref 493) .none)) #[] : Obj)) :: (nat_lit 495, (.mk (.type "tuple") none (.seq #[] 0) #[] : Obj)) :: (nat_lit 497, (.mk (.type "tuple") none (.seq #[(.str "self" 856), (.str "found" 857)] 0) #[] : Obj)) :: (nat_lit 498, (.mk (.type "tuple") none (.seq #[] 0) #[] : Obj)) :: (nat_lit 500, (.mk (.type "code") none (.fields #[(.str "counted_statement" 853), (.str "StmtParser.counted_statement" 854), (.str "/claim/cut.py" 855), (.int (453) 0), (.int (1) 0), (.int (0) 0), (.int (0) 0), (.int (3) 0), (.ref 495), (.bool true), (.int (181) 0), (.ref 496), .none, (.ref 497), (.ref 498), (.ref 499), (.int (858) 0), (.int (453) 0), (.str "/claim/cut.py" 859)]) #[] : Obj)) :: (nat_lit 501, (.mk (.type "function") none (.func (fnX "counted_statement" "StmtParser.counted_statement" p501 b501 s501 [] .none .none .none (.str "gateloom.stmtparse" 820) none (.ref 500) .none)) #[] : Obj)) :: (nat_lit 502, (.mk (.type "tuple") none (.seq #[] 0) #[] : Obj)) :: (nat_lit 504, (.mk (.type "tuple") none (.seq #[(.str "self" 864), (.str "kind" 865), (.str "at" 866), (.str "wait" 867), (.str "events" 868), (.str "name" 869)] 0) #[] : Obj)) :: (nat_lit 505, (.mk (.type "tuple") none (.seq #[] 0) #[] : Obj)) :: (nat_lit 507, (.mk (.type "code") none (.fields #[(.str "full_statement" 861), (.str "StmtParser.full_statement" 862), (.str "/claim/cut.py" 863), (.int (459) 0), (.int (1) 0), (.int (0) 0), (.int (0) 0), (.int (3) 0), (.ref 502), (.bool true), (.int (181) 0), (.ref 503), .none, (.ref 504), (.ref 505), (.ref 506), (.int (870) 0), (.int (459) 0), (.str "/claim/cut.py" 871)]) #[] : Obj)) :: (nat_lit 508, (.mk (.type "function") none (.func (fnX "full_statement" "StmtParser.full_statement" p508 b508 s508 [] .none .none .none (.str "gateloom.stmtparse" 820) none (.ref 507) .none)) #[] : Obj)) :: (nat_lit 509, (.mk (.type "tuple") none (.seq #[] 0) #[] : Obj)) :: (nat_lit 511, (.mk (.type "tuple") none (.seq #[(.str "self" 876), (.str "at" 877), (.str "word" 878), (.str "test" 879), (.str "count" 880), (.str "name" 881)] 0) #[] : Obj)) :: (nat_lit 512, (.mk (.type "tuple") none (.seq #[] 0) #[] : Obj)) :: (nat_lit 514, (.mk (.type "code") none (.fields #[(.str "keyword_statement" 873), (.str "StmtParser.keyword_statement" 874), (.str "/claim/cut.py" 875), (.int (480) 0), (.int (1) 0), (.int (0) 0), (.int (0) 0), (.int (3) 0), (.ref 509), (.bool true), (.int (181) 0), (.ref 510), .none, (.ref 511), (.ref 512), (.ref 513), (.int (882) 0), (.int (480) 0), (.str "/claim/cut.py" 883)]) #[] : Obj)) :: (nat_lit 515, (.mk (.type "function") none (.func (fnX "keyword_statement" "StmtParser.keyword_statement" p515 b515 s515 [] .none .none .none (.str "gateloom.stmtparse" 820) none (.ref 514) .none)) #[] : Obj)) :: (nat_lit 516, (.mk (.type "tuple") none (.seq #[] 0) #[] : Obj)) :: (nat_lit 518, (.mk (.type "tuple") none (.seq #[(.str "self" 888), (.str "inner" 889)] 0) #[] : Obj)) :: (nat_lit 519, (.mk (.type "tuple") none (.seq #[] 0) #[] : Obj)) :: (nat_lit 523, (.mk (.type "tuple") none (.seq #[] 0) #[] : Obj)) :: (nat_lit 525, (.mk (.type "tuple") none (.seq #[(.str "self" 896), (.str "tag" 897), (.str "closing" 898), (.str "at" 899), (.str "name" 900), (.str "decls" 901), (.str "stmts" 902)] 0) #[] : Obj)) :: (nat_lit 526, (.mk (.type "tuple") none (.seq #[] 0) #[] : Obj)) :: (nat_lit 530, (.mk (.type "tuple") none (.seq #[] 0) #[] : Obj)) :: (nat_lit 532, (.mk (.type "tuple") none (.seq #[(.str "self" 909), (.str "rows" 910), (.str "other" 911), (.str "going" 912), (.str "at" 913), (.str "test" 914), (.str "then" 915)] 0) #[] : Obj)) :: (nat_lit 533, (.mk (.type "tuple") none (.seq #[] 0) #[] : Obj)) :: (nat_lit 537, (.mk (.type "tuple") none (.seq #[] 0) #[] : Obj)) :: (nat_lit 539, (.mk (.type "tuple") none (.seq #[(.str "self" 922), (.str "word" 923), (.str "at" 924), (.str "subject" 925), (.str "rows" 926), (.str "labels" 927)] 0) #[] : Obj)) :: (nat_lit 540, (.mk (.type "tuple") none (.seq #[] 0) #[] : Obj)) :: (nat_lit 544, (.mk (.type "tuple") none (.seq #[] 0) #[] : Obj)) :: (nat_lit 546, (.mk (.type "tuple") none (.seq #[(.str "self" 934), (.str "at" 935), (.str "first" 936), (.str "test" 937), (.str "step" 938)] 0) #[] : Obj)) :: (nat_lit 547, (.mk (.type "tuple") none (.seq #[] 0) #[] : Obj)) :: (nat_lit 551, (.mk (.type "tuple") none (.seq #[] 0) #[] : Obj)) :: (nat_lit 553, (.mk (.type "tuple") none (.seq #[(.str "self" 945), (.str "at" 946), (.str "target" 947)] 0) #[] : Obj)) :: (nat_lit 554, (.mk (.type "tuple") none (.seq #[] 0) #[] : Obj)) :: (nat_lit 558, (.mk (.type "tuple") none (.seq #[] 0) #[] : Obj)) :: (nat_lit 560, (.mk (.type "tuple") none (.seq #[(.str "self" 954), (.str "at" 955), (.str "target" 956), (.str "tag" 957), (.str "control" 958), (.str "value" 959), (.str "args" 960)] 0) #[] : Obj)) :: (nat_lit 561, (.mk (.type "tuple") none (.seq #[] 0) #[] : Obj)) :: (nat_lit 565, (.mk (.type "tuple") none (.seq #[] 0) #[] : Obj)) :: (nat_lit 567, (.mk (.type "tuple") none (.seq #[(.str "self" 967), (.str "at" 968), (.str "name" 969), (.str "args" 970)] 0) #[] : Obj)) :: (nat_lit 568, (.mk (.type "tuple") none (.seq #[] 0) #[] : Obj)) :: (nat_lit 572, (.mk (.type "tuple") none (.seq #[] 0) #[] : Obj)) :: (nat_lit 574, (.mk (.type "tuple") none (.seq #[(.str "self" 977), (.str "args" 978)] 0) #[] : Obj)) :: (nat_lit 575, (.mk (.type "tuple") none (.seq #[] 0) #[] : Obj)) :: (nat_lit 579, (.mk (.type "tuple") none (.seq #[] 0) #[] : Obj)) :: (nat_lit 581, (.mk (.type "tuple") none (.seq #[(.str "self" 985)] 0) #[] : Obj)) :: (nat_lit 582, (.mk (.type "tuple") none (.seq #[] 0) #[] : Obj)) :: (nat_lit 586, (.mk (.type "tuple") none (.seq #[] 0) #[] : Obj)) :: (nat_lit 588, (.mk (.type "tuple") none (.seq #[(.str "self" 992)] 0) #[] : Obj)) :: (nat_lit 589, (.mk (.type "tuple") none (.seq #[] 0) #[] : Obj)) :: (nat_lit 593, (.mk (.type "tuple") none (.seq #[] 0) #[] : Obj)) :: (nat_lit 595, (.mk (.type "tuple") none (.seq #[(.str "self" 999), (.str "found" 1000)] 0) #[] : Obj)) :: (nat_lit 596, (.mk (.type "tuple") none (.seq #[] 0) #[] : Obj)) :: (nat_lit 600, (.mk (.type "tuple") none (.seq #[] 0) #[] : Obj)) :: (nat_lit 602, (.mk (.type "tuple") none (.seq #[(.str "self" 1007)] 0) #[] : Obj)) :: (nat_lit 603, (.mk (.type "tuple") none (.seq #[] 0) #[] : Obj)) :: (nat_lit 607, (.mk (.type "tuple") none (.seq #[] 0) #[] : Obj)) :: (nat_lit 609, (.mk (.type "tuple") none (.seq #[(.str "self" 1014), (.str "items" 1015)] 0) #[] : Obj)) :: (nat_lit 610, (.mk (.type "tuple") none (.seq #[] 0) #[] : Obj)) :: (nat_lit 614, (.mk (.type "tuple") none (.seq #[] 0) #[] : Obj)) :: (nat_lit 616, (.mk (.type "tuple") none (.seq #[(.str "self" 1022)] 0) #[] : Obj)) :: (nat_lit 617, (.mk (.type "tuple") none (.seq #[] 0) #[] : Obj)) :: (nat_lit 619, (.mk (.type "code") none (.fields #[(.str "begins_declaration" 1019), (.str "StmtParser.begins_declaration" 1020), (.str "/claim/cut.py" 1021), (.int (665) 0), (.int (1) 0), (.int (0) 0), (.int (0) 0), (.int (3) 0), (.ref 614), (.bool true), (.int (181) 0), (.ref 615), .none, (.ref 616), (.ref 617), (.ref 618), (.int (1023) 0), (.int (665) 0), (.str "/claim/cut.py" 1024)]) #[] : Obj)) :: (nat_lit 620, (.mk (.type "function") none (.func (fnX "begins_declaration" "StmtParser.begins_declaration" p620 b620 s620 [] .none .none .none (.str "gateloom.stmtparse" 820) none (.ref 619) .none)) #[] : Obj)) :: (nat_lit 621, (.mk (.type "tuple") none (.seq #[] 0) #[] : Obj)) :: (nat_lit 623, (.mk (.type "tuple") none (.seq #[(.str "self" 1029), (.str "with_init" 1030), (.str "word" 1031), (.str "items" 1032)] 0) #[] : Obj)) :: (nat_lit 624, (.mk (.type "tuple") none (.seq #[] 0) #[] : Obj)) :: (nat_lit 626, (.mk (.type "code") none (.fields #[(.str "declaration" 1026), (.str "StmtParser.declaration" 1027), (.str "/claim/cut.py" 1028), (.int (670) 0), (.int (2) 0), (.int (0) 0), (.int (0) 0), (.int (3) 0), (.ref 621), (.bool true), (.int (181) 0), (.ref 622), .none, (.ref 623), (.ref 624), (.ref 625), (.int (1033) 0), (.int (670) 0), (.str "/claim/cut.py" 1034)]) #[] : Obj)) :: (nat_lit 627, (.mk (.type "function") none (.func (fnX "declaration" "StmtParser.declaration" p627 b627 s627 [] .none .none .none (.str "gateloom.stmtparse" 820) none (.ref 626) .none)) #[] : Obj)) :: (nat_lit 628, (.mk (.type "tuple") none (.seq #[] 0) #[] : Obj)) :: (nat_lit 630, (.mk (.type "tuple") none (.seq #[(.str "self" 1039), (.str "with_init" 1040), (.str "at" 1041), (.str "kind" 1042), (.str "signed" 1043), (.str "extent" 1044), (.str "items" 1045)] 0) #[] : Obj)) :: (nat_lit 631, (.mk (.type "tuple") none (.seq #[] 0) #[] : Obj)) :: (nat_lit 633, (.mk (.type "code") none (.fields #[(.str "variable_items" 1036), (.str "StmtParser.variable_items" 1037), (.str "/claim/cut.py" 1038), (.int (682) 0), (.int (2) 0), (.int (0) 0), (.int (0) 0), (.int (3) 0), (.ref 628), (.bool true), (.int (181) 0), (.ref 629), .none, (.ref 630), (.ref 631), (.ref 632), (.int (1046) 0), (.int (682) 0), (.str "/claim/cut.py" 1047)]) #[] : Obj)) :: (nat_lit 634, (.mk (.type "function") none (.func (fnX "variable_items" "StmtParser.variable_items" p634 b634 s634 [] .none .none .none (.str "gateloom.stmtparse" 820) none (.ref 633) .none)) #[] : Obj)) :: (nat_lit 635, (.mk (.type "tuple") none (.seq #[] 0) #[] : Obj)) :: (nat_lit 637, (.mk (.type "tuple") none (.seq #[(.str "self" 1052), (.str "at" 1053), (.str "kind" 1054), (.str "signed" 1055), (.str "extent" 1056), (.str "with_init" 1057), (.str "name" 1058), (.str "arrays" 1059), (.str "init" 1060)] 0) #[] : Obj)) :: (nat_lit 638, (.mk (.type "tuple") none (.seq #[] 0) #[] : Obj)) :: (nat_lit 640, (.mk (.type "code") none (.fields #[(.str "variable_item" 1049), (.str "StmtParser.variable_item" 1050), (.str "/claim/cut.py" 1051), (.int (697) 0), (.int (6) 0), (.int (0) 0), (.int (0) 0), (.int (3) 0), (.ref 635), (.bool true), (.int (181) 0), (.ref 636), .none, (.ref 637), (.ref 638), (.ref 639), (.int (1061) 0), (.int (697) 0), (.str "/claim/cut.py" 1062)]) #[] : Obj)) :: (nat_lit 641, (.mk (.type "function") none (.func (fnX "variable_item" "StmtParser.variable_item" p641 b641 s641 [] .none .none .none (.str "gateloom.stmtparse" 820) none (.ref 640) .none)) #[] : Obj)) :: (nat_lit 642, (.mk (.type "tuple") none (.seq #[] 0) #[] : Obj)) :: (nat_lit 644, (.mk (.type "tuple") none (.seq #[(.str "self" 1067), (.str "found" 1068)] 0) #[] : Obj)) :: (nat_lit 645, (.mk (.type "tuple") none (.seq #[] 0) #[] : Obj)) :: (nat_lit 647, (.mk (.type "code") none (.fields #[(.str "array_ranges" 1064), (.str "StmtParser.array_ranges" 1065), (.str "/claim/cut.py" 1066), (.int (705) 0), (.int (1) 0), (.int (0) 0), (.int (0) 0), (.int (3) 0), (.ref 642), (.bool true), (.int (181) 0), (.ref 643), .none, (.ref 644), (.ref 645), (.ref 646), (.int (1069) 0), (.int (705) 0), (.str "/claim/cut.py" 1070)]) #[] : Obj)) :: (nat_lit 648, (.mk (.type "function") none (.func (fnX "array_ranges" "StmtParser.array_ranges" p648 b648 s648 [] .none .none .none (.str "gateloom.stmtparse" 820) none (.ref 647) .none)) #[] : Obj)) :: (nat_lit 649, (.mk (.type "tuple") none (.seq #[] 0) #[] : Obj)) :: (nat_lit 651, (.mk (.type "tuple") none (.seq #[(.str "self" 1075), (.str "tag" 1076), (.str "at" 1077), (.str "items" 1078)] 0) #[] : Obj)) :: (nat_lit 652, (.mk (.type "tuple") none (.seq #[] 0) #[] : Obj)) :: (nat_lit 656, (.mk (.type "tuple") none (.seq #[] 0) #[] : Obj)) :: (nat_lit 658, (.mk (.type "tuple") none (.seq #[(.str "self" 1085), (.str "at" 1086), (.str "kind" 1087), (.str "signed" 1088), (.str "extent" 1089), (.str "items" 1090)] 0) #[] : Obj)) :: (nat_lit 659, (.mk (.type "tuple") none (.seq #[] 0) #[] : Obj)) :: (nat_lit 663, (.mk (.type "tuple") none (.seq #[] 0) #[] : Obj)) :: (nat_lit 665, (.mk (.type "tuple") none (.seq #[(.str "self" 1097), (.str "at" 1098), (.str "signed" 1099)] 0) #[] : Obj)) :: (nat_lit 666, (.mk (.type "tuple") none (.seq #[] 0) #[] : Obj)) :: (nat_lit 670, (.mk (.type "tuple") none (.seq #[] 0) #[] : Obj)) :: (nat_lit 672, (.mk (.type "tuple") none (.seq #[(.str "self" 1106), (.str "at" 1107), (.str "kind" 1108), (.str "signed" 1109), (.str "extent" 1110), (.str "name" 1111)] 0) #[] : Obj)) :: (nat_lit 673, (.mk (.type "tuple") none (.seq #[] 0) #[] : Obj)) :: (nat_lit 677, (.mk (.type "tuple") none (.seq #[(.str "nested" 1115)] 0) #[] : Obj)) :: (nat_lit 678, (.mk (.type "dict") none (.dict #[⟨PyData.keyHash P "__module__", (.str "__module__" 839), (.str "gateloom.stmtparse" 820)⟩, ⟨PyData.keyHash P "__firstlineno__", (.str "__firstlineno__" 843), (.int (438) 842)⟩, ⟨PyData.keyHash P "statement", (.str "statement" 852), (.ref 494)⟩, ⟨PyData.keyHash P "counted_statement", (.str "counted_statement" 860), (.ref 501)⟩, ⟨PyData.keyHash P "full_statement", (.str "full_statement" 872), (.ref 508)⟩, ⟨PyData.keyHash P "keyword_statement", (.str "keyword_statement" 884), (.ref 515)⟩, ⟨PyData.keyHash P "bracketed", (.str "bracketed" 892), (.ref 522)⟩, ⟨PyData.keyHash P "block", (.str "block" 905), (.ref 529)⟩, ⟨PyData.keyHash P "if_statement", (.str "if_statement" 918), (.ref 536)⟩, ⟨PyData.keyHash P "case_statement", (.str "case_statement" 930), (.ref 543)⟩, ⟨PyData.keyHash P "for_statement", (.str "for_statement" 941), (.ref 550)⟩, ⟨PyData.keyHash P "plain_assignment", (.str "plain_assignment" 950), (.ref 557)⟩, ⟨PyData.keyHash P "lvalue_statement", (.str "lvalue_statement" 963), (.ref 564)⟩, ⟨PyData.keyHash P "system_statement", (.str "system_statement" 973), (.ref 571)⟩, ⟨PyData.keyHash P "task_arguments", (.str "task_arguments" 981), (.ref 578)⟩, ⟨PyData.keyHash P "argument_or_none", (.str "argument_or_none" 988), (.ref 585)⟩, ⟨PyData.keyHash P "control", (.str "control" 995), (.ref 592)⟩, ⟨PyData.keyHash P "events", (.str "events" 1003), (.ref 599)⟩, ⟨PyData.keyHash P "event", (.str "event" 1010), (.ref 606)⟩, ⟨PyData.keyHash P "block_declarations", (.str "block_declarations" 1018), (.ref 613)⟩, ⟨PyData.keyHash P "begins_declaration", (.str "begins_declaration" 1025), (.ref 620)⟩, ⟨PyData.keyHash P "declaration", (.str "declaration" 1035), (.ref 627)⟩, ⟨PyData.keyHash P "variable_items", (.str "variable_items" 1048), (.ref 634)⟩, ⟨PyData.keyHash P "variable_item", (.str "variable_item" 1063), (.ref 641)⟩, ⟨PyData.keyHash P "array_ranges", (.str "array_ranges" 1071), (.ref 648)⟩, ⟨PyData.keyHash P "name_items", (.str "name_items" 1081), (.ref 655)⟩, ⟨PyData.keyHash P "parameter_items", (.str "parameter_items" 1093), (.ref 662)⟩, ⟨PyData.keyHash P "parameter_type", (.str "parameter_type" 1102), (.ref 669)⟩, ⟨PyData.keyHash P "parameter_item", (.str "parameter_item" 1114), (.ref 676)⟩, ⟨PyData.keyHash P "__static_attributes__", (.str "__static_attributes__" 1116), (.ref 677)⟩, ⟨PyData.keyHash P "__doc__", (.str "__doc__" 1117), .none⟩] 2) #[] : Obj)) :: (nat_lit 679, (.mk (.type "type") none (.cls ⟨"StmtParser", [(.ref 471)], [(.ref 679), (.ref 471), (.ref 199), (.type "object")], 678, "StmtParser", true, [], [(.ref 796)], false, none, false⟩) #[(some (.ref 481)), none, (some (.str "StmtParser" 832)), (some (.str "StmtParser" 840)), (some (.builtin "object.__new__")), (some (.bool true))] : Obj)) :: (nat_lit 682, (.mk (.type "tuple") none (.seq #[] 0) #[] : Obj)) :: (nat_lit 684, (.mk (.type "tuple") none (.seq #[(.str "word" 1125)] 0) #[] : Obj)) :: (nat_lit 685, (.mk (.type "tuple") none (.seq #[] 0) #[] : Obj)) :: (nat_lit 687, (.mk (.type "code") none (.fields #[(.str "net_kind" 1122), (.str "net_kind" 1123), (.str "/claim/cut.py" 1124), (.int (748) 0), (.int (1) 0), (.int (0) 0), (.int (0) 0), (.int (3) 0), (.ref 682), (.bool true), (.int (181) 0), (.ref 683), .none, (.ref 684), (.ref 685), (.ref 686), (.int (1126) 0), (.int (748) 0), (.str "/claim/cut.py" 1127)]) #[] : Obj)) :: (nat_lit 688, (.mk (.type "function") none (.func (fnX "net_kind" "net_kind" p688 b688 s688 [] .none .none .none (.str "gateloom.declparse" 1120) none (.ref 687) .none)) #[] : Obj)) :: (nat_lit 689, (.mk (.type "tuple") none (.seq #[(.ref 679)] 0) #[] : Obj)) :: (nat_lit 696, (.mk (.type "tuple") none (.seq #[] 0) #[] : Obj)) :: (nat_lit 698, (.mk (.type "tuple") none (.seq #[(.str "self" 1144)] 0) #[] : Obj)) :: (nat_lit 699, (.mk (.type "tuple") none (.seq #[] 0) #[] : Obj)) :: (nat_lit 703, (.mk (.type "tuple") none (.seq #[] 0) #[] : Obj)) :: (nat_lit 705, (.mk (.type "tuple") none (.seq #[(.str "self" 1151), (.str "at" 1152), (.str "tag" 1153), (.str "kind" 1154), (.str "signed" 1155)] 0) #[] : Obj)) :: (nat_lit 706, (.mk (.type "tuple") none (.seq #[] 0) #[] : Obj)) :: (nat_lit 708, (.mk (.type "code") none (.fields #[(.str "port_shape" 1148), (.str "DeclParser.port_shape" 1149), (.str "/claim/cut.py" 1150), (.int (763) 0), (.int (2) 0), (.int (0) 0), (.int (0) 0), (.int (3) 0), (.ref 703), (.bool true), (.int (181) 0), (.ref 704), .none, (.ref 705), (.ref 706), (.ref 707), (.int (1156) 0), (.int (763) 0), (.str "/claim/cut.py" 1157)]) #[] : Obj)) :: (nat_lit 709, (.mk (.type "function") none (.func (fnX "port_shape" "DeclParser.port_shape" p709 b709 s709 [] .none .none .none (.str "gateloom.declparse" 1120) none (.ref 708) .none)) #[] : Obj)) :: (nat_lit 710, (.mk (.type "tuple") none (.seq #[] 0) #[] : Obj)) :: (nat_lit 712, (.mk (.type "tuple") none (.seq #[(.str "self" 1162), (.str "at" 1163), (.str "direction" 1164), (.str "shape" 1165)] 0) #[] : Obj)) :: (nat_lit 713, (.mk (.type "tuple") none (.seq #[] 0) #[] : Obj)) :: (nat_lit 717, (.mk (.type "tuple") none (.seq #[] 0) #[] : Obj)) :: (nat_lit 719, (.mk (.type "tuple") none (.seq #[(.str "self" 1172)] 0) #[] : Obj)) :: (nat_lit 720, (.mk (.type "tuple") none (.seq #[] 0) #[] : Obj)) :: (nat_lit 724, (.mk (.type "tuple") none (.seq #[] 0) #[] : Obj)) :: (nat_lit 726, (.mk (.type "tuple") none (.seq #[(.str "self" 1179)] 0) #[] : Obj)) :: (nat_lit 727, (.mk (.type "tuple") none (.seq #[] 0) #[] : Obj)) :: (nat_lit 731, (.mk (.type "tuple") none (.seq #[] 0) #[] : Obj)) :: (nat_lit 733, (.mk (.type "tuple") none (.seq #[(.str "self" 1186)] 0) #[] : Obj)) :: (nat_lit 734, (.mk (.type "tuple") none (.seq #[] 0) #[] : Obj)) :: (nat_lit 738, (.mk (.type "tuple") none (.seq #[] 0) #[] : Obj)) :: (nat_lit 740, (.mk (.type "tuple") none (.seq #[(.str "self" 1193)] 0) #[] : Obj)) :: (nat_lit 741, (.mk (.type "tuple") none (.seq #[] 0) #[] : Obj)) :: (nat_lit 745, (.mk (.type "tuple") none (.seq #[] 0) #[] : Obj)) :: (nat_lit 747, (.mk (.type "tuple") none (.seq #[(.str "self" 1200)] 0) #[] : Obj)) :: (nat_lit 748, (.mk (.type "tuple") none (.seq #[] 0) #[] : Obj)) :: (nat_lit 752, (.mk (.type "tuple") none (.seq #[] 0) #[] : Obj)) :: (nat_lit 754, (.mk (.type "tuple") none (.seq #[(.str "self" 1207), (.str "at" 1208)] 0) #[] : Obj)) :: (nat_lit 755, (.mk (.type "tuple") none (.seq #[] 0) #[] : Obj)) :: (nat_lit 759, (.mk (.type "tuple") none (.seq #[] 0) #[] : Obj)) :: (nat_lit 761, (.mk (.type "tuple") none (.seq #[(.str "self" 1215), (.str "at" 1216)] 0) #[] : Obj)) :: (nat_lit 762, (.mk (.type "tuple") none (.seq #[] 0) #[] : Obj)) :: (nat_lit 766, (.mk (.type "tuple") none (.seq #[] 0) #[] : Obj)) :: (nat_lit 768, (.mk (.type "tuple") none (.seq #[(.str "self" 1223), (.str "at" 1224), (.str "kind" 1225), (.str "automatic" 1226), (.str "signed" 1227), (.str "extent" 1228), (.str "tag" 1229), (.str "word" 1230), (.str "name" 1231), (.str "decls" 1232), (.str "body" 1233)] 0) #[] : Obj)) :: (nat_lit 769, (.mk (.type "tuple") none (.seq #[] 0) #[] : Obj)) :: (nat_lit 771, (.mk (.type "code") none (.fields #[(.str "routine_item" 1220), (.str "DeclParser.routine_item" 1221), (.str "/claim/cut.py" 1222), (.int (803) 0), (.int (1) 0), (.int (0) 0), (.int (0) 0), (.int (3) 0), (.ref 766), (.bool true), (.int (181) 0), (.ref 767), .none, (.ref 768), (.ref 769), (.ref 770), (.int (1234) 0), (.int (803) 0), (.str "/claim/cut.py" 1235)]) #[] : Obj)) :: (nat_lit 772, (.mk (.type "function") none (.func (fnX "routine_item" "DeclParser.routine_item" p772 b772 s772 [] .none .none .none (.str "gateloom.declparse" 1120) none (.ref 771) .none)) #[] : Obj)) :: (nat_lit 773, (.mk (.type "tuple") none (.seq #[] 0) #[] : Obj)) :: (nat_lit 775, (.mk (.type "tuple") none (.seq #[(.str "self" 1240)] 0) #[] : Obj)) :: (nat_lit 776, (.mk (.type "tuple") none (.seq #[] 0) #[] : Obj)) :: (nat_lit 778, (.mk (.type "code") none (.fields #[(.str "begins_port" 1237), (.str "DeclParser.begins_port" 1238), (.str "/claim/cut.py" 1239), (.int (830) 0), (.int (1) 0), (.int (0) 0), (.int (0) 0), (.int (3) 0), (.ref 773), (.bool true), (.int (181) 0), (.ref 774), .none, (.ref 775), (.ref 776), (.ref 777), (.int (1241) 0), (.int (830) 0), (.str "/claim/cut.py" 1242)]) #[] : Obj)) :: (nat_lit 779, (.mk (.type "function") none (.func (fnX "begins_port" "DeclParser.begins_port" p779 b779 s779 [] .none .none .none (.str "gateloom.declparse" 1120) none (.ref 778) .none)) #[] : Obj)) :: (nat_lit 780, (.mk (.type "tuple") none (.seq #[] 0) #[] : Obj)) :: (nat_lit 782, (.mk (.type "tuple") none (.seq #[(.str "self" 1247), (.str "ports" 1248)] 0) #[] : Obj)) :: (nat_lit 783, (.mk (.type "tuple") none (.seq #[] 0) #[] : Obj)) :: (nat_lit 785, (.mk (.type "code") none (.fields #[(.str "routine_header" 1244), (.str "DeclParser.routine_header" 1245), (.str "/claim/cut.py" 1246), (.int (833) 0), (.int (1) 0), (.int (0) 0), (.int (0) 0), (.int (3) 0), (.ref 780), (.bool true), (.int (181) 0), (.ref 781), .none, (.ref 782), (.ref 783), (.ref 784), (.int (1249) 0), (.int (833) 0), (.str "/claim/cut.py" 1250)]) #[] : Obj)) :: (nat_lit 786, (.mk (.type "function") none (.func (fnX "routine_header" "DeclParser.routine_header" p786 b786 s786 [] .none .none .none (.str "gateloom.declparse" 1120) none (.ref 785) .none)) #[] : Obj)) :: (nat_lit 787, (.mk (.type "tuple") none (.seq #[] 0) #[] : Obj)) :: (nat_lit 789, (.mk (.type "tuple") none (.seq #[(.str "self" 1255), (.str "at" 1256), (.str "direction" 1257), (.str "tag" 1258), (.str "kind" 1259), (.str "signed" 1260), (.str "extent" 1261), (.str "ports" 1262)] 0) #[] : Obj)) :: (nat_lit 790, (.mk (.type "tuple") none (.seq #[] 0) #[] : Obj)) :: (nat_lit 792, (.mk (.type "code") none (.fields #[(.str "routine_ports" 1252), (.str "DeclParser.routine_ports" 1253), (.str "/claim/cut.py" 1254), (.int (843) 0), (.int (1) 0), (.int (0) 0), (.int (0) 0), (.int (3) 0), (.ref 787), (.bool true), (.int (181) 0), (.ref 788), .none, (.ref 789), (.ref 790), (.ref 791), (.int (1263) 0), (.int (843) 0), (.str "/claim/cut.py" 1264)]) #[] : Obj)) :: (nat_lit 793, (.mk (.type "function") none (.func (fnX "routine_ports" "DeclParser.routine_ports" p793 b793 s793 [] .none .none .none (.str "gateloom.declparse" 1120) none (.ref 792) .none)) #[] : Obj)) :: (nat_lit 794, (.mk (.type "tuple") none (.seq #[] 0) #[] : Obj)) :: (nat_lit 795, (.mk (.type "dict") none (.dict #[⟨PyData.keyHash P "__module__", (.str "__module__" 1136), (.str "gateloom.declparse" 1120)⟩, ⟨PyData.keyHash P "__firstlineno__", (.str "__firstlineno__" 1140), (.int (758) 1139)⟩, ⟨PyData.keyHash P "port_declaration", (.str "port_declaration" 1147), (.ref 702)⟩, ⟨PyData.keyHash P "port_shape", (.str "port_shape" 1158), (.ref 709)⟩, ⟨PyData.keyHash P "port_entry", (.str "port_entry" 1168), (.ref 716)⟩, ⟨PyData.keyHash P "begins_strength", (.str "begins_strength" 1175), (.ref 723)⟩, ⟨PyData.keyHash P "drive_strength", (.str "drive_strength" 1182), (.ref 730)⟩, ⟨PyData.keyHash P "strength_part", (.str "strength_part" 1189), (.ref 737)⟩, ⟨PyData.keyHash P "charge_strength", (.str "charge_strength" 1196), (.ref 744)⟩, ⟨PyData.keyHash P "net_items", (.str "net_items" 1203), (.ref 751)⟩, ⟨PyData.keyHash P "assign_items", (.str "assign_items" 1211), (.ref 758)⟩, ⟨PyData.keyHash P "defparam_items", (.str "defparam_items" 1219), (.ref 765)⟩, ⟨PyData.keyHash P "routine_item", (.str "routine_item" 1236), (.ref 772)⟩, ⟨PyData.keyHash P "begins_port", (.str "begins_port" 1243), (.ref 779)⟩, ⟨PyData.keyHash P "routine_header", (.str "routine_header" 1251), (.ref 786)⟩, ⟨PyData.keyHash P "routine_ports", (.str "routine_ports" 1265), (.ref 793)⟩, ⟨PyData.keyHash P "__static_attributes__", (.str "__static_attributes__" 1266), (.ref 794)⟩, ⟨PyData.keyHash P "__doc__", (.str "__doc__" 1267), .none⟩] 2) #[] : Obj)) :: (nat_lit 796, (.mk (.type "type") none (.cls ⟨"DeclParser", [(.ref 679)], [(.ref 796), (.ref 679), (.ref 471), (.ref 199), (.type "object")], 795, "DeclParser", true, [], [], false, none, false⟩) #[(some (.ref 689)), none, (some (.str "DeclParser" 1129)), (some (.str "DeclParser" 1137)), (some (.builtin "object.__new__")), (some (.bool true))] : Obj)) :: (nat_lit 799, (.mk (.type "tuple") none (.seq #[] 0) #[] : Obj)) :: (nat_lit 801, (.mk (.type "tuple") none (.seq #[(.str "script" 1275), (.str "nest" 1276), (.str "one" 1277), (.str "left" 1278), (.str "hop" 1279)] 0) #[] : Obj)) :: (nat_lit 802, (.mk (.type "tuple") none (.seq #[] 0) #[] : Obj)) :: (nat_lit 804, (.mk (.type "code") none (.fields #[(.str "_law_twigs" 1272), (.str "_law_twigs" 1273), (.str "/claim/cut.py" 1274), (.int (857) 0), (.int (1) 0), (.int (0) 0), (.int (0) 0), (.int (3) 0), (.ref 799), (.bool true), (.int (181) 0), (.ref 800), .none, (.ref 801), (.ref 802), (.ref 803), (.int (1280) 0), (.int (857) 0), (.str "/claim/cut.py" 1281)]) #[] : Obj)) :: (nat_lit 805, (.mk (.type "function") none (.func (fnX "_law_twigs" "_law_twigs" p805 b805 s805 [] .none .none .none (.str "law_pq0478_02" 1270) none (.ref 804) .none)) #[] : Obj)) :: (nat_lit 806, (.mk (.type "tuple") none (.seq #[] 0) #[] : Obj)) :: (nat_lit 808, (.mk (.type "tuple") none (.seq #[(.str "nest" 1286), (.str "most" 1287)] 0) #[] : Obj)) :: (nat_lit 809, (.mk (.type "tuple") none (.seq #[] 0) #[] : Obj)) :: (nat_lit 811, (.mk (.type "code") none (.fields #[(.str "_law_twig" 1283), (.str "_law_twig" 1284), (.str "/claim/cut.py" 1285), (.int (867) 0), (.int (2) 0), (.int (0) 0), (.int (0) 0), (.int (3) 0), (.ref 806), (.bool true), (.int (181) 0), (.ref 807), .none, (.ref 808), (.ref 809), (.ref 810), (.int (1288) 0), (.int (867) 0), (.str "/claim/cut.py" 1289)]) #[] : Obj)) :: (nat_lit 812, (.mk (.type "function") none (.func (fnX "_law_twig" "_law_twig" p812 b812 s812 [] .none .none .none (.str "law_pq0478_02" 1270) none (.ref 811) .none)) #[] : Obj)) :: (nat_lit 813, (.mk (.type "tuple") none (.seq #[] 0) #[] : Obj)) :: (nat_lit 815, (.mk (.type "tuple") none (.seq #[(.str "row" 1294), (.str "kind" 1295), (.str "words" 1296)] 0) #[] : Obj)) :: (nat_lit 816, (.mk (.type "tuple") none (.seq #[] 0) #[] : Obj)) :: (nat_lit 818, (.mk (.type "code") none (.fields #[(.str "_law_say" 1291), (.str "_law_say" 1292), (.str "/claim/cut.py" 1293), (.int (869) 0), (.int (3) 0), (.int (0) 0), (.int (0) 0), (.int (3) 0), (.ref 813), (.bool true), (.int (181) 0), (.ref 814), .none, (.ref 815), (.ref 816), (.ref 817), (.int (1297) 0), (.int (869) 0), (.str "/claim/cut.py" 1298)]) #[] : Obj)) :: (nat_lit 819, (.mk (.type "function") none (.func (fnX "_law_say" "_law_say" p819 b819 s819 [] .none .none .none (.str "law_pq0478_02" 1270) none (.ref 818) .none)) #[] : Obj)) :: (nat_lit 820, (.mk (.type "tuple") none (.seq #[] 0) #[] : Obj)) :: (nat_lit 822, (.mk (.type "tuple") none (.seq #[(.str "at" 1303), (.str "figure" 1304)] 0) #[] : Obj)) :: (nat_lit 823, (.mk (.type "tuple") none (.seq #[] 0) #[] : Obj)) :: (nat_lit 825, (.mk (.type "code") none (.fields #[(.str "_law_number" 1300), (.str "_law_number" 1301), (.str "/claim/cut.py" 1302), (.int (872) 0), (.int (2) 0), (.int (0) 0), (.int (0) 0), (.int (3) 0), (.ref 820), (.bool true), (.int (181) 0), (.ref 821), .none, (.ref 822), (.ref 823), (.ref 824), (.int (1305) 0), (.int (872) 0), (.str "/claim/cut.py" 1306)]) #[] : Obj)) :: (nat_lit 826, (.mk (.type "function") none (.func (fnX "_law_number" "_law_number" p826 b826 s826 [] .none .none .none (.str "law_pq0478_02" 1270) none (.ref 825) .none)) #[] : Obj)) :: (nat_lit 827, (.mk (.type "tuple") none (.seq #[] 0) #[] : Obj)) :: (nat_lit 829, (.mk (.type "tuple") none (.seq #[(.str "nest" 1311), (.str "row" 1312), (.str "first_at" 1313), (.str "kinds" 1314), (.str "word" 1315), (.str "signed" 1316), (.str "extent" 1317), (.str "high" 1318), (.str "left" 1319), (.str "right" 1320)] 0) #[] : Obj)) :: (nat_lit 830, (.mk (.type "tuple") none (.seq #[] 0) #[] : Obj)) :: (nat_lit 832, (.mk (.type "code") none (.fields #[(.str "_law_shape" 1308), (.str "_law_shape" 1309), (.str "/claim/cut.py" 1310), (.int (874) 0), (.int (4) 0), (.int (0) 0), (.int (0) 0), (.int (3) 0), (.ref 827), (.bool true), (.int (181) 0), (.ref 828), .none, (.ref 829), (.ref 830), (.ref 831), (.int (1321) 0), (.int (874) 0), (.str "/claim/cut.py" 1322)]) #[] : Obj)) :: (nat_lit 833, (.mk (.type "function") none (.func (fnX "_law_shape" "_law_shape" p833 b833 s833 [] .none .none .none (.str "law_pq0478_02" 1270) none (.ref 832) .none)) #[] : Obj)) :: (nat_lit 834, (.mk (.type "tuple") none (.seq #[] 0) #[] : Obj)) :: (nat_lit 836, (.mk (.type "tuple") none (.seq #[(.str "nest" 1327), (.str "row" 1328), (.str "count" 1329), (.str "direction" 1330), (.str "at" 1331), (.str "word" 1332), (.str "signed" 1333), (.str "extent" 1334), (.str "found" 1335), (.str "step" 1336), (.str "name" 1337)] 0) #[] : Obj)) :: (nat_lit 837, (.mk (.type "tuple") none (.seq #[] 0) #[] : Obj)) :: (nat_lit 839, (.mk (.type "code") none (.fields #[(.str "_law_ports" 1324), (.str "_law_ports" 1325), (.str "/claim/cut.py" 1326), (.int (894) 0), (.int (3) 0), (.int (0) 0), (.int (0) 0), (.int (3) 0), (.ref 834), (.bool true), (.int (181) 0), (.ref 835), .none, (.ref 836), (.ref 837), (.ref 838), (.int (1338) 0), (.int (894) 0), (.str "/claim/cut.py" 1339)]) #[] : Obj)) :: (nat_lit 840, (.mk (.type "function") none (.func (fnX "_law_ports" "_law_ports" p840 b840 s840 [] .none .none .none (.str "law_pq0478_02" 1270) none (.ref 839) .none)) #[] : Obj)) :: (nat_lit 841, (.mk (.type "tuple") none (.seq #[] 0) #[] : Obj)) :: (nat_lit 843, (.mk (.type "tuple") none (.seq #[(.str "script" 1344), (.str "nest" 1345), (.str "row" 1346), (.str "sort" 1347), (.str "begun" 1348), (.str "automatic" 1349), (.str "signed" 1350), (.str "extent" 1351), (.str "fault" 1352), (.str "word" 1353), (.str "name_at" 1354), (.str "due" 1355), (.str "step" 1356), (.str "at" 1357), (.str "body" 1358), (.str "shape_of_body" 1359), (.str "wrong_end" 1360), (.str "end_at" 1361), (.str "behind" 1362), (.str "parser" 1363), (.str "told" 1364), (.str "error" 1365)] 0) #[] : Obj)) :: (nat_lit 844, (.mk (.type "tuple") none (.seq #[] 0) #[] : Obj)) :: (nat_lit 846, (.mk (.type "code") none (.fields #[(.str "law" 1341), (.str "law" 1342), (.str "/claim/cut.py" 1343), (.int (906) 0), (.int (1) 0), (.int (0) 0), (.int (0) 0), (.int (3) 0), (.ref 841), (.bool true), (.int (181) 0), (.ref 842), .none, (.ref 843), (.ref 844), (.ref 845), (.int (1366) 0), (.int (906) 0), (.str "/claim/cut.py" 1367)]) #[] : Obj)) :: (nat_lit 847, (.mk (.type "function") none (.func (fnX "law" "law" p847 b847 s847 [] .none .none .none (.str "law_pq0478_02" 1270) none (.ref 846) .none)) #[] : Obj)) :: []
noncomputable abbrev headA : List Addr := nat_lit 2 :: nat_lit 3 :: nat_lit 15 :: nat_lit 17 :: nat_lit 18 :: nat_lit 22 :: nat_lit 29 :: nat_lit 30 :: nat_lit 32 :: nat_lit 33 :: nat_lit 35 :: nat_lit 36 :: nat_lit 37 :: nat_lit 38 :: nat_lit 39 :: nat_lit 40 :: nat_lit 43 :: nat_lit 50 :: nat_lit 51 :: nat_lit 52 :: nat_lit 62 :: nat_lit 64 :: nat_lit 65 :: nat_lit 67 :: nat_lit 68 :: nat_lit 69 :: nat_lit 70 :: nat_lit 71 :: nat_lit 72 :: nat_lit 73 :: nat_lit 83 :: nat_lit 85 :: nat_lit 86 :: nat_lit 88 :: nat_lit 89 :: nat_lit 90 :: nat_lit 92 :: nat_lit 93 :: nat_lit 95 :: nat_lit 96 :: nat_lit 97 :: nat_lit 98 :: nat_lit 99 :: nat_lit 100 :: nat_lit 101 :: nat_lit 111 :: nat_lit 113 :: nat_lit 114 :: nat_lit 116 :: nat_lit 117 :: nat_lit 118 :: nat_lit 120 :: nat_lit 121 :: nat_lit 123 :: nat_lit 124 :: nat_lit 125 :: nat_lit 126 :: nat_lit 128 :: nat_lit 129 :: nat_lit 131 :: nat_lit 132 :: nat_lit 133 :: nat_lit 135 :: nat_lit 136 :: nat_lit 138 :: nat_lit 139 :: nat_lit 140 :: nat_lit 142 :: nat_lit 143 :: nat_lit 145 :: nat_lit 146 :: nat_lit 147 :: nat_lit 149 :: nat_lit 150 :: nat_lit 152 :: nat_lit 153 :: nat_lit 154 :: nat_lit 156 :: nat_lit 157 :: nat_lit 159 :: nat_lit 160 :: nat_lit 161 :: nat_lit 163 :: nat_lit 164 :: nat_lit 166 :: nat_lit 167 :: nat_lit 168 :: nat_lit 170 :: nat_lit 171 :: nat_lit 173 :: nat_lit 174 :: nat_lit 175 :: nat_lit 177 :: nat_lit 178 :: nat_lit 180 :: nat_lit 181 :: nat_lit 182 :: nat_lit 184 :: nat_lit 185 :: nat_lit 187 :: nat_lit 188 :: nat_lit 189 :: nat_lit 190 :: nat_lit 192 :: nat_lit 193 :: nat_lit 195 :: nat_lit 196 :: nat_lit 197 :: nat_lit 198 :: nat_lit 199 :: nat_lit 200 :: nat_lit 201 :: nat_lit 204 :: nat_lit 206 :: nat_lit 207 :: nat_lit 209 :: nat_lit 210 :: nat_lit 211 :: nat_lit 212 :: nat_lit 214 :: nat_lit 215 :: nat_lit 217 :: nat_lit 218 :: nat_lit 219 :: nat_lit 221 :: nat_lit 222 :: nat_lit 226 :: nat_lit 228 :: nat_lit 229 :: nat_lit 231 :: nat_lit 232 :: nat_lit 233 :: nat_lit 235 :: nat_lit 236 :: nat_lit 240 :: nat_lit 242 :: nat_lit 243 :: nat_lit 247 :: nat_lit 249 :: nat_lit 250 :: nat_lit 254 :: nat_lit 256 :: nat_lit 257 :: nat_lit 259 :: nat_lit 260 :: nat_lit 261 :: nat_lit 263 :: nat_lit 264 :: nat_lit 266 :: nat_lit 267 :: nat_lit 268 :: nat_lit 270 :: nat_lit 271 :: nat_lit 273 :: nat_lit 274 :: nat_lit 275 :: nat_lit 277 :: nat_lit 278 :: nat_lit 282 :: nat_lit 284 :: nat_lit 285 :: nat_lit 289 :: nat_lit 292 :: nat_lit 293 :: nat_lit 294 :: nat_lit 301 :: nat_lit 303 :: nat_lit 304 :: nat_lit 306 :: nat_lit 307 :: nat_lit 308 :: nat_lit 310 :: nat_lit 311 :: nat_lit 313 :: nat_lit 314 :: nat_lit 315 :: nat_lit 317 :: nat_lit 318 :: nat_lit 320 :: nat_lit 321 :: nat_lit 322 :: nat_lit 324 :: nat_lit 325 :: nat_lit 327 :: nat_lit 328 :: nat_lit 329 :: nat_lit 331 :: nat_lit 332 :: nat_lit 334 :: nat_lit 335 :: nat_lit 336 :: nat_lit 338 :: nat_lit 339 :: nat_lit 341 :: nat_lit 342 :: nat_lit 343 :: nat_lit 345 :: nat_lit 346 :: nat_lit 348 :: nat_lit 349 :: nat_lit 350 :: nat_lit 352 :: nat_lit 353 :: nat_lit 355 :: nat_lit 356 :: nat_lit 357 :: nat_lit 359 :: nat_lit 360 :: nat_lit 364 :: nat_lit 366 :: nat_lit 367 :: nat_lit 371 :: nat_lit 373 :: nat_lit 374 :: nat_lit 378 :: nat_lit 380 :: nat_lit 381 :: nat_lit 385 :: nat_lit 387 :: nat_lit 388 :: nat_lit 390 :: nat_lit 391 :: nat_lit 392 :: nat_lit 394 :: nat_lit 395 :: nat_lit 397 :: nat_lit 398 :: nat_lit 399 :: nat_lit 401 :: nat_lit 402 :: nat_lit 404 :: nat_lit 405 :: nat_lit 406 :: nat_lit 408 :: nat_lit 409 :: nat_lit 413 :: nat_lit 415 :: nat_lit 416 :: nat_lit 420 :: nat_lit 422 :: nat_lit 423 :: nat_lit 427 :: nat_lit 429 :: nat_lit 430 :: nat_lit 434 :: nat_lit 436 :: nat_lit 437 :: nat_lit 439 :: nat_lit 440 :: nat_lit 441 :: nat_lit 443 :: nat_lit 444 :: nat_lit 446 :: nat_lit 447 :: nat_lit 448 :: nat_lit 450 :: nat_lit 451 :: nat_lit 455 :: nat_lit 457 :: nat_lit 458 :: nat_lit 462 :: nat_lit 464 :: nat_lit 465 :: nat_lit 469 :: nat_lit 470 :: nat_lit 471 :: nat_lit 474 :: nat_lit 476 :: nat_lit 477 :: nat_lit 479 :: nat_lit 480 :: nat_lit 481 :: nat_lit 488 :: nat_lit 490 :: nat_lit 491 :: nat_lit 493 :: nat_lit 494 :: nat_lit 495 :: nat_lit 497 :: nat_lit 498 :: nat_lit 500 :: nat_lit 501 :: nat_lit 502 :: nat_lit 504 :: nat_lit 505 :: nat_lit 507 :: nat_lit 508 :: nat_lit 509 :: nat_lit 511 :: nat_lit 512 :: nat_lit 514 :: nat_lit 515 :: nat_lit 516 :: nat_lit 518 :: nat_lit 519 :: nat_lit 523 :: nat_lit 525 :: nat_lit 526 :: nat_lit 530 :: nat_lit 532 :: nat_lit 533 :: nat_lit 537 :: nat_lit 539 :: nat_lit 540 :: nat_lit 544 :: nat_lit 546 :: nat_lit 547 :: nat_lit 551 :: nat_lit 553 :: nat_lit 554 :: nat_lit 558 :: nat_lit 560 :: nat_lit 561 :: nat_lit 565 :: nat_lit 567 :: nat_lit 568 :: nat_lit 572 :: nat_lit 574 :: nat_lit 575 :: nat_lit 579 :: nat_lit 581 :: nat_lit 582 :: nat_lit 586 :: nat_lit 588 :: nat_lit 589 :: nat_lit 593 :: nat_lit 595 :: nat_lit 596 :: nat_lit 600 :: nat_lit 602 :: nat_lit 603 :: nat_lit 607 :: nat_lit 609 :: nat_lit 610 :: nat_lit 614 :: nat_lit 616 :: nat_lit 617 :: nat_lit 619 :: nat_lit 620 :: nat_lit 621 :: nat_lit 623 :: nat_lit 624 :: nat_lit 626 :: nat_lit 627 :: nat_lit 628 :: nat_lit 630 :: nat_lit 631 :: nat_lit 633 :: nat_lit 634 :: nat_lit 635 :: nat_lit 637 :: nat_lit 638 :: nat_lit 640 :: nat_lit 641 :: nat_lit 642 :: nat_lit 644 :: nat_lit 645 :: nat_lit 647 :: nat_lit 648 :: nat_lit 649 :: nat_lit 651 :: nat_lit 652 :: nat_lit 656 :: nat_lit 658 :: nat_lit 659 :: nat_lit 663 :: nat_lit 665 :: nat_lit 666 :: nat_lit 670 :: nat_lit 672 :: nat_lit 673 :: nat_lit 677 :: nat_lit 678 :: nat_lit 679 :: nat_lit 682 :: nat_lit 684 :: nat_lit 685 :: nat_lit 687 :: nat_lit 688 :: nat_lit 689 :: nat_lit 696 :: nat_lit 698 :: nat_lit 699 :: nat_lit 703 :: nat_lit 705 :: nat_lit 706 :: nat_lit 708 :: nat_lit 709 :: nat_lit 710 :: nat_lit 712 :: nat_lit 713 :: nat_lit 717 :: nat_lit 719 :: nat_lit 720 :: nat_lit 724 :: nat_lit 726 :: nat_lit 727 :: nat_lit 731 :: nat_lit 733 :: nat_lit 734 :: nat_lit 738 :: nat_lit 740 :: nat_lit 741 :: nat_lit 745 :: nat_lit 747 :: nat_lit 748 :: nat_lit 752 :: nat_lit 754 :: nat_lit 755 :: nat_lit 759 :: nat_lit 761 :: nat_lit 762 :: nat_lit 766 :: nat_lit 768 :: nat_lit 769 :: nat_lit 771 :: nat_lit 772 :: nat_lit 773 :: nat_lit 775 :: nat_lit 776 :: nat_lit 778 :: nat_lit 779 :: nat_lit 780 :: nat_lit 782 :: nat_lit 783 :: nat_lit 785 :: nat_lit 786 :: nat_lit 787 :: nat_lit 789 :: nat_lit 790 :: nat_lit 792 :: nat_lit 793 :: nat_lit 794 :: nat_lit 795 :: nat_lit 796 :: nat_lit 799 :: nat_lit 801 :: nat_lit 802 :: nat_lit 804 :: nat_lit 805 :: nat_lit 806 :: nat_lit 808 :: nat_lit 809 :: nat_lit 811 :: nat_lit 812 :: nat_lit 813 :: nat_lit 815 :: nat_lit 816 :: nat_lit 818 :: nat_lit 819 :: nat_lit 820 :: nat_lit 822 :: nat_lit 823 :: nat_lit 825 :: nat_lit 826 :: nat_lit 827 :: nat_lit 829 :: nat_lit 830 :: nat_lit 832 :: nat_lit 833 :: nat_lit 834 :: nat_lit 836 :: nat_lit 837 :: nat_lit 839 :: nat_lit 840 :: nat_lit 841 :: nat_lit 843 :: nat_lit 844 :: nat_lit 846 :: nat_lit 847 :: []
noncomputable def headV : Program := { pw with main := { pw.main with body := [sT 0, sT 2, sT 3, sT 5, sT 6, sT 7, sT 9, sT 12, sT 13, sT 14, sT 15, sT 16, sT 17, sT 18, sT 19, sT 20, sT 22, sT 23, sT 24, sT 25, sT 26, sT 27, sT 28, sT 30, sT 31, sT 33, sT 34, sT 36, sT 37, sT 38, sT 39, sT 40, sT 41, sT 42] } }
noncomputable abbrev headL : List PySem.Str := ["GateloomError", "vec"]
noncomputable abbrev headN : Nat := 10588
noncomputable def z11 : Obj := .mk (.type "tuple") none (.seq #[] 0) #[]
noncomputable def z12 : Obj := .mk .none none (.fields #[]) #[]
noncomputable def z13 : Obj := .mk (.type "code") none (.fields #[(.str "<module>" 182), (.str "<module>" 183), (.str "/claim/cut.py" 184), (.int (1) 0), (.int (0) 0), (.int (0) 0), (.int (0) 0), (.int (0) 0), (.ref 11), (.bool false), (.int (181) 0), (.ref 12), .none, .none, .none, .none, (.int (185) 0), (.int (1) 0), (.str "/claim/cut.py" 186)]) #[]
noncomputable def z14 : Obj := .mk (.type "frame") none .plain #[(some (.ref 13)), (some (.ref 3)), (some (.ref 3)), none, (some (.str "__main__" 164)), none, (some (.ref 0))]
noncomputable def headH (P : Params) : Heap := ⟨#[boot_o_0 P, boot_o_1 P, boot_o_2 P, boot_o_3 P, boot_o_4 P, boot_o_5 P, boot_o_6 P, boot_o_7 P, boot_o_8 P, boot_o_9 P, boot_o_10 P, z11, z12, z13, z14], {}⟩
noncomputable def headT (P : Params) : BT := (.node (boot_o_0 P) (.node (boot_o_1 P) (.node (boot_o_3 P) (.node (boot_o_7 P) .nil .nil) (.node (z11) .nil .nil)) (.node (boot_o_5 P) (.node (boot_o_9 P) .nil .nil) (.node (z13) .nil .nil))) (.node (boot_o_2 P) (.node (boot_o_4 P) (.node (boot_o_8 P) .nil .nil) (.node (z12) .nil .nil)) (.node (boot_o_6 P) (.node (boot_o_10 P) .nil .nil) (.node (z14) .nil .nil))))
noncomputable abbrev headBody : List Stmt := behindTheImports pw
noncomputable abbrev headEnv : Env := { scope := pw.main.scope, locals := mainNs, globals := mainNs, cells := [], code := (.ref 13), frame := some 14 }
noncomputable abbrev headC : Code := .body headBody headEnv
noncomputable abbrev headS (w : World) (os : OsState) : Shared := ⟨boot_heap w.params, Array.mk [], boot_drawn, boot_toks, os⟩
noncomputable abbrev headTS (w : World) (os : OsState) : SharedT := ⟨headT w.params, 15, {}, Array.mk [], {}, 187, os⟩
noncomputable abbrev headHook : Hook := kHook headK headA (fun _ => by kernel_rfl)
noncomputable abbrev headX : Shared → Bool := fun s => xlAt headV [] s && recOk (PySem.Challenge.rw_pq0478_02.row.toRowW).records s
theorem head_pre (w : World) (os : OsState) : topGo treeTable pw w 11 (some (.ref 6)) 12 (headS w os) (topStub pw) =
    some (⟨headH w.params, Array.mk [], {}, 187, os⟩, ⟨denote treeTable headC, headC, ⟨0, 0, 0, 0⟩, [topFrame ⟨0, 0, 0, 0⟩]⟩) := by
  have h : PySem.W.Fast.tw15667345088766844465 PySem.W.Fast.tw14364793385576792824 pw w 11 (some (.ref 6)) 12 (headS w os) (topStub pw) =
    some (⟨headH w.params, Array.mk [], {}, 187, os⟩, ⟨PySem.W.Fast.tw11892475500146522536 PySem.W.Fast.tw14364793385576792824 headC, headC, ⟨0, 0, 0, 0⟩, [topFrame ⟨0, 0, 0, 0⟩]⟩) := by kernel_rfl
  rw [PySem.W.Fast.te15667345088766844465, PySem.W.Fast.te14364793385576792824, PySem.W.Fast.te11892475500146522536]; exact h
theorem head_block (w : World) (os : OsState) : segRun treeTable pw w 11 (some (.ref 6)) 1 1 ⟨headH w.params, Array.mk [], {}, 187, os⟩ (blockOf headBody headEnv headC ⟨0, 0, 0, 0⟩ [topFrame ⟨0, 0, 0, 0⟩]) =
    some (.next, (headTS w os).abs, headC, ⟨0, 0, 0, 0⟩) := by
  have h : PySem.W.Fast.tw14374325043358763698 PySem.W.Fast.tw14364793385576792824 pw w 11 (some (.ref 6)) 1 1 ⟨headH w.params, Array.mk [], {}, 187, os⟩ ⟨(PySem.W.Fast.tw1066825118222455980 headBody headEnv).wrap (fun _ => doneF .next) deadEnd id id, headC, ⟨0, 0, 0, 0⟩, [topFrame ⟨0, 0, 0, 0⟩]⟩ =
    some (.next, (headTS w os).abs, headC, ⟨0, 0, 0, 0⟩) := by kernel_rfl
  show segRun treeTable pw w 11 (some (.ref 6)) 1 1 ⟨headH w.params, Array.mk [], {}, 187, os⟩ ⟨(blockStart headBody headEnv).wrap (fun _ => doneF .next) deadEnd id id, headC, ⟨0, 0, 0, 0⟩, [topFrame ⟨0, 0, 0, 0⟩]⟩ = _
  rw [PySem.W.Fast.te14374325043358763698, PySem.W.Fast.te14364793385576792824, PySem.W.Fast.te1066825118222455980]; exact h
noncomputable def headQ (tRun : (String → Option Builtin) → Program → World → Nat → Option Value → Nat → Nat → SharedT → Thread → Option (Flow × SharedT × Code × Pos)) (tb : String → Option Builtin)
    (tEx : List Stmt → Env → Sem Flow) (tIm : List Stmt → List PySem.Str) (tOS : type_of% @openSeen) (w : World) (os : OsState) : Prop :=
  (tRun tb pw w 11 (some (.ref 6)) 1 5232 (headTS w os) ⟨(tEx headBody headEnv).wrap doneF deadEnd id id, headC, ⟨0, 0, 0, 0⟩, [topFrame ⟨0, 0, 0, 0⟩]⟩).map (fun x => (x.1, x.2.2.1,
      (staticsOk (tIm pw.main.body) (boot_heap w.params) x.2.1.abs.heap && namesBound pw x.2.1.abs.heap && gensDone x.2.1.abs && laidKept (boot_heap w.params) x.2.1.abs.heap), tOS headV headL (tIm pw.main.body) headX true x.2.1.abs))
    = some (.next, headC, true, openGood headV headL)
theorem head_fast (w : World) (os : OsState) : headQ PySem.W.Fast.tw10110043849684766642 PySem.W.Fast.tw14364793385576792824 PySem.W.Fast.tw12563942051412417395 PySem.W.Fast.tw5923862056798008813 PySem.W.Fast.tw4187177175401517315 w os := by
  delta headQ; kernel_rfl
theorem head_body (w : World) (os : OsState) : headQ segRunT treeTable execs importedModules openSeen w os := by
  rw [PySem.W.Fast.te10110043849684766642, PySem.W.Fast.te14364793385576792824, PySem.W.Fast.te12563942051412417395, PySem.W.Fast.te5923862056798008813, PySem.W.Fast.te4187177175401517315]
  exact head_fast w os
noncomputable def headR (tRun : (String → Option Builtin) → Program → World → Nat → Option Value → Nat → Nat → SharedT → Thread → Option (Flow × SharedT × Code × Pos)) (tb : String → Option Builtin)
    (tEx : List Stmt → Env → Sem Flow) (w : World) (os : OsState) : Prop :=
  (tRun tb pw w 11 (some (.ref 6)) 1 5232 (headTS w os) ⟨(tEx headBody headEnv).wrap doneF deadEnd id id, headC, ⟨0, 0, 0, 0⟩, [topFrame ⟨0, 0, 0, 0⟩]⟩).map (fun x => (headA.map x.2.1.tree.get, x.2.1.n))
    = some ((headK w.params).map (fun p => some p.2), 848)
theorem head_fast2 (w : World) (os : OsState) : headR PySem.W.Fast.tw10110043849684766642 PySem.W.Fast.tw14364793385576792824 PySem.W.Fast.tw12563942051412417395 w os := by
  delta headR; kernel_rfl
theorem head_objs (w : World) (os : OsState) : headR segRunT treeTable execs w os := by
  rw [PySem.W.Fast.te10110043849684766642, PySem.W.Fast.te14364793385576792824, PySem.W.Fast.te12563942051412417395]
  exact head_fast2 w os
theorem head_low : (headA.all fun a => Nat.blt a 848) = true := by decide
theorem head_alive (w : World) : ((headK w.params).all fun p => !p.2.isFreed) = true := by kernel_rfl
theorem head_left : LeftO pw headV headL headX headHook.obs headHook.val headN := by
  refine leftO_of (m₀ := 11) (ann := (some (.ref 6))) (M := 12 + (1 + (5232 + 2))) (boot_open (by kernel_rfl) (by decide) (by intro s; kernel_rfl)) (by intro w; kernel_rfl) (fun w os => ?_) (by decide)
  obtain ⟨⟨f, s', c', p'⟩, h1, h2⟩ := Option.map_eq_some_iff.mp (head_body w os)
  simp only [Prod.mk.injEq] at h2
  obtain ⟨rfl, rfl, h3, h4⟩ := h2
  have h5 := head_objs w os
  unfold headR at h5
  rw [h1] at h5
  simp only [Option.map_some, Option.some.injEq, Prod.mk.injEq] at h5
  have h6 := objs_abs (life := s'.life) h5.1 h5.2 head_low (head_alive w)
  refine run_of_body (v := (true, openGood headV headL, headHook.val w)) (L := fun r => ((staticsOk (importedModules pw.main.body) (boot_heap w.params) r.heap && namesBound pw r.heap && gensDone r && laidKept (boot_heap w.params) r.heap), openSeen headV headL (importedModules pw.main.body) headX true r, headHook.obs r)) (head_pre w os) (head_block w os) (kf := 2) ?_
  rw [show piecesOf headBody headEnv headC ⟨0, 0, 0, 0⟩ [topFrame ⟨0, 0, 0, 0⟩] = ⟨(execs headBody headEnv).wrap doneF deadEnd id id, headC, ⟨0, 0, 0, 0⟩, [topFrame ⟨0, 0, 0, 0⟩]⟩ from rfl, h1]
  show some (Flow.next, headC, some _) = some (Flow.next, headC, some _)
  refine congrArg (fun x => some (Flow.next, headC, some x)) ?_
  exact Prod.ext h3 (Prod.ext h4 h6)
noncomputable def headDef : DefRec := { name := "law", params := p847, body := b847, scope := s847, pos := fQ (sT 42) }
theorem head_said : PySem.Challenge.rw_pq0478_02.wellSaid = true := by
  rw [PySem.W.Fast.te9446332074065402090]; kernel_rfl
theorem hd (call : WalkO headV headL (XL headV []) headHook.says PySem.Challenge.rw_pq0478_02.row.toRowW headDef [] fun f vs => PySem.call f vs) : PySem.Challenge.rw_pq0478_02.Holds := by
  refine holds_law head_said fun said => ?_
  refine holds_open (q := headV) (loose := headL) (Xt := headX) (XP := XL headV []) (Yf := headHook.obs) (Ya := headHook.val) (YP := headHook.says) (N := headN) (d := headDef) (kwd := []) head_left headHook.of headHook.keeps (fun s e => xl_of s (Bool.and_eq_true_iff.mp e).1) XL.keeps ?a (by rfl) (by rfl) (fun s e => recFacts_of (Bool.and_eq_true_iff.mp e).2) (by rfl) said (by decide +kernel) ⟨rfl, rfl, rfl, rfl, rfl, by decide +kernel⟩ ?b call
  case a => kernel_rfl
  case b => w_witness2
noncomputable abbrev Led := List (Addr × Obj)
noncomputable abbrev PR : Program := PySem.Challenge.rw_pq0478_02.row.prog
noncomputable abbrev LO : List PySem.Str := looseW headV headL
noncomputable abbrev tupObj (vs : List Value) (n : Nat) : Obj := { cls := .type "tuple", data := .seq vs.toArray n }
noncomputable def Con (dp un : Nat) (w : World) (f : Addr) (args : List Value) (led : Led) (R : Value → Led → Prop) : Prop :=
  ∀ (mean : ExcName → Option Value) (mg mb : PySem.Str → Option Value) (gd : Option (List Code)) (cn : PySem.Str) (cs : Scope) (a : Addr) (ccd : Value) (cl : List (PySem.Str × Addr)) (outer : List Env) (A₀ : Around) (base h₀ : Heap) (L : Addr) (m : PySem.Str → Option Value) (s : Shared) (Q E : Value → Shared → Prop),
    Below A₀ base outer h₀ → Fr h₀ L s.heap m → (headK w.params).In h₀ → News h₀ L s.heap led → Top headV LO mean mg mb h₀ → cs.kind = .function →
    (∀ r led' h' tk', Fr h₀ L h' m → News h₀ L h' led' → R r led' → Q r { s with heap := h', toks := tk' }) →
    wpAny (model PySem.Challenge.rw_pq0478_02.row.prog w) (ktrTop dp un gd cn cs L a ccd cl outer) (call (.ref f) args) Q E s
theorem int_all {P : Int → Prop} {n : Nat} {x : Int} (p : ∀ k, k < n → P (k : Nat)) (h0 : 0 ≤ x) (h1 : x < n) : P x := Int.toNat_of_nonneg h0 ▸ p x.toNat ((Int.toNat_lt h0).mpr h1)
theorem at_toks {M : Model} {A : Around} {α : Type} {t : Sem α} {Q : α → Shared → Prop} {E : Value → Shared → Prop} {hp : Heap} {g : Array GenState} {d : Drawn} {tk : Nat} {o : OsState} (h : ∀ tk, wpAny M A t Q E ⟨hp, g, d, tk, o⟩) : wpAny M A t Q E ⟨hp, g, d, tk, o⟩ := h tk
noncomputable def Hold (p : Prop) : Prop := p
theorem of_hold {p : Prop} (h : Hold p) : p := h
noncomputable def cutLines : List Nat := [770, 776, 809, 815, 825, 879, 881, 882, 885, 895, 909, 911, 912, 917, 920, 923, 932, 939, 945, 951, 952, 954]
noncomputable def stmtLine : Stmt → Nat
  | .Assign _ _ p => p.line
  | .If _ _ _ p => p.line
  | .For _ _ _ _ p => p.line
  | .Expr _ p => p.line
  | _ => 0
theorem hold_cut {M : Model} {A : Around} {st : Stmt} {rest : List Stmt} {env : Env} {Q : Flow → Shared → Prop} {E : Value → Shared → Prop} {s : Shared} (_ : cutLines.contains (stmtLine st) = true) (h : Hold (wpAny M A (execs (st :: rest) env) Q E s)) : wpAny M A (execs (st :: rest) env) Q E s := h
noncomputable def heldL : List Nat := [89, 99, 117, 124, 132, 139, 146, 153, 160, 167, 174, 181, 188, 196, 210, 218, 232, 260, 267, 274, 293, 314, 321, 328, 335, 342, 349, 356, 398, 405, 440, 447, 468, 480, 494, 501, 508, 515, 620, 627, 634, 641, 648, 688, 709, 723, 730, 737, 744, 751, 772, 779, 786, 793, 796, 805, 812, 819, 826, 833, 840]
theorem hold_ref {M : Model} {A : Around} {n : Addr} {args : List Value} {kw : List (PySem.Str × Value)} {Q E : Value → Shared → Prop} {s : Shared} (_ : heldL.contains n = true) (h : Hold (wpAny M A (call (.ref n) args kw) Q E s)) : wpAny M A (call (.ref n) args kw) Q E s := h
theorem ktr_depth {dp un : Nat} {gd : Option (List Code)} {cn : PySem.Str} {cs : Scope} {L a : Addr} {ccd : Value} {cl : List (PySem.Str × Addr)} {outer : List Env} : (ktrTop dp un gd cn cs L a ccd cl outer).depth = dp := rfl
theorem in_deeper {Γ : Ctx} {hdl : Option Value} {d u d' u' : Nat} {fr : Option (List Env)} {gd : Option (List Code)} (h : Γ.In ⟨hdl, d, fr, gd, u⟩) (hd : d ≤ d') (hu : u ≤ u') : Γ.In ⟨hdl, d', fr, gd, u'⟩ :=
  ⟨h.1, Nat.le_trans h.2.1 hd, h.2.2.1, h.2.2.2.1, Nat.le_trans h.2.2.2.2 hu⟩
theorem wp_deeper {α : Type} {M : Model} {hdl : Option Value} {d u d' u' : Nat} {fr : Option (List Env)} {gd : Option (List Code)} {t : Sem α} {Q : α → Shared → Prop} {E : Value → Shared → Prop} {s : Shared}
    (hd : d ≤ d') (hu : u ≤ u') (h : wpAny M ⟨hdl, d', fr, gd, u'⟩ t Q E s) : wpAny M ⟨hdl, d, fr, gd, u⟩ t Q E s := fun Γ p hΓ => h Γ p (in_deeper hΓ hd hu)
theorem Con.use {dp un dp' un' : Nat} {w : World} {f : Addr} {args : List Value} {led : Led} {R : Value → Led → Prop}
    {mean : ExcName → Option Value} {mg mb : PySem.Str → Option Value} {gd : Option (List Code)} {cn : PySem.Str} {cs : Scope} {a : Addr} {ccd : Value} {cl : List (PySem.Str × Addr)} {outer : List Env} {A₀ : Around} {base h₀ : Heap} {L : Addr} {m : PySem.Str → Option Value} {s : Shared} {Q E : Value → Shared → Prop}
    (C : Con dp un w f args led R) (B : Below A₀ base outer h₀) (F : Fr h₀ L s.heap m) (X : (headK w.params).In h₀) (N : News h₀ L s.heap led) (T : Top headV LO mean mg mb h₀) (hk : cs.kind = .function)
    (hd : dp' ≤ dp) (hu : un' ≤ un)
    (ret : ∀ r led' h' tk', Fr h₀ L h' m → News h₀ L h' led' → R r led' → Q r { s with heap := h', toks := tk' }) :
    wpAny (model PySem.Challenge.rw_pq0478_02.row.prog w) (ktrTop dp' un' gd cn cs L a ccd cl outer) (call (.ref f) args) Q E s :=
  wp_deeper hd hu (C _ _ _ _ _ _ _ _ _ _ _ _ _ _ _ _ _ _ B F X N T hk ret)
theorem Con.useS {dp un dp' un' : Nat} {w : World} {f : Addr} {args : List Value} {led : Led} {R : Value → Led → Prop}
    {mean : ExcName → Option Value} {mg mb : PySem.Str → Option Value} {gd : Option (List Code)} {cn : PySem.Str} {cs : Scope} {a : Addr} {ccd : Value} {cl : List (PySem.Str × Addr)} {outer : List Env} {A₀ : Around} {base h₀ hp : Heap} {L : Addr} {m : PySem.Str → Option Value} {gs : Array GenState} {dr : Drawn} {tk : Nat} {os : OsState} {Q E : Value → Shared → Prop}
    (C : Con dp un w f args led R) (B : Below A₀ base outer h₀) (F : Fr h₀ L hp m) (X : (headK w.params).In h₀) (N : News h₀ L hp led) (T : Top headV LO mean mg mb h₀) (hk : cs.kind = .function)
    (hd : Nat.ble dp' dp = true) (hu : Nat.ble un' un = true)
    (ret : ∀ r led' h' tk', Fr h₀ L h' m → News h₀ L h' led' → R r led' → Q r ⟨h', gs, dr, tk', os⟩) :
    wpAny (model PySem.Challenge.rw_pq0478_02.row.prog w) (ktrTop dp' un' gd cn cs L a ccd cl outer) (call (.ref f) args) Q E ⟨hp, gs, dr, tk, os⟩ :=
  Con.use C B F X N T hk (Nat.le_of_ble_eq_true hd) (Nat.le_of_ble_eq_true hu) ret
theorem Con.useVL {dp un dp' un' : Nat} {w : World} {f : Addr} {args : List Value} {led : Led}
    {mean : ExcName → Option Value} {mg mb : PySem.Str → Option Value} {gd : Option (List Code)} {cn : PySem.Str} {cs : Scope} {a : Addr} {ccd : Value} {cl : List (PySem.Str × Addr)} {outer : List Env} {A₀ : Around} {base h₀ hp : Heap} {L : Addr} {m : PySem.Str → Option Value} {gs : Array GenState} {dr : Drawn} {tk : Nat} {os : OsState} {Q E : Value → Shared → Prop} {v : Value} (C : Con dp un w f args led (fun r led' => r = v ∧ led' = led)) (B : Below A₀ base outer h₀) (F : Fr h₀ L hp m) (X : (headK w.params).In h₀) (N : News h₀ L hp led) (T : Top headV LO mean mg mb h₀) (hk : cs.kind = .function)
    (hd : Nat.ble dp' dp = true) (hu : Nat.ble un' un = true)
    (ret : ∀ h' tk', Fr h₀ L h' m → News h₀ L h' led → Q v ⟨h', gs, dr, tk', os⟩) :
    wpAny (model PySem.Challenge.rw_pq0478_02.row.prog w) (ktrTop dp' un' gd cn cs L a ccd cl outer) (call (.ref f) args) Q E ⟨hp, gs, dr, tk, os⟩ :=
  Con.useS C B F X N T hk hd hu (fun _ _ h tk F N x => by rw [x.1]; exact ret h tk F (x.2 ▸ N))
theorem Con.useV {dp un dp' un' : Nat} {w : World} {f : Addr} {args : List Value} {led : Led}
    {mean : ExcName → Option Value} {mg mb : PySem.Str → Option Value} {gd : Option (List Code)} {cn : PySem.Str} {cs : Scope} {a : Addr} {ccd : Value} {cl : List (PySem.Str × Addr)} {outer : List Env} {A₀ : Around} {base h₀ hp : Heap} {L : Addr} {m : PySem.Str → Option Value} {gs : Array GenState} {dr : Drawn} {tk : Nat} {os : OsState} {Q E : Value → Shared → Prop} {v : Value} {R1 R2 : Led → Prop} (C : Con dp un w f args led (fun r led' => r = v ∧ R1 led' ∧ R2 led')) (B : Below A₀ base outer h₀) (F : Fr h₀ L hp m) (X : (headK w.params).In h₀) (N : News h₀ L hp led) (T : Top headV LO mean mg mb h₀) (hk : cs.kind = .function)
    (hd : Nat.ble dp' dp = true) (hu : Nat.ble un' un = true)
    (ret : ∀ led' h' tk', Fr h₀ L h' m → News h₀ L h' led' → R1 led' → R2 led' → Q v ⟨h', gs, dr, tk', os⟩) :
    wpAny (model PySem.Challenge.rw_pq0478_02.row.prog w) (ktrTop dp' un' gd cn cs L a ccd cl outer) (call (.ref f) args) Q E ⟨hp, gs, dr, tk, os⟩ :=
  Con.useS C B F X N T hk hd hu (fun _ l h tk F N x => by obtain ⟨rfl, x1, x2⟩ := x; exact ret l h tk F N x1 x2)
theorem Con.useT {dp un dp' un' : Nat} {w : World} {f : Addr} {args : List Value} {led : Led}
    {mean : ExcName → Option Value} {mg mb : PySem.Str → Option Value} {gd : Option (List Code)} {cn : PySem.Str} {cs : Scope} {a : Addr} {ccd : Value} {cl : List (PySem.Str × Addr)} {outer : List Env} {A₀ : Around} {base h₀ hp : Heap} {L : Addr} {m : PySem.Str → Option Value} {gs : Array GenState} {dr : Drawn} {tk : Nat} {os : OsState} {Q E : Value → Shared → Prop} {v : Tok → Value} {R1 R2 : Led → Prop} (C : Con dp un w f args led (fun r led' => (∃ t, r = v t) ∧ R1 led' ∧ R2 led')) (B : Below A₀ base outer h₀) (F : Fr h₀ L hp m) (X : (headK w.params).In h₀) (N : News h₀ L hp led) (T : Top headV LO mean mg mb h₀) (hk : cs.kind = .function)
    (hd : Nat.ble dp' dp = true) (hu : Nat.ble un' un = true)
    (ret : ∀ t led' h' tk', Fr h₀ L h' m → News h₀ L h' led' → R1 led' → R2 led' → Q (v t) ⟨h', gs, dr, tk', os⟩) :
    wpAny (model PySem.Challenge.rw_pq0478_02.row.prog w) (ktrTop dp' un' gd cn cs L a ccd cl outer) (call (.ref f) args) Q E ⟨hp, gs, dr, tk, os⟩ :=
  Con.useS C B F X N T hk hd hu (fun _ l h tk F N x => by obtain ⟨⟨t, rfl⟩, x1, x2⟩ := x; exact ret t l h tk F N x1 x2)
theorem Con.use3 {dp un dp' un' : Nat} {w : World} {f : Addr} {args : List Value} {led : Led}
    {mean : ExcName → Option Value} {mg mb : PySem.Str → Option Value} {gd : Option (List Code)} {cn : PySem.Str} {cs : Scope} {a : Addr} {ccd : Value} {cl : List (PySem.Str × Addr)} {outer : List Env} {A₀ : Around} {base h₀ hp : Heap} {L : Addr} {m : PySem.Str → Option Value} {gs : Array GenState} {dr : Drawn} {tk : Nat} {os : OsState} {Q E : Value → Shared → Prop} {R0 : Value → Led → Prop} {R1 R2 : Led → Prop} (C : Con dp un w f args led (fun r led' => R0 r led' ∧ R1 led' ∧ R2 led')) (B : Below A₀ base outer h₀) (F : Fr h₀ L hp m) (X : (headK w.params).In h₀) (N : News h₀ L hp led) (T : Top headV LO mean mg mb h₀) (hk : cs.kind = .function)
    (hd : Nat.ble dp' dp = true) (hu : Nat.ble un' un = true)
    (ret : ∀ r led' h' tk', Fr h₀ L h' m → News h₀ L h' led' → R0 r led' → R1 led' → R2 led' → Q r ⟨h', gs, dr, tk', os⟩) :
    wpAny (model PySem.Challenge.rw_pq0478_02.row.prog w) (ktrTop dp' un' gd cn cs L a ccd cl outer) (call (.ref f) args) Q E ⟨hp, gs, dr, tk, os⟩ :=
  Con.useS C B F X N T hk hd hu (fun r l h tk F N x => ret r l h tk F N x.1 x.2.1 x.2.2)
theorem Con.use2 {dp un dp' un' : Nat} {w : World} {f : Addr} {args : List Value} {led : Led}
    {mean : ExcName → Option Value} {mg mb : PySem.Str → Option Value} {gd : Option (List Code)} {cn : PySem.Str} {cs : Scope} {a : Addr} {ccd : Value} {cl : List (PySem.Str × Addr)} {outer : List Env} {A₀ : Around} {base h₀ hp : Heap} {L : Addr} {m : PySem.Str → Option Value} {gs : Array GenState} {dr : Drawn} {tk : Nat} {os : OsState} {Q E : Value → Shared → Prop} {R0 : Value → Led → Prop} {R1 : Led → Prop} (C : Con dp un w f args led (fun r led' => R0 r led' ∧ R1 led')) (B : Below A₀ base outer h₀) (F : Fr h₀ L hp m) (X : (headK w.params).In h₀) (N : News h₀ L hp led) (T : Top headV LO mean mg mb h₀) (hk : cs.kind = .function)
    (hd : Nat.ble dp' dp = true) (hu : Nat.ble un' un = true)
    (ret : ∀ r led' h' tk', Fr h₀ L h' m → News h₀ L h' led' → R0 r led' → R1 led' → Q r ⟨h', gs, dr, tk', os⟩) :
    wpAny (model PySem.Challenge.rw_pq0478_02.row.prog w) (ktrTop dp' un' gd cn cs L a ccd cl outer) (call (.ref f) args) Q E ⟨hp, gs, dr, tk, os⟩ :=
  Con.useS C B F X N T hk hd hu (fun r l h tk F N x => ret r l h tk F N x.1 x.2)
theorem Con.weaken {dp un : Nat} {w : World} {f : Addr} {args : List Value} {led : Led} {R R' : Value → Led → Prop} (C : Con dp un w f args led R) (h : ∀ r l, R r l → R' r l) : Con dp un w f args led R' :=
  fun _ _ _ _ _ _ _ _ _ _ _ _ _ _ _ _ _ _ B F X N T hk ret => C _ _ _ _ _ _ _ _ _ _ _ _ _ _ _ _ _ _ B F X N T hk fun r l h' tk F' N' hr => ret r l h' tk F' N' (h r l hr)
noncomputable def Sup (led led' : List (Addr × Obj)) : Prop := ∀ p ∈ led, p ∈ led'
noncomputable def off (a : Addr) (led : Led) : Led := led.filter fun p => !(Nat.beq p.1 a)
theorem off_ne {a : Addr} {led : Led} : ∀ p ∈ off a led, p.1 ≠ a := fun p hp e => by
  have := (List.mem_filter.mp hp).2
  rw [e, Nat.beq_refl] at this; cases this
theorem mem_off {a q : Addr} {o : Obj} {led : Led} (h : (q, o) ∈ led) (hn : q ≠ a) : (q, o) ∈ off a led := by
  refine List.mem_filter.mpr ⟨h, ?_⟩
  cases e : Nat.beq q a with
  | true => exact absurd (Nat.eq_of_beq_eq_true e) hn
  | false => rfl
theorem of_off {a : Addr} {p : Addr × Obj} {led : Led} (h : p ∈ off a led) : p ∈ led := (List.mem_filter.mp h).1
theorem off_self {a : Addr} {o : Obj} {led : Led} : off a ((a, o) :: led) = off a led := by
  unfold off; rw [List.filter_cons]; simp
theorem off_two {a : Addr} {led : Led} : off a (off a led) = off a led := by
  unfold off; rw [List.filter_filter]; simp
theorem news_sub {h₀ h : Heap} {L : Addr} {led led' : Led} (N : News h₀ L h led) (hs : ∀ p ∈ led', p ∈ led) : News h₀ L h led' := fun p hp => N p (hs p hp)
theorem news_pull {h₀ h : Heap} {L a : Addr} {o : Obj} {led : Led} (N : News h₀ L h led) (hm : (a, o) ∈ led) : News h₀ L h ((a, o) :: off a led) := fun p hp => by
  rcases List.mem_cons.mp hp with rfl | hp
  · exact N _ hm
  · exact N _ (of_off hp)
theorem news_one {h₀ h : Heap} {L a : Addr} {o o' : Obj} {led : Led} (N : News h₀ L h led) (h1 : (a, o) ∈ led) (h2 : (a, o') ∈ led) : o = o' :=
  Option.some.inj ((N.get h1).symm.trans (N.get h2))
theorem news_ne {h₀ h : Heap} {L a b : Addr} {o o' : Obj} {led : Led} (N : News h₀ L h led) (h1 : (a, o) ∈ led) (h2 : (b, o') ∈ led) (hn : o ≠ o') : a ≠ b := fun e => by
  subst e; exact hn (news_one N h1 h2)
mutual
inductive VI (led : Led) : Value → Dat → Prop
  | none : VI led .none .none
  | bool (b : Bool) : VI led (.bool b) (.bool b)
  | int (i : Int) (t : Tok) : VI led (.int i t) (.int i)
  | str (x : PySem.Str) (t : Tok) : VI led (.str x t) (.str x)
  | tup {a : Addr} {vs : List Value} {n : Nat} {ds : List Dat} : (a, tupObj vs n) ∈ led → VIs led vs ds → VI led (.ref a) (.tuple ds)
inductive VIs (led : Led) : List Value → List Dat → Prop
  | nil : VIs led [] []
  | cons {v : Value} {vs : List Value} {d : Dat} {ds : List Dat} : VI led v d → VIs led vs ds → VIs led (v :: vs) (d :: ds)
end
theorem VI.ofInt {led : Led} {x y : Int} {t : Tok} (e : x = y) : VI led (.int x t) (.int y) := e ▸ .int _ _
theorem VI.ofBool {led : Led} {x y : Bool} (e : x = y) : VI led (.bool x) (.bool y) := e ▸ .bool _
theorem VI.ofStr {led : Led} {x y : PySem.Str} {t : Tok} (e : x = y) : VI led (.str x t) (.str y) := e ▸ .str _ _
noncomputable def TupSub (led led' : Led) : Prop := ∀ a vs n, (a, tupObj vs n) ∈ led → (a, tupObj vs n) ∈ led'
theorem VI.mono {led led' : Led} (h : TupSub led led') {v : Value} {d : Dat} (x : VI led v d) : VI led' v d :=
  VI.rec (motive_1 := fun v d _ => VI led' v d) (motive_2 := fun vs ds _ => VIs led' vs ds) .none (fun b => .bool b) (fun i t => .int i t) (fun x t => .str x t) (fun m _ ih => .tup (h _ _ _ m) ih) .nil (fun _ _ a b => .cons a b) x
theorem VIs.mono {led led' : Led} (h : TupSub led led') {v : List Value} {d : List Dat} (x : VIs led v d) : VIs led' v d :=
  VIs.rec (motive_1 := fun v d _ => VI led' v d) (motive_2 := fun vs ds _ => VIs led' vs ds) .none (fun b => .bool b) (fun i t => .int i t) (fun x t => .str x t) (fun m _ ih => .tup (h _ _ _ m) ih) .nil (fun _ _ a b => .cons a b) x
theorem VIs.hd {led : Led} {v : Value} {vs : List Value} {d : Dat} {ds : List Dat} (h : VIs led (v :: vs) (d :: ds)) : VI led v d := by cases h with | cons a _ => exact a
theorem VIs.tl {led : Led} {v : Value} {vs : List Value} {d : Dat} {ds : List Dat} (h : VIs led (v :: vs) (d :: ds)) : VIs led vs ds := by cases h with | cons _ b => exact b
theorem VI.up {led led' : Led} {v : Value} {d : Dat} (h : VI led v d) (s : ∀ p ∈ led, p ∈ led') : VI led' v d := VI.mono (fun _ _ _ m => s _ m) h
theorem VIs.up {led led' : Led} {v : List Value} {d : List Dat} (h : VIs led v d) (s : ∀ p ∈ led, p ∈ led') : VIs led' v d := VIs.mono (fun _ _ _ m => s _ m) h
theorem VI.inv_tup {led : Led} {v : Value} {ds : List Dat} (h : VI led v (.tuple ds)) : ∃ a vs n, v = .ref a ∧ (a, tupObj vs n) ∈ led ∧ VIs led vs ds := by
  cases h with | tup m r => exact ⟨_, _, _, rfl, m, r⟩
theorem VIs.inv_cons {led : Led} {vs : List Value} {d : Dat} {ds : List Dat} (h : VIs led vs (d :: ds)) : ∃ v r, vs = v :: r ∧ VI led v d ∧ VIs led r ds := by
  cases h with | cons a r => exact ⟨_, _, rfl, a, r⟩
theorem VIs.inv_nil {led : Led} {vs : List Value} (h : VIs led vs []) : vs = [] := by cases h; rfl
theorem VI.inv_int {led : Led} {v : Value} {i : Int} (h : VI led v (.int i)) : ∃ t, v = .int i t := by cases h; exact ⟨_, rfl⟩
theorem VI.inv_bool {led : Led} {v : Value} {i : Bool} (h : VI led v (.bool i)) : v = .bool i := by cases h; rfl
theorem VI.inv_str {led : Led} {v : Value} {i : PySem.Str} (h : VI led v (.str i)) : ∃ t, v = .str i t := by cases h; exact ⟨_, rfl⟩
theorem VI.inv3 {led : Led} {v : Value} {d1 d2 d3 : Dat} (h : VI led v (.tuple [d1, d2, d3])) : ∃ a v1 v2 v3 n, v = .ref a ∧ (a, tupObj [v1, v2, v3] n) ∈ led ∧ VI led v1 d1 ∧ VI led v2 d2 ∧ VI led v3 d3 := by
  obtain ⟨a, vs, n, rfl, m, r⟩ := h.inv_tup
  obtain ⟨v1, r1, rfl, h1, r⟩ := r.inv_cons
  obtain ⟨v2, r2, rfl, h2, r⟩ := r.inv_cons
  obtain ⟨v3, r3, rfl, h3, r⟩ := r.inv_cons
  cases r.inv_nil
  exact ⟨a, v1, v2, v3, n, rfl, m, h1, h2, h3⟩
inductive TK where
  | w (kind text : PySem.Str) (at_ : Int)
  | num (digits : PySem.Str) (at_ : Int)
noncomputable def TK.pos : TK → Int
  | .w _ _ i => i
  | .num _ i => i
noncomputable def TK.kind : TK → PySem.Str
  | .w k _ _ => k
  | .num _ _ => "num"
noncomputable def TK.isW : TK → PySem.Str → PySem.Str → Bool
  | .w k t _, k', t' => k == k' && t == t'
  | .num _ _, _, _ => false
inductive TokIn (led : Led) : Value → TK → Prop
  | w {a d : Addr} {k : Nat → Int × Tok} {u0 u1 u2 : Tok} {kind text : PySem.Str} {i : Int} :
      (a, instObj 71 d) ∈ led → (d, dictOf [⟨(k 0).1, .str "kind" (k 0).2, .str kind u0⟩, ⟨(k 1).1, .str "value" (k 1).2, .str text u1⟩, ⟨(k 2).1, .str "at" (k 2).2, .int i u2⟩] 3) ∈ led → TokIn led (.ref a) (.w kind text i)
  | num {a d q : Addr} {k : Nat → Int × Tok} {u0 u2 u3 u4 u5 : Tok} {digits : PySem.Str} {i : Int} {n' : Nat} :
      (a, instObj 71 d) ∈ led → (d, dictOf [⟨(k 0).1, .str "kind" (k 0).2, .str "num" u0⟩, ⟨(k 1).1, .str "value" (k 1).2, .ref q⟩, ⟨(k 2).1, .str "at" (k 2).2, .int i u2⟩] 3) ∈ led →
      (q, tupObj [.str "" u3, .str "" u4, .bool true, .str digits u5] n') ∈ led → TokIn led (.ref a) (.num digits i)
section
variable {prog : Program} {w : World} {A : Around} {E : Value → Shared → Prop} {s : Shared} {h₀ : Heap} {L : Addr} {news : Led}
theorem len_mem {l : Addr} {vs : List Value} {n : Nat} {Q : Value → Shared → Prop} (N : News h₀ L s.heap news) (hm : (l, listOf vs.toArray n) ∈ news) (hz : vs.length ≤ 1000) (h : Q (.int vs.length (s.toks + 1)) { s with toks := s.toks + 1 + 1 }) :
    wpAny (model prog w) A (call (.builtin "len") [.ref l]) Q E s := len_list (N.isList hm) (by rw [List.size_toArray]; omega) (by rw [List.size_toArray]; exact h)
theorem item_mem {value slice : PySem.Expr} {l : Addr} {vs : List Value} {n : Nat} {k : Int} {u : Tok} {v : Value} {Q : Value → Shared → Prop} (N : News h₀ L s.heap news) (hm : (l, listOf vs.toArray n) ∈ news)
    (h0 : 0 ≤ k) (hx : vs[k.toNat]? = some v) (hz : vs.length ≤ 1000) (h : Q v s)
    (hs : subscripted slice false (.ref l) (.int k u) = operate [.ref l, .int k u] (getItem (.ref l) (.int k u)) := by with_unfolding_all rfl) :
    wpAny (model prog w) A (subscriptTail value slice (.ref l) (.int k u)) Q E s :=
  tail_any (N.isList hm).typeIs slot_list_getitem.lookup (wpAny_getItem_list (N.isList hm) h0 (Int.lt_of_lt_of_le ((Int.toNat_lt h0).mp (List.getElem?_eq_some_iff.mp hx).1) (Int.le_trans (Int.ofNat_le.mpr hz) (by decide +kernel))) (by simpa using hx) h) hs
theorem set_mem {K : Frag} {x C dx : Addr} {m : PySem.Str → Option Value} {ox : Obj} {es es' : List DictEntry} {n n' : Nat} {name : PySem.Str} {v : Value} {Q : Unit → Shared → Prop} (F : Fr h₀ L s.heap m) (X₀ : K.In h₀) (N : News h₀ L s.heap news)
    (I : InstAt s.heap x ox C (some (dictOf es n))) (hd : ox.dict = some dx)
    (hs : findIn K (.ref C) "__setattr__" = some (some (.builtin "object.__setattr__"))) (hp : plainOver K C = true) (ht : takerIn K C name = some none) (hh : hasDictIn K C = true) (hl : (getL name es).isSome = true)
    (e : (putL name (PyData.keyHash w.params name) (.str name (s.toks + 1)) v es, putN name es n) = (es', n')) (hm : (dx, dictOf es n) ∈ news) (hz : es'.length ≤ 1000)
    (h : ∀ h', Fr h₀ L h' m → News h₀ L h' ((dx, dictOf es' n') :: off dx news) → Q () { s with heap := h', toks := s.toks + 2 }) :
    wpAny (model prog w) A (setAttr (.ref x) name v) Q E s :=
  set_dict F X₀ (news_pull N hm) I hd hs hp ht hh hl e (.head off_ne) hz h
theorem append_mem {D : Addr} {m : PySem.Str → Option Value} {vs : List Value} {n : Nat} {x : Value} {Q : Value → Shared → Prop} (F : Fr h₀ L s.heap m) (N : News h₀ L s.heap news) (hm : (D, listOf vs.toArray n) ∈ news)
    (hsz : vs.length ≤ 1000) (h : ∀ h', Fr h₀ L h' m → News h₀ L h' ((D, listOf (vs ++ [x]).toArray (n + 1)) :: off D news) → Q .none { s with heap := h' }) : wpAny (model prog w) A (call (.builtin "list.append") [.ref D, x]) Q E s :=
  append_K (hsz := by rw [List.size_toArray, sizeLine_eq]; omega) F (news_pull N hm) (.head off_ne) fun h' F' N' => h h' F' (by simpa using N')
theorem pop0_mem {D : Addr} {m : PySem.Str → Option Value} {y : Value} {vs : List Value} {n : Nat} {u : Tok} {Q : Value → Shared → Prop} (F : Fr h₀ L s.heap m) (N : News h₀ L s.heap news) (hm : (D, listOf (y :: vs).toArray n) ∈ news)
    (hsz : vs.length ≤ 1000) (h : ∀ h', Fr h₀ L h' m → News h₀ L h' ((D, listOf vs.toArray (n + 1)) :: off D news) → Q y { s with heap := h' }) : wpAny (model prog w) A (call (.builtin "list.pop") [.ref D, .int 0 u]) Q E s :=
  kl_popAt (k := 0) (p := []) (q := vs) F (news_pull N hm) rfl (by simp [seqIndex?]) rfl (.head off_ne) (by show (y :: vs).length ≤ sizeLine; rw [List.length_cons, sizeLine_eq]; omega) h
end
section
variable {prog : Program} {w : World} {A : Around} {E : Value → Shared → Prop} {s : Shared} {env : Env} {Q : Flow → Shared → Prop}
theorem while_out {test : PySem.Expr} {body : List Stmt} {pos : Pos} (h : wpAny (model prog w) A (isTrue test env (eval test env)) (fun b s₂ => if b = true then False else Q .next s₂) E s)
    (hE : PassesOwn (model prog w) A env E := by passes_own) : wpAny (model prog w) A (exec (.While test body [] pos) env) Q E s := by
  refine wpAny_While (codeAny_whileLoop (fun n s' => s' = s) (fun n s' e => ?_) 0 rfl)
  subst e
  refine wpAny_passesOwn hE (wpAny_mono h (fun b s₂ hb => ?_) fun _ _ x => x)
  cases b with
  | true => exact hb.elim
  | false => exact wpAny_execs_nil hb
theorem while_inv {h₀ : Heap} {m : PySem.Str → Option Value} {news : Led} {test : PySem.Expr} {body : List Stmt} {pos : Pos} (J : Nat → (PySem.Str → Option Value) → Led → Prop) (n : Nat)
    (F : Fr h₀ env.locals s.heap m) (N : News h₀ env.locals s.heap news) (h0 : J n m news)
    (turn : ∀ n m₁ led₁ h₁ tk₁, J n m₁ led₁ → Fr h₀ env.locals h₁ m₁ → News h₀ env.locals h₁ led₁ →
      wpAny (model prog w) A (isTrue test env (eval test env)) (fun b s₂ => if b = true then wpAny (model prog w) A (execs body env) (fun f s₃ => match f with
          | .ret v => Q (.ret v) s₃
          | .brk => Q .next s₃
          | _ => ∃ k h₃ tk₃ m₃ led₃, k < n ∧ s₃ = { s with heap := h₃, toks := tk₃ } ∧ Fr h₀ env.locals h₃ m₃ ∧ News h₀ env.locals h₃ led₃ ∧ J k m₃ led₃) E s₂
        else Q .next s₂) E { s with heap := h₁, toks := tk₁ })
    (hE : PassesOwn (model prog w) A env E := by passes_own) : wpAny (model prog w) A (exec (.While test body [] pos) env) Q E s := by
  refine wpAny_While (codeAny_whileLoop (fun n s' => ∃ h₁ tk₁ m₁ led₁, s' = { s with heap := h₁, toks := tk₁ } ∧ Fr h₀ env.locals h₁ m₁ ∧ News h₀ env.locals h₁ led₁ ∧ J n m₁ led₁) ?_ n ⟨s.heap, s.toks, m, news, rfl, F, N, h0⟩)
  rintro n s' ⟨h₁, tk₁, m₁, led₁, rfl, F₁, N₁, hJ⟩
  refine wpAny_passesOwn hE (wpAny_mono (turn n m₁ led₁ h₁ tk₁ hJ F₁ N₁) (fun b s₂ hb => ?_) fun _ _ x => x)
  cases b with
  | true =>
    refine wpAny_passesOwn hE (wpAny_mono hb (fun f s₃ hf => ?_) fun _ _ x => x)
    cases f with
    | ret v => exact hf
    | brk => exact hf
    | next => obtain ⟨k, h₃, tk₃, m₃, led₃, hk, e, F₃, N₃, hJ₃⟩ := hf; exact ⟨k, hk, h₃, tk₃, m₃, led₃, e, F₃, N₃, hJ₃⟩
    | cont => obtain ⟨k, h₃, tk₃, m₃, led₃, hk, e, F₃, N₃, hJ₃⟩ := hf; exact ⟨k, hk, h₃, tk₃, m₃, led₃, e, F₃, N₃, hJ₃⟩
  | false => exact wpAny_execs_nil hb
noncomputable def WNext (h₀ : Heap) (L : Addr) (m : PySem.Str → Option Value) (s : Shared) (J : Nat → Led → Prop) (n : Nat) (s₃ : Shared) : Prop :=
  ∃ k h₃ tk₃ led₃, k < n ∧ s₃ = { s with heap := h₃, toks := tk₃ } ∧ Fr h₀ L h₃ m ∧ News h₀ L h₃ led₃ ∧ J k led₃
theorem WNext.mk {h₀ : Heap} {L : Addr} {m : PySem.Str → Option Value} {s : Shared} {J : Nat → Led → Prop} {n k : Nat} {h₃ : Heap} {tk₃ : Tok} {led₃ : Led} (hk : k < n) (F : Fr h₀ L h₃ m) (N : News h₀ L h₃ led₃) (j : J k led₃) :
    WNext h₀ L m s J n { s with heap := h₃, toks := tk₃ } := ⟨k, h₃, tk₃, led₃, hk, rfl, F, N, j⟩
theorem while_invM {h₀ : Heap} {m : PySem.Str → Option Value} {news : Led} {test : PySem.Expr} {body : List Stmt} {pos : Pos} (J : Nat → Led → Prop) (n : Nat)
    (F : Fr h₀ env.locals s.heap m) (N : News h₀ env.locals s.heap news) (h0 : J n news)
    (turn : ∀ n led₁ h₁ tk₁, J n led₁ → Fr h₀ env.locals h₁ m → News h₀ env.locals h₁ led₁ →
      wpAny (model prog w) A (isTrue test env (eval test env)) (fun b s₂ => if b = true then wpAny (model prog w) A (execs body env) (fun f s₃ => match f with
          | .ret v => Q (.ret v) s₃
          | .brk => Q .next s₃
          | _ => WNext h₀ env.locals m s J n s₃) E s₂
        else Q .next s₂) E { s with heap := h₁, toks := tk₁ })
    (hE : PassesOwn (model prog w) A env E := by passes_own) : wpAny (model prog w) A (exec (.While test body [] pos) env) Q E s := by
  refine while_inv (fun n m₁ led₁ => m₁ = m ∧ J n led₁) n F N ⟨rfl, h0⟩ (fun n m₁ led₁ h₁ tk₁ hJ F₁ N₁ => ?_) hE
  obtain ⟨rfl, hJ⟩ := hJ
  refine wpAny_mono (turn n led₁ h₁ tk₁ hJ F₁ N₁) (fun b s₂ hb => ?_) fun _ _ x => x
  cases b with
  | true =>
    rw [if_pos rfl] at hb ⊢
    refine wpAny_mono hb (fun f s₃ hf => ?_) fun _ _ x => x
    cases f with
    | ret v => exact hf
    | brk => exact hf
    | next => obtain ⟨k, h₃, tk₃, led₃, hk, e, F₃, N₃, hJ₃⟩ := hf; exact ⟨k, h₃, tk₃, _, led₃, hk, e, F₃, N₃, rfl, hJ₃⟩
    | cont => obtain ⟨k, h₃, tk₃, led₃, hk, e, F₃, N₃, hJ₃⟩ := hf; exact ⟨k, h₃, tk₃, _, led₃, hk, e, F₃, N₃, rfl, hJ₃⟩
  | false => exact hb
noncomputable def CNext (h₀ : Heap) (L : Addr) (gs : Array GenState) (dr : Drawn) (os : OsState) (P : (PySem.Str → Option Value) → Led → Prop) (f : Flow) (s₃ : Shared) : Prop :=
  f = .next ∧ ∃ h' tk' m' led', s₃ = ⟨h', gs, dr, tk', os⟩ ∧ Fr h₀ L h' m' ∧ News h₀ L h' led' ∧ P m' led'
theorem CNext.mk {h₀ h' : Heap} {L : Addr} {gs : Array GenState} {dr : Drawn} {os : OsState} {P : (PySem.Str → Option Value) → Led → Prop} {m' : PySem.Str → Option Value} {led' : Led} {tk' : Nat} (F : Fr h₀ L h' m') (N : News h₀ L h' led') (p : P m' led') :
    CNext h₀ L gs dr os P .next ⟨h', gs, dr, tk', os⟩ := ⟨rfl, h', tk', m', led', rfl, F, N, p⟩
theorem cut {st : Stmt} {rest : List Stmt} {h₀ hp : Heap} {L : Addr} {gs : Array GenState} {dr : Drawn} {tk : Nat} {os : OsState} (P : (PySem.Str → Option Value) → Led → Prop) (a : wpAny (model prog w) A (exec st env) (CNext h₀ L gs dr os P) E ⟨hp, gs, dr, tk, os⟩)
    (b : ∀ h' tk' m' led', Fr h₀ L h' m' → News h₀ L h' led' → P m' led' → wpAny (model prog w) A (execs rest env) Q E ⟨h', gs, dr, tk', os⟩) : wpAny (model prog w) A (execs (st :: rest) env) Q E ⟨hp, gs, dr, tk, os⟩ :=
  wpAny_execs_cons (wpAny_mono a (fun f s₃ hf => by obtain ⟨rfl, h', tk', m', led', rfl, F, N, p⟩ := hf; exact b h' tk' m' led' F N p) fun _ _ x => x)
end
theorem Con.news {dp un : Nat} {w : World} {f : Addr} {args : List Value} {led : Led} {R : Value → Led → Prop} (h : ∀ h₀ h L, News h₀ L h led → Con dp un w f args led R) : Con dp un w f args led R :=
  fun _ _ _ _ _ _ _ _ _ _ _ _ _ _ _ _ _ _ B F X N T hk ret => h _ _ _ N _ _ _ _ _ _ _ _ _ _ _ _ _ _ _ _ _ _ B F X N T hk ret
theorem Con.sub {dp un : Nat} {w : World} {f : Addr} {args : List Value} {led led' : Led} {R : Value → Led → Prop} (hs : ∀ p ∈ led', p ∈ led) (h : Con dp un w f args led' R) : Con dp un w f args led R :=
  fun _ _ _ _ _ _ _ _ _ _ _ _ _ _ _ _ _ _ B F X N T hk ret => h _ _ _ _ _ _ _ _ _ _ _ _ _ _ _ _ _ _ B F X (news_sub N hs) T hk ret
inductive Frz : Obj → Prop
  | tup (vs : List Value) (n : Nat) : Frz (tupObj vs n)
  | inst (C d : Addr) : Frz (instObj C d)
  | tok (h : Int) (t : Tok) (v : Value) (r : List DictEntry) (n : Nat) : Frz (dictOf (⟨h, .str "kind" t, v⟩ :: r) n)
noncomputable def Sub (led led' : Led) : Prop := ∀ q o, Frz o → (q, o) ∈ led → (q, o) ∈ led'
theorem Sub.refl (led : Led) : Sub led led := fun _ _ _ h => h
theorem Sub.trans {a b c : Led} (h : Sub a b) (k : Sub b c) : Sub a c := fun q o f m => k q o f (h q o f m)
theorem Sub.of {a b : Led} (h : ∀ p ∈ a, p ∈ b) : Sub a b := fun _ _ _ m => h _ m
theorem keep_of {keep a b : Led} (h : ∀ p ∈ keep, Frz p.2 ∧ p ∈ a) (s : Sub a b) : ∀ p ∈ keep, Frz p.2 ∧ p ∈ b := fun p hp => ⟨(h p hp).1, s _ _ (h p hp).1 (h p hp).2⟩
theorem Sub.tup {a b : Led} (h : Sub a b) : TupSub a b := fun _ _ _ m => h _ _ (.tup _ _) m
theorem VI.sub {led led' : Led} {v : Value} {d : Dat} (h : VI led v d) (s : Sub led led') : VI led' v d := VI.mono s.tup h
theorem VIs.sub {led led' : Led} {v : List Value} {d : List Dat} (h : VIs led v d) (s : Sub led led') : VIs led' v d := VIs.mono s.tup h
theorem TokIn.sub {led led' : Led} {v : Value} {t : TK} (h : TokIn led v t) (s : Sub led led') : TokIn led' v t := by
  cases h with
  | w h1 h2 => exact .w (s _ _ (.inst _ _) h1) (s _ _ (.tok _ _ _ _ _) h2)
  | num h1 h2 h3 => exact .num (s _ _ (.inst _ _) h1) (s _ _ (.tok _ _ _ _ _) h2) (s _ _ (.tup _ _) h3)
inductive Toks (led : Led) : List Value → List TK → Prop
  | nil : Toks led [] []
  | cons {v : Value} {vs : List Value} {t : TK} {ts : List TK} : TokIn led v t → Toks led vs ts → Toks led (v :: vs) (t :: ts)
theorem Toks.sub {led led' : Led} (s : Sub led led') {vs : List Value} {ts : List TK} (h : Toks led vs ts) : Toks led' vs ts := by
  induction h with
  | nil => exact .nil
  | cons a _ ih => exact .cons (a.sub s) ih
theorem Toks.append {led : Led} {vs : List Value} {ts : List TK} {vs' : List Value} {ts' : List TK} (h : Toks led vs ts) (k : Toks led vs' ts') : Toks led (vs ++ vs') (ts ++ ts') := by
  induction h with
  | nil => exact k
  | cons a _ ih => exact .cons a ih
theorem frz_list {vs : List Value} {n : Nat} : ¬ Frz (listOf vs.toArray n) := by
  intro h
  generalize e : listOf vs.toArray n = o at h
  cases h <;> injection e with e1 e2 e3 e4 <;> first | (injection e1 with e1; revert e1; decide) | cases e1
theorem frz_dict {h : Int} {x : PySem.Str} {t : Tok} {v : Value} {r : List DictEntry} {n : Nat} (hx : x ≠ "kind") : ¬ Frz (dictOf (⟨h, .str x t, v⟩ :: r) n) := by
  intro f
  generalize e : dictOf (⟨h, .str x t, v⟩ :: r) n = o at f
  cases f <;> injection e with e1 e2 e3 e4
  · injection e1 with e1; revert e1; decide
  · cases e1
  · injection e3 with e3
    have e5 := congrArg Array.toList e3
    simp only [List.toList_toArray] at e5
    injection e5 with e5
    injection e5 with _ e6
    injection e6 with e6
    exact hx e6
structure PA where
  x : Addr
  dx : Addr
  sx : Addr
  sdx : Addr
  al : Addr
  rl : Addr
noncomputable abbrev pDict (P : PA) (k : Nat → Int × Tok) (u4 u5 : Tok) (hb : Bool) (tv : Addr) (i dep : Int) (wi ne : Bool) : Obj :=
  dictOf [⟨(k 0).1, .str "source" (k 0).2, .ref P.sx⟩, ⟨(k 1).1, .str "ahead" (k 1).2, .ref P.al⟩, ⟨(k 2).1, .str "hashed" (k 2).2, .bool hb⟩, ⟨(k 3).1, .str "token" (k 3).2, .ref tv⟩, ⟨(k 4).1, .str "at" (k 4).2, .int i u4⟩, ⟨(k 5).1, .str "depth" (k 5).2, .int dep u5⟩, ⟨(k 6).1, .str "within" (k 6).2, .bool wi⟩, ⟨(k 7).1, .str "nested" (k 7).2, .bool ne⟩] 8
noncomputable abbrev sDict (P : PA) (k2 : Nat → Int × Tok) (v1 : Tok) (pb : Bool) (place : Nat) : Obj :=
  dictOf [⟨(k2 0).1, .str "tokens" (k2 0).2, .ref P.rl⟩, ⟨(k2 1).1, .str "place" (k2 1).2, .int (place : Int) v1⟩, ⟨(k2 2).1, .str "parted" (k2 2).2, .bool pb⟩] 3
structure PS0 (led : Led) (P : PA) (tv : Addr) (i : Int) (place : Nat) (avs vs : List Value) (dep : Int) (wi ne : Bool) : Prop where
  x : (P.x, instObj 796 P.dx) ∈ led
  d : ∃ k u4 u5 hb, (P.dx, pDict P k u4 u5 hb tv i dep wi ne) ∈ led
  sx : (P.sx, instObj 99 P.sdx) ∈ led
  sd : ∃ k2 v1 pb, (P.sdx, sDict P k2 v1 pb place) ∈ led
  al : ∃ n, (P.al, listOf avs.toArray n) ∈ led
  rl : ∃ n, (P.rl, listOf vs.toArray n) ∈ led
  ne : @Ne Nat P.rl P.al
  len : vs.length ≤ 1000
structure Ext (P : PA) (led led' : Led) : Prop where
  frz : Sub led led'
  oth : ∀ q o, (q, o) ∈ led → @Ne Nat q P.dx → @Ne Nat q P.sdx → @Ne Nat q P.al → (q, o) ∈ led'
theorem Ext.refl (P : PA) (led : Led) : Ext P led led := ⟨.refl _, fun _ _ h _ _ _ => h⟩
theorem Ext.trans {P : PA} {a b c : Led} (h : Ext P a b) (k : Ext P b c) : Ext P a c := ⟨h.frz.trans k.frz, fun q o m h1 h2 h3 => k.oth q o (h.oth q o m h1 h2 h3) h1 h2 h3⟩
noncomputable def PS (led : Led) (P : PA) (cur : TK) (next : List TK) (dep : Int) (wi ne : Bool) : Prop :=
  ∃ tv place avs vs ahead rest, PS0 led P tv cur.pos place avs vs dep wi ne ∧ TokIn led (.ref tv) cur ∧ Toks led avs ahead ∧ Toks led (vs.drop place) rest ∧ next = ahead ++ rest ∧ avs.length ≤ 1
local macro_rules | `(tactic| lge_steps) => `(tactic| (k_whole; intro h' F' N'; (try simp only [off_self, off_two, List.nil_append] at N'); (try k_sweep)))
local macro_rules | `(tactic| lge_go) => `(tactic| first | with_reducible assumption | exact rfl | exact Nat.le_of_ble_eq_true rfl | assumption | omega | decide)
local macro_rules | `(tactic| ktr_room) => `(tactic| k_room)
local macro_rules | `(tactic| k_room) => `(tactic| ((try simp only [depth_mark, depth_under_make, depth_under_kw, depth_in1, depth_deeper, depth_caller, ktr_depth]); decide))
local macro_rules | `(tactic| k_mem) => `(tactic| first | exact List.mem_cons_self | ktr_member | (refine' List.mem_cons_of_mem _ ?_; k_mem) | (refine' mem_off ?m ?n; (case n => first | with_reducible assumption | exact Nat.ne_of_gt (by assumption)); (case m => k_mem)))
local macro_rules | `(tactic| k_all) => `(tactic| first | exact off_ne | assumption)
local macro_rules | `(tactic| walk_at "call builtin:len") => `(tactic| (k_here; k_dflt (refine len_mem (by k_asm) (by k_mem) (by with_reducible assumption) ?_); k_whole))
local macro_rules | `(tactic| walk_at "subscriptTail") => `(tactic| (k_here; (with_reducible show wpAny _ _ (subscriptTail _ _ (Value.ref _) (Value.int _ _)) _ _ _); k_dflt (refine item_mem (by k_asm) (by k_mem) (by lge_go) (by lge_go) (by lge_go) ?_ (by with_unfolding_all rfl)); k_whole))
local macro_rules | `(tactic| walk_at "ite") => `(tactic| first | (refine PySem.W.ite_neg (by with_reducible assumption) ?_) | (refine PySem.W.ite_pos (by with_reducible assumption) ?_))
local macro_rules | `(tactic| walk_at "execs cons") => `(tactic| (with_reducible refine hold_cut ?h ?_; (case h => k_dflt (exact rfl))))
theorem fetch_w (w : World) (P : PA) (k k2 kb : Nat → Int × Tok) (u4 u5 v1 ub0 ub1 ub2 : Tok) (hb pb wi ne : Bool) (tv tb tbd : Addr) (i dep i2 : Int) (place n4 : Nat) (vs : List Value) (rest : Led) (kind text : PySem.Str)
    (hx : (P.x, instObj 796 P.dx) ∈ rest) (hs : (P.sx, instObj 99 P.sdx) ∈ rest) (hl : (P.rl, listOf vs.toArray n4) ∈ rest)
    (hv : vs[((place : Int)).toNat]? = some (.ref tb)) (hlen : vs.length ≤ 1000) (hp : (place : Int) < vs.length)
    (htb : (tb, instObj 71 tbd) ∈ rest) (htbd : (tbd, dictOf [⟨(kb 0).1, .str "kind" (kb 0).2, .str kind ub0⟩, ⟨(kb 1).1, .str "value" (kb 1).2, .str text ub1⟩, ⟨(kb 2).1, .str "at" (kb 2).2, .int i2 ub2⟩] 3) ∈ rest)
    (hd9 : @Ne Nat P.dx P.sdx) (hr1 : ∀ p ∈ rest, p.1 ≠ P.dx) (hr2 : ∀ p ∈ rest, p.1 ≠ P.sdx) :
    Con 890 8000 w 124 [.ref P.x] ((P.dx, pDict P k u4 u5 hb tv i dep wi ne) :: (P.sdx, sDict P k2 v1 pb place) :: rest)
      (fun r led' => r = .ref tb ∧ ∃ hb' pb' v1', led' = (P.dx, pDict P k u4 u5 hb' tv i dep wi ne) :: (P.sdx, sDict P k2 v1' pb' (place + 1)) :: rest) := by
  unfold Con
  intro mean mg mb gd cn cs a ccd cl outer A₀ base h₀ L m s Q E B F X N T hk hret
  revert X; k_fill; intro X
  refine wpAny_call ?_
  k_dflt ktr_enter
  k_steps
  all_goals exact hret _ _ _ _ (by k_asm) (by k_asm) ⟨rfl, _, _, _, rfl⟩
theorem fetch_n (w : World) (P : PA) (k k2 kb : Nat → Int × Tok) (u4 u5 v1 ub0 ub2 : Tok) (hb pb wi ne : Bool) (tv tb tbd q : Addr) (i dep i2 : Int) (place n4 : Nat) (vs : List Value) (rest : Led)
    (hx : (P.x, instObj 796 P.dx) ∈ rest) (hs : (P.sx, instObj 99 P.sdx) ∈ rest) (hl : (P.rl, listOf vs.toArray n4) ∈ rest)
    (hv : vs[((place : Int)).toNat]? = some (.ref tb)) (hlen : vs.length ≤ 1000) (hp : (place : Int) < vs.length)
    (htb : (tb, instObj 71 tbd) ∈ rest) (htbd : (tbd, dictOf [⟨(kb 0).1, .str "kind" (kb 0).2, .str "num" ub0⟩, ⟨(kb 1).1, .str "value" (kb 1).2, .ref q⟩, ⟨(kb 2).1, .str "at" (kb 2).2, .int i2 ub2⟩] 3) ∈ rest)
    (hd9 : @Ne Nat P.dx P.sdx) (hr1 : ∀ p ∈ rest, p.1 ≠ P.dx) (hr2 : ∀ p ∈ rest, p.1 ≠ P.sdx) :
    Con 890 8000 w 124 [.ref P.x] ((P.dx, pDict P k u4 u5 hb tv i dep wi ne) :: (P.sdx, sDict P k2 v1 pb place) :: rest)
      (fun r led' => r = .ref tb ∧ ∃ hb' pb' v1', led' = (P.dx, pDict P k u4 u5 hb' tv i dep wi ne) :: (P.sdx, sDict P k2 v1' pb' (place + 1)) :: rest) := by
  unfold Con
  intro mean mg mb gd cn cs a ccd cl outer A₀ base h₀ L m s Q E B F X N T hk hret
  revert X; k_fill; intro X
  refine wpAny_call ?_
  k_dflt ktr_enter
  k_steps
  all_goals exact hret _ _ _ _ (by k_asm) (by k_asm) ⟨rfl, _, _, _, rfl⟩
structure Dist (P : PA) : Prop where
  x_d : @Ne Nat P.x P.dx
  x_s : @Ne Nat P.x P.sdx
  x_a : @Ne Nat P.x P.al
  d_s : @Ne Nat P.dx P.sdx
  d_a : @Ne Nat P.dx P.al
  s_a : @Ne Nat P.sdx P.al
  sx_d : @Ne Nat P.sx P.dx
  sx_s : @Ne Nat P.sx P.sdx
  sx_a : @Ne Nat P.sx P.al
  rl_d : @Ne Nat P.rl P.dx
  rl_s : @Ne Nat P.rl P.sdx
  rl_a : @Ne Nat P.rl P.al
theorem PS0.dist {h₀ h : Heap} {L : Addr} {led : Led} {P : PA} {tv : Addr} {i : Int} {place : Nat} {avs vs : List Value} {dep : Int} {wi ne : Bool} (N : News h₀ L h led) (S : PS0 led P tv i place avs vs dep wi ne) : Dist P := by
  obtain ⟨hx, ⟨k, u4, u5, hb, hd⟩, hs, ⟨k2, v1, pb, hsd⟩, ⟨n, ha⟩, ⟨n', hr⟩, hne, hl⟩ := S
  refine ⟨news_ne N hx hd ?_, news_ne N hx hsd ?_, news_ne N hx ha ?_, news_ne N hd hsd ?_, news_ne N hd ha ?_, news_ne N hsd ha ?_, news_ne N hs hd ?_, news_ne N hs hsd ?_, news_ne N hs ha ?_, news_ne N hr hd ?_, news_ne N hr hsd ?_, hne⟩
  all_goals intro e; injection e with e1 e2 e3
  all_goals first
    | (cases e1; done)
    | (injection e1 with e1; revert e1; decide)
    | (injection e3 with e3; have e5 := congrArg Array.toList e3; simp only [List.toList_toArray] at e5; injection e5 with e5; injection e5 with _ e6; injection e6 with e6; revert e6; decide)
theorem PS0.away {h₀ h : Heap} {L : Addr} {led : Led} {P : PA} {tv : Addr} {i : Int} {place : Nat} {avs vs : List Value} {dep : Int} {wi ne : Bool} (N : News h₀ L h led) (S : PS0 led P tv i place avs vs dep wi ne) {q : Addr} {o : Obj} (f : Frz o) (m : (q, o) ∈ led) :
    @Ne Nat q P.dx ∧ @Ne Nat q P.sdx ∧ @Ne Nat q P.al := by
  obtain ⟨hx, ⟨k, u4, u5, hb, hd⟩, hs, ⟨k2, v1, pb, hsd⟩, ⟨n, ha⟩, ⟨n', hr⟩, hne, hl⟩ := S
  exact ⟨news_ne N m hd fun e => frz_dict (by decide) (e ▸ f), news_ne N m hsd fun e => frz_dict (by decide) (e ▸ f), news_ne N m ha fun e => frz_list (e ▸ f)⟩
theorem fetch_c {w : World} {led : Led} {P : PA} {tv : Addr} {i : Int} {place : Nat} {avs vs : List Value} {dep : Int} {wi ne : Bool} {v : Value} {t : TK} (S : PS0 led P tv i place avs vs dep wi ne) (hv : vs[place]? = some v) (ht : TokIn led v t) :
    Con 890 8000 w 124 [.ref P.x] led (fun r led' => r = v ∧ PS0 led' P tv i (place + 1) avs vs dep wi ne ∧ Ext P led led') := by
  refine Con.news fun h₀ h L N => ?_
  have D := S.dist N
  have S' := S
  obtain ⟨hx, ⟨k, u4, u5, hb, hd⟩, hs, ⟨k2, v1, pb, hsd⟩, ⟨n, ha⟩, ⟨n', hr⟩, hne, hl⟩ := S'
  have hp : (place : Int) < vs.length := by have := (List.getElem?_eq_some_iff.mp hv).1; omega
  have hv' : vs[((place : Int)).toNat]? = some v := by simpa using hv
  have fm : ∀ {q : Addr} {o : Obj}, Frz o → (q, o) ∈ led → (q, o) ∈ off P.sdx (off P.dx led) := fun f m => mem_off (mem_off m (S.away N f m).1) (S.away N f m).2.1
  have sub : ∀ p ∈ (P.dx, pDict P k u4 u5 hb tv i dep wi ne) :: (P.sdx, sDict P k2 v1 pb place) :: off P.sdx (off P.dx led), p ∈ led := fun p hp => by
    rcases List.mem_cons.mp hp with rfl | hp
    · exact hd
    rcases List.mem_cons.mp hp with rfl | hp
    · exact hsd
    exact of_off (of_off hp)
  have fin : ∀ r led', (r = v ∧ ∃ hb' pb' v1', led' = (P.dx, pDict P k u4 u5 hb' tv i dep wi ne) :: (P.sdx, sDict P k2 v1' pb' (place + 1)) :: off P.sdx (off P.dx led)) → (r = v ∧ PS0 led' P tv i (place + 1) avs vs dep wi ne ∧ Ext P led led') := by
    rintro r led' ⟨rfl, hb', pb', v1', rfl⟩
    have up : ∀ {p : Addr × Obj}, p ∈ off P.sdx (off P.dx led) → p ∈ (P.dx, pDict P k u4 u5 hb' tv i dep wi ne) :: (P.sdx, sDict P k2 v1' pb' (place + 1)) :: off P.sdx (off P.dx led) := fun h => List.mem_cons_of_mem _ (List.mem_cons_of_mem _ h)
    refine ⟨rfl, ⟨up (fm (.inst _ _) hx), ⟨k, u4, u5, hb', List.mem_cons_self⟩, up (fm (.inst _ _) hs), ⟨k2, v1', pb', List.mem_cons_of_mem _ List.mem_cons_self⟩, ⟨n, up (mem_off (mem_off ha D.d_a.symm) D.s_a.symm)⟩, ⟨n', up (mem_off (mem_off hr D.rl_d) D.rl_s)⟩, hne, hl⟩, ⟨fun q o f m => up (fm f m), fun q o m h1 h2 _ => up (mem_off (mem_off m h1) h2)⟩⟩
  have a1 : ∀ p ∈ off P.sdx (off P.dx led), p.1 ≠ P.dx := fun p hp => off_ne p (of_off hp)
  cases ht with
  | w h1 h2 => exact Con.weaken (Con.sub sub (fetch_w w P k k2 _ u4 u5 v1 _ _ _ hb pb wi ne tv _ _ i dep _ place n' vs _ _ _ (fm (.inst _ _) hx) (fm (.inst _ _) hs) (mem_off (mem_off hr D.rl_d) D.rl_s) hv' hl hp (fm (.inst _ _) h1) (fm (.tok _ _ _ _ _) h2) D.d_s a1 off_ne)) fin
  | num h1 h2 h3 => exact Con.weaken (Con.sub sub (fetch_n w P k k2 _ u4 u5 v1 _ _ hb pb wi ne tv _ _ _ i dep _ place n' vs _ (fm (.inst _ _) hx) (fm (.inst _ _) hs) (mem_off (mem_off hr D.rl_d) D.rl_s) hv' hl hp (fm (.inst _ _) h1) (fm (.tok _ _ _ _ _) h2) D.d_s a1 off_ne)) fin
/-! a comprehension of two clauses, the second with one test: [elt for t0 in i0 for t1 in i1 if c] -/
noncomputable abbrev two (elt t0 i0 t1 i1 c : PySem.Expr) (scope : Scope) (pos : Pos) : PySem.Expr := .ListComp elt [⟨t0, i0, [], 0⟩, ⟨t1, i1, [c], 0⟩] scope pos
theorem two_in (elt t0 i0 t1 i1 c : PySem.Expr) (scope : Scope) (pos : Pos) (it acc : Value) (env : Env) :
    compTurn (two elt t0 i0 t1 i1 c scope pos) 1 it acc env = (do
      standAt i1.pos
      match ← pyNext it with
      | none => pure (.done .next)
      | some v =>
        letOwnedTupleGo t1 it v
        assign t1 env v
        let mut ok := true
        for c in [c] do
          if ok then ok ← isTrue c env (eval c env)
        if ok then
          (do let _ ← call (.builtin "list.append") [acc, ← eval elt env])
        again (.compLoop (two elt t0 i0 t1 i1 c scope pos) 1 it acc env)) := by rfl
theorem two_out (elt t0 i0 t1 i1 c : PySem.Expr) (scope : Scope) (pos : Pos) (it acc : Value) (env : Env) :
    compTurn (two elt t0 i0 t1 i1 c scope pos) 0 it acc env = (do
      standAt i0.pos
      match ← pyNext it with
      | none => pure (.done .next)
      | some v =>
        letOwnedTupleGo t0 it v
        assign t0 env v
        let x ← eval i1 env
        standAt i1.pos
        let x ← foldedSetIterable i1 env x
        let _ ← runOwn (.compStart (two elt t0 i0 t1 i1 c scope pos) 1 (← holding [x] (pyIter x)) acc env) env
        again (.compLoop (two elt t0 i0 t1 i1 c scope pos) 0 it acc env)) := by rfl
section
variable {prog : Program} {w : World} {A : Around} {E : Value → Shared → Prop} {R : Result → Shared → Prop} {s : Shared} {elt t0 i0 t1 i1 c : PySem.Expr} {scope : Scope} {pos : Pos} {it acc : Value} {env : Env}
theorem two_inLoop (I : Nat → Shared → Prop)
    (turn : ∀ n s, I n s → wpAny (model prog w) A (pyNext it) (fun r s₁ => match r with
      | none => R (.ok .next) s₁
      | some v => wpAny (model prog w) A (assign t1 env v) (fun _ s₂ => wpAny (model prog w) A (isTrue c env (eval c env)) (fun ok s₃ =>
            if ok = true then wpAny (model prog w) A (eval elt env) (fun x s₄ =>
              wpAny (model prog w) A (call (.builtin "list.append") [acc, x]) (fun _ s₅ => ∃ m, m < n ∧ I m s₅) (notedBy (model prog w) A env fun e s' => R (.error e) s') s₄) (notedBy (model prog w) A env fun e s' => R (.error e) s') s₃
            else ∃ m, m < n ∧ I m s₃) (notedBy (model prog w) A env fun e s' => R (.error e) s') s₂) (notedBy (model prog w) A env fun e s' => R (.error e) s') s₁) (notedBy (model prog w) A env fun e s' => R (.error e) s') s)
    (n : Nat) (h : I n s) (ht : ∀ v, letOwnedTupleGo t1 it v = pure () := by intro _; rfl) : codeAny (model prog w) A (.compLoop (two elt t0 i0 t1 i1 c scope pos) 1 it acc env) R s := by
  refine codeAny_loop rfl I (fun n s hI => ?_) n h
  show wpAny _ _ ((compTurn (two elt t0 i0 t1 i1 c scope pos) 1 it acc env).onRaise (fun x => do noteFrame x env; theTreesLotGoes x)) _ _ s
  refine wpAny_noted ?_
  rw [two_in]
  refine wpAny_bind (wpAny_standAt (wpAny_bind (wpAny_mono (turn n s hI) (fun r s₁ h₁ => ?_) fun _ _ h' => h')))
  cases r with
  | none => exact wpAny_pure h₁
  | some v =>
    refine wpAny_bind (wpAny_of_eq (ht v) ?_)
    refine wpAny_bind (wpAny_mono h₁ (fun _ s₂ h₂ => wpAny_bind (wpAny_tests_one (wpAny_mono h₂ (fun ok s₃ h₃ => ?_) fun _ _ h' => h'))) fun _ _ h' => h')
    cases ok with
    | false => exact wpAny_pure ⟨rfl, h₃⟩
    | true => exact wpAny_bind (wpAny_bind (wpAny_mono h₃ (fun x s₄ h₄ => wpAny_bind (wpAny_mono h₄ (fun _ s₅ h₅ => wpAny_pure (wpAny_pure ⟨rfl, h₅⟩)) fun _ _ h' => h')) fun _ _ h' => h'))
theorem two_outLoop (I : Nat → Shared → Prop)
    (turn : ∀ n s, I n s → wpAny (model prog w) A (pyNext it) (fun r s₁ => match r with
      | none => R (.ok .next) s₁
      | some v => wpAny (model prog w) A (assign t0 env v) (fun _ s₂ => wpAny (model prog w) A (eval i1 env) (fun x s₃ => wpAny (model prog w) A (pyIter x) (fun it' s₄ =>
            codeAny (model prog w) A (.compStart (two elt t0 i0 t1 i1 c scope pos) 1 it' acc env) (fun r s' => match r with | .ok _ => ∃ m, m < n ∧ I m s' | .error _ => False) s₄)
            (notedBy (model prog w) A env fun e s' => R (.error e) s') s₃) (notedBy (model prog w) A env fun e s' => R (.error e) s') s₂) (notedBy (model prog w) A env fun e s' => R (.error e) s') s₁) (notedBy (model prog w) A env fun e s' => R (.error e) s') s)
    (n : Nat) (h : I n s) (ht : ∀ v, letOwnedTupleGo t0 it v = pure () := by intro _; rfl) (hs : ∀ x, foldedSetIterable i1 env x = pure x := by intro _; rfl) :
    codeAny (model prog w) A (.compLoop (two elt t0 i0 t1 i1 c scope pos) 0 it acc env) R s := by
  refine codeAny_loop rfl I (fun n s hI => ?_) n h
  show wpAny _ _ ((compTurn (two elt t0 i0 t1 i1 c scope pos) 0 it acc env).onRaise (fun x => do noteFrame x env; theTreesLotGoes x)) _ _ s
  refine wpAny_noted ?_
  rw [two_out]
  refine wpAny_bind (wpAny_standAt (wpAny_bind (wpAny_mono (turn n s hI) (fun r s₁ h₁ => ?_) fun _ _ h' => h')))
  cases r with
  | none => exact wpAny_pure h₁
  | some v =>
    refine wpAny_bind (wpAny_of_eq (ht v) ?_)
    refine wpAny_bind (wpAny_mono h₁ (fun _ s₂ h₂ => wpAny_bind (wpAny_mono h₂ (fun x s₃ h₃ => wpAny_bind (wpAny_standAt (wpAny_bind (wpAny_of_eq (hs x) ?_)))) fun _ _ h' => h')) fun _ _ h' => h')
    refine wpAny_bind (wpAny_holding (wpAny_mono h₃ (fun it' s₄ h₄ => wpAny_bind (wpAny_runOwn (codeAny_mono h₄ fun r s' hr => ?_))) fun _ _ h' => h'))
    cases r with
    | ok f => exact wpAny_pure ⟨rfl, hr⟩
    | error e => exact hr.elim
theorem two_inStart (h0 : codeAny (model prog w) A (.compLoop (two elt t0 i0 t1 i1 c scope pos) 1 it acc env) R s)
    (h : wpAny (model prog w) A (pyIter it) (fun it' s' => codeAny (model prog w) A (.compLoop (two elt t0 i0 t1 i1 c scope pos) 1 it' acc env) R s') (notedBy (model prog w) A env fun x s' => R (.error x) s') s) :
    codeAny (model prog w) A (.compStart (two elt t0 i0 t1 i1 c scope pos) 1 it acc env) R s := by
  refine codeAny_of_tree ?_
  show wpAny _ _ ((compStart (two elt t0 i0 t1 i1 c scope pos) 1 it acc env).onRaise (fun x => do noteFrame x env; standAt theWindowsPlace)) _ _ s
  refine wpAny_notedAt ?_
  unfold compStart
  show wpAny _ _ (ask >>= _) _ _ s
  refine wpAny_bind (wpAny_askSetting (wpAny_ite ?_))
  split
  · first
      | exact wpAny_bind (wpAny_pure (wpAny_pure (And.intro rfl h0)))
      | exact wpAny_pure (And.intro rfl h0)
  · first
      | exact wpAny_bind (wpAny_rule (wpAny_bind (wpAny_standAt (wpAny_bind (wpAny_mono h (fun it' s' h' => wpAny_pure (And.intro rfl h')) fun _ _ x => x)))))
      | (refine wpAny_bind (wpAny_rule ?_); show wpAny _ _ (standAt i1.pos >>= _) _ _ s; exact wpAny_bind (wpAny_standAt (wpAny_bind (wpAny_mono h (fun it' s' h' => wpAny_pure (And.intro rfl h')) fun _ _ x => x))))
end
noncomputable def isT : Value → Bool
  | .ref _ => true
  | _ => false
noncomputable def Cl (h : Heap) (v : Value) : Prop := match v with
  | .ref b => ∃ vs, h.IsTuple b vs
  | .int _ _ => True
  | .str _ _ => True
  | .bool _ => True
  | _ => False
noncomputable abbrev lstO (vs : List Value) (n : Nat) : Obj := { cls := .type "list", data := .seq vs.toArray n }
theorem sub_tt : isSubtype (.type "tuple") (.type "tuple") = pure true := by rw [isSubtype_type]; kernel_rfl
section
variable {prog : Program} {w : World} {A : Around} {E : Value → Shared → Prop} {R : Result → Shared → Prop} {s : Shared} {t0 i0 i1 : PySem.Expr} {scope : Scope} {pos : Pos} {env : Env}
theorem ltS {h : Heap} {b : Addr} {o : Obj} (e : h.get? b = some o) : @LT.lt Nat instLTNat b h.objs.size := Heap.lt_size e
theorem isi_tup {v : Value} {Q : Value → Shared → Prop} (c : Cl s.heap v) (h : ∀ tk, Q (.bool (isT v)) { s with toks := tk }) : wpAny (model prog w) A (call (.builtin "isinstance") [v, .type "tuple"]) Q E s := by
  cases v with
  | ref b => obtain ⟨vs, hv⟩ := c; exact call_isinstance (isinstance_true (Tx := "tuple") F.isi_meta_tuple sub_tt) ⟨hv.typeIs, h s.toks⟩
  | int n u => exact IsiPair.int_tuple (h _)
  | str n u => exact IsiPair.str_tuple (h _)
  | bool n => exact IsiPair.bool_tuple (h _)
  | _ => exact c.elim
theorem name_loc {x : PySem.Str} {p : Pos} {m : PySem.Str → Option Value} {v : Value} {Q : Value → Shared → Prop} (hk : env.scope.kind = .function) (hl : env.kindOf x = some .local) (hn : s.heap.Ns env.locals m) (hv : m x = some v) (h : Q v s) (hd : (x == ("__debug__" : PySem.Str)) = false) :
    wpAny (model prog w) A (eval (.Name x p) env) Q E s := wpAny_Name (wpAny_loadName_local hk hl hn hv h) hd
theorem isi_a (x1 : PySem.Str) (q3 q4 : Pos) (env : Env) : starEach [PySem.Expr.Name x1 q3, .Name "tuple" q4] env = (false, eval (.Name x1 q3) env) :: starEach [.Name "tuple" q4] env := by rfl
theorem isi_b (q4 q5 : Pos) (env : Env) : (backTo q5 (starEach [PySem.Expr.Name "tuple" q4] env)).any (·.1) = false := by rfl
theorem isi_test {x1 : PySem.Str} {q3 q4 q5 : Pos} {Q : Value → Shared → Prop} (h : wpAny (model prog w) A (spliced (backTo q5 (starEach [PySem.Expr.Name x1 q3, .Name "tuple" q4] env))) (fun vs s₁ => wpAny (model prog w) A (call (.builtin "isinstance") vs) Q E s₁) E s) :
    wpAny (model prog w) A (callWith q5 (.builtin "isinstance") [] (backTo q5 (starEach [PySem.Expr.Name x1 q3, .Name "tuple" q4] env)) []) Q E s := callWith_builtin1 h (isi_a _ _ _ _) (isi_b _ _ _)
theorem two_inner {x1 : PySem.Str} {q0 q1 q2 q3 q4 q5 : Pos} {D a I' : Addr} {mC mg mb : PySem.Str → Option Value} {items ys : List Value} {ep : Nat} (hh : A.handled = none) (hk : env.scope.kind = .function) (hx : env.kindOf x1 = some .local) (hd : (x1 == ("__debug__" : PySem.Str)) = false)
    (hi : env.kindOf "isinstance" = some .globalImplicit) (ht : env.kindOf "tuple" = some .globalImplicit)
    (hn : s.heap.Ns env.locals mC) (hit : s.heap.IsTupleIter I' a 0) (hta : s.heap.IsTuple a items.toArray) (hD : s.heap.get? D = some (lstO ys ep))
    (n1 : @Ne Nat a I') (n2 : @Ne Nat D I') (n3 : @Ne Nat D env.locals) (n4 : @Ne Nat I' env.locals) (n5 : @Ne Nat a env.locals) (n6 : @Ne Nat a D)
    (hG : s.heap.Ns env.globals mg) (hB : s.heap.Ns env.builtins mb) (g1 : mg "isinstance" = none) (g2 : mg "tuple" = none) (b1 : mb "isinstance" = some (.builtin "isinstance")) (b2 : mb "tuple" = some (.type "tuple"))
    (ng : @Ne Nat env.globals env.locals ∧ @Ne Nat env.globals D ∧ @Ne Nat env.globals I') (nb : @Ne Nat env.builtins env.locals ∧ @Ne Nat env.builtins D ∧ @Ne Nat env.builtins I')
    (hcl : ∀ v ∈ items, Cl s.heap v ∧ ∀ b, v = .ref b → @Ne Nat b env.locals ∧ @Ne Nat b D ∧ @Ne Nat b I') (hlen : ys.length + items.length ≤ 1000)
    (hR : ∀ h' tk m' ep', h'.Ns env.locals m' → h'.get? D = some (lstO (ys ++ items.filter isT) ep') → (∀ b o, @Ne Nat b env.locals → @Ne Nat b D → @Ne Nat b I' → s.heap.get? b = some o → h'.get? b = some o) → R (.ok .next) { s with heap := h', toks := tk }) :
    codeAny (model prog w) A (.compLoop (two (.Name x1 q0) t0 i0 (.Name x1 q1) i1 (.Call (.Name "isinstance" q2) [.Name x1 q3, .Name "tuple" q4] [] q5) scope pos) 1 (.ref I') (.ref D) env) R s := by
  have W := Walks.tuple (prog := prog) (w := w) hh I' a n1 items.toArray
  have hsz : items.toArray.size = items.length := List.size_toArray
  refine two_inLoop (fun k s' => ∃ i h' tk m' ep', i ≤ items.length ∧ k = items.length - i ∧ s' = { s with heap := h', toks := tk } ∧ (h'.IsTupleIter I' a i ∧ h'.IsTuple a items.toArray) ∧ h'.Ns env.locals m' ∧ h'.get? D = some (lstO (ys ++ (items.take i).filter isT) ep') ∧
    (∀ b o, @Ne Nat b env.locals → @Ne Nat b D → @Ne Nat b I' → s.heap.get? b = some o → h'.get? b = some o)) ?_ items.length ⟨0, s.heap, s.toks, mC, ep, Nat.zero_le _, rfl, rfl, ⟨hit, hta⟩, hn, by simpa using hD, fun _ _ _ _ _ e => e⟩
  rintro k s' ⟨i, h', tk, m', ep', hile, rfl, rfl, hst, hn', hD', hK⟩
  by_cases hlt : i < items.length
  · refine W.item i _ _ _ (by rw [hsz]; exact hlt) hst fun v h₂ tk₂ hPv hst₂ hk₂ => ?_
    have hv : items[i]? = some v := by simpa using hPv
    have hvm : v ∈ items := List.mem_of_getElem? hv
    obtain ⟨hc, hcn⟩ := hcl v hvm
    have k2 : ∀ b o, @Ne Nat b env.locals → @Ne Nat b D → @Ne Nat b I' → s.heap.get? b = some o → h₂.get? b = some o := fun b o c1 c2 c3 e => hk₂ b o (by simpa using c3) (hK b o c1 c2 c3 e)
    have hn₂ : h₂.Ns env.locals m' := hn'.at' fun o e => hk₂ _ o (by simpa using n4.symm) e
    refine wpAny_assign_Name (wpAny_storeName_local hx hn₂ (fun h₃ hn₃ hs₃ => ?_) (by rw [hk]; rfl))
    have k3 : ∀ b o, @Ne Nat b env.locals → @Ne Nat b D → @Ne Nat b I' → s.heap.get? b = some o → h₃.get? b = some o := fun b o c1 c2 c3 e => hs₃.extBut b o c1 (k2 b o c1 c2 c3 e)
    have hst₃ : h₃.IsTupleIter I' a (i + 1) ∧ h₃.IsTuple a items.toArray := ⟨hst₂.1.at fun o e => hs₃.extBut _ o n4 e, hst₂.2.at fun o e => hs₃.extBut _ o n5 e⟩
    have hD₃ : h₃.get? D = some (lstO (ys ++ (items.take i).filter isT) ep') := hs₃.extBut _ _ n3 (hk₂ _ _ (by simpa using n2) hD')
    have hc₃ : Cl h₃ v := by
      cases v with
      | ref b =>
        obtain ⟨vs, hvs⟩ := hc
        obtain ⟨c1, c2, c3⟩ := hcn b rfl
        exact ⟨vs, hvs.at fun o e => k3 b o c1 c2 c3 e⟩
      | _ => exact hc
    have hG₃ : h₃.Ns env.globals mg := hG.at' fun o e => k3 _ o ng.1 ng.2.1 ng.2.2 e
    have hB₃ : h₃.Ns env.builtins mb := hB.at' fun o e => k3 _ o nb.1 nb.2.1 nb.2.2 e
    have htake : items.take (i + 1) = items.take i ++ [v] := by rw [List.take_add_one, hv]; rfl
    refine isTrue_plain ?_
    refine Call_ (Name_function_global hk hi (loadGlobal_builtin hG₃ g1 hB₃ b1 ?_))
    refine isi_test ?_
    refine args_cons ?_ (isi_a _ _ _ _)
    refine name_loc hk hx hn₃ (if_pos rfl) ?_ hd
    refine args_cons ?_
    refine Name_function_global hk ht (loadGlobal_builtin hG₃ g2 hB₃ b2 ?_)
    refine args_nil ?_
    refine isi_tup hc₃ fun tk₄ => ?_
    refine wpAny_truthy_bool ?_
    cases hb : isT v with
    | false =>
      rw [if_neg (by decide)]
      exact ⟨items.length - (i + 1), by omega, i + 1, h₃, tk₄, _, ep', hlt, rfl, rfl, hst₃, hn₃, by rw [htake, List.filter_append, List.filter_cons_of_neg (by simpa using hb), List.filter_nil, List.append_nil]; exact hD₃, k3⟩
    | true =>
      rw [if_pos rfl]
      refine name_loc hk hx hn₃ (if_pos rfl) ?_ hd
      refine append_at hD₃ (fun h₅ hs₅ hD₅ => ?_) (by
        rw [List.size_toArray, List.length_append, sizeLine_eq]
        have := List.length_filter_le isT (items.take i)
        have := List.length_take_le i items
        omega)
      refine ⟨items.length - (i + 1), by omega, i + 1, h₅, tk₄, _, ep' + 1, hlt, rfl, rfl, ⟨hst₃.1.at fun o e => hs₅.extBut _ o n2.symm e, hst₃.2.at fun o e => hs₅.extBut _ o n6 e⟩, hn₃.at' fun o e => hs₅.extBut _ o n3.symm e, ?_, fun b o c1 c2 c3 e => hs₅.extBut b o c2 (k3 b o c1 c2 c3 e)⟩
      rw [hD₅, htake, List.filter_append, List.filter_cons_of_pos hb, List.filter_nil, ← List.append_assoc]
      simp
  · have hie : i = items.length := Nat.le_antisymm hile (Nat.not_lt.mp hlt)
    subst hie
    refine W.done _ _ _ (by rw [hsz]; exact hst) fun h₂ tk₂ hk₂ => ?_
    rw [List.take_length] at hD'
    exact hR h₂ tk₂ m' ep' (hn'.at' fun o e => hk₂ _ o (by simpa using n4.symm) e) (hk₂ _ _ (by simpa using n2) hD') fun b o c1 c2 c3 e => hk₂ b o (by simpa using c3) (hK b o c1 c2 c3 e)
theorem assign_two {y x0 x1 : PySem.Str} {py q0 q1 q2 q3 q4 q5 r0 r1 r2 : Pos} {spos : Pos} {h₀ : Heap} {m mg mb : PySem.Str → Option Value} {news : List (Addr × Obj)} {l a : Addr} {n k : Nat} {items : List Value} {Q : Flow → Shared → Prop}
    (hh : A.handled = none) (F : Fr h₀ env.locals s.heap m) (N : News h₀ env.locals s.heap news) (hml : m y = some (.ref l)) (hl : (l, lstO [.ref a] n) ∈ news) (ha : (a, ({ cls := .type "tuple", data := .seq items.toArray k } : Obj)) ∈ news)
    (hit : ∀ v ∈ items, Cl s.heap v) (hlen : items.length ≤ 1000) (hk : env.scope.kind = .function) (hy : env.kindOf y = some .local) (hdy : (y == ("__debug__" : PySem.Str)) = false) (hd0 : (x0 == ("__debug__" : PySem.Str)) = false) (hd1 : (x1 == ("__debug__" : PySem.Str)) = false)
    (hsw : swapsWith (two (.Name x1 q0) (.Name x0 r0) (.Name y r1) (.Name x1 q1) (.Name x0 q2) (.Call (.Name "isinstance" q3) [.Name x1 q4, .Name "tuple" q5] [] r2) scope pos) (some (.Name y py)) spos.line env = pure true)
    (hcl : closureFor scope env = pure []) (hcell : ∀ z ∈ scope.names, z.2 ≠ .cell) (hsk : scope.kind = .function) (hnames : ∀ z ∈ scope.names, z.2 = .local → scope.names.lookup z.1 = some .local)
    (hx : ∀ C, (compEnvC scope [] C env).kindOf x0 = some .local ∧ (compEnvC scope [] C env).kindOf x1 = some .local ∧ (compEnvC scope [] C env).kindOf "isinstance" = some .globalImplicit ∧ (compEnvC scope [] C env).kindOf "tuple" = some .globalImplicit)
    (hG : h₀.Ns env.globals mg) (hB : h₀.Ns env.builtins mb) (g1 : mg "isinstance" = none) (g2 : mg "tuple" = none) (b1 : mb "isinstance" = some (.builtin "isinstance")) (b2 : mb "tuple" = some (.type "tuple"))
    (hQ : ∀ D h' tk ep', Fr h₀ env.locals h' (fun z => if z = y then some (.ref D) else m z) → News h₀ env.locals h' ((D, lstO (items.filter isT) ep') :: news) → (∀ p ∈ news, p.1 < D) → Q .next { s with heap := h', toks := tk }) :
    wpAny (model prog w) A (exec (.Assign [.Name y py] (two (.Name x1 q0) (.Name x0 r0) (.Name y r1) (.Name x1 q1) (.Name x0 q2) (.Call (.Name "isinstance" q3) [.Name x1 q4, .Name "tuple" q5] [] r2) scope pos) spos) env) Q E s := by
  have hs : ∀ x, foldedSetIterable (.Name y r1) env x = pure x := by intro _; rfl
  rw [exec_Assign_Name_used _ _ _ _ hsw]
  refine wpAny_bind (wpAny_standAt (wpAny_bind ?_))
  show wpAny _ A (do let _ ← comprehension (two (.Name x1 q0) (.Name x0 r0) (.Name y r1) (.Name x1 q1) (.Name x0 q2) (.Call (.Name "isinstance" q3) [.Name x1 q4, .Name "tuple" q5] [] r2) scope pos) scope env _ (newList []) false (eval (.Name y r1) env) (some (assign (.Name y py) env))) _ _ s
  refine wpAny_bind (wpAny_mono (wpAny_comprehension_free (use := some (assign (.Name y py) env)) (Q := fun _ s' => Q .next s') rfl hs hcl hsk hnames ?_) (fun _ s' hq => wpAny_pure (wpAny_pure hq)) fun _ _ e => e)
  refine name_loc hk hy F.ns hml ?_ hdy
  have hL := (N _ hl)
  have hls : s.heap.IsList l #[.ref a] := ⟨_, hL.1, rfl, _, rfl⟩
  refine wpAny_pyIter_list hls ?_
  refine wpAny_newObj_type (hd := (by show (0 : Nat) ≤ sizeLine; exact Nat.zero_le _)) (wpAny_newFunctionEnv hcell (by intro z hz; simp at hz) (fun h₁ hns₁ hsb₁ => ?_) hsk)
  dsimp only at hns₁ hsb₁ ⊢
  have hC : ((s.heap.push { cls := .type "list_iterator", data := .fields #[.ref l, .int 0 0] }).push { cls := .type "list", data := .seq ([] : List Value).toArray }).objs.size = s.heap.objs.size + 2 := by rw [Heap.size_push, Heap.size_push]
  have hDs : (s.heap.push { cls := .type "list_iterator", data := .fields #[.ref l, .int 0 0] }).objs.size = s.heap.objs.size + 1 := by rw [Heap.size_push]
  have hL1 := ltS hL.1
  have hA := N _ ha
  have hA1 := ltS hA.1
  have hLo : @LT.lt Nat instLTNat env.locals s.heap.objs.size := F.ns.lt
  have old : ∀ b o, s.heap.get? b = some o → h₁.get? b = some o := fun b o e => hsb₁.extBut b o (by rw [hC]; have := ltS e; exact Nat.ne_of_lt (by omega)) (Heap.get?_push_of_some _ (Heap.get?_push_of_some _ (Heap.get?_push_of_some _ e)))
  have hI₁ : h₁.get? s.heap.objs.size = some { cls := .type "list_iterator", data := .fields #[.ref l, .int 0 0] } := hsb₁.extBut _ _ (by rw [hC]; exact Nat.ne_of_lt (by omega)) (Heap.get?_push_of_some _ (Heap.get?_push_of_some _ (Heap.get?_push_size _ rfl)))
  have hD₁ : h₁.get? (s.heap.objs.size + 1) = some (lstO [] 0) := hsb₁.extBut _ _ (by rw [hC]; exact Nat.ne_of_lt (by omega)) (Heap.get?_push_of_some _ (by rw [← hDs]; exact Heap.get?_push_size _ rfl))
  rw [hC] at hns₁ hsb₁ ⊢
  rw [hDs]
  obtain ⟨oG, eG, fG, hoG, rG⟩ := hG
  obtain ⟨oB, eB, fB, hoB, rB⟩ := hB
  have lG := ltS (F.keep _ _ hoG)
  have lB := ltS (F.keep _ _ hoB)
  generalize hz : s.heap.objs.size = z at hns₁ hsb₁ old hI₁ hD₁ hL1 hA1 hLo lG lB
  have W := Walks.list (prog := prog) (w := w) hh z l (Nat.ne_of_lt hL1) #[.ref a]
  have loop : ∀ tk₀, codeAny (model prog w) A (.compLoop (two (.Name x1 q0) (.Name x0 r0) (.Name y r1) (.Name x1 q1) (.Name x0 q2) (.Call (.Name "isinstance" q3) [.Name x1 q4, .Name "tuple" q5] [] r2) scope pos) 0 (.ref z) (.ref (z + 1)) (compEnvC scope [] (z + 2) env))
      (compPost (model prog w) A E (some (assign (.Name y py) env)) (fun x s' => Q .next s') (.ref (z + 1)) (z + 2)) { s with heap := h₁, toks := tk₀ } := by
    intro tk₀
    obtain ⟨k1, k2, k3, k4⟩ := hx (z + 2)
    have hck : (compEnvC scope [] (z + 2) env).scope.kind = .function := hsk
    refine two_outLoop (fun kk s' => ∃ i h' tk m' ep', i ≤ 1 ∧ kk = 1 - i ∧ s' = { s with heap := h', toks := tk } ∧ (h'.IsListIter z l i ∧ h'.IsList l #[.ref a]) ∧ h'.Ns (z + 2) m' ∧ h'.get? (z + 1) = some (lstO (if i = 0 then [] else items.filter isT) ep') ∧
      (∀ b o, s.heap.get? b = some o → h'.get? b = some o)) ?_ 1 ⟨0, h₁, tk₀, _, 0, by omega, rfl, rfl, ⟨⟨_, hI₁, rfl, rfl⟩, hls.at fun o e => old _ o e⟩, hns₁, by simpa using hD₁, old⟩ (by intro _; rfl) (by intro _; rfl)
    rintro kk s' ⟨i, h', tk, m', ep', hile, rfl, rfl, hst, hn', hD', hK⟩
    have lt : ∀ b o, s.heap.get? b = some o → @LT.lt Nat instLTNat b z := fun b o e => hz ▸ ltS e
    by_cases hi0 : i = 0
    · subst hi0
      refine W.item 0 _ _ _ (Nat.zero_lt_one) hst fun v h₂ tk₂ hPv hst₂ hk₂ => ?_
      obtain rfl : Value.ref a = v := by simpa using hPv
      have hn₂ : h₂.Ns (z + 2) m' := hn'.at' fun o e => hk₂ _ o (by simp) e
      have K₂ : ∀ b o, s.heap.get? b = some o → h₂.get? b = some o := fun b o e => hk₂ b o (fun hm => by have := lt b o e; rw [List.mem_singleton.mp hm] at this; exact Nat.lt_irrefl _ this) (hK b o e)
      refine wpAny_assign_Name (wpAny_storeName_local k1 hn₂ (fun h₃ hn₃ hs₃ => ?_) (by rw [hck]; rfl))
      have K₃ : ∀ b o, s.heap.get? b = some o → h₃.get? b = some o := fun b o e => hs₃.extBut b o (by have := lt b o e; exact Nat.ne_of_lt (by show @LT.lt Nat instLTNat (b) (z + 2); omega)) (K₂ b o e)
      refine name_loc hck k1 hn₃ (if_pos rfl) ?_ hd0
      have hta₃ : h₃.IsTuple a items.toArray := ⟨_, K₃ _ _ hA.1, rfl, _, rfl⟩
      refine wpAny_pyIter_tuple hta₃ ?_
      have hD₃ : h₃.get? (z + 1) = some (lstO [] ep') := hs₃.extBut _ _ (Nat.ne_of_lt (by show @LT.lt Nat instLTNat (z + 1) (z + 2); omega)) (hk₂ _ _ (by simp) (by simpa using hD'))
      have hst₃ : h₃.IsListIter z l 1 ∧ h₃.IsList l #[.ref a] := ⟨hst₂.1.at fun o e => hs₃.extBut _ o (Nat.ne_of_lt (by show @LT.lt Nat instLTNat (z) (z + 2); omega)) e, hst₂.2.at fun o e => hs₃.extBut _ o (Nat.ne_of_lt (by show @LT.lt Nat instLTNat (l) (z + 2); omega)) e⟩
      have up : ∀ b o, h₃.get? b = some o → (h₃.push { cls := .type "tuple_iterator", data := .fields #[.ref a, .int 0 0] }).get? b = some o := fun b o e => Heap.get?_push_of_some _ e
      have ltI : @LT.lt Nat instLTNat (z + 2) h₃.objs.size := hn₃.lt
      have hcl' : ∀ v ∈ items, Cl (h₃.push { cls := .type "tuple_iterator", data := .fields #[.ref a, .int 0 0] }) v ∧ ∀ b, v = .ref b → @Ne Nat b (z + 2) ∧ @Ne Nat b (z + 1) ∧ @Ne Nat b h₃.objs.size := fun v hv => by
        have c := hit v hv
        refine ⟨?_, ?_⟩
        · cases v with
          | ref b => obtain ⟨vs, hvs⟩ := c; exact ⟨vs, hvs.at fun o e => up _ o (K₃ _ o e)⟩
          | _ => exact c
        · rintro b rfl
          obtain ⟨vs, ob, hob, _⟩ := c
          have := lt b ob hob
          exact ⟨Nat.ne_of_lt (by omega), Nat.ne_of_lt (by omega), Nat.ne_of_lt (by omega)⟩
      have inner : ∀ tk₄, codeAny (model prog w) A (.compLoop (two (.Name x1 q0) (.Name x0 r0) (.Name y r1) (.Name x1 q1) (.Name x0 q2) (.Call (.Name "isinstance" q3) [.Name x1 q4, .Name "tuple" q5] [] r2) scope pos) 1 (.ref h₃.objs.size) (.ref (z + 1)) (compEnvC scope [] (z + 2) env))
          (fun r s' => match r with | .ok _ => ∃ m, m < 1 - 0 ∧ ∃ i h' tk m' ep', i ≤ 1 ∧ m = 1 - i ∧ s' = { s with heap := h', toks := tk } ∧ (h'.IsListIter z l i ∧ h'.IsList l #[.ref a]) ∧ h'.Ns (z + 2) m' ∧ h'.get? (z + 1) = some (lstO (if i = 0 then [] else items.filter isT) ep') ∧
            (∀ b o, s.heap.get? b = some o → h'.get? b = some o) | .error _ => False)
          { s with heap := h₃.push { cls := .type "tuple_iterator", data := .fields #[.ref a, .int 0 0] }, toks := tk₄ } := by
        intro tk₄
        refine two_inner (a := a) (mC := fun x => if x = x0 then some (.ref a) else m' x) (items := items) (ys := []) (ep := ep') (mg := mg) (mb := mb) hh hck k2 hd1 k3 k4 (hn₃.at' fun o e => up _ o e) ⟨_, Heap.get?_push_size _ rfl, rfl, rfl⟩ (hta₃.at fun o e => up _ o e) (up _ _ hD₃)
          (Nat.ne_of_lt (by omega)) (Nat.ne_of_lt (by omega)) (Nat.ne_of_lt (by show @LT.lt Nat instLTNat (z + 1) (z + 2); omega)) (Ne.symm (Nat.ne_of_lt (by show @LT.lt Nat instLTNat (z + 2) (h₃.objs.size); omega))) (Nat.ne_of_lt (by show @LT.lt Nat instLTNat (a) (z + 2); omega)) (Nat.ne_of_lt (by omega))
          ⟨oG, eG, fG, up _ _ (K₃ _ _ (F.keep _ _ hoG)), rG⟩ ⟨oB, eB, fB, up _ _ (K₃ _ _ (F.keep _ _ hoB)), rB⟩ g1 g2 b1 b2
          ⟨Nat.ne_of_lt (by show @LT.lt Nat instLTNat (env.globals) (z + 2); omega), Nat.ne_of_lt (by show @LT.lt Nat instLTNat (env.globals) (z + 1); omega), Nat.ne_of_lt (by show @LT.lt Nat instLTNat (env.globals) (h₃.objs.size); omega)⟩
          ⟨Nat.ne_of_lt (by show @LT.lt Nat instLTNat (env.builtins) (z + 2); omega), Nat.ne_of_lt (by show @LT.lt Nat instLTNat (env.builtins) (z + 1); omega), Nat.ne_of_lt (by show @LT.lt Nat instLTNat (env.builtins) (h₃.objs.size); omega)⟩ hcl' (by simpa using hlen) ?_
        intro h₅ tk₅ m₅ ep₅ hn₅ hD₅ K₅
        have K₅' : ∀ b o, @LT.lt Nat instLTNat b (z + 1) → h₃.get? b = some o → h₅.get? b = some o := fun b o hb e => K₅ b o (Nat.ne_of_lt (by show @LT.lt Nat instLTNat (b) (z + 2); omega)) (Nat.ne_of_lt (by omega)) (Nat.ne_of_lt (by omega)) (up _ o e)
        exact ⟨0, by decide, 1, h₅, tk₅, m₅, ep₅, Nat.le_refl _, rfl, rfl, ⟨hst₃.1.at fun o e => K₅' _ o (by omega) e, hst₃.2.at fun o e => K₅' _ o (by omega) e⟩, hn₅, by simpa using hD₅, fun b o e => K₅' b o (by have := lt b o e; omega) (K₃ b o e)⟩
      exact two_inStart (inner _) (wpAny_pyIter_tupleiter (i := 0) (t := a) ⟨_, Heap.get?_push_size _ rfl, rfl, rfl⟩ (inner _))
    · obtain rfl : i = 1 := by omega
      refine W.done _ _ _ hst fun h₂ tk₂ hk₂ => ?_
      have K₂ : ∀ b o, s.heap.get? b = some o → h₂.get? b = some o := fun b o e => hk₂ b o (fun hm => by have := lt b o e; rw [List.mem_singleton.mp hm] at this; exact Nat.lt_irrefl _ this) (hK b o e)
      have hD₂ : h₂.get? (z + 1) = some (lstO (items.filter isT) ep') := hk₂ _ _ (by simp) (by simpa using hD')
      have F₂ : Fr h₀ env.locals h₂ m := ⟨F.ns.at' fun o e => K₂ _ o e, fun b o e => K₂ b o (F.keep b o e), F.above⟩
      show wpAny _ A (assign (.Name y py) env (.ref (z + 1))) _ _ _
      refine wpAny_assign_Name (wpAny_storeName_local hy F₂.ns (fun h₄ hn₄ hs₄ => ?_) (by rw [hk]; rfl))
      refine ⟨m', (hn'.at' fun o e => hk₂ _ o (by simp) e).sameBut hs₄ (Nat.ne_of_gt (by show @LT.lt Nat instLTNat (env.locals) (z + 2); omega)), fun h'' hs'' => ?_⟩
      have K₆ : ∀ b o, @Ne Nat b env.locals → @Ne Nat b (z + 2) → h₂.get? b = some o → h''.get? b = some o := fun b o c1 c2 e => hs''.extBut b o c2 (hs₄.extBut b o c1 e)
      have h0l : ∀ b o, h₀.get? b = some o → @Ne Nat b env.locals := fun b o e => Nat.ne_of_lt (Nat.lt_of_lt_of_le (ltS e) F.above)
      have f0 : ∀ b, @LE.le Nat instLENat z b → h₀.get? b = none := fun b hb => by
        cases e : h₀.get? b with
        | none => rfl
        | some o => have := lt b o (F.keep b o e); omega
      refine hQ (z + 1) h'' _ ep' ⟨hn₄.at' fun o e => hs''.extBut _ o (Nat.ne_of_lt (by show @LT.lt Nat instLTNat (env.locals) (z + 2); omega)) e, fun b o e => K₆ b o (h0l b o e) (by have := lt b o (F.keep b o e); exact Nat.ne_of_lt (by omega)) (K₂ b o (F.keep b o e)), F.above⟩ (fun p hp => ?_) fun p hp => by have := lt _ _ (N p hp).1; show @LT.lt Nat instLTNat (p.1) (z + 1); omega
      rcases List.mem_cons.mp hp with rfl | hp
      · exact ⟨K₆ _ _ (Nat.ne_of_gt (by show @LT.lt Nat instLTNat (env.locals) (z + 1); omega)) (Nat.ne_of_lt (by show @LT.lt Nat instLTNat (z + 1) (z + 2); omega)) hD₂, Nat.ne_of_gt (by show @LT.lt Nat instLTNat (env.locals) (z + 1); omega), f0 _ (by omega)⟩
      · have hp1 := N p hp
        have := lt _ _ hp1.1
        exact ⟨K₆ _ _ hp1.2.1 (Nat.ne_of_lt (by omega)) (K₂ _ _ hp1.1), hp1.2⟩
  have W0 := W.self 0 { s with heap := h₁, toks := s.toks + ([] : List (PySem.Str × Value)).length } (fun it s' => codeAny (model prog w) A (.compLoop (two (.Name x1 q0) (.Name x0 r0) (.Name y r1) (.Name x1 q1) (.Name x0 q2) (.Call (.Name "isinstance" q3) [.Name x1 q4, .Name "tuple" q5] [] r2) scope pos) 0 it (.ref (z + 1)) (compEnvC scope [] (z + 2) env))
      (compPost (model prog w) A E (some (assign (.Name y py) env)) (fun x s' => Q .next s') (.ref (z + 1)) (z + 2)) s') (notedBy (model prog w) A (compEnvC scope [] (z + 2) env) fun x s' => compPost (model prog w) A E (some (assign (.Name y py) env)) (fun x s' => Q .next s') (.ref (z + 1)) (z + 2) (.error x) s') ⟨⟨_, hI₁, rfl, rfl⟩, hls.at fun o e => old _ o e⟩ (loop _)
  exact codeAny_compStart_list (loop _) W0
end
theorem Obj.dict_mapFields' (o : Obj) (f) : (o.mapFields f).dict = o.dict := by
  obtain ⟨_, _, dt, _⟩ := o
  cases dt <;> rfl
noncomputable def FlyX (base : Heap) (l : List Env) (C e D : Addr) (fl : Value) (h : Heap) : Prop :=
  base.StaysIn h ∧ base.get? e = none ∧ h.FunFrames base l ∧ ∃ oe vs T oT ts, h.get? e = some oe ∧ oe.cls = .ref C ∧ oe.dict = some D ∧ oe.data = .fields vs ∧ vs[1]? = some (.ref T) ∧ base.get? T = none ∧ T ≠ e ∧ h.get? T = some oT ∧ oT.data = .fields ts ∧ ts[3]? = some fl
theorem FlyX.base {base B h : Heap} {l : List Env} {C e D : Addr} {fl : Value} (k : base.StaysIn B) (x : FlyX B l C e D fl h) : FlyX base l C e D fl h := by
  obtain ⟨f1, f2, f3, oe, vs, T, oT, ts, a1, a2, a2', a3, a4, a5, a6⟩ := x
  exact ⟨fun b o q => f1 b o (k b o q), fresh_of_stays k f2, funFrames_base k f3, oe, vs, T, oT, ts, a1, a2, a2', a3, a4, fresh_of_stays k a5, a6⟩
section
variable {M : Model} {A : Around} {E : Value → Shared → Prop} {s : Shared} {base : Heap} {env : Env} {outer l : List Env} {L C e D : Addr} {oe : Obj} {vs : Array Value} {head : Value}
theorem not_fields {h : Heap} {T : Addr} {oT : Obj} {ts : Array Value} (hT : h.get? T = some oT) (hd : oT.data = .fields ts) : ∀ b o, h.get? b = some o → (∀ vs, o.data ≠ .fields vs) → b ≠ T := fun b o hb hn q => by
  rw [q, hT] at hb; cases hb; exact hn _ hd
theorem hang {n : Bool} {Q : Unit → Shared → Prop} (hfr : A.frames = some (env :: outer)) (hl : s.heap.FunFrames base (env :: outer)) (hf : env.frame = some L) (he : s.heap.get? e = some oe) (hkb : base.StaysIn s.heap) (hen : base.get? e = none)
    (hc : oe.cls = .ref C) (hD : oe.dict = some D) (hd : oe.data = .fields vs) (hsz : 1 < vs.size) (h : ∀ h', FlyX base (env :: outer) C e D (rawInt L) h' → s.heap.UpToSlots h' → Q () { s with heap := h' }) :
    wpAny M A (do let a ← frameOf env; let pl ← entryPlaceOf L n; let b ← EntryCells.newEntry head a .none (rawInt L) .none pl; setField (.ref e) 1 b) Q E s := by
  have nof : e ∉ (env :: outer).filterMap (·.frame) := fun hm => by
    obtain ⟨_, o, ho, hnf⟩ := hl.mem hm
    rw [he] at ho; cases ho; exact hnf vs hd
  refine wpAny_bind (wpAny_frameOf_fun hfr hl hf fun h₁ hs => ?_)
  refine wpAny_bind (wpAny_entryPlaceOf fun pl hpl => ?_)
  unfold EntryCells.newEntry newFields
  refine wpAny_bind (wpAny_newObj_type ?_ (hpl.sizeOk5 _ _ _ _ _))
  have e1 : h₁.get? e = some oe := (hs.2.1 e nof).trans he
  have kb : base.StaysIn h₁ := fun b o hbo => (hs.2.1 b fun hm => by rw [(hl.mem hm).1] at hbo; cases hbo).trans (hkb b o hbo)
  refine wpAny_setField (Heap.get?_push_of_some _ e1) hd hsz (h _ ?_ ?_)
  · have ne : h₁.objs.size ≠ e := Nat.ne_of_gt (Heap.lt_size e1)
    have d3 := Obj.data_mapFields hd (·.setIfInBounds 1 (Value.ref h₁.objs.size))
    refine ⟨fun b o hbo => ?_, hen, hl.of_keeps fun b o hb hnf => ?_, _, _, h₁.objs.size, _, _, Heap.get?_update_self _ (Heap.get?_push_of_some _ e1) (Obj.isFreed_of_fields d3), (Obj.cls_mapFields _ _).trans hc, (Obj.dict_mapFields' _ _).trans hD, d3, by simp [hsz], kb.fresh, ne,
      (Heap.get?_update_other _ _ (Ne.symm ne)).trans (Heap.get?_push_size h₁ rfl), rfl, ?_⟩
    · rw [Heap.get?_update_other _ _ fun q : e = b => by rw [← q, hen] at hbo; cases hbo]
      exact Heap.get?_push_of_some _ (kb b o hbo)
    · obtain ⟨sl, hs'⟩ := hs.2.2 b o hb
      exact ⟨_, (Heap.get?_update_other _ _ fun q : e = b => not_fields he hd b o hb hnf q.symm).trans (Heap.get?_push_of_some _ hs'), rfl⟩
    · first | (simp; done) | (rcases hpl with rfl | ⟨_, _, _, _, _, _, _, rfl⟩ <;> simp)
  · intro b o hb hnf
    obtain ⟨sl, hs'⟩ := hs.2.2 b o hb
    exact ⟨sl, (Heap.get?_update_other _ _ fun q : e = b => not_fields he hd b o hb hnf q.symm).trans (Heap.get?_push_of_some _ hs')⟩
theorem note_first {Q : Unit → Shared → Prop} (hfr : A.frames = some (env :: outer)) (hl : s.heap.FunFrames base (env :: outer)) (hf : env.frame = some L) (he : s.heap.get? e = some oe) (hkb : base.StaysIn s.heap) (hen : base.get? e = none)
    (hc : oe.cls = .ref C) (hD : oe.dict = some D) (hd : oe.data = .fields vs) (h1 : vs[1]? = some .none) (h : ∀ h', FlyX base (env :: outer) C e D (rawInt L) h' → s.heap.UpToSlots h' → Q () { s with heap := h' }) :
    wpAny M A (noteFrame (.ref e) env) Q E s := by
  unfold noteFrame
  simp only [hf]
  refine wpAny_bind (wpAny_field he hd h1 ?_)
  rw [if_neg (by decide)]
  exact hang hfr hl hf he hkb hen hc hD hd (Array.getElem?_eq_some_iff.mp h1).1 h
theorem note_next {Q : Unit → Shared → Prop} (hfr : A.frames = some (env :: outer)) (hf : env.frame = some L) (x : FlyX base (env :: outer) C e D .none s.heap)
    (h : ∀ h', FlyX base (env :: outer) C e D (rawInt L) h' → s.heap.UpToSlots h' → Q () { s with heap := h' }) : wpAny M A (noteFrame (.ref e) env) Q E s := by
  obtain ⟨hkb, hen, hl, oe, vs, T, oT, ts, he, hc, hD, hd, h1, hnT, hTe, hT, hdT, h3⟩ := x
  unfold noteFrame
  simp only [hf]
  refine wpAny_bind (wpAny_field he hd h1 ?_)
  rw [if_pos (show (Value.ref T != Value.none) = true from by simp)]
  refine wpAny_bind (wpAny_field hT hdT h3 ?_)
  rw [if_neg (show ¬ ((Value.none == rawInt L) = true) from by simp [rawInt])]
  refine wpAny_bind (wpAny_setField hT hdT (Array.getElem?_eq_some_iff.mp h3).1 ?_)
  have oth : ∀ b, b ≠ T → (s.heap.update T (Obj.mapFields (·.setIfInBounds 3 Value.none))).get? b = s.heap.get? b := fun b hb => Heap.get?_update_other _ _ (Ne.symm hb)
  refine hang hfr (hl.of_keeps fun b o hb hnf => ⟨o, (oth b (not_fields hT hdT b o hb hnf)).trans hb, rfl⟩) hf ((oth e (Ne.symm hTe)).trans he)
    (fun b o hbo => (oth b fun q => by rw [q, hnT] at hbo; cases hbo).trans (hkb b o hbo)) hen hc hD hd (Array.getElem?_eq_some_iff.mp h1).1 fun h' y u => h h' y fun b o hb hnf => u b o ((oth b (not_fields hT hdT b o hb hnf)).trans hb) hnf
theorem lands {fl : Value} {Q : Unit → Shared → Prop} (x : FlyX base l C e D fl s.heap) (h : ∀ h', FlyX base l C e D .none h' → s.heap.UpToSlots h' → Q () { s with heap := h' }) :
    wpAny M A (setFlight (.ref e) none) Q E s := by
  obtain ⟨hkb, hen, hl, oe, vs, T, oT, ts, he, hc, hD, hd, h1, hnT, hTe, hT, hdT, h3⟩ := x
  have oth : ∀ b, b ≠ T → (s.heap.update T (Obj.mapFields (·.setIfInBounds 3 ((none : Option Addr).elim Value.none fun f => rawInt f)))).get? b = s.heap.get? b :=
    fun b hb => Heap.get?_update_other _ _ (Ne.symm hb)
  unfold setFlight
  refine wpAny_bind (wpAny_field he hd h1 ?_)
  rw [if_pos (show (Value.ref T != Value.none) = true from by simp)]
  refine wpAny_setField hT hdT (Array.getElem?_eq_some_iff.mp h3).1 (h _ ⟨fun b o hbo => (oth b fun q => by rw [q, hnT] at hbo; cases hbo).trans (hkb b o hbo), hen, hl.of_keeps fun b o hb hnf => ⟨o, (oth b (not_fields hT hdT b o hb hnf)).trans hb, rfl⟩,
    oe, vs, T, _, _, (oth e (Ne.symm hTe)).trans he, hc, hD, hd, h1, hnT, hTe, Heap.get?_update_self _ hT (Obj.isFreed_of_fields (Obj.data_mapFields hdT _)), Obj.data_mapFields hdT _, by simp [(Array.getElem?_eq_some_iff.mp h3).1]⟩
    fun b o hb hnf => ⟨o.slots, (oth b (not_fields hT hdT b o hb hnf)).trans hb⟩)
theorem FlyX.pop {fl : Value} {h : Heap} (x : FlyX base (env :: outer) C e D fl h) : FlyX base outer C e D fl h := by
  obtain ⟨k1, k2, ⟨_, _, k3⟩, k4⟩ := x
  exact ⟨k1, k2, k3, k4⟩
end
noncomputable def RaisedX (base : Heap) (l : List Env) (C e D : Addr) (news : Led) (h : Heap) : Prop :=
  ∃ B, base.StaysIn B ∧ (∀ q ∈ news, B.get? q.1 = some q.2 ∧ base.get? q.1 = none) ∧ FlyX B l C e D .none h
section
variable {M : Model} {A : Around} {E : Value → Shared → Prop} {s' : Shared} {base g g₂ h : Heap} {outer : List Env} {L a C e D : Addr} {m : PySem.Str → Option Value} {name : PySem.Str} {scope : Scope} {cd : Value} {Q : Unit → Shared → Prop} {news led : Led} {vs : Array Value} {sl : Array (Option Value)}
theorem leave_new (K : Below A base outer g) (F : Fr g L s'.heap m) (N : News g L s'.heap led) (he : (e, (⟨.ref C, some D, .fields vs, sl⟩ : Obj)) ∈ led) (h1 : vs[1]? = some .none) (hs : ∀ q ∈ news, q ∈ led ∧ q.1 ≠ e)
    (hQ : ∀ h', RaisedX base outer C e D news h' → g.UpToSlots h' → Q () { s' with heap := h' }) (hk : scope.kind = .function := by rfl) :
    wpAny M (A.deeper (envOf name scope L a cd)) (leaving (envOf name scope L a cd) (.ref e)) Q E s' := by
  have K' := K.push (name := name) (a := a) (cd := cd) F hk
  have hin : ∀ env ∈ (envOf name scope L a cd :: outer), ∀ b, env.frame = some b → b ∈ e :: (envOf name scope L a cd :: outer).filterMap (·.frame) := fun env he b hb => List.mem_cons_of_mem _ (List.mem_filterMap.mpr ⟨env, he, hb⟩)
  have nofr : ∀ q ∈ led, q.1 ∉ (envOf name scope L a cd :: outer).filterMap (·.frame) := fun q hq hm => by
    obtain ⟨env, he, hf⟩ := List.mem_filterMap.mp hm
    rcases List.mem_cons.mp he with rfl | he
    · exact (N q hq).2.1 (Option.some.inj hf).symm
    · obtain ⟨o, ho, _⟩ := (K.frames.mem (List.mem_filterMap.mpr ⟨env, he, hf⟩)).2
      rw [(N q hq).2.2] at ho; cases ho
  have st : base.StaysIn (hideAll s'.heap (e :: (envOf name scope L a cd :: outer).filterMap (·.frame))) := fun b o q => hideAll_get _ (K'.stays b o q) fun hm => by
    rcases List.mem_cons.mp hm with rfl | hm
    · rw [fresh_of_stays K.stays (N _ he).2.2] at q; cases q
    · rw [(K'.frames.mem hm).1] at q; cases q
  have hl : ∀ q ∈ news, (hideAll s'.heap (e :: (envOf name scope L a cd :: outer).filterMap (·.frame))).get? q.1 = some q.2 ∧ base.get? q.1 = none := fun q hq => by
    refine ⟨hideAll_get _ (N q (hs q hq).1).1 fun hm => ?_, fresh_of_stays K.stays (N q (hs q hq).1).2.2⟩
    rcases List.mem_cons.mp hm with hm | hm
    · exact (hs q hq).2 hm
    · exact nofr q (hs q hq).1 hm
  unfold leaving
  refine wpAny_bind (note_first K'.stack (funFrames_hide K'.frames hin) rfl (N _ he).1 (fun b o q => of_hideAll _ q) (hideAll_none _ (List.mem_cons_self)) rfl rfl rfl h1 fun h₁ x u => ?_)
  exact lands x fun h₂ y v => hQ h₂ ⟨_, st, hl, y.pop⟩ (((Heap.UpToSlots.of_keeps F.keep).trans u).trans v)
theorem leave_on (K : Below A base outer g) (F : Fr g L g₂ m) (R : RaisedX base (envOf name scope L a cd :: outer) C e D news s'.heap) (hsm : g₂.UpToSlots s'.heap)
    (hQ : ∀ h', RaisedX base outer C e D news h' → g.UpToSlots h' → Q () { s' with heap := h' }) :
    wpAny M (A.deeper (envOf name scope L a cd)) (leaving (envOf name scope L a cd) (.ref e)) Q E s' := by
  obtain ⟨B, hB, hl, x⟩ := R
  unfold leaving
  refine wpAny_bind (note_next (Around.frames_deeper K.stack) rfl x fun h₁ x u => ?_)
  exact lands x fun h₂ y v => hQ h₂ ⟨B, hB, hl, y.pop⟩ ((Heap.UpToSlots.of_keeps F.keep).trans ((hsm.trans u).trans v))
end
noncomputable abbrev excObj (C t : Addr) (D : Option Addr) : Obj := { cls := .ref C, dict := D, data := .fields #[.ref t, .none, .none, .none, .bool false, .none] }
noncomputable abbrev argObj (vs : List Value) : Obj := { cls := .type "tuple", data := .seq vs.toArray }
section
variable {prog : Program} {w : World} {A : Around} {E : Value → Shared → Prop} {h : Heap} {g : Array GenState} {d : Drawn} {t : Nat} {os : OsState} {K : Frag}
variable {nm q : PySem.Str} {C N : Addr} {bs bm : List Value} {hdct : Bool} {sn : List PySem.Str} {sub : List Value} {ab : Bool} {col : Option Bool} {dd : Option Addr} {k0 k1 k2 k3 k5 : Option Value}
theorem check_new_x {M : Model} {rest : List Value} {Q : Unit → Shared → Prop} (hC : h.get? C = some (excClassObj nm q C N bs bm hdct sn sub ab col dd k0 k1 k2 k3 k5 "Exception.__new__")) (b1 : bm.contains (.type "Exception") = true)
    (hq : Q () ⟨h, g, d, t, os⟩) : wpAny M A (checkBuiltinCall "Exception.__new__" ⟨.ref C :: rest, []⟩) Q E ⟨h, g, d, t, os⟩ := by
  have F := PySem.F.excBase_Exception
  have hcont : (Value.ref C :: bm).contains (.type "Exception") = true := by rw [List.contains_cons, b1, Bool.or_true]
  have hstar := F.noStar
  simp only [checkBuiltinCall, F.newKind, F.newSplit, F.newRow]
  repeat (first | refine wpAny_loadPart_at hC ?_ | (refine wpAny_isSubtype_exc hC ?_; rw [hcont]) | refine wpAny_staticBase_exc hC ?_ | refine wpAny_madeBy_exc hC ?_ | simp only [bne_self_eq_false, Bool.false_eq_true, if_false] | wp_step)
  exact hq
theorem new_x {rest : List Value} {R : Result → Shared → Prop} (hC : h.get? C = some (excClassObj nm q C N bs bm hdct sn sub ab col dd k0 k1 k2 k3 k5 "Exception.__new__")) (b1 : bm.contains (.type "Exception") = true)
    (b2 : bm.contains (.type "AttributeError") = false) (b3 : bm.contains (.type "NameError") = false)
    (hq : R (.ok (.ret (.ref (h.objs.size + 1)))) ⟨(h.push (argObj rest)).push (excObj C h.objs.size none), g, d, t, os⟩) (hrest : rest.length ≤ sizeLine) :
    codeAny (model prog w) A (.builtin "Exception.__new__" ⟨.ref C :: rest, []⟩) R ⟨h, g, d, t, os⟩ := by
  have F := PySem.F.excBase_Exception
  have hends := F.ends
  have hcB : (Value.ref C :: bm).contains (.type "Exception") = true := by rw [List.contains_cons, b1, Bool.or_true]
  have hcA : (Value.ref C :: bm).contains (.type "AttributeError") = false := by rw [List.contains_cons, b2]; rfl
  have hcN : (Value.ref C :: bm).contains (.type "NameError") = false := by rw [List.contains_cons, b3]; rfl
  refine codeAny_builtinAt F.entry ?_
  unfold Builtin.«BaseException.__new__»
  refine PySem.wpAt_bind ?_
  show PySem.wpAt _ _ _ (stack >>= _) _ _ _
  refine PySem.wpAt_bind (PySem.wpAt_stack fun p below => PySem.wpAt_of_wpAny ?_)
  wp_walk
  refine PySem.wpAt_of_wpAny ?_
  rw [F.owner]
  repeat (first | with_reducible refine wpAny_madeHere_exc F.canon hC ?_ | with_reducible refine wpAny_loadPart_at hC ?_ | (with_reducible refine wpAny_isSubtype_exc hC ?_; first | rw [hcB] | rw [hcA] | rw [hcN]) | wp_step)
  show R _ _
  rw [Heap.size_push]
  exact hq
theorem type_call_x {fI : Addr} {rest : List Value} {Q : Fin → Shared → Prop} (X : K.In h) (hC : h.get? C = some (excClassObj nm q C N bs bm hdct sn sub ab col dd k0 k1 k2 k3 k5 "Exception.__new__")) (b1 : bm.contains (.type "Exception") = true)
    (b2 : bm.contains (.type "AttributeError") = false) (b3 : bm.contains (.type "NameError") = false) (hi : findIn K (.ref C) "__init__" = some (some (.ref fI))) (hf : typeIn K (.ref fI) = some (.type "function"))
    (hq : wpAny (model prog w) A (call (.ref fI) (.ref (h.objs.size + 1) :: rest)) (fun r s' => r = .none ∧ Q (.done (.ret (.ref (h.objs.size + 1)))) s') E ⟨(h.push (argObj rest)).push (excObj C h.objs.size none), g, d, t, os⟩) (hrest : rest.length ≤ sizeLine) :
    wpAny (model prog w) A (Builtin.«type.__call__» ⟨.ref C :: rest, []⟩) Q E ⟨h, g, d, t, os⟩ := by
  have F := PySem.F.excBase_Exception
  repeat (first | with_reducible refine wpAny_loadPart_at hC ?_ | with_reducible refine wpAny_madeBy_exc hC ?_ | wp_step)
  refine codeAny_call_builtin_code (Code.quiet_builtin _ F.quiet) (check_new_x hC b1 ?_)
  refine new_x hC b1 b2 b3 ?_ hrest
  show wpAny _ _ _ _ _ _
  have k : ∀ b o, h.get? b = some o → ((h.push (argObj rest)).push (excObj C h.objs.size none)).get? b = some o := fun b o e => Heap.get?_push_of_some _ (Heap.get?_push_of_some _ e)
  have hC₁ := k _ _ hC
  have hget : ((h.push (argObj rest)).push (excObj C h.objs.size none)).get? (h.objs.size + 1) = some (excObj C h.objs.size none) := by heap_get
  have hcC : (Value.ref C :: bm).contains (.ref C) = true := by simp
  have i1 := (looks_findIn (M := model prog w) X hi).keeps k
  have b1 := (bind_fn (M := model prog w) X (.ref (h.objs.size + 1)) hf).keeps k
  unfold isInstance
  repeat (first | with_reducible refine wpAny_loadPart_at hget ?_ | (with_reducible refine wpAny_isSubtype_exc hC₁ ?_; rw [hcC]) | wp_step)
  show wpAny _ _ (typeLookup (.ref C) _) _ _ _
  refine i1.at ?_
  refine wpAny_holding (wpAny_bind (b1.at ?_))
  refine wpAny_bind (wpAny_mono hq (fun r s' hr => ?_) fun _ _ x => x)
  obtain ⟨rfl, hQ⟩ := hr
  wp_walk
  exact hQ
theorem call_x {fI : Addr} {rest : List Value} {Q : Value → Shared → Prop} (X : K.In h) (hC : h.get? C = some (excClassObj nm q C N bs bm hdct sn sub ab col dd k0 k1 k2 k3 k5 "Exception.__new__")) (b1 : bm.contains (.type "Exception") = true)
    (b2 : bm.contains (.type "AttributeError") = false) (b3 : bm.contains (.type "NameError") = false) (hi : findIn K (.ref C) "__init__" = some (some (.ref fI))) (hf : typeIn K (.ref fI) = some (.type "function"))
    (hq : codeAny (model prog w) (A.under (.builtin "type.__call__" ⟨.ref C :: rest, []⟩)) (.call (.ref fI) ⟨.ref (h.objs.size + 1) :: rest, []⟩) (InitBack (h.objs.size + 1) fun r s' => match r with | .ok (.ret v) => Q v s' | .ok _ => False | .error e => E e s') ⟨(h.push (argObj rest)).push (excObj C h.objs.size none), g, d, t, os⟩) (hrest : rest.length ≤ sizeLine) :
    wpAny (model prog w) A (call (.ref C) rest) Q E ⟨h, g, d, t, os⟩ := by
  have f1 := tc_lookup
  have f2 := tc_bind (.ref C)
  have hT : (⟨h, g, d, t, os⟩ : Shared).TypeIs (.ref C) "type" := ⟨_, hC, rfl⟩
  refine wpAny_call (codeAny_of_tree ?_)
  show wpAny _ _ (callAny (.ref C) _) _ _ _
  repeat (any_goals (first | assumption | with_reducible refine wpAny_loadPart_at hC ?_ | wp_step))
  refine ⟨rfl, ?_⟩
  refine codeAny_call_builtin_at (Code.quiet_builtin _ (by decide +kernel)) entry_typeCall (wpAny_check_type_call_sub hC (type_call_x (hrest := hrest) X hC b1 b2 b3 hi hf (wpAny_call (codeAny_mono hq fun r s' z => ?_))))
  rcases r with e | (v | _ | _ | _) <;> first | exact z | exact z.elim
noncomputable def RaisableX (C : Addr) (E : Value → Shared → Prop) (v : Value) (s₁ : Shared) : Prop :=
  ∃ e t D nm q N bs bm hdct sn sub ab col dd k0 k1 k2 k3 k5, v = .ref e ∧ s₁.heap.get? C = some (excClassObj nm q C N bs bm hdct sn sub ab col dd k0 k1 k2 k3 k5 "Exception.__new__") ∧ bm.contains (.type "BaseException") = true ∧ s₁.heap.get? e = some (excObj C t D) ∧ E (.ref e) s₁
theorem raise_x {M : Model} {env : Env} {s : Shared} {e : PySem.Expr} {pos : Pos} {Q : Flow → Shared → Prop} (hh : A.handled = none) (H : wpAny M A (eval e env) (RaisableX C E) E s) : wpAny M A (exec (.Raise (some e) none pos) env) Q E s := by
  show wpAny M A (do standAt pos; raiseStmt env (some (do let v ← eval e env; standAt pos; pure v)) none) Q E s
  refine wpAny_bind (wpAny_standAt ?_)
  unfold raiseStmt
  try dsimp only
  refine wpAny_bind (wpAny_bind (wpAny_mono H (fun v s₁ h₁ => wpAny_bind (wpAny_standAt (wpAny_pure ?_))) fun _ _ x => x))
  obtain ⟨e, t, D, nm, q, N, bs, bm, hdct, sn, sub, ab, col, dd, k0, k1, k2, k3, k5, rfl, hC, hb, he, hE⟩ := h₁
  have hcB : (Value.ref C :: bm).contains (.type "BaseException") = true := by rw [List.contains_cons, hb, Bool.or_true]
  obtain ⟨hp, g, d, tk, os⟩ := s₁
  repeat (first | with_reducible refine wpAny_loadPart_at he ?_ | with_reducible refine wpAny_loadPart_at hC ?_ | (with_reducible refine wpAny_isSubtype_exc hC ?_; rw [hcB]) | wp_step)
  exact wpAny_raiseNew_none hh hE
end
section
open PySem Builtin Builtin.ObjectAttr
section
variable {prog : Program} {w : World} {A : Around} {E : Value → Shared → Prop} {s : Shared} {K : Frag} {x C L D : Addr} {h₀ : Heap} {m : PySem.Str → Option Value} {led : Led} {es es' : List DictEntry} {n n' : Nat} {name : PySem.Str} {v : Value} {ox : Obj} {od : Option Obj} {cd : ClassData}
theorem store_in {tk : Tok} {Q : Fin → Shared → Prop} (F : Fr h₀ L s.heap m) (N : News h₀ L s.heap led) (hm : (D, dictOf es n) ∈ led) (hl : (getL name es).isSome = true)
    (e : (putL name (PyData.keyHash w.params name) (.str name s.toks) v es, putN name es n) = (es', n')) (hz : es'.length ≤ 1000)
    (h : ∀ h', Fr h₀ L h' m → News h₀ L h' ((D, dictOf es' n') :: off D led) → Q (.done (.ret .none)) { s with heap := h', toks := s.toks + 1 }) :
    wpAny (model prog w) A (storeInDict D (.str name tk) name v) Q E s := by
  obtain ⟨e1, e2⟩ := Prod.mk.inj e
  obtain ⟨U1, U2⟩ := news_upd (pre := []) (post := off D led) (o' := dictOf es' n') (f := Obj.putName name (PyData.keyHash w.params name) (.str name s.toks) v) F (news_pull N hm) (fun _ h => nomatch h) off_ne (by rw [putName_dict, e1, e2]) rfl
  have D0 := (N _ hm).1
  have D1 := (U2 (D, dictOf es' n') List.mem_cons_self).1
  unfold storeInDict newKeyGuard
  refine wpAny_bind (wpAny_pure (wpAny_bind ?_))
  unfold nsSet
  refine wpAny_bind (wpAny_bind (wpAny_askSetting (wpAny_pure (wpAny_bind (wpAny_mkText (wpAny_bind (wpAny_loadPart D0 ?_)))))))
  have c : (!es.toArray.any (·.key.isStr name) && es.toArray.any (·.refKey)) = false := by
    unfold getL at hl
    rw [List.any_toArray, List.any_toArray]
    split at hl
    · rename_i en he
      rw [List.any_eq_true.mpr ⟨en, List.mem_of_find?_eq_some he, List.find?_some he⟩]; rfl
    · split at hl
      · cases hl
      · rename_i z; rw [Bool.not_eq_true] at z; rw [z, Bool.and_false]
  try dsimp only
  rw [aRefKeyMayBeTheName_at, c]
  refine wpAny_updatePart D0 ?_
  refine wpAny_bind (wpAny_lookBehind D1 (pastItsLine_dict (by rw [List.size_toArray, sizeLine_eq]; omega)) ?_)
  exact wpAny_pure (h _ U1 U2)
theorem osa_x {tk : Tok} {R : Result → Shared → Prop} (X : K.In s.heap) (I : InstAt s.heap x ox C od) (hc : clsIn K C = some cd) (ne : cd.mro.isEmpty = false) (ho : cd.mro.contains (.type "object") = true)
    (hr : ∀ self, refuseLoop self "__setattr__" cd.mro = pure ()) (ht : takerIn K C name = some none)
    (h : ∀ b, wpAny (model prog w) A.in1 (storeInOwnDict (.ref x) (.ref C) (.str name tk) name v b)
      (fun fin s' => match fin with | .done f => R (.ok f) s' | .again c' => c'.quiet = true ∧ codeAny (model prog w) A c' R s') (fun e s' => R (.error e) s') s) :
    codeAny (model prog w) A (.call (.builtin "object.__setattr__") ⟨[.ref x, .str name tk, v], []⟩) R s := by
  have SF := PySem.F.store_object
  have sub : Looks (model prog w) s.heap (isInstance (.ref x) (.type "object")) true := I.type.andThen (looks_mroIn X (by unfold mroIn; rw [hc, Option.bind_some, if_neg (by rw [ne]; decide), ho]))
  refine codeAny_call_builtin SF.slot.plain SF.entry (@check_slot (model prog w) _ _ s "object.__setattr__" "object" "__setattr__" (.ref x) [.str name tk, v] [] _ SF.kind SF.split sub (SF.args (.ref x) (.str name tk) v) ?_)
  obtain ⟨attr, ha, hr'⟩ := Option.bind_eq_some_iff.mp ht
  have hm : Looks (model prog w) s.heap (mroOf (.ref C)) cd.mro := (looks_clsIn X hc).andThen .now
  have L3 : Looks (model prog w) s.heap (storeTaker? attr) none := by
    cases attr with
    | none => exact .now
    | some a =>
      obtain ⟨b, hb, e⟩ := Option.map_eq_some_iff.mp hr'
      refine (looks_takesIn X hb).andThen ?_
      cases b with
      | false => exact .now
      | true => cases e
  rw [osa_eq, refuse_eq]
  refine wpAny_bind (wpAny_bind (I.type.here (wpAny_bind (hm.here ?_))))
  rw [hr]
  refine wpAny_pure (wpAny_bind (I.type.here (wpAny_bind ((looks_findIn X ha).here (wpAny_bind (L3.here ?_))))))
  exact h _
theorem set_x {t : Addr} {Q : Unit → Shared → Prop} (F : Fr h₀ L s.heap m) (X₀ : K.In h₀) (N : News h₀ L s.heap led) (hx : (x, excObj C t (some D)) ∈ led) (hD : (D, dictOf es n) ∈ led)
    (hc : clsIn K C = some cd) (ne : cd.mro.isEmpty = false) (hh : cd.hasDict = true) (ho : cd.mro.contains (.type "object") = true) (hr : ∀ self, refuseLoop self "__setattr__" cd.mro = pure ()) (ht : takerIn K C name = some none)
    (hs : findIn K (.ref C) "__setattr__" = some (some (.builtin "object.__setattr__"))) (hl : (getL name es).isSome = true)
    (e : (putL name (PyData.keyHash w.params name) (.str name (s.toks + 1)) v es, putN name es n) = (es', n')) (hz : es'.length ≤ 1000)
    (h : ∀ h', Fr h₀ L h' m → News h₀ L h' ((D, dictOf es' n') :: off D led) → Q () { s with heap := h', toks := s.toks + 2 }) :
    wpAny (model prog w) A (setAttr (.ref x) name v) Q E s := by
  have X := X₀.keeps F.keep
  have I : InstAt s.heap x (excObj C t (some D)) C (some (dictOf es n)) := ⟨(N _ hx).1, rfl, rfl, (N _ hD).1⟩
  refine set_plain X I hs (osa_x (s := { s with toks := s.toks + 1 }) X I hc ne ho hr ht fun b => ?_)
  obtain ⟨hp, g, d, tk, os⟩ := s
  refine wpAny_bind (wpAny_pure (wpAny_bind (wpAny_bind (wpAny_loadPart I.at_ (wpAny_bind ((looks_clsIn (M := model prog w) X hc).at ?_))))))
  rw [hh]
  refine wpAny_pure (a := some D) ?_
  exact store_in (s := ⟨hp, g, d, tk + 1, os⟩) F N hD hl e hz fun h' F' N' => h h' F' N'
theorem set_x0 {t : Addr} {Q : Unit → Shared → Prop} (F : Fr h₀ L s.heap m) (X₀ : K.In h₀) (N : News h₀ L s.heap led) (hx : (x, excObj C t none) ∈ led)
    (hc : clsIn K C = some cd) (ne : cd.mro.isEmpty = false) (hh : cd.hasDict = true) (ho : cd.mro.contains (.type "object") = true) (hr : ∀ self, refuseLoop self "__setattr__" cd.mro = pure ()) (ht : takerIn K C name = some none)
    (hs : findIn K (.ref C) "__setattr__" = some (some (.builtin "object.__setattr__")))
    (e : (putL name (PyData.keyHash w.params name) (.str name (s.toks + 1)) v [], putN name [] 0) = (es', n')) (hz : es'.length ≤ 1000)
    (h : ∀ D h', Fr h₀ L h' m → News h₀ L h' ((D, dictOf es' n') :: (x, excObj C t (some D)) :: off x led) → (∀ p ∈ led, p.1 < D) → Q () { s with heap := h', toks := s.toks + 2 }) :
    wpAny (model prog w) A (setAttr (.ref x) name v) Q E s := by
  have X := X₀.keeps F.keep
  have I : InstAt s.heap x (excObj C t none) C none := ⟨(N _ hx).1, rfl, rfl, trivial⟩
  refine set_plain X I hs (osa_x (s := { s with toks := s.toks + 1 }) X I hc ne ho hr ht fun b => ?_)
  obtain ⟨hp, g, d, tk, os⟩ := s
  refine wpAny_bind (wpAny_pure (wpAny_bind (wpAny_bind (wpAny_loadPart I.at_ (wpAny_bind ((looks_clsIn (M := model prog w) X hc).at ?_))))))
  rw [hh]
  have lt : ∀ p ∈ led, p.1 < hp.objs.size := fun p hq => Heap.lt_size (N p hq).1
  have N1 := N.push F emptyDict
  have F1 : Fr h₀ L (hp.push emptyDict) m := F.push _
  obtain ⟨U1, U2⟩ := news_upd (pre := []) (post := off x ((hp.objs.size, emptyDict) :: led)) (o' := excObj C t (some hp.objs.size)) (f := fun o => { o with dict := some hp.objs.size }) F1 (news_pull N1 (List.mem_cons_of_mem _ hx)) (fun _ h => nomatch h) off_ne rfl rfl
  refine wpAny_bind (wpAny_alloc' (wpAny_bind (wpAny_update' (Heap.get?_push_of_some _ I.at_) ?_)))
  refine wpAny_pure (a := some hp.objs.size) ?_
  have hxs : hp.objs.size ≠ x := Nat.ne_of_gt (lt _ hx)
  have mD : (hp.objs.size, dictOf [] 0) ∈ (([] : Led) ++ (x, excObj C t (some hp.objs.size)) :: off x ((hp.objs.size, emptyDict) :: led)) := List.mem_cons_of_mem _ (mem_off List.mem_cons_self hxs)
  refine store_in (s := ⟨_, g, d, tk + 1, os⟩) U1 U2 mD rfl e hz fun h' F' N' => h _ h' F' (news_sub N' fun p hq => ?_) lt
  rcases List.mem_cons.mp hq with rfl | hq
  · exact List.mem_cons_self
  · refine List.mem_cons_of_mem _ ?_
    rcases List.mem_cons.mp hq with rfl | hq
    · exact mem_off (o := excObj C t (some hp.objs.size)) List.mem_cons_self hxs.symm
    · obtain ⟨a, o⟩ := p
      have hl := of_off hq
      exact mem_off (List.mem_cons_of_mem _ (mem_off (List.mem_cons_of_mem _ hl) (off_ne _ hq))) (Nat.ne_of_lt (lt _ hl))
end
end
section
variable {prog : Program} {w : World} {A₀ : Around} {E : Value → Shared → Prop} {s' : Shared} {h₀ h : Heap} {outer : List Env} {L a e C D : Addr} {m : PySem.Str → Option Value} {name : PySem.Str} {scope : Scope} {cd : Value}
  {n : PySem.Str} {b₀ : Stmt} {suite : List Stmt} {pos np : Pos} {rest : List ExceptHandler} {Q : Flow → Shared → Prop} {news : Led} {KF : Frag} {p : Program} {loose : List PySem.Str} {mg mb : PySem.Str → Option Value} {x : PySem.Str}
  {nm q : PySem.Str} {N : Addr} {bs bm : List Value} {hdct : Bool} {sn : List PySem.Str} {sub : List Value} {ab : Bool} {col : Option Bool} {dd : Option Addr} {k0 k1 k2 k3 k5 : Option Value}
theorem caught_x (K : Below A₀ h₀ outer h₀) (F : Fr h₀ L h m) (hsm : h.UpToSlots s'.heap) (R : RaisedX h₀ (envOf name scope L a cd :: outer) C e D news s'.heap)
    (X : KF.In h₀) (T : TopRead p loose mg mb h₀) (ex : nsIn KF mainGlobals x = some (some (.ref C))) (hC : h₀.get? C = some (excClassObj nm q C N bs bm hdct sn sub ab col dd k0 k1 k2 k3 k5 "Exception.__new__")) (hbase : bm.contains (.type "BaseException") = true)
    (k : ∀ h' oe tk, oe.cls = .ref C → oe.dict = some D → notCls oe = true → Fr h₀ L h' (fun y => if y = n then some (.ref e) else m y) → News h₀ L h' ((e, oe) :: news) →
      wpAny (model prog w) ((A₀.deeper (envOf name scope L a cd)).mark (some (.ref e))) (execs (b₀ :: suite) (envOf name scope L a cd))
        (fun f s₄ => wpAny (model prog w) (A₀.deeper (envOf name scope L a cd)) (do bindName (envOf name scope L a cd) n .none; unbindBehindTheSuite (envOf name scope L a cd) n pos) (fun _ s₅ => Q f s₅) E s₄)
        (AsSuiteRaised (model prog w) ((A₀.deeper (envOf name scope L a cd)).mark (some (.ref e))) (envOf name scope L a cd) n pos (notedBy (model prog w) ((A₀.deeper (envOf name scope L a cd)).mark (some (.ref e))) (envOf name scope L a cd) (cameBackBy (model prog w) (A₀.deeper (envOf name scope L a cd)) (envOf name scope L a cd) E)))
        { s' with heap := h', toks := tk })
    (hk : scope.kind = .function := by rfl) (hlo : (envOf name scope L a cd).kindOf n = some .local := by rfl) (hx : (envOf name scope L a cd).kindOf x = some .globalImplicit := by rfl) (hd : (x == ("__debug__" : PySem.Str)) = false := by decide) :
    wpAny (model prog w) (A₀.deeper (envOf name scope L a cd)) (noteFrame (.ref e) (envOf name scope L a cd))
      (fun _ s₂ => wpAny (model prog w) (A₀.deeper (envOf name scope L a cd)) (setFlight (.ref e) none) (fun _ s₃ =>
        wpAny (model prog w) (A₀.deeper (envOf name scope L a cd)) (handleBy (.ref e) (envOf name scope L a cd) (.ExceptHandler (some (.Name x np)) (some n) (b₀ :: suite) pos :: rest)) Q E s₃) E s₂) E s' := by
  obtain ⟨B, hB, hl, y⟩ := R
  have hL : B.get? L = none := by
    obtain ⟨_, ⟨L', _, hf, hn', _⟩, _⟩ := y.2.2.1
    obtain rfl : L = L' := Option.some.inj hf
    exact hn'
  refine note_next (Around.frames_deeper K.stack) rfl y fun h₄ y₄ u₄ => ?_
  refine lands y₄ fun h₅ y₅ u₅ => ?_
  have F₅ := F.of_stays (y₅.base hB).1 ((hsm.trans u₄).trans u₅)
  obtain ⟨oe, vs, T', oT, ts, he, hc, hD, hd', h1, r⟩ := y₅.2.2.2
  refine wpAny_handleBy_cons (codeAny_handlers_test (name_K F₅ X T ex ?_ hk hx hd)) (by intro q; cases q)
  refine wpAny_excMatches_sub_self (F₅.keep _ _ hC) he hc hbase (codeAny_handlers_suite_as ?_)
  refine lands (s := { s' with heap := h₅ }) y₅ fun h₆ y₆ u₆ => ?_
  have y₆' := y₆.base hB
  have F₆ := F.of_stays y₆'.1 (((hsm.trans u₄).trans u₅).trans u₆)
  obtain ⟨oe, vs, T', oT, ts, he, hc, hD, hd', h1, r⟩ := y₆'.2.2.2
  have hno : notCls oe = true := by unfold notCls; rw [hd']
  have N₆ := News.more F₆ News.nil he (fun es n q => by rw [hd'] at q; cases q) y₆'.2.1
  have Nl : News h₀ L h₆ news := fun q hq => ⟨y₆.1 _ _ (hl q hq).1, (fun z => by have := (hl q hq).1; rw [z, hL] at this; cases this), (hl q hq).2⟩
  refine stN F₆ (news := (e, oe) :: news) (fun q hq => ?_) (fun h₇ F₇ N₇ => ?_) hk hlo
  · rcases List.mem_cons.mp hq with rfl | hq
    · exact N₆ _ List.mem_cons_self
    · exact Nl q hq
  exact k h₇ oe _ hc hD hno F₇ N₇
end
section
open PySem Builtin Builtin.ObjectAttr
section
variable {prog : Program} {w : World} {A : Around} {E : Value → Shared → Prop} {s : Shared} {K : Frag} {x C : Addr} {name : PySem.Str} {v : Value} {ox : Obj} {od : Option Obj} {cd : ClassData}
theorem oga_eq (self : Value) (nm : PySem.Str) (tk : Tok) : ∃ rest : Found → Value → Sem PySem.Fin, (∀ v tp, rest (.value v) tp = ret v) ∧
    Builtin.«object.__getattribute__» ⟨[self, .str nm tk], []⟩ = (typeOf self >>= fun tp => find self tp nm >>= fun f => rest f tp) := by
  refine ⟨_, ?_, rfl⟩
  intro v tp; rfl
theorem get_x {expr : Bool} {Q : Value → Shared → Prop} (X : K.In s.heap) (I : InstAt s.heap x ox C od) (hc : clsIn K C = some cd) (ne : cd.mro.isEmpty = false) (ho : cd.mro.contains (.type "BaseException") = true)
    (hga : findIn K (.ref C) "__getattribute__" = some (some (.builtin "BaseException.__getattribute__"))) (hgn : findIn K (.ref C) "__getattr__" = some none)
    (hf : findObj K C od name = some (.value v)) (hh : handedIn v = true) (h : Q v { s with toks := s.toks + 1 }) : wpAny (model prog w) A (getAttr (.ref x) name expr) Q E s := by
  obtain ⟨hp, g, d, t, os⟩ := s
  have L0 := I.type (M := model prog w)
  have L1 := looks_findIn (M := model prog w) X hga
  have L2 := looks_findIn (M := model prog w) X hgn
  have L3 := looks_find (M := model prog w) X I hf
  have sub : Looks (model prog w) hp (isInstance (.ref x) (.type "BaseException")) true := L0.andThen (looks_mroIn X (by unfold mroIn; rw [hc, Option.bind_some, if_neg (by rw [ne]; decide), ho]))
  have SG := PySem.F.attr_Exception.ga
  have hx0 : (expr && onTheHeap (Value.builtin "BaseException.__getattribute__")) = false := by cases expr <;> rfl
  have hx2 : (Value.builtin "BaseException.__getattribute__" == Value.builtin "object.__getattribute__") = false := by decide +kernel
  have hk : builtinKind "BaseException.__getattribute__" = some .slot := by decide +kernel
  have hsp : splitId "BaseException.__getattribute__" = some ("BaseException", "__getattribute__") := by decide +kernel
  unfold getAttr getAttrBy
  refine wpAny_bind (wpAny_mkText (wpAny_holding (wpAny_bind (L0.at (wpAny_bind (L1.at ?_))))))
  try dsimp only
  rw [hx2, Bool.and_false, if_neg (by decide)]
  unfold getAttrByItsOwn hookBefore
  rw [if_pos (show onTheHeap (.ref C) = true from rfl)]
  refine wpAny_bind (L2.at (wpAny_bind ?_))
  unfold callGetattribute
  rw [hx0, if_neg (by decide)]
  unfold boundAndCalled
  rw [SG.bind]
  show wpAny _ _ (Sem.attempt _) _ _ _
  refine wpAny_attempt (wpAny_bind (wpAny_pure (wpAny_call ?_)))
  refine codeAny_call_builtin SG.plain PySem.F.entry_bexc_ga (@check_slot (model prog w) _ _ ⟨hp, g, d, t + 1, os⟩ "BaseException.__getattribute__" "BaseException" "__getattribute__" (.ref x) [.str name t] [] _ hk hsp sub (PySem.F.args_bexc_ga _ _) ?_)
  obtain ⟨rest, hr, e⟩ := oga_eq (.ref x) name t
  rw [show [Value.ref x] ++ [Value.str name t] = [Value.ref x, Value.str name t] from rfl, e]
  refine wpAny_bind (L0.at (wpAny_bind (L3.at ?_)))
  rw [hr]
  refine wpAny_pure ?_
  show wpAny _ _ (handedOut v) _ _ _
  rw [handedOut_of hh]; exact wpAny_pure h
end
end
noncomputable def nKind (x : PySem.Str) : PySem.Str := bif (["wire", "tri", "wand", "wor", "tri0", "tri1", "trireg", "supply0", "supply1"] : List PySem.Str).any (fun y => y == x) then x else bif x == "uwire" then "wire" else bif x == "triand" then "wand" else bif x == "trior" then "wor" else ""
theorem net_kind_c {w : World} {led : Led} {x : PySem.Str} {t : Tok} : Con 880 7900 w 688 [.str x t] led (fun r led' => (∃ t', r = .str (nKind x) t') ∧ ∀ p ∈ led, p ∈ led') := by
  try unfold Con
  intro zmean zmg zmb zgd zcn zcs za zccd zcl zouter zA zbase zh zL zm zs zQ zE zB zF X zN zT zhk hret
  revert X; k_fill; intro X
  refine wpAny_call ?_
  k_dflt (refine' code_def ?k1 ?k2 ?k3 ?k4 ?k5 ?kA ?kF ?kK ?k6 ?k7 ?k8 ?k9 ?kB ?_ ?c2 ?c3 ?c4 ?c5; (case kA => exact rfl); (case kF => exact rfl); (case kK => assumption); (case k1 => k_asm); (case k2 => k_asm); (case k3 => k_asm); (case k4 => k_asm); (case k5 => k_asm); (case k6 => k_is); (case k7 => k_is); (case k8 => k_room); (case k9 => first | exact BindsTo.of_eq rfl | exact binds_K (by k_in) rfl (by k_is) rfl rfl rfl); (case c5 => decide); (case kB => exact locs rfl); (case c2 => exact rfl); (case c3 => exact rfl); (case c4 => exact rfl); k_whole; intro g' L' h' FG' F' N' B' X' T'; (try dsimp only); (try k_fold))
  (replace F' : Fr g' L' h' (fun y => List.lookup y [("word", .str x t)]) := F')
  (refine at_toks ?_; intro tk0)
  (refine (let A9 : Around := _; let g9 : Array GenState := _; let d9 : Drawn := _; let o9 : OsState := _; (?_ : wpAny _ A9 _ _ _ ⟨_, g9, d9, _, o9⟩)))
  k_steps
  all_goals exact hret _ _ _ _ (by k_asm) (by k_asm) ⟨⟨_, by simp only [nKind, cond_true, cond_false, *]; rfl⟩, fun p hp => List.mem_cons_of_mem _ hp⟩
noncomputable def okD : Nat → Dat → Bool
  | _, .none => true
  | _, .int _ => true
  | _, .bool _ => true
  | _, .str x => PyData.strOk x
  | n + 1, .tuple ds => ds.all (okD n)
  | _, _ => false
section
variable {h₀ h : Heap} {L : Addr} {news : Led}
theorem rd_tup (N : News h₀ L h news) {a : Addr} {vs : List Value} {n : Nat} {ds : List Dat} (hm : (a, tupObj vs n) ∈ news) (ih : ∃ as, ReadsAll h vs (kqdPs ds) as) : ∃ as, Reads h (.ref a) (kqdP (.tuple ds)) as := by
  obtain ⟨as, q⟩ := ih
  rw [kqdP]
  exact ⟨as, reads_tuple_at (N.get hm) rfl rfl (by simpa using q)⟩
theorem rd_cons {v : Value} {vs : List Value} {d : Dat} {ds : List Dat} (p : ∃ as, Reads h v (kqdP d) as) (q : ∃ as, ReadsAll h vs (kqdPs ds) as) : ∃ as, ReadsAll h (v :: vs) (kqdPs (d :: ds)) as := by
  obtain ⟨as, p⟩ := p
  obtain ⟨bs, q⟩ := q
  rw [kqdPs]
  exact ⟨_, ReadsAll.cons p q⟩
theorem vi_reads (N : News h₀ L h news) {v : Value} {d : Dat} (x : VI news v d) : ∃ as, Reads h v (kqdP d) as :=
  VI.rec (motive_1 := fun v d _ => ∃ as, Reads h v (kqdP d) as) (motive_2 := fun vs ds _ => ∃ as, ReadsAll h vs (kqdPs ds) as) ⟨_, Reads.none⟩ (fun b => ⟨_, Reads.bool b⟩) (fun i t => ⟨_, Reads.int i t⟩) (fun x t => ⟨_, Reads.str x t⟩) (fun hm _ ih => rd_tup N hm ih) ⟨_, ReadsAll.nil⟩ (fun _ _ p q => rd_cons p q) x
theorem vis_reads (N : News h₀ L h news) {vs : List Value} {ds : List Dat} (x : VIs news vs ds) : ∃ as, ReadsAll h vs (kqdPs ds) as :=
  VIs.rec (motive_1 := fun v d _ => ∃ as, Reads h v (kqdP d) as) (motive_2 := fun vs ds _ => ∃ as, ReadsAll h vs (kqdPs ds) as) ⟨_, Reads.none⟩ (fun b => ⟨_, Reads.bool b⟩) (fun i t => ⟨_, Reads.int i t⟩) (fun x t => ⟨_, Reads.str x t⟩) (fun hm _ ih => rd_tup N hm ih) ⟨_, ReadsAll.nil⟩ (fun _ _ p q => rd_cons p q) x
end
theorem okD_lay : ∀ (n : Nat) (d : Dat), okD n d = true → (kqdP d).canLay0 = true ∧ (kqdP d).depth ≤ n ∧ PyData.eqv (kqdP d) (kqdP d) = true := by
  have all : ∀ (n : Nat), (∀ d, okD n d = true → (kqdP d).canLay0 = true ∧ (kqdP d).depth ≤ n ∧ PyData.eqv (kqdP d) (kqdP d) = true) → ∀ ds : List Dat, (∀ d ∈ ds, okD n d = true) → PyData.canLayAll0 (kqdPs ds) = true ∧ PyData.depthAll (kqdPs ds) ≤ n ∧ PyData.eqvAll (kqdPs ds) (kqdPs ds) = true := by
    intro n ih ds
    induction ds with
    | nil => intro _; simp [kqdPs, PyData.canLayAll0, PyData.depthAll, PyData.eqvAll]
    | cons d ds hi =>
      intro h
      have h1 := ih d (h d (.head _))
      have h2 := hi fun e he => h e (.tail _ he)
      simp only [kqdPs, PyData.canLayAll0, PyData.depthAll, PyData.eqvAll, h1.1, h2.1, h1.2.2, h2.2.2, Bool.and_self, true_and]
      have a1 := h1.2.1
      have a2 := h2.2.1
      exact ⟨by omega, trivial⟩
  intro n
  induction n with
  | zero =>
    intro d h
    cases d <;> simp_all [okD, kqdP, PyData.canLay0, PyData.depth, PyData.eqv]
  | succ n ih =>
    intro d h
    cases d with
    | none => simp [kqdP, PyData.canLay0, PyData.depth, PyData.eqv]
    | bool b => simp [kqdP, PyData.canLay0, PyData.depth, PyData.eqv]
    | int i => simp [kqdP, PyData.canLay0, PyData.depth, PyData.eqv]
    | str x => simp [okD] at h; simp [kqdP, PyData.canLay0, PyData.depth, PyData.eqv, h]
    | bytes b => simp [okD] at h
    | list ds => simp [okD] at h
    | tuple ds =>
      have q := all n ih ds (by simpa [okD] using h)
      have q2 := q.2.1
      simp only [kqdP, PyData.canLay0, PyData.depth, PyData.eqv, q.1, q.2.2, true_and]
      first | exact ⟨by omega, rfl⟩ | exact ⟨by omega, trivial⟩
section
variable {prog : Program} {w : World} {A : Around} {E : Value → Shared → Prop} {s : Shared} {h₀ : Heap} {L a b : Addr} {news : Led} {xs ys : List Value} {ka kb : Nat} {ds : List Dat} {Q : Value → Shared → Prop}
theorem eq_datD {v u : Value} {d : Dat} (N : News h₀ L s.heap news) (Da : VI news v d) (Db : VI news u d) (ok : okD 8 d = true) (hu : A.units + 64 < cLine) (h : Q (.bool true) s) : wpAny (model prog w) A (compareOp .Eq v u) Q E s := by
  obtain ⟨as, ra⟩ := vi_reads N Da
  obtain ⟨bs, rb⟩ := vi_reads N Db
  have q := okD_lay 8 d ok
  have sh : SeqAt.shaped (kqdP d) = true := by
    unfold SeqAt.shaped
    rw [q.1, Bool.true_and]
    exact decide_eq_true (Nat.le_trans q.2.1 (by decide))
  refine eq_dataH ra rb sh sh hu ?_
  rw [q.2.2]
  exact h
end
section
variable {prog : Program} {w : World} {A : Around} {E : Value → Shared → Prop} {s : Shared} {h₀ : Heap} {L : Addr} {news : Led}
theorem grow_mem {D b : Addr} {m : PySem.Str → Option Value} {vs us : List Value} {n k : Nat} {Q : Value → Shared → Prop} (F : Fr h₀ L s.heap m) (N : News h₀ L s.heap news) (hm : (D, listOf vs.toArray n) ∈ news) (hb : (b, listOf us.toArray k) ∈ news)
    (hz : vs.length + us.length ≤ 1000) (h : ∀ n' h', Fr h₀ L h' m → News h₀ L h' ((D, listOf (vs ++ us).toArray n') :: off D news) → Q .none { s with heap := h' }) : wpAny (model prog w) A (call (.builtin "list.extend") [.ref D, .ref b]) Q E s :=
  extend_in (own := []) (hsz := by rw [List.size_toArray, sizeLine_eq]; omega) F (news_pull N hm) (fun _ h => nomatch h) off_ne (N _ hb).1 fun h' n' F' N' => h n' h' F' (by simpa using N')
theorem fills_iadd : fillsInplaceSlot (.type "list") "add" true = pure false := by
  unfold fillsInplaceSlot
  show (typeLookup (.type "list") (dunderI "add") >>= fun fi => pure (fi.isSome && !isSeqSlot fi)) = pure false
  rw [PySem.F.slot_list_iadd.lookup, pure_bind]
  show pure ((some (Value.builtin "list.__iadd__")).isSome && !isSeqSlot (some (.builtin "list.__iadd__"))) = pure false
  rw [show isSeqSlot (some (.builtin "list.__iadd__")) = true by decide +kernel]; rfl
theorem seq_iadd : seqSlot? (.type "list") (dunderI "add") = pure (some (.builtin "list.__iadd__")) := PySem.seqSlot_of PySem.F.slot_list_iadd.lookup (by decide +kernel)
theorem iadd_mem {D b : Addr} {m : PySem.Str → Option Value} {vs us : List Value} {n k : Nat} {Q : Value → Shared → Prop} (F : Fr h₀ L s.heap m) (N : News h₀ L s.heap news) (hm : (D, listOf vs.toArray n) ∈ news) (hb : (b, listOf us.toArray k) ∈ news)
    (hz : vs.length + us.length ≤ 1000) (h : ∀ n' h', Fr h₀ L h' m → News h₀ L h' ((D, listOf (vs ++ us).toArray n') :: off D news) → Q (.ref D) { s with heap := h' }) : wpAny (model prog w) A (inplaceOp .Add (.ref D) (.ref b)) Q E s := by
  have N2 := news_pull N hm
  have hd := N2 _ List.mem_cons_self
  have ha : s.TypeIs (.ref D) "list" := ⟨_, hd.1, rfl⟩
  have hbb : s.TypeIs (.ref b) "list" := ⟨_, (N _ hb).1, rfl⟩
  have hz' : vs.toArray.size + us.toArray.size ≤ sizeLine := by rw [List.size_toArray, List.size_toArray, sizeLine_eq]; omega
  unfold inplaceOp
  refine wpAny_holding ?_
  refine wpAny_bind (wpAny_typeOf ha (wpAny_bind (wpAny_of_eq fills_iadd ?_)))
  show wpAny _ A (if false = true then _ else _) Q E s
  rw [if_neg Bool.false_ne_true]
  refine wpAny_bind (wpAny_binaryOp1_none (nm := "add") ha hbb noFill_list_add ?_)
  refine wpAny_bind (wpAny_of_eq seq_iadd ?_)
  refine wpAny_bind (wpAny_rule ?_)
  refine call_meets PySem.F.slot_list_iadd ha PySem.F.entry_list_iadd (PySem.F.args_list_iadd_2 _ _) (AutoSeq1.list___iadd___list_list_0 D vs.toArray n b us.toArray k (extend_door hz') (Nat.le_trans (Nat.le_add_right _ _) hz')) ⟨hd.1, (N _ hb).1, ?_⟩
  have e : vs.toArray ++ us.toArray = (vs ++ us).toArray := by simp
  have ho' : (s.heap.update D (Obj.mapSeq fun x => x ++ us.toArray)).get? D = some (listOf (vs ++ us).toArray (if (vs.toArray ++ us.toArray).size == vs.toArray.size then n else n + 1)) := by
    rw [Heap.get?_update_self _ hd.1 (by rw [mapSeq_app]; rfl), mapSeq_app, e]
  exact h _ _ (F.change (Heap.SameBut.update ..) hd.2.1 hd.2.2) (N2.setIn (own := []) (fun _ h => nomatch h) off_ne (Heap.SameBut.update ..) ho')
end
local macro_rules | `(tactic| walk_at "setAttr ref") => `(tactic| (k_here; k_dflt (refine set_mem (by k_asm) (by k_asm) (by k_asm) (by k_inst) (by exact rfl) (by k_is) (by k_is) (by k_is) (by k_is) (by k_get) (by k_put) (by k_mem) (by lge_go) ?_); lge_steps))
theorem allLt_get {d : Addr} : ∀ {l : List (Addr × Obj)}, AllLt d l → ∀ p ∈ l, p.1 < d
  | [], _, p, h => nomatch h
  | q :: r, h, p, hp => by
    rcases List.mem_cons.mp hp with rfl | hp
    · exact h.1
    · exact allLt_get h.2 p hp
inductive CurI (dx sx sdx rl tb : Addr) (i2 : Int) (rest led' : Led) : Prop
  | mk {a0 a1 a2 a3 a4 : Int} {s0 s1 s2 s3 s4 : Tok} {u3 : Bool} {u4 : Tok} (al : Addr) (b0 b1 b2 : Int) (p0 p1 p2 v : Tok)
      (h1 : (dx, dictOf [⟨a0, .str "source" s0, .ref sx⟩, ⟨a1, .str "ahead" s1, .ref al⟩, ⟨a2, .str "hashed" s2, .bool u3⟩, ⟨a3, .str "token" s3, .ref tb⟩, ⟨a4, .str "at" s4, .int i2 u4⟩] 5) ∈ led')
      (h2 : (sdx, dictOf [⟨b0, .str "tokens" p0, .ref rl⟩, ⟨b1, .str "place" p1, .int 1 v⟩, ⟨b2, .str "parted" p2, .bool false⟩] 3) ∈ led') (h3 : (al, listOf ([] : List Value).toArray 0) ∈ led') (h4 : ∀ p ∈ rest, p ∈ led') (h5 : ∀ p ∈ rest, p.1 < al) (h6 : @Ne Nat al dx) (h7 : @Ne Nat al sdx) : CurI dx sx sdx rl tb i2 rest led'
theorem cur_init {w : World} {x dx sx sdx rl tb tbd : Addr} {h0 h1 h2 : Int} {t0 t1 t2 u : Tok} {kb : Nat → Int × Tok} {ub0 ub1 ub2 : Tok} {text : PySem.Str} {i2 : Int} {n4 : Nat} {vs : List Value} {rest : Led}
    (hx : (x, instObj 796 dx) ∈ rest) (hs : (sx, instObj 99 sdx) ∈ rest) (hl : (rl, listOf vs.toArray n4) ∈ rest)
    (hv : vs[(0 : Int).toNat]? = some (.ref tb)) (hlen : vs.length ≤ 1000) (hp : ¬ (vs.length : Int) ≤ 0)
    (htb : (tb, instObj 71 tbd) ∈ rest) (htbd : (tbd, dictOf [⟨(kb 0).1, .str "kind" (kb 0).2, .str "key" ub0⟩, ⟨(kb 1).1, .str "value" (kb 1).2, .str text ub1⟩, ⟨(kb 2).1, .str "at" (kb 2).2, .int i2 ub2⟩] 3) ∈ rest)
    (hd9 : @Ne Nat dx sdx) (hr1 : ∀ p ∈ rest, p.1 ≠ dx) (hr2 : ∀ p ∈ rest, p.1 ≠ sdx) :
    Con 880 7900 w 117 [.ref x, .ref sx] ((dx, dictOf [] 0) :: (sdx, dictOf [⟨h0, .str "tokens" t0, .ref rl⟩, ⟨h1, .str "place" t1, .int 0 u⟩, ⟨h2, .str "parted" t2, .bool false⟩] 3) :: rest)
      (fun r led' => r = .none ∧ CurI dx sx sdx rl tb i2 rest led') := by
  have hd8 : @Ne Nat sdx dx := fun e => hd9 e.symm
  have q0 : x ≠ dx := hr1 _ hx
  have r0 : x ≠ sdx := hr2 _ hx
  have q1 : sx ≠ dx := hr1 _ hs
  have r1 : sx ≠ sdx := hr2 _ hs
  have q2 : rl ≠ dx := hr1 _ hl
  have r2 : rl ≠ sdx := hr2 _ hl
  have q3 : tb ≠ dx := hr1 _ htb
  have r3 : tb ≠ sdx := hr2 _ htb
  have q4 : tbd ≠ dx := hr1 _ htbd
  have r4 : tbd ≠ sdx := hr2 _ htbd
  try unfold Con
  intro zmean zmg zmb zgd zcn zcs za zccd zcl zouter zA zbase zh zL zm zs zQ zE zB zF X zN zT zhk hret
  revert X; k_fill; intro X
  refine wpAny_call ?_
  k_dflt (refine' code_def ?k1 ?k2 ?k3 ?k4 ?k5 ?kA ?kF ?kK ?k6 ?k7 ?k8 ?k9 ?kB ?_ ?c2 ?c3 ?c4 ?c5; (case kA => exact rfl); (case kF => exact rfl); (case kK => assumption); (case k1 => k_asm); (case k2 => k_asm); (case k3 => k_asm); (case k4 => k_asm); (case k5 => k_asm); (case k6 => k_is); (case k7 => k_is); (case k8 => k_room); (case k9 => first | exact BindsTo.of_eq rfl | exact binds_K (by k_in) rfl (by k_is) rfl rfl rfl); (case c5 => decide); (case kB => exact locs rfl); (case c2 => exact rfl); (case c3 => exact rfl); (case c4 => exact rfl); k_whole; intro g' L' h' FG' F' N' B' X' T'; (try dsimp only); (try k_fold))
  (replace F' : Fr g' L' h' (fun y => List.lookup y [("source", .ref sx), ("self", .ref x)]) := F')
  (refine at_toks ?_; intro tk0)
  k_steps
  (rename _ ∧ AllLt _ _ => lA)
  refine (let G9 : Prop := _; (?_ : G9))
  obtain ⟨lA1, lA2⟩ := lA
  have lA3 := allLt_get lA2
  have lA4 : sdx < _ := lA3 _ (mem_off List.mem_cons_self hd8)
  have lA5 : ∀ p ∈ rest, p.1 < _ := fun p hp => lA3 p (mem_off (List.mem_cons_of_mem _ hp) (hr1 p hp))
  first | k_unfold | skip
  try clear G9
  refine hret _ _ _ _ (by k_asm) (by k_asm) ⟨rfl, .mk _ _ _ _ _ _ _ _ (by k_mem) (by k_mem) (by k_mem) ?_ lA5 (Nat.ne_of_gt lA1) (Nat.ne_of_gt lA4)⟩
  intro p hp
  have p1 := hr1 p hp
  have p2 := hr2 p hp
  refine (let G9 : Prop := _; (?_ : G9))
  obtain ⟨q, o⟩ := p
  first | k_unfold | skip
  try clear G9
  repeat (first | exact hp | exact List.mem_cons_of_mem _ hp | (apply List.mem_cons_of_mem; refine mem_off ?_ (by assumption)) | refine mem_off ?_ (by assumption) | apply List.mem_cons_of_mem)
local macro_rules | `(tactic| walk_at "call builtin:list.append") => `(tactic| (k_here; (try dsimp only [List.nil_append, List.cons_append]); k_dflt (refine append_mem (by k_asm) (by k_asm) (by k_mem) (by lge_go) ?_); lge_steps))
local macro_rules | `(tactic| walk_at "call type:tuple") => `(tactic| (k_here; k_dflt (refine kde_tupleOf (by k_asm) (by k_asm) (News.isList (by k_asm) (by k_mem)) (by rw [List.size_toArray]; omega) (by exact rfl) ?_; k_whole); intro D' h' F' N' l1; (try k_sweep)))
local macro_rules | `(tactic| walk_at "call builtin:list.pop") => `(tactic| (k_here; (try dsimp only [List.nil_append, List.cons_append]); k_dflt (refine pop0_mem (by k_asm) (by k_asm) (by k_mem) (by lge_go) ?_); lge_steps))
local macro_rules | `(tactic| walk_at "call ref") => `(tactic| (with_reducible refine hold_ref ?h ?_; (case h => decide)))
theorem TokIn.opened {led : Led} {v : Value} {t : TK} (h : TokIn led v t) : ∃ (a d : Addr) (k : Nat → Int × Tok) (u0 u2 : Tok) (val : Value), v = .ref a ∧ (a, instObj 71 d) ∈ led ∧
    (d, dictOf [⟨(k 0).1, .str "kind" (k 0).2, .str t.kind u0⟩, ⟨(k 1).1, .str "value" (k 1).2, val⟩, ⟨(k 2).1, .str "at" (k 2).2, .int t.pos u2⟩] 3) ∈ led := by
  cases h with
  | w h1 h2 => exact ⟨_, _, _, _, _, _, rfl, h1, h2⟩
  | num h1 h2 h3 => exact ⟨_, _, _, _, _, _, rfl, h1, h2⟩
structure Sep (P : PA) (led : Led) : Prop where
  d : Dist P
  a : ∀ {q : Addr} {o : Obj}, Frz o → (q, o) ∈ led → @Ne Nat q P.dx ∧ @Ne Nat q P.sdx ∧ @Ne Nat q P.al
theorem PS0.sep {h₀ h : Heap} {L : Addr} {led : Led} {P : PA} {tv : Addr} {i : Int} {place : Nat} {avs vs : List Value} {dep : Int} {wi ne : Bool} (N : News h₀ L h led) (S : PS0 led P tv i place avs vs dep wi ne) : Sep P led :=
  ⟨S.dist N, fun f m => S.away N f m⟩
theorem PS0.put {led : Led} {P : PA} {tv : Addr} {i : Int} {place : Nat} {avs vs : List Value} {dep : Int} {wi ne : Bool} (H : Sep P led) (S : PS0 led P tv i place avs vs dep wi ne)
    (k : Nat → Int × Tok) (u4 u5 : Tok) (hb : Bool) (tv2 : Addr) (i2 dep2 : Int) (wi2 ne2 : Bool) :
    PS0 ((P.dx, pDict P k u4 u5 hb tv2 i2 dep2 wi2 ne2) :: off P.dx led) P tv2 i2 place avs vs dep2 wi2 ne2 ∧ Ext P led ((P.dx, pDict P k u4 u5 hb tv2 i2 dep2 wi2 ne2) :: off P.dx led) := by
  obtain ⟨D, A⟩ := H
  obtain ⟨hx, _, hs, ⟨k2, v1, pb, hsd⟩, ⟨n, ha⟩, ⟨n', hr⟩, hne, hl⟩ := S
  have up : ∀ {q : Addr} {o : Obj}, @Ne Nat q P.dx → (q, o) ∈ led → (q, o) ∈ (P.dx, pDict P k u4 u5 hb tv2 i2 dep2 wi2 ne2) :: off P.dx led := fun e m => List.mem_cons_of_mem _ (mem_off m e)
  exact ⟨⟨up D.x_d hx, ⟨k, u4, u5, hb, List.mem_cons_self⟩, up D.sx_d hs, ⟨k2, v1, pb, up D.d_s.symm hsd⟩, ⟨n, up D.d_a.symm ha⟩, ⟨n', up D.rl_d hr⟩, hne, hl⟩, ⟨fun q o f m => up (A f m).1 m, fun q o m e _ _ => up e m⟩⟩
theorem PS0.putA {led : Led} {P : PA} {tv : Addr} {i : Int} {place : Nat} {avs vs : List Value} {dep : Int} {wi ne : Bool} (H : Sep P led) (S : PS0 led P tv i place avs vs dep wi ne) (avs2 : List Value) (n2 : Nat) :
    PS0 ((P.al, listOf avs2.toArray n2) :: off P.al led) P tv i place avs2 vs dep wi ne ∧ Ext P led ((P.al, listOf avs2.toArray n2) :: off P.al led) ∧ Sep P ((P.al, listOf avs2.toArray n2) :: off P.al led) := by
  obtain ⟨D, A⟩ := H
  obtain ⟨hx, ⟨k, u4, u5, hb, hd⟩, hs, ⟨k2, v1, pb, hsd⟩, ⟨n, ha⟩, ⟨n', hr⟩, hne, hl⟩ := S
  have up : ∀ {q : Addr} {o : Obj}, @Ne Nat q P.al → (q, o) ∈ led → (q, o) ∈ (P.al, listOf avs2.toArray n2) :: off P.al led := fun e m => List.mem_cons_of_mem _ (mem_off m e)
  exact ⟨⟨up D.x_a hx, ⟨k, u4, u5, hb, up D.d_a hd⟩, up D.sx_a hs, ⟨k2, v1, pb, up D.s_a hsd⟩, ⟨n2, List.mem_cons_self⟩, ⟨n', up D.rl_a hr⟩, hne, hl⟩, ⟨fun q o f m => up (A f m).2.2 m, fun q o m _ _ e => up e m⟩, D, fun f m => by
    rcases List.mem_cons.mp m with e | m
    · injection e with e1 e2; subst e2; exact absurd f frz_list
    · exact A f (of_off m)⟩
theorem take_f {w : World} {led : Led} {P : PA} {tv : Addr} {i : Int} {place : Nat} {vs : List Value} {dep : Int} {wi ne : Bool} {v : Value} {t : TK} (S : PS0 led P tv i place [] vs dep wi ne) (hv : vs[place]? = some v) (ht : TokIn led v t) :
    Con 880 7900 w 139 [.ref P.x] led (fun r led' => r = .ref tv ∧ (∃ b, v = .ref b ∧ PS0 led' P b t.pos (place + 1) [] vs dep wi ne) ∧ Ext P led led') := by
  have S' := S
  obtain ⟨hx, ⟨k, u4, u5, hb, hd⟩, hs, ⟨k2, v1, pb, hsd⟩, ⟨n, ha⟩, ⟨n', hr⟩, hne, hl⟩ := S'
  try unfold Con
  intro zmean zmg zmb zgd zcn zcs za zccd zcl zouter zA zbase zh zL zm zs zQ zE zB zF X zN zT zhk hret
  revert X; k_fill; intro X
  refine wpAny_call ?_
  k_dflt (refine' code_def ?k1 ?k2 ?k3 ?k4 ?k5 ?kA ?kF ?kK ?k6 ?k7 ?k8 ?k9 ?kB ?_ ?c2 ?c3 ?c4 ?c5; (case kA => exact rfl); (case kF => exact rfl); (case kK => assumption); (case k1 => k_asm); (case k2 => k_asm); (case k3 => k_asm); (case k4 => k_asm); (case k5 => k_asm); (case k6 => k_is); (case k7 => k_is); (case k8 => k_room); (case k9 => first | exact BindsTo.of_eq rfl | exact binds_K (by k_in) rfl (by k_is) rfl rfl rfl); (case c5 => decide); (case kB => exact locs rfl); (case c2 => exact rfl); (case c3 => exact rfl); (case c4 => exact rfl); k_whole; intro g' L' h' FG' F' N' B' X' T'; (try dsimp only); (try k_fold))
  (replace F' : Fr g' L' h' (fun y => List.lookup y [("self", .ref P.x)]) := F')
  (refine at_toks ?_; intro tk0)
  (refine (let A9 : Around := _; let g9 : Array GenState := _; let d9 : Drawn := _; let o9 : OsState := _; (?_ : wpAny _ A9 _ _ _ ⟨_, g9, d9, _, o9⟩)))
  k_steps
  refine (let qk9 : Value → Shared → Prop := _; (?_ : wpAny _ _ _ qk9 _ _))
  skip
  refine Con.useV (Q := qk9) (fetch_c S hv ht) (by assumption) (by assumption) (by assumption) (by k_asm) (by assumption) (by first | exact rfl | assumption) rfl rfl ?_
  intro led9 h9 tk9 F9 N9 S1 E1
  have H1 := S1.sep N9
  obtain ⟨tb, td, kb, ub0, ub2, val, rfl, hb1, hb2⟩ := (ht.sub E1.frz).opened
  obtain ⟨n1, n2, -⟩ := H1.a (.inst _ _) hb1
  obtain ⟨n3, n4, -⟩ := H1.a (.tok _ _ _ _ _) hb2
  obtain ⟨d1, -, -, -, -, -, -, -, -, -, -, -⟩ := H1.d
  have S2 := S1
  obtain ⟨hx1, ⟨k1, u41, u51, hb1', hd1⟩, -, -, -, -, -, -⟩ := S2
  first | k_unfold | skip
  try clear qk9
  try dsimp only
  try k_fold
  k_steps
  exact hret _ _ _ _ (by k_asm) (by k_asm) ⟨rfl, ⟨_, rfl, (S1.put H1 _ _ _ _ _ _ _ _ _).1⟩, E1.trans (S1.put H1 _ _ _ _ _ _ _ _ _).2⟩
theorem take_a {w : World} {led : Led} {P : PA} {tv : Addr} {i : Int} {place : Nat} {vs : List Value} {dep : Int} {wi ne : Bool} {v : Value} {t : TK} (S : PS0 led P tv i place [v] vs dep wi ne) (ht : TokIn led v t) :
    Con 880 7900 w 139 [.ref P.x] led (fun r led' => r = .ref tv ∧ (∃ b, v = .ref b ∧ PS0 led' P b t.pos place [] vs dep wi ne) ∧ Ext P led led') := by
  refine Con.news fun hh h hL N => ?_
  have H := S.sep N
  have S' := S
  obtain ⟨hx, ⟨k, u4, u5, hb, hd⟩, hs, ⟨k2, v1, pb, hsd⟩, ⟨n, ha⟩, ⟨n', hr⟩, hne, hl⟩ := S'
  obtain ⟨tb, td, kb, ub0, ub2, val, rfl, hb1, hb2⟩ := ht.opened
  obtain ⟨n1, -, n2⟩ := H.a (.inst _ _) hb1
  obtain ⟨n3, -, n4⟩ := H.a (.tok _ _ _ _ _) hb2
  obtain ⟨d1, -, d2, -, d3, -, -, -, -, -, -, -⟩ := H.d
  clear N
  try unfold Con
  intro zmean zmg zmb zgd zcn zcs za zccd zcl zouter zA zbase zh zL zm zs zQ zE zB zF X zN zT zhk hret
  revert X; k_fill; intro X
  refine wpAny_call ?_
  k_dflt (refine' code_def ?k1 ?k2 ?k3 ?k4 ?k5 ?kA ?kF ?kK ?k6 ?k7 ?k8 ?k9 ?kB ?_ ?c2 ?c3 ?c4 ?c5; (case kA => exact rfl); (case kF => exact rfl); (case kK => assumption); (case k1 => k_asm); (case k2 => k_asm); (case k3 => k_asm); (case k4 => k_asm); (case k5 => k_asm); (case k6 => k_is); (case k7 => k_is); (case k8 => k_room); (case k9 => first | exact BindsTo.of_eq rfl | exact binds_K (by k_in) rfl (by k_is) rfl rfl rfl); (case c5 => decide); (case kB => exact locs rfl); (case c2 => exact rfl); (case c3 => exact rfl); (case c4 => exact rfl); k_whole; intro g' L' h' FG' F' N' B' X' T'; (try dsimp only); (try k_fold))
  (replace F' : Fr g' L' h' (fun y => List.lookup y [("self", .ref P.x)]) := F')
  (refine at_toks ?_; intro tk0)
  (refine (let A9 : Around := _; let g9 : Array GenState := _; let d9 : Drawn := _; let o9 : OsState := _; (?_ : wpAny _ A9 _ _ _ ⟨_, g9, d9, _, o9⟩)))
  k_steps
  refine (let G9 : Prop := _; (?_ : G9))
  obtain ⟨SA, EA, HA⟩ := S.putA H [] (n + 1)
  first | k_unfold | skip
  try clear G9
  exact hret _ _ _ _ (by k_asm) (by k_asm) ⟨rfl, ⟨_, rfl, (SA.put HA _ _ _ _ _ _ _ _ _).1⟩, EA.trans (SA.put HA _ _ _ _ _ _ _ _ _).2⟩
theorem take_c {w : World} {led : Led} {P : PA} {cur t : TK} {nx : List TK} {dep : Int} {wi ne : Bool} (S : PS led P cur (t :: nx) dep wi ne) :
    Con 880 7900 w 139 [.ref P.x] led (fun r led' => TokIn led' r cur ∧ PS led' P t nx dep wi ne ∧ Ext P led led') := by
  obtain ⟨tv, place, avs, vs, ahead, rest, S0, hcur, hah, hre, hnx, hle⟩ := S
  cases hah with
  | nil =>
    simp only [List.nil_append] at hnx
    subst hnx
    cases hd : vs.drop place with
    | nil => rw [hd] at hre; cases hre
    | cons v vs' =>
      rw [hd] at hre
      cases hre with
      | cons ht hr =>
        have hv : vs[place]? = some v := by
          have := congrArg (fun l => l[0]?) hd
          simpa using this
        have hd' : vs.drop (place + 1) = vs' := by rw [← List.drop_drop, hd]; rfl
        refine Con.weaken (take_f S0 hv ht) ?_
        rintro r l ⟨rfl, ⟨b, rfl, S1⟩, E⟩
        exact ⟨hcur.sub E.frz, ⟨b, _, _, _, [], _, S1, ht.sub E.frz, .nil, by rw [hd']; exact hr.sub E.frz, rfl, by simp⟩, E⟩
  | cons ha hr =>
    rename_i v vs' t' ts'
    simp only [List.cons_append, List.cons.injEq] at hnx
    obtain ⟨rfl, rfl⟩ := hnx
    have : vs' = [] := by simpa using hle
    subst this
    cases hr
    refine Con.weaken (take_a S0 ha) ?_
    rintro r l ⟨rfl, ⟨b, rfl, S1⟩, E⟩
    exact ⟨hcur.sub E.frz, ⟨b, _, _, _, [], _, S1, ha.sub E.frz, .nil, hre.sub E.frz, rfl, by simp⟩, E⟩
theorem is_op_w {w : World} {led : Led} {P : PA} {tv td : Addr} {kt : Nat → Int × Tok} {u0 u1 u2 : Tok} {kind text0 : PySem.Str} {i : Int} {place : Nat} {avs vs : List Value} {dep : Int} {wi ne : Bool} {text : PySem.Str} {ut : Tok} (S : PS0 led P tv i place avs vs dep wi ne)
    (h1 : (tv, instObj 71 td) ∈ led) (h2 : (td, dictOf [⟨(kt 0).1, .str "kind" (kt 0).2, .str kind u0⟩, ⟨(kt 1).1, .str "value" (kt 1).2, .str text0 u1⟩, ⟨(kt 2).1, .str "at" (kt 2).2, .int i u2⟩] 3) ∈ led) :
    Con 880 7900 w 146 [.ref P.x, .str text ut] led (fun r led' => r = .bool (kind == "op" && text0 == text) ∧ led' = led) := by
  obtain ⟨hx, ⟨k, u4, u5, hb, hd⟩, -, -, -, -, -, -⟩ := S
  try unfold Con
  intro zmean zmg zmb zgd zcn zcs za zccd zcl zouter zA zbase zh zL zm zs zQ zE zB zF X zN zT zhk hret
  revert X; k_fill; intro X
  refine wpAny_call ?_
  k_dflt (refine' code_def ?k1 ?k2 ?k3 ?k4 ?k5 ?kA ?kF ?kK ?k6 ?k7 ?k8 ?k9 ?kB ?_ ?c2 ?c3 ?c4 ?c5; (case kA => exact rfl); (case kF => exact rfl); (case kK => assumption); (case k1 => k_asm); (case k2 => k_asm); (case k3 => k_asm); (case k4 => k_asm); (case k5 => k_asm); (case k6 => k_is); (case k7 => k_is); (case k8 => k_room); (case k9 => first | exact BindsTo.of_eq rfl | exact binds_K (by k_in) rfl (by k_is) rfl rfl rfl); (case c5 => decide); (case kB => exact locs rfl); (case c2 => exact rfl); (case c3 => exact rfl); (case c4 => exact rfl); k_whole; intro g' L' h' FG' F' N' B' X' T'; (try dsimp only); (try k_fold))
  (replace F' : Fr g' L' h' (fun y => List.lookup y [("text", .str text ut), ("self", .ref P.x)]) := F')
  (refine at_toks ?_; intro tk0)
  (refine (let A9 : Around := _; let g9 : Array GenState := _; let d9 : Drawn := _; let o9 : OsState := _; (?_ : wpAny _ A9 _ _ _ ⟨_, g9, d9, _, o9⟩)))
  k_steps
  all_goals first
    | (rename (_ == _) = true => hb9; exact hret _ _ _ _ (by k_asm) (by k_asm) ⟨by rw [hb9, Bool.true_and], rfl⟩)
    | (rename (_ == _) = false => hb9; exact hret _ _ _ _ (by k_asm) (by k_asm) ⟨by rw [hb9, Bool.false_and], rfl⟩)
theorem is_op_n {w : World} {led : Led} {P : PA} {tv td q : Addr} {kt : Nat → Int × Tok} {u0 u2 : Tok} {i : Int} {place : Nat} {avs vs : List Value} {dep : Int} {wi ne : Bool} {text : PySem.Str} {ut : Tok} (S : PS0 led P tv i place avs vs dep wi ne)
    (h1 : (tv, instObj 71 td) ∈ led) (h2 : (td, dictOf [⟨(kt 0).1, .str "kind" (kt 0).2, .str "num" u0⟩, ⟨(kt 1).1, .str "value" (kt 1).2, .ref q⟩, ⟨(kt 2).1, .str "at" (kt 2).2, .int i u2⟩] 3) ∈ led) :
    Con 880 7900 w 146 [.ref P.x, .str text ut] led (fun r led' => r = .bool false ∧ led' = led) := by
  obtain ⟨hx, ⟨k, u4, u5, hb, hd⟩, -, -, -, -, -, -⟩ := S
  try unfold Con
  intro zmean zmg zmb zgd zcn zcs za zccd zcl zouter zA zbase zh zL zm zs zQ zE zB zF X zN zT zhk hret
  revert X; k_fill; intro X
  refine wpAny_call ?_
  k_dflt (refine' code_def ?k1 ?k2 ?k3 ?k4 ?k5 ?kA ?kF ?kK ?k6 ?k7 ?k8 ?k9 ?kB ?_ ?c2 ?c3 ?c4 ?c5; (case kA => exact rfl); (case kF => exact rfl); (case kK => assumption); (case k1 => k_asm); (case k2 => k_asm); (case k3 => k_asm); (case k4 => k_asm); (case k5 => k_asm); (case k6 => k_is); (case k7 => k_is); (case k8 => k_room); (case k9 => first | exact BindsTo.of_eq rfl | exact binds_K (by k_in) rfl (by k_is) rfl rfl rfl); (case c5 => decide); (case kB => exact locs rfl); (case c2 => exact rfl); (case c3 => exact rfl); (case c4 => exact rfl); k_whole; intro g' L' h' FG' F' N' B' X' T'; (try dsimp only); (try k_fold))
  (replace F' : Fr g' L' h' (fun y => List.lookup y [("text", .str text ut), ("self", .ref P.x)]) := F')
  (refine at_toks ?_; intro tk0)
  (refine (let A9 : Around := _; let g9 : Array GenState := _; let d9 : Drawn := _; let o9 : OsState := _; (?_ : wpAny _ A9 _ _ _ ⟨_, g9, d9, _, o9⟩)))
  k_steps
  all_goals exact hret _ _ _ _ (by k_asm) (by k_asm) ⟨rfl, rfl⟩
theorem is_op_c {w : World} {led : Led} {P : PA} {cur : TK} {nx : List TK} {dep : Int} {wi ne : Bool} {text : PySem.Str} {ut : Tok} (S : PS led P cur nx dep wi ne) :
    Con 880 7900 w 146 [.ref P.x, .str text ut] led (fun r led' => r = .bool (cur.isW "op" text) ∧ led' = led) := by
  obtain ⟨tv, place, avs, vs, ahead, rest, S0, hcur, -, -, -, -⟩ := S
  cases hcur with
  | w h1 h2 => exact is_op_w S0 h1 h2
  | num h1 h2 h3 => exact is_op_n S0 h1 h2
theorem is_key_w {w : World} {led : Led} {P : PA} {tv td : Addr} {kt : Nat → Int × Tok} {u0 u1 u2 : Tok} {kind text0 : PySem.Str} {i : Int} {place : Nat} {avs vs : List Value} {dep : Int} {wi ne : Bool} {text : PySem.Str} {ut : Tok} (S : PS0 led P tv i place avs vs dep wi ne)
    (h1 : (tv, instObj 71 td) ∈ led) (h2 : (td, dictOf [⟨(kt 0).1, .str "kind" (kt 0).2, .str kind u0⟩, ⟨(kt 1).1, .str "value" (kt 1).2, .str text0 u1⟩, ⟨(kt 2).1, .str "at" (kt 2).2, .int i u2⟩] 3) ∈ led) :
    Con 880 7900 w 153 [.ref P.x, .str text ut] led (fun r led' => r = .bool (kind == "key" && text0 == text) ∧ led' = led) := by
  obtain ⟨hx, ⟨k, u4, u5, hb, hd⟩, -, -, -, -, -, -⟩ := S
  try unfold Con
  intro zmean zmg zmb zgd zcn zcs za zccd zcl zouter zA zbase zh zL zm zs zQ zE zB zF X zN zT zhk hret
  revert X; k_fill; intro X
  refine wpAny_call ?_
  k_dflt (refine' code_def ?k1 ?k2 ?k3 ?k4 ?k5 ?kA ?kF ?kK ?k6 ?k7 ?k8 ?k9 ?kB ?_ ?c2 ?c3 ?c4 ?c5; (case kA => exact rfl); (case kF => exact rfl); (case kK => assumption); (case k1 => k_asm); (case k2 => k_asm); (case k3 => k_asm); (case k4 => k_asm); (case k5 => k_asm); (case k6 => k_is); (case k7 => k_is); (case k8 => k_room); (case k9 => first | exact BindsTo.of_eq rfl | exact binds_K (by k_in) rfl (by k_is) rfl rfl rfl); (case c5 => decide); (case kB => exact locs rfl); (case c2 => exact rfl); (case c3 => exact rfl); (case c4 => exact rfl); k_whole; intro g' L' h' FG' F' N' B' X' T'; (try dsimp only); (try k_fold))
  (replace F' : Fr g' L' h' (fun y => List.lookup y [("text", .str text ut), ("self", .ref P.x)]) := F')
  (refine at_toks ?_; intro tk0)
  (refine (let A9 : Around := _; let g9 : Array GenState := _; let d9 : Drawn := _; let o9 : OsState := _; (?_ : wpAny _ A9 _ _ _ ⟨_, g9, d9, _, o9⟩)))
  k_steps
  all_goals first
    | (rename (_ == _) = true => hb9; exact hret _ _ _ _ (by k_asm) (by k_asm) ⟨by rw [hb9, Bool.true_and], rfl⟩)
    | (rename (_ == _) = false => hb9; exact hret _ _ _ _ (by k_asm) (by k_asm) ⟨by rw [hb9, Bool.false_and], rfl⟩)
theorem is_key_n {w : World} {led : Led} {P : PA} {tv td q : Addr} {kt : Nat → Int × Tok} {u0 u2 : Tok} {i : Int} {place : Nat} {avs vs : List Value} {dep : Int} {wi ne : Bool} {text : PySem.Str} {ut : Tok} (S : PS0 led P tv i place avs vs dep wi ne)
    (h1 : (tv, instObj 71 td) ∈ led) (h2 : (td, dictOf [⟨(kt 0).1, .str "kind" (kt 0).2, .str "num" u0⟩, ⟨(kt 1).1, .str "value" (kt 1).2, .ref q⟩, ⟨(kt 2).1, .str "at" (kt 2).2, .int i u2⟩] 3) ∈ led) :
    Con 880 7900 w 153 [.ref P.x, .str text ut] led (fun r led' => r = .bool false ∧ led' = led) := by
  obtain ⟨hx, ⟨k, u4, u5, hb, hd⟩, -, -, -, -, -, -⟩ := S
  try unfold Con
  intro zmean zmg zmb zgd zcn zcs za zccd zcl zouter zA zbase zh zL zm zs zQ zE zB zF X zN zT zhk hret
  revert X; k_fill; intro X
  refine wpAny_call ?_
  k_dflt (refine' code_def ?k1 ?k2 ?k3 ?k4 ?k5 ?kA ?kF ?kK ?k6 ?k7 ?k8 ?k9 ?kB ?_ ?c2 ?c3 ?c4 ?c5; (case kA => exact rfl); (case kF => exact rfl); (case kK => assumption); (case k1 => k_asm); (case k2 => k_asm); (case k3 => k_asm); (case k4 => k_asm); (case k5 => k_asm); (case k6 => k_is); (case k7 => k_is); (case k8 => k_room); (case k9 => first | exact BindsTo.of_eq rfl | exact binds_K (by k_in) rfl (by k_is) rfl rfl rfl); (case c5 => decide); (case kB => exact locs rfl); (case c2 => exact rfl); (case c3 => exact rfl); (case c4 => exact rfl); k_whole; intro g' L' h' FG' F' N' B' X' T'; (try dsimp only); (try k_fold))
  (replace F' : Fr g' L' h' (fun y => List.lookup y [("text", .str text ut), ("self", .ref P.x)]) := F')
  (refine at_toks ?_; intro tk0)
  (refine (let A9 : Around := _; let g9 : Array GenState := _; let d9 : Drawn := _; let o9 : OsState := _; (?_ : wpAny _ A9 _ _ _ ⟨_, g9, d9, _, o9⟩)))
  k_steps
  all_goals exact hret _ _ _ _ (by k_asm) (by k_asm) ⟨rfl, rfl⟩
theorem is_key_c {w : World} {led : Led} {P : PA} {cur : TK} {nx : List TK} {dep : Int} {wi ne : Bool} {text : PySem.Str} {ut : Tok} (S : PS led P cur nx dep wi ne) :
    Con 880 7900 w 153 [.ref P.x, .str text ut] led (fun r led' => r = .bool (cur.isW "key" text) ∧ led' = led) := by
  obtain ⟨tv, place, avs, vs, ahead, rest, S0, hcur, -, -, -, -⟩ := S
  cases hcur with
  | w h1 h2 => exact is_key_w S0 h1 h2
  | num h1 h2 h3 => exact is_key_n S0 h1 h2
theorem peek_a {w : World} {led : Led} {P : PA} {tv b : Addr} {i : Int} {place : Nat} {vs : List Value} {dep : Int} {wi ne : Bool} {ut : Tok} (S : PS0 led P tv i place [.ref b] vs dep wi ne) :
    Con 880 7900 w 132 [.ref P.x, .int 1 ut] led (fun r led' => r = .ref b ∧ led' = led) := by
  obtain ⟨hx, ⟨k, u4, u5, hb, hd⟩, hs, ⟨k2, v1, pb, hsd⟩, ⟨n, ha⟩, ⟨n', hr⟩, hne, hl⟩ := S
  try unfold Con
  intro zmean zmg zmb zgd zcn zcs za zccd zcl zouter zA zbase zh zL zm zs zQ zE zB zF X zN zT zhk hret
  revert X; k_fill; intro X
  refine wpAny_call ?_
  k_dflt (refine' code_def ?k1 ?k2 ?k3 ?k4 ?k5 ?kA ?kF ?kK ?k6 ?k7 ?k8 ?k9 ?kB ?_ ?c2 ?c3 ?c4 ?c5; (case kA => exact rfl); (case kF => exact rfl); (case kK => assumption); (case k1 => k_asm); (case k2 => k_asm); (case k3 => k_asm); (case k4 => k_asm); (case k5 => k_asm); (case k6 => k_is); (case k7 => k_is); (case k8 => k_room); (case k9 => first | exact BindsTo.of_eq rfl | exact binds_K (by k_in) rfl (by k_is) rfl rfl rfl); (case c5 => decide); (case kB => exact locs rfl); (case c2 => exact rfl); (case c3 => exact rfl); (case c4 => exact rfl); k_whole; intro g' L' h' FG' F' N' B' X' T'; (try dsimp only); (try k_fold))
  (replace F' : Fr g' L' h' (fun y => List.lookup y [("n", .int 1 ut), ("self", .ref P.x)]) := F')
  (refine at_toks ?_; intro tk0)
  (refine (let A9 : Around := _; let g9 : Array GenState := _; let d9 : Drawn := _; let o9 : OsState := _; (?_ : wpAny _ A9 _ _ _ ⟨_, g9, d9, _, o9⟩)))
  k_steps
  all_goals exact hret _ _ _ _ (by k_asm) (by k_asm) ⟨rfl, rfl⟩
theorem peek_f {w : World} {led : Led} {P : PA} {tv : Addr} {i : Int} {place : Nat} {vs : List Value} {dep : Int} {wi ne : Bool} {v : Value} {t : TK} {ut : Tok} (S : PS0 led P tv i place [] vs dep wi ne) (hv : vs[place]? = some v) (ht : TokIn led v t) :
    Con 880 7900 w 132 [.ref P.x, .int 1 ut] led (fun r led' => r = v ∧ PS0 led' P tv i (place + 1) [v] vs dep wi ne ∧ Ext P led led') := by
  have S' := S
  obtain ⟨hx, ⟨k, u4, u5, hb, hd⟩, hs, ⟨k2, v1, pb, hsd⟩, ⟨n, ha⟩, ⟨n', hr⟩, hne, hl⟩ := S'
  try unfold Con
  intro zmean zmg zmb zgd zcn zcs za zccd zcl zouter zA zbase zh zL zm zs zQ zE zB zF X zN zT zhk hret
  revert X; k_fill; intro X
  refine wpAny_call ?_
  k_dflt (refine' code_def ?k1 ?k2 ?k3 ?k4 ?k5 ?kA ?kF ?kK ?k6 ?k7 ?k8 ?k9 ?kB ?_ ?c2 ?c3 ?c4 ?c5; (case kA => exact rfl); (case kF => exact rfl); (case kK => assumption); (case k1 => k_asm); (case k2 => k_asm); (case k3 => k_asm); (case k4 => k_asm); (case k5 => k_asm); (case k6 => k_is); (case k7 => k_is); (case k8 => k_room); (case k9 => first | exact BindsTo.of_eq rfl | exact binds_K (by k_in) rfl (by k_is) rfl rfl rfl); (case c5 => decide); (case kB => exact locs rfl); (case c2 => exact rfl); (case c3 => exact rfl); (case c4 => exact rfl); k_whole; intro g' L' h' FG' F' N' B' X' T'; (try dsimp only); (try k_fold))
  (replace F' : Fr g' L' h' (fun y => List.lookup y [("n", .int 1 ut), ("self", .ref P.x)]) := F')
  (refine at_toks ?_; intro tk0)
  (refine (let A9 : Around := _; let g9 : Array GenState := _; let d9 : Drawn := _; let o9 : OsState := _; (?_ : wpAny _ A9 _ _ _ ⟨_, g9, d9, _, o9⟩)))
  k_steps
  refine (let qk9 : Value → Shared → Prop := _; (?_ : wpAny _ _ _ qk9 _ _))
  skip
  refine Con.useV (Q := qk9) (fetch_c S hv ht) (by assumption) (by assumption) (by assumption) (by k_asm) (by assumption) (by first | exact rfl | assumption) rfl rfl ?_
  intro led9 h9 tk9 F9 N9 S1 E1
  have H1 := S1.sep N9
  obtain ⟨tb, td, kb, ub0, ub2, val, rfl, hb1, hb2⟩ := (ht.sub E1.frz).opened
  obtain ⟨-, -, d2, -, -, -, -, -, -, -, -, -⟩ := H1.d
  have d4 := H1.d.d_a
  have S2 := S1
  obtain ⟨hx1, ⟨k1, u41, u51, hb1', hd1⟩, -, -, ⟨n1, ha1⟩, -, -, -⟩ := S2
  first | k_unfold | skip
  try clear qk9
  try dsimp only
  try k_fold
  k_steps
  refine (let G9 : Prop := _; (?_ : G9))
  obtain ⟨SA, EA, -⟩ := S1.putA H1 [.ref tb] (n1 + 1)
  first | k_unfold | skip
  try clear G9
  exact hret _ _ _ _ (by k_asm) (by k_asm) ⟨rfl, SA, E1.trans EA⟩
theorem peek_c {w : World} {led : Led} {P : PA} {cur t : TK} {nx : List TK} {dep : Int} {wi ne : Bool} {ut : Tok} (S : PS led P cur (t :: nx) dep wi ne) :
    Con 880 7900 w 132 [.ref P.x, .int 1 ut] led (fun r led' => TokIn led' r t ∧ PS led' P cur (t :: nx) dep wi ne ∧ Ext P led led') := by
  obtain ⟨tv, place, avs, vs, ahead, rest, S0, hcur, hah, hre, hnx, hle⟩ := S
  cases hah with
  | nil =>
    simp only [List.nil_append] at hnx
    subst hnx
    cases hd : vs.drop place with
    | nil => rw [hd] at hre; cases hre
    | cons v vs' =>
      rw [hd] at hre
      cases hre with
      | cons ht hr =>
        have hv : vs[place]? = some v := by
          have := congrArg (fun l => l[0]?) hd
          simpa using this
        have hd' : vs.drop (place + 1) = vs' := by rw [← List.drop_drop, hd]; rfl
        refine Con.weaken (peek_f S0 hv ht) ?_
        rintro r l ⟨rfl, S1, E⟩
        exact ⟨ht.sub E.frz, ⟨_, _, _, _, [t], _, S1, hcur.sub E.frz, .cons (ht.sub E.frz) .nil, by rw [hd']; exact hr.sub E.frz, rfl, by simp⟩, E⟩
  | cons ha hr =>
    rename_i v vs' t' ts'
    simp only [List.cons_append, List.cons.injEq] at hnx
    obtain ⟨rfl, rfl⟩ := hnx
    have : vs' = [] := by simpa using hle
    subst this
    cases hr
    obtain ⟨b, -, -, -, -, -, rfl, -, -⟩ := ha.opened
    refine Con.weaken (peek_a S0) ?_
    rintro r l ⟨rfl, rfl⟩
    exact ⟨ha, ⟨_, _, _, _, [t], _, S0, hcur, .cons ha .nil, hre, rfl, by simp⟩, .refl _ _⟩
noncomputable def atomV (env : Env) (m : PySem.Str → Option Value) (tk : Nat) : PySem.Expr → Option (Value × Nat)
  | .Name x _ => match env.kindOf x, x == ("__debug__" : PySem.Str) with
    | some .local, false => match m x with
      | some v => some (v, tk)
      | none => none
    | _, _ => none
  | .Constant (.str t) _ _ => some (.str t tk, tk + 1)
  | .Constant (.int i) _ _ => some (.int i tk, tk + 1)
  | .Constant (.bool b) _ _ => some (.bool b, tk)
  | .Constant .none _ _ => some (.none, tk)
  | _ => none
noncomputable def atomsV (env : Env) (m : PySem.Str → Option Value) : Nat → List PySem.Expr → Option (List Value × Nat)
  | tk, [] => some ([], tk)
  | tk, e :: es => match atomV env m tk e with
    | some (v, tk') => match atomsV env m tk' es with
      | some (vs, tk'') => some (v :: vs, tk'')
      | none => none
    | none => none
section
variable {M : Model} {A : Around} {E : Value → Shared → Prop} {s : Shared} {h₀ : Heap} {L a : Addr} {m : PySem.Str → Option Value} {cn : PySem.Str} {cs : Scope} {ccd : Value} {cl : List (PySem.Str × Addr)}
theorem atom_ok {e : PySem.Expr} {v : Value} {tk' : Nat} {Q : Value → Shared → Prop} (F : Fr h₀ L s.heap m) (hk : cs.kind = .function) (ha : atomV (envX cn cs L a ccd cl) m s.toks e = some (v, tk')) (h : Q v { s with toks := tk' }) :
    (∀ e' p, e ≠ .Starred e' p) ∧ wpAny M A (eval e (envX cn cs L a ccd cl)) Q E s := by
  cases e with
  | Name x p =>
    unfold atomV at ha
    dsimp only at ha
    split at ha
    · rename_i h1 h2
      split at ha
      · rename_i u hu
        cases ha
        exact ⟨(fun _ _ e => nomatch e), nameX_L F hu h hk h1 h2⟩
      · cases ha
    · cases ha
  | Constant c k p =>
    cases c with
    | str t => cases ha; exact ⟨(fun _ _ e => nomatch e), Constant_str h⟩
    | int i => cases ha; exact ⟨(fun _ _ e => nomatch e), wpAny_Constant_int h⟩
    | bool b => cases ha; exact ⟨(fun _ _ e => nomatch e), Constant_bool h⟩
    | none => cases ha; exact ⟨(fun _ _ e => nomatch e), Constant_none h⟩
    | _ => exact nomatch (show (none : Option (Value × Nat)) = some (v, tk') from ha)
  | _ => exact nomatch (show (none : Option (Value × Nat)) = some (v, tk') from ha)
theorem star_not {e : PySem.Expr} {rest : List PySem.Expr} {env : Env} (h : ∀ e' p, e ≠ .Starred e' p) : starEach (e :: rest) env = (false, eval e env) :: starEach rest env := by
  cases e <;> first | rfl | exact absurd rfl (h _ _)
theorem atoms_ok {M : Model} {A : Around} {E : Value → Shared → Prop} {h₀ : Heap} {L a : Addr} {m : PySem.Str → Option Value} {cn : PySem.Str} {cs : Scope} {ccd : Value} {cl : List (PySem.Str × Addr)} {pos : Pos} : ∀ (args : List PySem.Expr) {s : Shared} {vs : List Value} {tk' : Nat} {Q : List Value → Shared → Prop}, Fr h₀ L s.heap m → cs.kind = .function → atomsV (envX cn cs L a ccd cl) m s.toks args = some (vs, tk') → Q vs { s with toks := tk' } →
    (backTo pos (starEach args (envX cn cs L a ccd cl))).any (·.1) = false ∧ wpAny M A (spliced (backTo pos (starEach args (envX cn cs L a ccd cl)))) Q E s
  | [], s, vs, tk', Q, _, _, ha, h => by
    cases ha; exact ⟨rfl, args_nil h⟩
  | e :: es, s, vs, tk', Q, F, hk, ha, h => by
    unfold atomsV at ha
    split at ha
    · rename_i v tk1 h1
      split at ha
      · rename_i vs1 tk2 h2
        cases ha
        have A1 := atom_ok (M := M) (A := A) (E := E) (s := s) (Q := fun v' s1 => wpAny M A (spliced (backTo pos (starEach es (envX cn cs L a ccd cl)))) (fun vs' s2 => Q (v' :: vs') s2) E s1) F hk h1 (atoms_ok (s := { s with toks := tk1 }) es F hk h2 h).2
        have A2 := (atoms_ok (pos := pos) (M := M) (A := A) (E := E) (s := { s with toks := tk1 }) (Q := fun vs' s2 => Q (v :: vs') s2) es F hk h2 h).1
        refine ⟨?_, args_cons A1.2 (star_not A1.1)⟩
        rw [star_not A1.1]
        show (false || (backTo pos (starEach es _)).any (·.1)) = false
        rw [A2]; rfl
      · cases ha
    · cases ha
end
section
variable {prog : Program} {w : World} {K : Frag} {A : Around} {E : Value → Shared → Prop} {s : Shared} {h₀ : Heap} {L a : Addr} {m mg mb : PySem.Str → Option Value} {cn : PySem.Str} {cs : Scope} {ccd : Value} {cl : List (PySem.Str × Addr)} {p : Program} {loose : List PySem.Str} {mean : ExcName → Option Value}
theorem callWith_A {f : Value} {first : List Value} {args : List PySem.Expr} {pos : Pos} {vs : List Value} {tk' : Nat} {Q : Value → Shared → Prop} (F : Fr h₀ L s.heap m) (X : K.In h₀) (hk : cs.kind = .function) (hf : keepIn K f = true) (ha : atomsV (envX cn cs L a ccd cl) m s.toks args = some (vs, tk'))
    (h : wpAny (model prog w) A (call f (first ++ vs)) Q E { s with toks := tk' }) : wpAny (model prog w) A (callWith pos f first (backTo pos (starEach args (envX cn cs L a ccd cl))) []) Q E s := by
  have B := atoms_ok (M := model prog w) (A := A) (E := E) (pos := pos) (Q := fun vs s₁ => K.In s₁.heap ∧ wpAny (model prog w) A (call f (first ++ vs)) Q E s₁) args F hk ha ⟨X.keeps F.keep, h⟩
  cases args with
  | nil => cases ha; exact callWith_K0 (X.keeps F.keep) hf h
  | cons e es =>
    refine callWith_of ?_ (keeps_K hf) ?_
    · rw [B.1]; rfl
    · rw [star_not (by
        unfold atomsV at ha
        split at ha
        · rename_i h1; exact (atom_ok (M := model prog w) (A := A) (E := E) (s := s) (Q := fun _ _ => True) F hk h1 trivial).1
        · cases ha)] at B ⊢
      exact evalArgs_plain B.2
end
noncomputable def fieldFree (name : PySem.Str) : Bool := !((["source", "ahead", "hashed", "token", "at", "depth", "within", "nested"] : List PySem.Str).contains name)
theorem free_get {P : PA} {k : Nat → Int × Tok} {u4 u5 : Tok} {hb wi ne : Bool} {tv : Addr} {i dep : Int} {name : PySem.Str} (h : fieldFree name = true) :
    getL name [⟨(k 0).1, .str "source" (k 0).2, .ref P.sx⟩, ⟨(k 1).1, .str "ahead" (k 1).2, .ref P.al⟩, ⟨(k 2).1, .str "hashed" (k 2).2, .bool hb⟩, ⟨(k 3).1, .str "token" (k 3).2, .ref tv⟩, ⟨(k 4).1, .str "at" (k 4).2, .int i u4⟩, ⟨(k 5).1, .str "depth" (k 5).2, .int dep u5⟩, ⟨(k 6).1, .str "within" (k 6).2, .bool wi⟩, ⟨(k 7).1, .str "nested" (k 7).2, .bool ne⟩] = some none := by
  have e : ∀ x : PySem.Str, x ∈ (["source", "ahead", "hashed", "token", "at", "depth", "within", "nested"] : List PySem.Str) → (x == name) = false := fun x hx => by
    cases hxn : x == name with
    | false => rfl
    | true =>
      rw [eq_of_beq hxn] at hx
      rw [fieldFree, List.contains_iff_mem.mpr hx] at h
      cases h
  unfold getL
  have f : ∀ {x : PySem.Str} {t : Tok}, x ∈ (["source", "ahead", "hashed", "token", "at", "depth", "within", "nested"] : List PySem.Str) → (Value.str x t).isStr name = false := fun hx => e _ hx
  simp only [List.find?_cons, List.find?_nil, f, List.mem_cons, true_or, or_true]
  rfl
structure MethF (w : World) (name : PySem.Str) (f : Addr) : Prop where
  get : plainGet (headK w.params) 796 name = true
  find : findIn (headK w.params) (.ref 796) name = some (some (.ref f))
  fn : isFn (headK w.params) (.ref f) = true
  keep : keepIn (headK w.params) (.ref f) = true
  free : fieldFree name = true
section
variable {w : World} {A : Around} {E : Value → Shared → Prop} {Q : Value → Shared → Prop} {hp h₀ : Heap} {gs : Array GenState} {dr : Drawn} {tk tk' : Nat} {os : OsState} {L a : Addr} {m mg mb : PySem.Str → Option Value} {mean : ExcName → Option Value} {cn : PySem.Str} {cs : Scope} {ccd : Value} {cl : List (PySem.Str × Addr)} {led : Led}
  {x name : PySem.Str} {p1 p2 p3 : Pos} {args : List PySem.Expr} {vs : List Value} {f : Addr}
theorem eval_meth {env : Env} (hf : methodCallForm args.length (backTo p3 (starEach args env)) [] = true) (hp : (p2.endLine == p3.line) = true) : eval (.Call (.Attribute (.Name x p1) name p2) args [] p3) env = (do
    let ov ← eval (.Name x p1) env
    standAt p2.atName
    let (f, first) ← holding [ov] (getMethod ov name (do return (← importBound (.Name x p1) env).getD true))
    callWith p3 f first (backTo p3 (starEach args env)) []) := by
  have e : eval (.Call (.Attribute (.Name x p1) name p2) args [] p3) env = (do
    let ov ← attributeBase (.Name x p1) name env (eval (.Name x p1) env)
    standAt p2.atName
    methodCall (.Name x p1) name p2 p3 env ov args.length (backTo p3 (starEach args env)) []) := rfl
  rw [e]
  unfold methodCall calleeOf methodCallPos
  simp only [hf, hp, if_true, Bool.not_true, Bool.false_or]
  rfl
theorem form_ok {env : Env} {tr : List (Bool × Sem Value)} {n : Nat} (h1 : tr.any (·.1) = false) (h2 : Nat.blt n 30 = true) : methodCallForm n tr [] = true := by
  unfold methodCallForm
  have : tr.all (!·.1) = true := by
    rw [List.any_eq_false] at h1
    rw [List.all_eq_true]
    intro x hx
    cases hb : x.1 with
    | false => rfl
    | true => exact absurd hb (h1 x hx)
  rw [this]
  show (true && true && decide (n + 0 < 30)) = true
  rw [Nat.add_zero, decide_eq_true (Nat.blt_eq.mp h2)]; rfl
theorem self_call {P : PA} {cur : TK} {nx : List TK} {dep : Int} {wi ne : Bool} (F : Fr h₀ L hp m) (N : News h₀ L hp led) (S : PS led P cur nx dep wi ne) (X : (headK w.params).In h₀) (hk : cs.kind = .function)
    (hm : m x = some (.ref P.x)) (hx : (envX cn cs L a ccd cl).kindOf x = some .local) (hxd : (x == ("__debug__" : PySem.Str)) = false) (MF : MethF w name f) (hs : (p2.endLine == p3.line && Nat.blt args.length 30) = true) (ha : atomsV (envX cn cs L a ccd cl) m tk args = some (vs, tk'))
    (h : wpAny (model PySem.Challenge.rw_pq0478_02.row.prog w) A (call (.ref f) (.ref P.x :: vs)) Q E ⟨hp, gs, dr, tk', os⟩) :
    wpAny (model PySem.Challenge.rw_pq0478_02.row.prog w) A (eval (.Call (.Attribute (.Name x p1) name p2) args [] p3) (envX cn cs L a ccd cl)) Q E ⟨hp, gs, dr, tk, os⟩ := by
  obtain ⟨tv, place, avs, vs0, ahead, rest, ⟨hx0, ⟨k, u4, u5, hb, hd⟩, -, -, -, -, -, -⟩, -, -, -, -, -⟩ := S
  have hs := Bool.and_eq_true_iff.mp hs
  have B := (atoms_ok (M := model PySem.Challenge.rw_pq0478_02.row.prog w) (A := A) (E := E) (pos := p3) (s := ⟨hp, gs, dr, tk, os⟩) (Q := fun _ _ => True) args F hk ha trivial).1
  exact MethodCall_ (he := eval_meth (form_ok (env := envX cn cs L a ccd cl) B hs.2) hs.1) (nameX_L F hm (method_inst F X (InstAt.of_news N hx0 hd) MF.get MF.find MF.fn (free_get MF.free) (callWith_A F X hk MF.keep ha h)) hk hx hxd)
theorem glob_call (F : Fr h₀ L hp m) (X : (headK w.params).In h₀) (T : Top headV LO mean mg mb h₀) (hk : cs.kind = .function) (hn : nsIn (headK w.params) mainGlobals x = some (some (.ref f))) (hx : (envX cn cs L a ccd cl).kindOf x = some .globalImplicit) (hxd : (x == ("__debug__" : PySem.Str)) = false)
    (hkp : keepIn (headK w.params) (.ref f) = true) (ha : atomsV (envX cn cs L a ccd cl) m tk args = some (vs, tk')) (h : wpAny (model PySem.Challenge.rw_pq0478_02.row.prog w) A (call (.ref f) vs) Q E ⟨hp, gs, dr, tk', os⟩) :
    wpAny (model PySem.Challenge.rw_pq0478_02.row.prog w) A (eval (.Call (.Name x p1) args [] p3) (envX cn cs L a ccd cl)) Q E ⟨hp, gs, dr, tk, os⟩ :=
  Call_Name rfl (nameX_K F X (topRead_of T) hn (callWith_A F X hk hkp ha h) hk hx hxd)
theorem glob_callL (F : Fr h₀ L hp m) (X : (headK w.params).In h₀) (T : Top headV LO mean mg mb h₀) (hk : cs.kind = .function) (hn : nsIn (headK w.params) mainGlobals x = some (some (.ref f))) (hx : (envOf cn cs L a ccd).kindOf x = some .globalImplicit) (hxd : (x == ("__debug__" : PySem.Str)) = false)
    (hkp : keepIn (headK w.params) (.ref f) = true) (ha : atomsV (envOf cn cs L a ccd) m tk args = some (vs, tk')) (h : wpAny (model PySem.Challenge.rw_pq0478_02.row.prog w) A (call (.ref f) vs) Q E ⟨hp, gs, dr, tk', os⟩) :
    wpAny (model PySem.Challenge.rw_pq0478_02.row.prog w) A (eval (.Call (.Name x p1) args [] p3) (envOf cn cs L a ccd)) Q E ⟨hp, gs, dr, tk, os⟩ := glob_call (cl := []) F X T hk hn hx hxd hkp ha h
end
noncomputable def heldM : List PySem.Str := (["accept_key", "accept_op", "array_ranges", "begins_declaration", "begins_port", "begins_strength", "binary", "charge_strength", "counted_statement", "declaration", "delays", "drive_strength", "enter", "expect_id", "expect_key", "expect_op", "expression", "fail", "fetch", "full_statement", "inner_expression", "is_key", "is_op", "keyword_statement", "leave", "name_path", "net_items", "path_term", "peek", "port_shape"] : List PySem.Str) ++ (["primary", "range_or_none", "reference", "routine_header", "routine_item", "routine_ports", "statement", "strength_part", "take", "unary", "variable_item", "variable_items"] : List PySem.Str)
noncomputable def heldG : List PySem.Str := (["_law_charge", "_law_delays", "_law_figure", "_law_number", "_law_ports", "_law_say", "_law_shape", "_law_span", "_law_stalk", "_law_stalks", "_law_strength", "_law_twig", "_law_twigs", "charge_word", "decimal_value", "fixed_range", "is_high", "mask", "net_kind", "numeral", "padded_vec", "precedence", "strength_word", "vec"] : List PySem.Str)
noncomputable def isAtom : PySem.Expr → Bool
  | .Name _ _ => true
  | .Constant (.str _) _ _ => true
  | .Constant (.int _) _ _ => true
  | .Constant (.bool _) _ _ => true
  | .Constant .none _ _ => true
  | _ => false
theorem hold_meth {M : Model} {A : Around} {x n : PySem.Str} {p1 p2 p3 : Pos} {args : List PySem.Expr} {env : Env} {Q E : Value → Shared → Prop} {s : Shared} (_ : (heldM.contains n && (x == "self" || x == "parser") && args.all isAtom) = true) (h : Hold (wpAny M A (eval (.Call (.Attribute (.Name x p1) n p2) args [] p3) env) Q E s)) :
    wpAny M A (eval (.Call (.Attribute (.Name x p1) n p2) args [] p3) env) Q E s := h
theorem hold_glob {M : Model} {A : Around} {n : PySem.Str} {p1 p3 : Pos} {args : List PySem.Expr} {env : Env} {Q E : Value → Shared → Prop} {s : Shared} (_ : (heldG.contains n && args.all isAtom) = true) (h : Hold (wpAny M A (eval (.Call (.Name n p1) args [] p3) env) Q E s)) :
    wpAny M A (eval (.Call (.Name n p1) args [] p3) env) Q E s := h
section
local macro_rules | `(tactic| walk_at "eval Call Attribute") => `(tactic| (with_reducible refine hold_meth ?h ?_; (case h => k_dflt (exact rfl))))
local macro_rules | `(tactic| walk_at "eval Call") => `(tactic| (with_reducible refine hold_glob ?h ?_; (case h => k_dflt (exact rfl))))
theorem PS.openedK {led : Led} {P : PA} {cur : TK} {nx : List TK} {dep : Int} {wi ne : Bool} {G : Prop} (S : PS led P cur nx dep wi ne) (k : ∀ (tv td : Addr) (k : Nat → Int × Tok) (u4 u5 : Tok) (hb : Bool) (kt : Nat → Int × Tok) (u0 u2 : Tok) (val : Value), (P.x, instObj 796 P.dx) ∈ led → (P.dx, pDict P k u4 u5 hb tv cur.pos dep wi ne) ∈ led → (tv, instObj 71 td) ∈ led → (td, dictOf [⟨(kt 0).1, .str "kind" (kt 0).2, .str cur.kind u0⟩, ⟨(kt 1).1, .str "value" (kt 1).2, val⟩, ⟨(kt 2).1, .str "at" (kt 2).2, .int cur.pos u2⟩] 3) ∈ led → G) : G := by
  obtain ⟨tv, place, avs, vs, ahead, rest, S0, hcur, -, -, -, -⟩ := S
  obtain ⟨hx, ⟨k1, u4, u5, hb, hd⟩, -, -, -, -, -, -⟩ := S0
  cases hcur with
  | w h1 h2 => exact k _ _ _ _ _ _ _ _ _ _ hx hd h1 h2
  | num h1 h2 h3 => exact k _ _ _ _ _ _ _ _ _ _ hx hd h1 h2
theorem PS.openedWK {led : Led} {P : PA} {kind text : PySem.Str} {i : Int} {nx : List TK} {dep : Int} {wi ne : Bool} {G : Prop} (S : PS led P (.w kind text i) nx dep wi ne) (k : ∀ (tv td : Addr) (k : Nat → Int × Tok) (u4 u5 : Tok) (hb : Bool) (kt : Nat → Int × Tok) (u0 u1 u2 : Tok), (P.x, instObj 796 P.dx) ∈ led → (P.dx, pDict P k u4 u5 hb tv i dep wi ne) ∈ led → (tv, instObj 71 td) ∈ led → (td, dictOf [⟨(kt 0).1, .str "kind" (kt 0).2, .str kind u0⟩, ⟨(kt 1).1, .str "value" (kt 1).2, .str text u1⟩, ⟨(kt 2).1, .str "at" (kt 2).2, .int i u2⟩] 3) ∈ led → G) : G := by
  obtain ⟨tv, place, avs, vs, ahead, rest, S0, hcur, -, -, -, -⟩ := S
  obtain ⟨hx, ⟨k1, u4, u5, hb, hd⟩, -, -, -, -, -, -⟩ := S0
  cases hcur with
  | w h1 h2 => exact k _ _ _ _ _ _ _ _ _ _ hx hd h1 h2
theorem PS.openedNK {led : Led} {P : PA} {digits : PySem.Str} {i : Int} {nx : List TK} {dep : Int} {wi ne : Bool} {G : Prop} (S : PS led P (.num digits i) nx dep wi ne) (k : ∀ (tv td qa : Addr) (k : Nat → Int × Tok) (u4 u5 : Tok) (hb : Bool) (kt : Nat → Int × Tok) (u0 u2 : Tok), (P.x, instObj 796 P.dx) ∈ led → (P.dx, pDict P k u4 u5 hb tv i dep wi ne) ∈ led → (tv, instObj 71 td) ∈ led → (td, dictOf [⟨(kt 0).1, .str "kind" (kt 0).2, .str "num" u0⟩, ⟨(kt 1).1, .str "value" (kt 1).2, .ref qa⟩, ⟨(kt 2).1, .str "at" (kt 2).2, .int i u2⟩] 3) ∈ led → G) : G := by
  obtain ⟨tv, place, avs, vs, ahead, rest, S0, hcur, -, -, -, -⟩ := S
  obtain ⟨hx, ⟨k1, u4, u5, hb, hd⟩, -, -, -, -, -, -⟩ := S0
  cases hcur with
  | num h1 h2 h3 => exact k _ _ _ _ _ _ _ _ _ _ hx hd h1 h2
theorem PS.ups {led led' : Led} {P : PA} {cur : TK} {nx : List TK} {dep : Int} {wi ne : Bool} (h : ∀ p ∈ led, p ∈ led') (S : PS led P cur nx dep wi ne) : PS led' P cur nx dep wi ne := by
  obtain ⟨tv, place, avs, vs, ahead, rest, ⟨hx, ⟨k, u4, u5, hb, hd⟩, hs, ⟨k2, v1, pb, hsd⟩, ⟨n, ha⟩, ⟨n', hr⟩, hne, hl⟩, hcur, hah, hre, e1, e2⟩ := S
  have s := Sub.of h
  exact ⟨tv, place, avs, vs, ahead, rest, ⟨h _ hx, ⟨k, u4, u5, hb, h _ hd⟩, h _ hs, ⟨k2, v1, pb, h _ hsd⟩, ⟨n, h _ ha⟩, ⟨n', h _ hr⟩, hne, hl⟩, hcur.sub s, hah.sub s, hre.sub s, e1, e2⟩
theorem PS.cons {p : Addr × Obj} {led : Led} {P : PA} {cur : TK} {nx : List TK} {dep : Int} {wi ne : Bool} (S : PS led P cur nx dep wi ne) : PS (p :: led) P cur nx dep wi ne := S.ups fun _ h => List.mem_cons_of_mem _ h
theorem Ext.cons {p : Addr × Obj} {led led' : Led} {P : PA} (E : Ext P led led') : Ext P led (p :: led') := ⟨fun q o f m => List.mem_cons_of_mem _ (E.frz q o f m), fun q o m a b c => List.mem_cons_of_mem _ (E.oth q o m a b c)⟩
theorem is_op_t {w : World} {led : Led} {P : PA} {cur : TK} {nx : List TK} {dep : Int} {wi ne : Bool} {text : PySem.Str} {ut : Tok} (S : PS led P cur nx dep wi ne) (h : cur.isW "op" text = true) :
    Con 880 7900 w 146 [.ref P.x, .str text ut] led (fun r led' => r = .bool true ∧ led' = led) := by have := is_op_c (w := w) (text := text) (ut := ut) S; rw [h] at this; exact this
theorem is_op_f {w : World} {led : Led} {P : PA} {cur : TK} {nx : List TK} {dep : Int} {wi ne : Bool} {text : PySem.Str} {ut : Tok} (S : PS led P cur nx dep wi ne) (h : cur.isW "op" text = false) :
    Con 880 7900 w 146 [.ref P.x, .str text ut] led (fun r led' => r = .bool false ∧ led' = led) := by have := is_op_c (w := w) (text := text) (ut := ut) S; rw [h] at this; exact this
theorem is_key_t {w : World} {led : Led} {P : PA} {cur : TK} {nx : List TK} {dep : Int} {wi ne : Bool} {text : PySem.Str} {ut : Tok} (S : PS led P cur nx dep wi ne) (h : cur.isW "key" text = true) :
    Con 880 7900 w 153 [.ref P.x, .str text ut] led (fun r led' => r = .bool true ∧ led' = led) := by have := is_key_c (w := w) (text := text) (ut := ut) S; rw [h] at this; exact this
theorem is_key_f {w : World} {led : Led} {P : PA} {cur : TK} {nx : List TK} {dep : Int} {wi ne : Bool} {text : PySem.Str} {ut : Tok} (S : PS led P cur nx dep wi ne) (h : cur.isW "key" text = false) :
    Con 880 7900 w 153 [.ref P.x, .str text ut] led (fun r led' => r = .bool false ∧ led' = led) := by have := is_key_c (w := w) (text := text) (ut := ut) S; rw [h] at this; exact this
theorem accept_op_t {w : World} {led : Led} {P : PA} {cur t : TK} {nx : List TK} {dep : Int} {wi ne : Bool} {text : PySem.Str} {ut : Tok} (S : PS led P cur (t :: nx) dep wi ne) (h : cur.isW "op" text = true) :
    Con 860 7800 w 160 [.ref P.x, .str text ut] led (fun r led' => r = .bool true ∧ PS led' P t nx dep wi ne ∧ Ext P led led') := by
  try unfold Con
  intro zmean zmg zmb zgd zcn zcs za zccd zcl zouter zA zbase zh zL zm zs zQ zE zB zF X zN zT zhk hret
  revert X; k_fill; intro X
  refine wpAny_call ?_
  k_dflt (refine' code_def ?k1 ?k2 ?k3 ?k4 ?k5 ?kA ?kF ?kK ?k6 ?k7 ?k8 ?k9 ?kB ?_ ?c2 ?c3 ?c4 ?c5; (case kA => exact rfl); (case kF => exact rfl); (case kK => assumption); (case k1 => k_asm); (case k2 => k_asm); (case k3 => k_asm); (case k4 => k_asm); (case k5 => k_asm); (case k6 => k_is); (case k7 => k_is); (case k8 => k_room); (case k9 => first | exact BindsTo.of_eq rfl | exact binds_K (by k_in) rfl (by k_is) rfl rfl rfl); (case c5 => decide); (case kB => exact locs rfl); (case c2 => exact rfl); (case c3 => exact rfl); (case c4 => exact rfl); k_whole; intro g' L' h' FG' F' N' B' X' T'; (try dsimp only); (try k_fold))
  (replace F' : Fr g' L' h' (fun y => List.lookup y [("text", .str text ut), ("self", .ref P.x)]) := F')
  (refine at_toks ?_; intro tk0)
  (refine (let A9 : Around := _; let g9 : Array GenState := _; let d9 : Drawn := _; let o9 : OsState := _; (?_ : wpAny _ A9 _ _ _ ⟨_, g9, d9, _, o9⟩)))
  k_steps
  refine (let qk9 : Value → Shared → Prop := _; (?_ : wpAny _ _ _ qk9 _ _))
  first | ((with_reducible show wpAny _ _ (eval _ _) _ _ _); first | refine self_call (by assumption) (by k_asm) (by first | assumption | exact PS.cons (by assumption) | exact PS.cons (PS.cons (by assumption))) (by assumption) (by first | exact rfl | assumption) (by first | exact rfl | assumption) rfl rfl ⟨by k_is, by k_is, by k_is, by k_is, rfl⟩ rfl rfl ?_ | refine glob_call (by assumption) (by assumption) (by assumption) (by first | exact rfl | assumption) (by k_is) rfl rfl (by k_is) rfl ?_) | skip
  refine Con.useVL (Q := qk9) (is_op_t S h) (by assumption) (by assumption) (by assumption) (by k_asm) (by assumption) (by first | exact rfl | assumption) rfl rfl ?_
  intro h9 tk9 F9 N9
  first | k_unfold | skip
  try clear qk9
  try dsimp only
  try k_fold
  k_steps
  refine (let qk9 : Value → Shared → Prop := _; (?_ : wpAny _ _ _ qk9 _ _))
  first | ((with_reducible show wpAny _ _ (eval _ _) _ _ _); first | refine self_call (by assumption) (by k_asm) (by first | assumption | exact PS.cons (by assumption) | exact PS.cons (PS.cons (by assumption))) (by assumption) (by first | exact rfl | assumption) (by first | exact rfl | assumption) rfl rfl ⟨by k_is, by k_is, by k_is, by k_is, rfl⟩ rfl rfl ?_ | refine glob_call (by assumption) (by assumption) (by assumption) (by first | exact rfl | assumption) (by k_is) rfl rfl (by k_is) rfl ?_) | skip
  refine Con.useS (Q := qk9) (take_c S) (by assumption) (by assumption) (by assumption) (by k_asm) (by assumption) (by first | exact rfl | assumption) rfl rfl ?_
  rintro r9 led9 h9 tk9 F9 N9 ⟨-, S1, E1⟩
  first | k_unfold | skip
  try clear qk9
  try dsimp only
  try k_fold
  k_steps
  exact hret _ _ _ _ (by k_asm) (by k_asm) ⟨rfl, S1, E1⟩
theorem accept_op_f {w : World} {led : Led} {P : PA} {cur : TK} {nx : List TK} {dep : Int} {wi ne : Bool} {text : PySem.Str} {ut : Tok} (S : PS led P cur nx dep wi ne) (h : cur.isW "op" text = false) :
    Con 860 7800 w 160 [.ref P.x, .str text ut] led (fun r led' => r = .bool false ∧ led' = led) := by
  try unfold Con
  intro zmean zmg zmb zgd zcn zcs za zccd zcl zouter zA zbase zh zL zm zs zQ zE zB zF X zN zT zhk hret
  revert X; k_fill; intro X
  refine wpAny_call ?_
  k_dflt (refine' code_def ?k1 ?k2 ?k3 ?k4 ?k5 ?kA ?kF ?kK ?k6 ?k7 ?k8 ?k9 ?kB ?_ ?c2 ?c3 ?c4 ?c5; (case kA => exact rfl); (case kF => exact rfl); (case kK => assumption); (case k1 => k_asm); (case k2 => k_asm); (case k3 => k_asm); (case k4 => k_asm); (case k5 => k_asm); (case k6 => k_is); (case k7 => k_is); (case k8 => k_room); (case k9 => first | exact BindsTo.of_eq rfl | exact binds_K (by k_in) rfl (by k_is) rfl rfl rfl); (case c5 => decide); (case kB => exact locs rfl); (case c2 => exact rfl); (case c3 => exact rfl); (case c4 => exact rfl); k_whole; intro g' L' h' FG' F' N' B' X' T'; (try dsimp only); (try k_fold))
  (replace F' : Fr g' L' h' (fun y => List.lookup y [("text", .str text ut), ("self", .ref P.x)]) := F')
  (refine at_toks ?_; intro tk0)
  (refine (let A9 : Around := _; let g9 : Array GenState := _; let d9 : Drawn := _; let o9 : OsState := _; (?_ : wpAny _ A9 _ _ _ ⟨_, g9, d9, _, o9⟩)))
  k_steps
  refine (let qk9 : Value → Shared → Prop := _; (?_ : wpAny _ _ _ qk9 _ _))
  first | ((with_reducible show wpAny _ _ (eval _ _) _ _ _); first | refine self_call (by assumption) (by k_asm) (by first | assumption | exact PS.cons (by assumption) | exact PS.cons (PS.cons (by assumption))) (by assumption) (by first | exact rfl | assumption) (by first | exact rfl | assumption) rfl rfl ⟨by k_is, by k_is, by k_is, by k_is, rfl⟩ rfl rfl ?_ | refine glob_call (by assumption) (by assumption) (by assumption) (by first | exact rfl | assumption) (by k_is) rfl rfl (by k_is) rfl ?_) | skip
  refine Con.useVL (Q := qk9) (is_op_f S h) (by assumption) (by assumption) (by assumption) (by k_asm) (by assumption) (by first | exact rfl | assumption) rfl rfl ?_
  intro h9 tk9 F9 N9
  first | k_unfold | skip
  try clear qk9
  try dsimp only
  try k_fold
  k_steps
  exact hret _ _ _ _ (by k_asm) (by k_asm) ⟨rfl, rfl⟩
theorem accept_key_t {w : World} {led : Led} {P : PA} {cur t : TK} {nx : List TK} {dep : Int} {wi ne : Bool} {text : PySem.Str} {ut : Tok} (S : PS led P cur (t :: nx) dep wi ne) (h : cur.isW "key" text = true) :
    Con 860 7800 w 167 [.ref P.x, .str text ut] led (fun r led' => r = .bool true ∧ PS led' P t nx dep wi ne ∧ Ext P led led') := by
  try unfold Con
  intro zmean zmg zmb zgd zcn zcs za zccd zcl zouter zA zbase zh zL zm zs zQ zE zB zF X zN zT zhk hret
  revert X; k_fill; intro X
  refine wpAny_call ?_
  k_dflt (refine' code_def ?k1 ?k2 ?k3 ?k4 ?k5 ?kA ?kF ?kK ?k6 ?k7 ?k8 ?k9 ?kB ?_ ?c2 ?c3 ?c4 ?c5; (case kA => exact rfl); (case kF => exact rfl); (case kK => assumption); (case k1 => k_asm); (case k2 => k_asm); (case k3 => k_asm); (case k4 => k_asm); (case k5 => k_asm); (case k6 => k_is); (case k7 => k_is); (case k8 => k_room); (case k9 => first | exact BindsTo.of_eq rfl | exact binds_K (by k_in) rfl (by k_is) rfl rfl rfl); (case c5 => decide); (case kB => exact locs rfl); (case c2 => exact rfl); (case c3 => exact rfl); (case c4 => exact rfl); k_whole; intro g' L' h' FG' F' N' B' X' T'; (try dsimp only); (try k_fold))
  (replace F' : Fr g' L' h' (fun y => List.lookup y [("text", .str text ut), ("self", .ref P.x)]) := F')
  (refine at_toks ?_; intro tk0)
  (refine (let A9 : Around := _; let g9 : Array GenState := _; let d9 : Drawn := _; let o9 : OsState := _; (?_ : wpAny _ A9 _ _ _ ⟨_, g9, d9, _, o9⟩)))
  k_steps
  refine (let qk9 : Value → Shared → Prop := _; (?_ : wpAny _ _ _ qk9 _ _))
  first | ((with_reducible show wpAny _ _ (eval _ _) _ _ _); first | refine self_call (by assumption) (by k_asm) (by first | assumption | exact PS.cons (by assumption) | exact PS.cons (PS.cons (by assumption))) (by assumption) (by first | exact rfl | assumption) (by first | exact rfl | assumption) rfl rfl ⟨by k_is, by k_is, by k_is, by k_is, rfl⟩ rfl rfl ?_ | refine glob_call (by assumption) (by assumption) (by assumption) (by first | exact rfl | assumption) (by k_is) rfl rfl (by k_is) rfl ?_) | skip
  refine Con.useVL (Q := qk9) (is_key_t S h) (by assumption) (by assumption) (by assumption) (by k_asm) (by assumption) (by first | exact rfl | assumption) rfl rfl ?_
  intro h9 tk9 F9 N9
  first | k_unfold | skip
  try clear qk9
  try dsimp only
  try k_fold
  k_steps
  refine (let qk9 : Value → Shared → Prop := _; (?_ : wpAny _ _ _ qk9 _ _))
  first | ((with_reducible show wpAny _ _ (eval _ _) _ _ _); first | refine self_call (by assumption) (by k_asm) (by first | assumption | exact PS.cons (by assumption) | exact PS.cons (PS.cons (by assumption))) (by assumption) (by first | exact rfl | assumption) (by first | exact rfl | assumption) rfl rfl ⟨by k_is, by k_is, by k_is, by k_is, rfl⟩ rfl rfl ?_ | refine glob_call (by assumption) (by assumption) (by assumption) (by first | exact rfl | assumption) (by k_is) rfl rfl (by k_is) rfl ?_) | skip
  refine Con.useS (Q := qk9) (take_c S) (by assumption) (by assumption) (by assumption) (by k_asm) (by assumption) (by first | exact rfl | assumption) rfl rfl ?_
  rintro r9 led9 h9 tk9 F9 N9 ⟨-, S1, E1⟩
  first | k_unfold | skip
  try clear qk9
  try dsimp only
  try k_fold
  k_steps
  exact hret _ _ _ _ (by k_asm) (by k_asm) ⟨rfl, S1, E1⟩
theorem accept_key_f {w : World} {led : Led} {P : PA} {cur : TK} {nx : List TK} {dep : Int} {wi ne : Bool} {text : PySem.Str} {ut : Tok} (S : PS led P cur nx dep wi ne) (h : cur.isW "key" text = false) :
    Con 860 7800 w 167 [.ref P.x, .str text ut] led (fun r led' => r = .bool false ∧ led' = led) := by
  try unfold Con
  intro zmean zmg zmb zgd zcn zcs za zccd zcl zouter zA zbase zh zL zm zs zQ zE zB zF X zN zT zhk hret
  revert X; k_fill; intro X
  refine wpAny_call ?_
  k_dflt (refine' code_def ?k1 ?k2 ?k3 ?k4 ?k5 ?kA ?kF ?kK ?k6 ?k7 ?k8 ?k9 ?kB ?_ ?c2 ?c3 ?c4 ?c5; (case kA => exact rfl); (case kF => exact rfl); (case kK => assumption); (case k1 => k_asm); (case k2 => k_asm); (case k3 => k_asm); (case k4 => k_asm); (case k5 => k_asm); (case k6 => k_is); (case k7 => k_is); (case k8 => k_room); (case k9 => first | exact BindsTo.of_eq rfl | exact binds_K (by k_in) rfl (by k_is) rfl rfl rfl); (case c5 => decide); (case kB => exact locs rfl); (case c2 => exact rfl); (case c3 => exact rfl); (case c4 => exact rfl); k_whole; intro g' L' h' FG' F' N' B' X' T'; (try dsimp only); (try k_fold))
  (replace F' : Fr g' L' h' (fun y => List.lookup y [("text", .str text ut), ("self", .ref P.x)]) := F')
  (refine at_toks ?_; intro tk0)
  (refine (let A9 : Around := _; let g9 : Array GenState := _; let d9 : Drawn := _; let o9 : OsState := _; (?_ : wpAny _ A9 _ _ _ ⟨_, g9, d9, _, o9⟩)))
  k_steps
  refine (let qk9 : Value → Shared → Prop := _; (?_ : wpAny _ _ _ qk9 _ _))
  first | ((with_reducible show wpAny _ _ (eval _ _) _ _ _); first | refine self_call (by assumption) (by k_asm) (by first | assumption | exact PS.cons (by assumption) | exact PS.cons (PS.cons (by assumption))) (by assumption) (by first | exact rfl | assumption) (by first | exact rfl | assumption) rfl rfl ⟨by k_is, by k_is, by k_is, by k_is, rfl⟩ rfl rfl ?_ | refine glob_call (by assumption) (by assumption) (by assumption) (by first | exact rfl | assumption) (by k_is) rfl rfl (by k_is) rfl ?_) | skip
  refine Con.useVL (Q := qk9) (is_key_f S h) (by assumption) (by assumption) (by assumption) (by k_asm) (by assumption) (by first | exact rfl | assumption) rfl rfl ?_
  intro h9 tk9 F9 N9
  first | k_unfold | skip
  try clear qk9
  try dsimp only
  try k_fold
  k_steps
  exact hret _ _ _ _ (by k_asm) (by k_asm) ⟨rfl, rfl⟩
theorem expect_op_t {w : World} {led : Led} {P : PA} {cur t : TK} {nx : List TK} {dep : Int} {wi ne : Bool} {text : PySem.Str} {ut : Tok} (S : PS led P cur (t :: nx) dep wi ne) (h : cur.isW "op" text = true) :
    Con 850 7700 w 174 [.ref P.x, .str text ut] led (fun r led' => r = .none ∧ PS led' P t nx dep wi ne ∧ Ext P led led') := by
  try unfold Con
  intro zmean zmg zmb zgd zcn zcs za zccd zcl zouter zA zbase zh zL zm zs zQ zE zB zF X zN zT zhk hret
  revert X; k_fill; intro X
  refine wpAny_call ?_
  k_dflt (refine' code_def ?k1 ?k2 ?k3 ?k4 ?k5 ?kA ?kF ?kK ?k6 ?k7 ?k8 ?k9 ?kB ?_ ?c2 ?c3 ?c4 ?c5; (case kA => exact rfl); (case kF => exact rfl); (case kK => assumption); (case k1 => k_asm); (case k2 => k_asm); (case k3 => k_asm); (case k4 => k_asm); (case k5 => k_asm); (case k6 => k_is); (case k7 => k_is); (case k8 => k_room); (case k9 => first | exact BindsTo.of_eq rfl | exact binds_K (by k_in) rfl (by k_is) rfl rfl rfl); (case c5 => decide); (case kB => exact locs rfl); (case c2 => exact rfl); (case c3 => exact rfl); (case c4 => exact rfl); k_whole; intro g' L' h' FG' F' N' B' X' T'; (try dsimp only); (try k_fold))
  (replace F' : Fr g' L' h' (fun y => List.lookup y [("text", .str text ut), ("self", .ref P.x)]) := F')
  (refine at_toks ?_; intro tk0)
  (refine (let A9 : Around := _; let g9 : Array GenState := _; let d9 : Drawn := _; let o9 : OsState := _; (?_ : wpAny _ A9 _ _ _ ⟨_, g9, d9, _, o9⟩)))
  k_steps
  refine (let qk9 : Value → Shared → Prop := _; (?_ : wpAny _ _ _ qk9 _ _))
  first | ((with_reducible show wpAny _ _ (eval _ _) _ _ _); first | refine self_call (by assumption) (by k_asm) (by first | assumption | exact PS.cons (by assumption) | exact PS.cons (PS.cons (by assumption))) (by assumption) (by first | exact rfl | assumption) (by first | exact rfl | assumption) rfl rfl ⟨by k_is, by k_is, by k_is, by k_is, rfl⟩ rfl rfl ?_ | refine glob_call (by assumption) (by assumption) (by assumption) (by first | exact rfl | assumption) (by k_is) rfl rfl (by k_is) rfl ?_) | skip
  refine Con.useV (Q := qk9) (accept_op_t S h) (by assumption) (by assumption) (by assumption) (by k_asm) (by assumption) (by first | exact rfl | assumption) rfl rfl ?_
  intro led9 h9 tk9 F9 N9 S1 E1
  first | k_unfold | skip
  try clear qk9
  try dsimp only
  try k_fold
  k_steps
  exact hret _ _ _ _ (by k_asm) (by k_asm) ⟨rfl, S1, E1⟩
theorem expect_id_c {w : World} {led : Led} {P : PA} {name : PySem.Str} {i : Int} {t : TK} {nx : List TK} {dep : Int} {wi ne : Bool} (S : PS led P (.w "id" name i) (t :: nx) dep wi ne) :
    Con 850 7700 w 188 [.ref P.x] led (fun r led' => (∃ u, r = .str name u) ∧ PS led' P t nx dep wi ne ∧ Ext P led led') := by
  refine PS.openedWK S (fun tv0 td0 k0 u40 u50 hb0 kt0 u00 u10 u20 hx0 hd0 ht0 htd0 => ?_)
  try unfold Con
  intro zmean zmg zmb zgd zcn zcs za zccd zcl zouter zA zbase zh zL zm zs zQ zE zB zF X zN zT zhk hret
  revert X; k_fill; intro X
  refine wpAny_call ?_
  k_dflt (refine' code_def ?k1 ?k2 ?k3 ?k4 ?k5 ?kA ?kF ?kK ?k6 ?k7 ?k8 ?k9 ?kB ?_ ?c2 ?c3 ?c4 ?c5; (case kA => exact rfl); (case kF => exact rfl); (case kK => assumption); (case k1 => k_asm); (case k2 => k_asm); (case k3 => k_asm); (case k4 => k_asm); (case k5 => k_asm); (case k6 => k_is); (case k7 => k_is); (case k8 => k_room); (case k9 => first | exact BindsTo.of_eq rfl | exact binds_K (by k_in) rfl (by k_is) rfl rfl rfl); (case c5 => decide); (case kB => exact locs rfl); (case c2 => exact rfl); (case c3 => exact rfl); (case c4 => exact rfl); k_whole; intro g' L' h' FG' F' N' B' X' T'; (try dsimp only); (try k_fold))
  (replace F' : Fr g' L' h' (fun y => List.lookup y [("self", .ref P.x)]) := F')
  (refine at_toks ?_; intro tk0)
  (refine (let A9 : Around := _; let g9 : Array GenState := _; let d9 : Drawn := _; let o9 : OsState := _; (?_ : wpAny _ A9 _ _ _ ⟨_, g9, d9, _, o9⟩)))
  k_steps
  refine (let qk9 : Value → Shared → Prop := _; (?_ : wpAny _ _ _ qk9 _ _))
  first | ((with_reducible show wpAny _ _ (eval _ _) _ _ _); first | refine self_call (by assumption) (by k_asm) (by first | assumption | exact PS.cons (by assumption) | exact PS.cons (PS.cons (by assumption))) (by assumption) (by first | exact rfl | assumption) (by first | exact rfl | assumption) rfl rfl ⟨by k_is, by k_is, by k_is, by k_is, rfl⟩ rfl rfl ?_ | refine glob_call (by assumption) (by assumption) (by assumption) (by first | exact rfl | assumption) (by k_is) rfl rfl (by k_is) rfl ?_) | skip
  refine Con.use3 (Q := qk9) (take_c S) (by assumption) (by assumption) (by assumption) (by k_asm) (by assumption) (by first | exact rfl | assumption) rfl rfl ?_
  intro r9 led9 h9 tk9 F9 N9 T1 S1 E1
  first | k_unfold | skip
  try clear qk9
  try dsimp only
  try k_fold
  cases T1 with
  | w g1 g2 =>
    k_steps
    exact hret _ _ _ _ (by k_asm) (by k_asm) ⟨⟨_, rfl⟩, S1, E1⟩
section
section
theorem iter_strTurns {prog : Program} {w : World} {A : Around} {h₀ : Heap} {env : Env} {xn : PySem.Str} {xp : Pos} {body : List Stmt} {Q : Flow → Shared → Prop} {E : Value → Shared → Prop} {s : Shared} {x : PySem.Str} {t : Tok} {m₀ : PySem.Str → Option Value} {news : List (Addr × Obj)}
    (hh : A.handled = none) (ha : x.cps.all (· < 128) = true) (F : Fr h₀ env.locals s.heap m₀) (N : News h₀ env.locals s.heap news)
    (rest₀ : ∀ I : Addr, (∀ p ∈ news, p.1 < I) → ItemsRest prog w A E h₀ env (.Name xn xp) body Q s [(I, "str_ascii_iterator")] [] (x.cps.toList.map fun c => .tok fun u => .str ⟨#[c]⟩ u) m₀ news) :
    wpAny (model prog w) A (pyIter (.str x t)) (fun it s₂ => TurnsAt prog w A h₀ env (.Name xn xp) body Q E it s₂) E s := by
  refine wpAny_pyIter_ascii ha ?_
  refine ktu_core (tk0 := s.toks) (keep := []) (KTurns.ofWalks (Walks.strAscii hh s.heap.objs.size x t) fun i v s Q E st q => wpAny_pure q) (by simp) (fun i v h hp => ?_) (fun i h st => ?_) (fun b hb => ?_) (fun b hb => by simpa using hb) (fun b hb => ?_) ?_ (fun p hp hI => ?_) ?_ (F.push _) (fun p hp => ⟨Heap.get?_push_of_some _ (N p hp).1, (N p hp).2⟩) trivial (rest₀ _ fun p hp => Heap.lt_size (N p hp).1)
  · obtain ⟨c, u, hc, rfl⟩ := hp
    exact ⟨.tok fun u => .str ⟨#[c]⟩ u, by rw [List.getElem?_map, Array.getElem?_toList, hc]; rfl, u, rfl⟩
  · obtain ⟨it, hit, hic, _⟩ := st
    exact ⟨[(s.heap.objs.size, it)], ⟨⟨rfl, hic⟩, trivial⟩, fun p hp => by rw [List.mem_singleton.mp hp]; exact hit⟩
  · have hb' : b = s.heap.objs.size := by simpa using hb
    rw [hb']
    exact ⟨List.mem_cons_self .., next_is_new F⟩
  · have hb' : b = s.heap.objs.size := by simpa using hb
    exact .inl (by simp [hb'])
  · intro hI
    rcases List.mem_cons.mp hI with e | hI
    · exact absurd F.ns.lt (e ▸ Nat.lt_irrefl _)
    · cases hI
  · exact absurd (Heap.lt_size (N p hp).1) ((List.mem_singleton.mp hI) ▸ Nat.lt_irrefl _)
  · exact ⟨_, Heap.get?_push_size _ rfl, rfl, rfl⟩
local macro_rules | `(tactic| walk_at "exec For") => `(tactic| (k_here; (rename Fr _ _ _ _ => lF'); (with_unfolding_all refine' For_turns lF' ?_; k_whole)))
local macro_rules | `(tactic| walk_at "pyIter str") => `(tactic| (k_here; refine of_hold ?_))
theorem unr_end1 {h₀ : Heap} {L : Addr} {s₁ : Shared} {I : Addr} {o : Obj} {rest : (PySem.Str → Option Value) → List (Addr × Obj) → Prop} {h' : Heap} {tk : Nat} {m' : PySem.Str → Option Value} {led : Led}
    (F : Fr h₀ L h' m') (N : News h₀ L h' ((I, o) :: led)) (l : ∀ p ∈ led, p.1 < I) (r : rest m' led) : UnrEndW h₀ L s₁ [(I, o)] rest { s₁ with heap := h', toks := tk } :=
  ⟨h', tk, m', led, rfl, F, N, fun p hp q hq e => by
    rw [List.mem_singleton] at hq; subst hq; exact Nat.lt_irrefl _ (e ▸ l p hp), r⟩
local macro_rules | `(tactic| walk_at "UnrEndW") => `(tactic| (refine unr_end1 (by assumption) (by assumption) (by assumption) ⟨trivial, ?_⟩))
theorem decimal_1 {w : World} {led : Led} {c : Nat} {u1 : Tok} (h1 : 48 ≤ c) (h2 : c ≤ 57) (ha : (⟨#[c]⟩ : PySem.Str).cps.all (· < 128) = true) :
    Con 870 7900 w 232 [.str ⟨#[c]⟩ u1] led (fun r led' => (∃ u, r = .int ((c : Int) - 48) u) ∧ Sup led led') := by
  try unfold Con
  intro zmean zmg zmb zgd zcn zcs za zccd zcl zouter zA zbase zh zL zm zs zQ zE zB zF X zN zT zhk hret
  revert X; k_fill; intro X
  refine wpAny_call ?_
  k_dflt (refine' code_def ?k1 ?k2 ?k3 ?k4 ?k5 ?kA ?kF ?kK ?k6 ?k7 ?k8 ?k9 ?kB ?_ ?c2 ?c3 ?c4 ?c5; (case kA => exact rfl); (case kF => exact rfl); (case kK => assumption); (case k1 => k_asm); (case k2 => k_asm); (case k3 => k_asm); (case k4 => k_asm); (case k5 => k_asm); (case k6 => k_is); (case k7 => k_is); (case k8 => k_room); (case k9 => first | exact BindsTo.of_eq rfl | exact binds_K (by k_in) rfl (by k_is) rfl rfl rfl); (case c5 => decide); (case kB => exact locs rfl); (case c2 => exact rfl); (case c3 => exact rfl); (case c4 => exact rfl); k_whole; intro g' L' h' FG' F' N' B' X' T'; (try dsimp only); (try k_fold))
  (replace F' : Fr g' L' h' (fun y => List.lookup y [("digits", .str ⟨#[c]⟩ u1)]) := F')
  (refine at_toks ?_; intro tk0)
  (refine (let A9 : Around := _; let g9 : Array GenState := _; let d9 : Drawn := _; let o9 : OsState := _; (?_ : wpAny _ A9 _ _ _ ⟨_, g9, d9, _, o9⟩)))
  k_steps
  unfold Hold
  (with_unfolding_all refine iter_strTurns (by exact rfl) (by with_reducible assumption) (by k_asm) (by k_asm) ?_)
  intro I' l1
  (try dsimp only [List.map_cons, List.map_nil])
  k_steps
  exact hret _ _ _ _ (by k_asm) (by k_asm) ⟨⟨_, by rw [Int.zero_mul, Int.zero_add]⟩, (by intro p9 hp9; repeat (first | exact hp9 | apply List.mem_cons_of_mem))⟩
end
theorem mask_c {w : World} {led : Led} {b : Int} {u : Tok} (h1 : 0 ≤ b) (h2 : b ≤ 40) :
    Con 870 7900 w 210 [.int b u] led (fun r led' => (∃ v u, r = .int v u ∧ v = 2 ^ b.toNat - 1) ∧ Sup led led') := by
  try unfold Con
  intro zmean zmg zmb zgd zcn zcs za zccd zcl zouter zA zbase zh zL zm zs zQ zE zB zF X zN zT zhk hret
  revert X; k_fill; intro X
  refine wpAny_call ?_
  k_dflt (refine' code_def ?k1 ?k2 ?k3 ?k4 ?k5 ?kA ?kF ?kK ?k6 ?k7 ?k8 ?k9 ?kB ?_ ?c2 ?c3 ?c4 ?c5; (case kA => exact rfl); (case kF => exact rfl); (case kK => assumption); (case k1 => k_asm); (case k2 => k_asm); (case k3 => k_asm); (case k4 => k_asm); (case k5 => k_asm); (case k6 => k_is); (case k7 => k_is); (case k8 => k_room); (case k9 => first | exact BindsTo.of_eq rfl | exact binds_K (by k_in) rfl (by k_is) rfl rfl rfl); (case c5 => decide); (case kB => exact locs rfl); (case c2 => exact rfl); (case c3 => exact rfl); (case c4 => exact rfl); k_whole; intro g' L' h' FG' F' N' B' X' T'; (try dsimp only); (try k_fold))
  (replace F' : Fr g' L' h' (fun y => List.lookup y [("w", .int b u)]) := F')
  (refine at_toks ?_; intro tk0)
  (refine (let A9 : Around := _; let g9 : Array GenState := _; let d9 : Drawn := _; let o9 : OsState := _; (?_ : wpAny _ A9 _ _ _ ⟨_, g9, d9, _, o9⟩)))
  k_steps
  exact hret _ _ _ _ (by k_asm) (by k_asm) ⟨⟨_, _, rfl, by rw [Int.one_mul]⟩, (by intro p9 hp9; repeat (first | exact hp9 | apply List.mem_cons_of_mem))⟩
theorem and9 {x : Int} (h0 : 0 ≤ x) (h1 : x < 10) : Builtin.bitAnd x (2 ^ Int.toNat 32 - 1) = x := int_all (P := fun x => Builtin.bitAnd x (2 ^ Int.toNat 32 - 1) = x) (n := 10) (by decide) h0 h1
theorem vec_c {w : World} {led : Led} {a : Int} {u u1 u2 : Tok} (h1 : 0 ≤ a) (h2 : a ≤ 9) :
    Con 860 7800 w 218 [.int 32 u, .int a u1, .int 0 u2] led (fun r led' => VI led' r (.tuple [.int 32, .int a, .int 0]) ∧ Sup led led') := by
  try unfold Con
  intro zmean zmg zmb zgd zcn zcs za zccd zcl zouter zA zbase zh zL zm zs zQ zE zB zF X zN zT zhk hret
  revert X; k_fill; intro X
  refine wpAny_call ?_
  k_dflt (refine' code_def ?k1 ?k2 ?k3 ?k4 ?k5 ?kA ?kF ?kK ?k6 ?k7 ?k8 ?k9 ?kB ?_ ?c2 ?c3 ?c4 ?c5; (case kA => exact rfl); (case kF => exact rfl); (case kK => assumption); (case k1 => k_asm); (case k2 => k_asm); (case k3 => k_asm); (case k4 => k_asm); (case k5 => k_asm); (case k6 => k_is); (case k7 => k_is); (case k8 => k_room); (case k9 => first | exact BindsTo.of_eq rfl | exact binds_K (by k_in) rfl (by k_is) rfl rfl rfl); (case c5 => decide); (case kB => exact locs rfl); (case c2 => exact rfl); (case c3 => exact rfl); (case c4 => exact rfl); k_whole; intro g' L' h' FG' F' N' B' X' T'; (try dsimp only); (try k_fold))
  (replace F' : Fr g' L' h' (fun y => List.lookup y [("b", .int 0 u2), ("a", .int a u1), ("w", .int 32 u)]) := F')
  (refine at_toks ?_; intro tk0)
  (refine (let A9 : Around := _; let g9 : Array GenState := _; let d9 : Drawn := _; let o9 : OsState := _; (?_ : wpAny _ A9 _ _ _ ⟨_, g9, d9, _, o9⟩)))
  k_steps
  refine (let qk9 : Value → Shared → Prop := _; (?_ : wpAny _ _ _ qk9 _ _))
  first | ((with_reducible show wpAny _ _ (eval _ _) _ _ _); first | refine self_call (by assumption) (by k_asm) (by first | assumption | exact PS.cons (by assumption) | exact PS.cons (PS.cons (by assumption))) (by assumption) (by first | exact rfl | assumption) (by first | exact rfl | assumption) rfl rfl ⟨by k_is, by k_is, by k_is, by k_is, rfl⟩ rfl rfl ?_ | refine glob_call (by assumption) (by assumption) (by assumption) (by first | exact rfl | assumption) (by k_is) rfl rfl (by k_is) rfl ?_) | skip
  refine Con.useS (Q := qk9) (mask_c (by decide) (by decide)) (by assumption) (by assumption) (by assumption) (by k_asm) (by assumption) (by first | exact rfl | assumption) rfl rfl ?_
  rintro r9 led9 h9 tk9 F9 N9 ⟨⟨v1, t1, rfl, e1⟩, p1⟩
  subst e1
  first | k_unfold | skip
  try clear qk9
  try dsimp only
  try k_fold
  k_steps
  exact hret _ _ _ _ (by k_asm) (by k_asm) ⟨.tup List.mem_cons_self (.cons (.int _ _) (.cons (.ofInt (and9 h1 (Int.lt_add_one_of_le h2))) (.cons (.ofInt (by decide)) .nil))), (by intro p9 hp9; repeat (first | exact hp9 | apply p1 | apply List.mem_cons_of_mem))⟩
structure Fig (c : Nat) : Prop where
  lo : 48 ≤ c
  hi : c ≤ 57
theorem Fig.ascii {c : Nat} (h : Fig c) : (⟨#[c]⟩ : PySem.Str).cps.all (· < 128) = true := by have := h.hi; simp; omega
theorem Fig.all {P : Nat → Prop} (p : ∀ k, k < 10 → P (k + 48)) {c : Nat} (h : Fig c) : P c := Nat.sub_add_cancel h.lo ▸ p (c - 48) (Nat.sub_lt_left_of_lt_add h.lo (Nat.lt_succ_of_le h.hi))
theorem Fig.x {c : Nat} (h : Fig c) : ¬ ((⟨#[c]⟩ : PySem.Str) == "x") = true := h.all (P := fun c => ¬ ((⟨#[c]⟩ : PySem.Str) == "x") = true) (by decide +kernel)
theorem Fig.xz {c : Nat} (h : Fig c) : ¬ ([PySem.Str.ofString "x", PySem.Str.ofString "z", PySem.Str.ofString "?"].any fun x => x == (⟨#[c]⟩ : PySem.Str)) = true :=
  h.all (P := fun c => ¬ ([PySem.Str.ofString "x", PySem.Str.ofString "z", PySem.Str.ofString "?"].any fun x => x == (⟨#[c]⟩ : PySem.Str)) = true) (by decide +kernel)
theorem padded_c {w : World} {led : Led} {wd a : Int} {c : Nat} {u u1 u2 u3 u4 : Tok} (h1 : 0 ≤ wd) (h2 : wd ≤ 9) (h3 : 0 ≤ a) (h4 : a ≤ 9) (hc : Fig c) :
    Con 850 7700 w 260 [.int 32 u, .int wd u1, .int a u2, .int 0 u3, .str ⟨#[c]⟩ u4] led (fun r led' => VI led' r (.tuple [.int 32, .int a, .int 0]) ∧ Sup led led') := by
  have hx := hc.x
  have hz := hc.xz
  try unfold Con
  intro zmean zmg zmb zgd zcn zcs za zccd zcl zouter zA zbase zh zL zm zs zQ zE zB zF X zN zT zhk hret
  revert X; k_fill; intro X
  refine wpAny_call ?_
  k_dflt (refine' code_def ?k1 ?k2 ?k3 ?k4 ?k5 ?kA ?kF ?kK ?k6 ?k7 ?k8 ?k9 ?kB ?_ ?c2 ?c3 ?c4 ?c5; (case kA => exact rfl); (case kF => exact rfl); (case kK => assumption); (case k1 => k_asm); (case k2 => k_asm); (case k3 => k_asm); (case k4 => k_asm); (case k5 => k_asm); (case k6 => k_is); (case k7 => k_is); (case k8 => k_room); (case k9 => first | exact BindsTo.of_eq rfl | exact binds_K (by k_in) rfl (by k_is) rfl rfl rfl); (case c5 => decide); (case kB => exact locs rfl); (case c2 => exact rfl); (case c3 => exact rfl); (case c4 => exact rfl); k_whole; intro g' L' h' FG' F' N' B' X' T'; (try dsimp only); (try k_fold))
  (replace F' : Fr g' L' h' (fun y => List.lookup y [("first", .str ⟨#[c]⟩ u4), ("b", .int 0 u3), ("a", .int a u2), ("width", .int wd u1), ("w", .int 32 u)]) := F')
  (refine at_toks ?_; intro tk0)
  (refine (let A9 : Around := _; let g9 : Array GenState := _; let d9 : Drawn := _; let o9 : OsState := _; (?_ : wpAny _ A9 _ _ _ ⟨_, g9, d9, _, o9⟩)))
  k_steps
  refine (let qk9 : Value → Shared → Prop := _; (?_ : wpAny _ _ _ qk9 _ _))
  first | ((with_reducible show wpAny _ _ (eval _ _) _ _ _); first | refine self_call (by assumption) (by k_asm) (by first | assumption | exact PS.cons (by assumption) | exact PS.cons (PS.cons (by assumption))) (by assumption) (by first | exact rfl | assumption) (by first | exact rfl | assumption) rfl rfl ⟨by k_is, by k_is, by k_is, by k_is, rfl⟩ rfl rfl ?_ | refine glob_call (by assumption) (by assumption) (by assumption) (by first | exact rfl | assumption) (by k_is) rfl rfl (by k_is) rfl ?_) | skip
  refine Con.useS (Q := qk9) (mask_c (by decide) (by decide)) (by assumption) (by assumption) (by assumption) (by k_asm) (by assumption) (by first | exact rfl | assumption) rfl rfl ?_
  rintro r9 led9 h9 tk9 F9 N9 ⟨⟨v1, t1, rfl, e1⟩, p1⟩
  first | k_unfold | skip
  try clear qk9
  try dsimp only
  try k_fold
  k_steps
  refine (let qk9 : Value → Shared → Prop := _; (?_ : wpAny _ _ _ qk9 _ _))
  first | ((with_reducible show wpAny _ _ (eval _ _) _ _ _); first | refine self_call (by assumption) (by k_asm) (by first | assumption | exact PS.cons (by assumption) | exact PS.cons (PS.cons (by assumption))) (by assumption) (by first | exact rfl | assumption) (by first | exact rfl | assumption) rfl rfl ⟨by k_is, by k_is, by k_is, by k_is, rfl⟩ rfl rfl ?_ | refine glob_call (by assumption) (by assumption) (by assumption) (by first | exact rfl | assumption) (by k_is) rfl rfl (by k_is) rfl ?_) | skip
  refine Con.useS (Q := qk9) (mask_c h1 (by omega)) (by assumption) (by assumption) (by assumption) (by k_asm) (by assumption) (by first | exact rfl | assumption) rfl rfl ?_
  rintro r9 led9 h9 tk9 F9 N9 ⟨⟨v2, t2, rfl, e2⟩, p2⟩
  first | k_unfold | skip
  try clear qk9
  try dsimp only
  try k_fold
  k_steps
  refine (let qk9 : Value → Shared → Prop := _; (?_ : wpAny _ _ _ qk9 _ _))
  first | ((with_reducible show wpAny _ _ (eval _ _) _ _ _); first | refine self_call (by assumption) (by k_asm) (by first | assumption | exact PS.cons (by assumption) | exact PS.cons (PS.cons (by assumption))) (by assumption) (by first | exact rfl | assumption) (by first | exact rfl | assumption) rfl rfl ⟨by k_is, by k_is, by k_is, by k_is, rfl⟩ rfl rfl ?_ | refine glob_call (by assumption) (by assumption) (by assumption) (by first | exact rfl | assumption) (by k_is) rfl rfl (by k_is) rfl ?_) | skip
  refine Con.use2 (Q := qk9) (vec_c h3 h4) (by assumption) (by assumption) (by assumption) (by k_asm) (by assumption) (by first | exact rfl | assumption) rfl rfl ?_
  intro r9 led9 h9 tk9 F9 N9 V1 p3
  first | k_unfold | skip
  try clear qk9
  try dsimp only
  try k_fold
  k_steps
  exact hret _ _ _ _ (by k_asm) (by k_asm) ⟨V1, fun p hp => p3 p (List.mem_cons_of_mem _ (p2 p (p1 p hp)))⟩
theorem item_fig {prog : Program} {w : World} {A : Around} {E : Value → Shared → Prop} {s : Shared} {value slice : PySem.Expr} {c : Nat} {t u : Tok} {Q : Value → Shared → Prop} (h : Q (.str ⟨#[c]⟩ s.toks) { s with toks := s.toks + 1 })
    (hs : subscripted slice false (.str ⟨#[c]⟩ t) (.int 0 u) = operate [.str ⟨#[c]⟩ t, .int 0 u] (getItem (.str ⟨#[c]⟩ t) (.int 0 u)) := by with_unfolding_all rfl)
    (ht : ∀ r, letTemporaryGo value (.str ⟨#[c]⟩ t) r = pure () := by intro _; with_unfolding_all rfl) :
    wpAny (model prog w) A (subscriptTail value slice (.str ⟨#[c]⟩ t) (.int 0 u)) Q E s := by
  have e : Txt.item ⟨#[c]⟩ 0 = ⟨#[c]⟩ := item_meets (Int.le_refl 0) rfl
  exact item_str (i := 0) (by decide) (by show (-((1 : Nat) : Int)) ≤ 0; decide) (by show (0 : Int) < ((1 : Nat) : Int); decide) (fun _ => by rw [e]; exact h) hs ht
local macro_rules | `(tactic| walk_at "subscriptTail Name Constant str int") => `(tactic| (k_here; k_dflt (refine item_fig ?_ (by with_unfolding_all rfl) (by intro _; with_unfolding_all rfl)); k_whole))
theorem Fig.bits {c : Nat} (h : Fig c) : Builtin.Int.intBits ((c : Int) - 48) ≤ 4 := h.all (P := fun c => Builtin.Int.intBits ((c : Int) - 48) ≤ 4) (by decide +kernel)
theorem numeral_c {w : World} {led : Led} {q : Addr} {c n' : Nat} {i : Int} {u0 u3 u4 u5 : Tok} (hc : Fig c) (hq : (q, tupObj [.str "" u3, .str "" u4, .bool true, .str ⟨#[c]⟩ u5] n') ∈ led) :
    Con 840 7600 w 267 [.ref q, .int i u0] led (fun r led' => VI led' r (.tuple [.tuple [.int 32, .int ((c : Int) - 48), .int 0], .bool true, .bool false]) ∧ Sup led led') := by
  have hz := hc.xz
  have ha := hc.ascii
  have hE : (PySem.Str.ofString "" == PySem.Str.ofString "") = true := by decide +kernel
  have hB := hc.bits
  have hM : (if (if (1 : Int) > ((Builtin.Int.intBits ((c : Int) - 48) : Nat) : Int) then 1 else ((Builtin.Int.intBits ((c : Int) - 48) : Nat) : Int)) + 1 > 32 then (if (1 : Int) > ((Builtin.Int.intBits ((c : Int) - 48) : Nat) : Int) then 1 else ((Builtin.Int.intBits ((c : Int) - 48) : Nat) : Int)) + 1 else (32 : Int)) = 32 := by
    repeat' split
    all_goals omega
  have hN : ¬ ((65536 : Int) < if (if (1 : Int) > ((Builtin.Int.intBits ((c : Int) - 48) : Nat) : Int) then 1 else ((Builtin.Int.intBits ((c : Int) - 48) : Nat) : Int)) + 1 > 32 then (if (1 : Int) > ((Builtin.Int.intBits ((c : Int) - 48) : Nat) : Int) then 1 else ((Builtin.Int.intBits ((c : Int) - 48) : Nat) : Int)) + 1 else (32 : Int)) := by
    rw [hM]; decide
  try unfold Con
  intro zmean zmg zmb zgd zcn zcs za zccd zcl zouter zA zbase zh zL zm zs zQ zE zB zF X zN zT zhk hret
  revert X; k_fill; intro X
  refine wpAny_call ?_
  k_dflt (refine' code_def ?k1 ?k2 ?k3 ?k4 ?k5 ?kA ?kF ?kK ?k6 ?k7 ?k8 ?k9 ?kB ?_ ?c2 ?c3 ?c4 ?c5; (case kA => exact rfl); (case kF => exact rfl); (case kK => assumption); (case k1 => k_asm); (case k2 => k_asm); (case k3 => k_asm); (case k4 => k_asm); (case k5 => k_asm); (case k6 => k_is); (case k7 => k_is); (case k8 => k_room); (case k9 => first | exact BindsTo.of_eq rfl | exact binds_K (by k_in) rfl (by k_is) rfl rfl rfl); (case c5 => decide); (case kB => exact locs rfl); (case c2 => exact rfl); (case c3 => exact rfl); (case c4 => exact rfl); k_whole; intro g' L' h' FG' F' N' B' X' T'; (try dsimp only); (try k_fold))
  (replace F' : Fr g' L' h' (fun y => List.lookup y [("at", .int i u0), ("value", .ref q)]) := F')
  (refine at_toks ?_; intro tk0)
  (refine (let A9 : Around := _; let g9 : Array GenState := _; let d9 : Drawn := _; let o9 : OsState := _; (?_ : wpAny _ A9 _ _ _ ⟨_, g9, d9, _, o9⟩)))
  k_steps
  refine (let qk9 : Value → Shared → Prop := _; (?_ : wpAny _ _ _ qk9 _ _))
  first | ((with_reducible show wpAny _ _ (eval _ _) _ _ _); first | refine self_call (by assumption) (by k_asm) (by first | assumption | exact PS.cons (by assumption) | exact PS.cons (PS.cons (by assumption))) (by assumption) (by first | exact rfl | assumption) (by first | exact rfl | assumption) rfl rfl ⟨by k_is, by k_is, by k_is, by k_is, rfl⟩ rfl rfl ?_ | refine glob_call (by assumption) (by assumption) (by assumption) (by first | exact rfl | assumption) (by k_is) rfl rfl (by k_is) rfl ?_) | skip
  refine Con.useS (Q := qk9) (decimal_1 hc.lo hc.hi ha) (by assumption) (by assumption) (by assumption) (by k_asm) (by assumption) (by first | exact rfl | assumption) rfl rfl ?_
  rintro r9 led9 h9 tk9 F9 N9 ⟨⟨u9, rfl⟩, p1⟩
  first | k_unfold | skip
  try clear qk9
  try dsimp only
  try k_fold
  k_steps
  unfold Hold
  first | ((with_reducible show wpAny _ _ (eval _ _) _ _ _); first | refine self_call (by assumption) (by k_asm) (by first | assumption | exact PS.cons (by assumption) | exact PS.cons (PS.cons (by assumption))) (by assumption) (by first | exact rfl | assumption) (by first | exact rfl | assumption) rfl rfl ⟨by k_is, by k_is, by k_is, by k_is, rfl⟩ rfl rfl ?_ | refine glob_call (by assumption) (by assumption) (by assumption) (by first | exact rfl | assumption) (by k_is) rfl rfl (by k_is) rfl ?_) | skip
  rw [hM]
  refine (let qk9 : Value → Shared → Prop := _; (?_ : wpAny _ _ _ qk9 _ _))
  first | ((with_reducible show wpAny _ _ (eval _ _) _ _ _); first | refine self_call (by assumption) (by k_asm) (by first | assumption | exact PS.cons (by assumption) | exact PS.cons (PS.cons (by assumption))) (by assumption) (by first | exact rfl | assumption) (by first | exact rfl | assumption) rfl rfl ⟨by k_is, by k_is, by k_is, by k_is, rfl⟩ rfl rfl ?_ | refine glob_call (by assumption) (by assumption) (by assumption) (by first | exact rfl | assumption) (by k_is) rfl rfl (by k_is) rfl ?_) | skip
  refine Con.use2 (Q := qk9) (padded_c (by split <;> omega) (by split <;> omega) (by have := hc.lo; omega) (by have := hc.hi; omega) hc) (by assumption) (by assumption) (by assumption) (by k_asm) (by assumption) (by first | exact rfl | assumption) rfl rfl ?_
  intro r9 led9 h9 tk9 F9 N9 V1 p3
  first | k_unfold | skip
  try clear qk9
  try dsimp only
  try k_fold
  k_steps
  exact hret _ _ _ _ (by k_asm) (by k_asm) ⟨.tup List.mem_cons_self (.cons (V1.up fun p hp => List.mem_cons_of_mem _ hp) (.cons (.bool _) (.cons (.ofBool (by decide +kernel)) .nil))), (by intro p9 hp9; repeat (first | exact hp9 | apply p3 | apply p1 | apply List.mem_cons_of_mem))⟩
end
section
local macro_rules | `(tactic| walk_at "exec While") => `(tactic| (k_here; refine of_hold ?_))
section
local macro_rules | `(tactic| walk_at "pyIter ref") => `(tactic| (k_here; refine of_hold ?_))
theorem touchb {M : Model} {A : Around} {env : Env} {Q : Flow → Shared → Prop} {E : Value → Shared → Prop} {s : Shared} (h : Q .next s) : wpAny M A (execs [] env) Q E s := by
  walk1
  exact h
section
theorem enter_c {w : World} {led : Led} {P : PA} {cur : TK} {nx : List TK} {dep : Int} {wi ne : Bool} (S : PS led P cur nx dep wi ne) (h0 : 0 ≤ dep) (h1 : dep ≤ 20) :
    Con 870 7800 w 314 [.ref P.x] led (fun r led' => r = .none ∧ PS led' P cur nx (dep + 1) wi ne ∧ Ext P led led') := by
  refine Con.news fun hh h hL N => ?_
  obtain ⟨tv, place, avs, vs, ahead, rest, S0, hcur, hah, hre, hnx, hle⟩ := S
  have H := S0.sep N
  have S' := S0
  obtain ⟨hx, ⟨k, u4, u5, hb, hd⟩, -, -, -, -, -, -⟩ := S'
  obtain ⟨d1, -, -, -, -, -, -, -, -, -, -, -⟩ := H.d
  clear N
  have h60 : ¬ (dep ≥ 60) := by omega
  have h61 : ¬ ((60 : Int) ≤ dep) := by omega
  try unfold Con
  intro zmean zmg zmb zgd zcn zcs za zccd zcl zouter zA zbase zh zL zm zs zQ zE zB zF X zN zT zhk hret
  revert X; k_fill; intro X
  refine wpAny_call ?_
  k_dflt (refine' code_def ?k1 ?k2 ?k3 ?k4 ?k5 ?kA ?kF ?kK ?k6 ?k7 ?k8 ?k9 ?kB ?_ ?c2 ?c3 ?c4 ?c5; (case kA => exact rfl); (case kF => exact rfl); (case kK => assumption); (case k1 => k_asm); (case k2 => k_asm); (case k3 => k_asm); (case k4 => k_asm); (case k5 => k_asm); (case k6 => k_is); (case k7 => k_is); (case k8 => k_room); (case k9 => first | exact BindsTo.of_eq rfl | exact binds_K (by k_in) rfl (by k_is) rfl rfl rfl); (case c5 => decide); (case kB => exact locs rfl); (case c2 => exact rfl); (case c3 => exact rfl); (case c4 => exact rfl); k_whole; intro g' L' h' FG' F' N' B' X' T'; (try dsimp only); (try k_fold))
  (replace F' : Fr g' L' h' (fun y => List.lookup y [("self", .ref P.x)]) := F')
  (refine at_toks ?_; intro tk0)
  (refine (let A9 : Around := _; let g9 : Array GenState := _; let d9 : Drawn := _; let o9 : OsState := _; (?_ : wpAny _ A9 _ _ _ ⟨_, g9, d9, _, o9⟩)))
  k_steps
  exact hret _ _ _ _ (by k_asm) (by k_asm) ⟨rfl, ⟨tv, place, avs, vs, ahead, rest, (S0.put H k u4 _ hb tv cur.pos (dep + 1) wi ne).1, hcur.sub (S0.put H k u4 _ hb tv cur.pos (dep + 1) wi ne).2.frz, hah.sub (S0.put H k u4 _ hb tv cur.pos (dep + 1) wi ne).2.frz, hre.sub (S0.put H k u4 _ hb tv cur.pos (dep + 1) wi ne).2.frz, hnx, hle⟩, (S0.put H k u4 _ hb tv cur.pos (dep + 1) wi ne).2⟩
theorem leave_c {w : World} {led : Led} {P : PA} {cur : TK} {nx : List TK} {dep : Int} {wi ne : Bool} (S : PS led P cur nx dep wi ne) (h0 : 0 ≤ dep) (h1 : dep ≤ 21) :
    Con 870 7800 w 321 [.ref P.x] led (fun r led' => r = .none ∧ PS led' P cur nx (dep - 1) wi ne ∧ Ext P led led') := by
  refine Con.news fun hh h hL N => ?_
  obtain ⟨tv, place, avs, vs, ahead, rest, S0, hcur, hah, hre, hnx, hle⟩ := S
  have H := S0.sep N
  have S' := S0
  obtain ⟨hx, ⟨k, u4, u5, hb, hd⟩, -, -, -, -, -, -⟩ := S'
  obtain ⟨d1, -, -, -, -, -, -, -, -, -, -, -⟩ := H.d
  clear N
  try unfold Con
  intro zmean zmg zmb zgd zcn zcs za zccd zcl zouter zA zbase zh zL zm zs zQ zE zB zF X zN zT zhk hret
  revert X; k_fill; intro X
  refine wpAny_call ?_
  k_dflt (refine' code_def ?k1 ?k2 ?k3 ?k4 ?k5 ?kA ?kF ?kK ?k6 ?k7 ?k8 ?k9 ?kB ?_ ?c2 ?c3 ?c4 ?c5; (case kA => exact rfl); (case kF => exact rfl); (case kK => assumption); (case k1 => k_asm); (case k2 => k_asm); (case k3 => k_asm); (case k4 => k_asm); (case k5 => k_asm); (case k6 => k_is); (case k7 => k_is); (case k8 => k_room); (case k9 => first | exact BindsTo.of_eq rfl | exact binds_K (by k_in) rfl (by k_is) rfl rfl rfl); (case c5 => decide); (case kB => exact locs rfl); (case c2 => exact rfl); (case c3 => exact rfl); (case c4 => exact rfl); k_whole; intro g' L' h' FG' F' N' B' X' T'; (try dsimp only); (try k_fold))
  (replace F' : Fr g' L' h' (fun y => List.lookup y [("self", .ref P.x)]) := F')
  (refine at_toks ?_; intro tk0)
  (refine (let A9 : Around := _; let g9 : Array GenState := _; let d9 : Drawn := _; let o9 : OsState := _; (?_ : wpAny _ A9 _ _ _ ⟨_, g9, d9, _, o9⟩)))
  k_steps
  exact hret _ _ _ _ (by k_asm) (by k_asm) ⟨rfl, ⟨tv, place, avs, vs, ahead, rest, (S0.put H k u4 _ hb tv cur.pos (dep - 1) wi ne).1, hcur.sub (S0.put H k u4 _ hb tv cur.pos (dep - 1) wi ne).2.frz, hah.sub (S0.put H k u4 _ hb tv cur.pos (dep - 1) wi ne).2.frz, hre.sub (S0.put H k u4 _ hb tv cur.pos (dep - 1) wi ne).2.frz, hnx, hle⟩, (S0.put H k u4 _ hb tv cur.pos (dep - 1) wi ne).2⟩
inductive Stop : PySem.Str → Prop
  | colon : Stop ":"
  | close : Stop "]"
  | comma : Stop ","
  | paren : Stop ")"
  | semi : Stop ";"
theorem Stop.facts {x : PySem.Str} (h : Stop x) : (x == "||") = false ∧ (x == "&&") = false ∧ (x == "|") = false ∧ ([PySem.Str.ofString "^", PySem.Str.ofString "~^", PySem.Str.ofString "^~"].any fun y => y == x) = false ∧ (x == "&") = false ∧
    ([PySem.Str.ofString "==", PySem.Str.ofString "!=", PySem.Str.ofString "===", PySem.Str.ofString "!=="].any fun y => y == x) = false ∧ ([PySem.Str.ofString "<", PySem.Str.ofString "<=", PySem.Str.ofString ">", PySem.Str.ofString ">="].any fun y => y == x) = false ∧
    ([PySem.Str.ofString "<<", PySem.Str.ofString ">>", PySem.Str.ofString "<<<", PySem.Str.ofString ">>>"].any fun y => y == x) = false ∧ ([PySem.Str.ofString "+", PySem.Str.ofString "-"].any fun y => y == x) = false ∧
    ([PySem.Str.ofString "*", PySem.Str.ofString "/", PySem.Str.ofString "%"].any fun y => y == x) = false ∧ (x == "**") = false := by
  cases h <;> decide +kernel
theorem precedence_c {w : World} {led : Led} {x : PySem.Str} {u : Tok} (hx : Stop x) : Con 870 7800 w 274 [.str x u] led (fun r led' => (∃ u', r = .int 0 u') ∧ Sup led led') := by
  obtain ⟨f1, f2, f3, f4, f5, f6, f7, f8, f9, f10, f11⟩ := hx.facts
  try unfold Con
  intro zmean zmg zmb zgd zcn zcs za zccd zcl zouter zA zbase zh zL zm zs zQ zE zB zF X zN zT zhk hret
  revert X; k_fill; intro X
  refine wpAny_call ?_
  k_dflt (refine' code_def ?k1 ?k2 ?k3 ?k4 ?k5 ?kA ?kF ?kK ?k6 ?k7 ?k8 ?k9 ?kB ?_ ?c2 ?c3 ?c4 ?c5; (case kA => exact rfl); (case kF => exact rfl); (case kK => assumption); (case k1 => k_asm); (case k2 => k_asm); (case k3 => k_asm); (case k4 => k_asm); (case k5 => k_asm); (case k6 => k_is); (case k7 => k_is); (case k8 => k_room); (case k9 => first | exact BindsTo.of_eq rfl | exact binds_K (by k_in) rfl (by k_is) rfl rfl rfl); (case c5 => decide); (case kB => exact locs rfl); (case c2 => exact rfl); (case c3 => exact rfl); (case c4 => exact rfl); k_whole; intro g' L' h' FG' F' N' B' X' T'; (try dsimp only); (try k_fold))
  (replace F' : Fr g' L' h' (fun y => List.lookup y [("op", .str x u)]) := F')
  (refine at_toks ?_; intro tk0)
  (refine (let A9 : Around := _; let g9 : Array GenState := _; let d9 : Drawn := _; let o9 : OsState := _; (?_ : wpAny _ A9 _ _ _ ⟨_, g9, d9, _, o9⟩)))
  k_steps
  all_goals exact hret _ _ _ _ (by k_asm) (by k_asm) ⟨⟨_, rfl⟩, (by intro p9 hp9; repeat (first | exact hp9 | apply List.mem_cons_of_mem))⟩
theorem Ext.up {P : PA} {led led' : Led} (p : Sup led led') : Ext P led led' := ⟨.of p, fun _ _ m _ _ _ => p _ m⟩
theorem primary_c {w : World} {led : Led} {P : PA} {c : Nat} {i : Int} {t : TK} {nx : List TK} {dep : Int} {wi ne : Bool} (hc : Fig c) (S : PS led P (.num ⟨#[c]⟩ i) (t :: nx) dep wi ne) :
    Con 830 7500 w 356 [.ref P.x] led (fun r led' => VI led' r (.tuple [.str "num", .int i, .tuple [.int 32, .int ((c : Int) - 48), .int 0], .bool true, .bool false]) ∧ PS led' P t nx dep wi ne ∧ Ext P led led') := by
  have S' := S
  obtain ⟨tv, place, avs, vs, ahead, rest, S0, hcur, hah, hre, hnx, hle⟩ := S'
  cases hcur with
  | num g1 g2 g3 =>
    obtain ⟨hx, ⟨k, u4, u5, hb, hd⟩, -, -, -, -, -, -⟩ := S0
    try unfold Con
    intro zmean zmg zmb zgd zcn zcs za zccd zcl zouter zA zbase zh zL zm zs zQ zE zB zF X zN zT zhk hret
    revert X; k_fill; intro X
    refine wpAny_call ?_
    k_dflt (refine' code_def ?k1 ?k2 ?k3 ?k4 ?k5 ?kA ?kF ?kK ?k6 ?k7 ?k8 ?k9 ?kB ?_ ?c2 ?c3 ?c4 ?c5; (case kA => exact rfl); (case kF => exact rfl); (case kK => assumption); (case k1 => k_asm); (case k2 => k_asm); (case k3 => k_asm); (case k4 => k_asm); (case k5 => k_asm); (case k6 => k_is); (case k7 => k_is); (case k8 => k_room); (case k9 => first | exact BindsTo.of_eq rfl | exact binds_K (by k_in) rfl (by k_is) rfl rfl rfl); (case c5 => decide); (case kB => exact locs rfl); (case c2 => exact rfl); (case c3 => exact rfl); (case c4 => exact rfl); k_whole; intro g' L' h' FG' F' N' B' X' T'; (try dsimp only); (try k_fold))
    (replace F' : Fr g' L' h' (fun y => List.lookup y [("self", .ref P.x)]) := F')
    (refine at_toks ?_; intro tk0)
    (refine (let A9 : Around := _; let g9 : Array GenState := _; let d9 : Drawn := _; let o9 : OsState := _; (?_ : wpAny _ A9 _ _ _ ⟨_, g9, d9, _, o9⟩)))
    k_steps
    refine (let qk9 : Value → Shared → Prop := _; (?_ : wpAny _ _ _ qk9 _ _))
    first | ((with_reducible show wpAny _ _ (eval _ _) _ _ _); first | refine self_call (by assumption) (by k_asm) (by first | assumption | exact PS.cons (by assumption) | exact PS.cons (PS.cons (by assumption))) (by assumption) (by first | exact rfl | assumption) (by first | exact rfl | assumption) rfl rfl ⟨by k_is, by k_is, by k_is, by k_is, rfl⟩ rfl rfl ?_ | refine glob_call (by assumption) (by assumption) (by assumption) (by first | exact rfl | assumption) (by k_is) rfl rfl (by k_is) rfl ?_) | skip
    refine Con.use2 (Q := qk9) (numeral_c hc g3) (by assumption) (by assumption) (by assumption) (by k_asm) (by assumption) (by first | exact rfl | assumption) rfl rfl ?_
    intro r9 led9 h9 tk9 F9 N9 V1 p1
    have S1 := S.ups p1
    obtain ⟨qa, q1, q2, q3, qn, rfl, qm, W1, W2, W3⟩ := V1.inv3
    first | k_unfold | skip
    try clear qk9
    try dsimp only
    try k_fold
    cases W2.inv_bool
    cases W3.inv_bool
    refine (let G9 : Prop := _; (?_ : G9))
    refine PS.openedK S1 (fun tv1 td1 k1 u41 u51 hb1 kt1 u01 u21 val1 hx1 hd1 ht1 htd1 => ?_)
    first | k_unfold | skip
    try clear G9
    k_steps
    refine (let qk9 : Value → Shared → Prop := _; (?_ : wpAny _ _ _ qk9 _ _))
    first | ((with_reducible show wpAny _ _ (eval _ _) _ _ _); first | refine self_call (by assumption) (by k_asm) (by first | assumption | exact PS.cons (by assumption) | exact PS.cons (PS.cons (by assumption))) (by assumption) (by first | exact rfl | assumption) (by first | exact rfl | assumption) rfl rfl ⟨by k_is, by k_is, by k_is, by k_is, rfl⟩ rfl rfl ?_ | refine glob_call (by assumption) (by assumption) (by assumption) (by first | exact rfl | assumption) (by k_is) rfl rfl (by k_is) rfl ?_) | skip
    refine Con.useS (Q := qk9) (take_c S1) (by assumption) (by assumption) (by assumption) (by k_asm) (by assumption) (by first | exact rfl | assumption) rfl rfl ?_
    rintro r9 led9 h9 tk9 F9 N9 ⟨-, S2, E2⟩
    first | k_unfold | skip
    try clear qk9
    try dsimp only
    try k_fold
    k_steps
    have Wv : VI _ (Value.ref qa) (.tuple [.tuple [.int 32, .int ((c : Int) - 48), .int 0], .bool true, .bool false]) := V1.sub E2.frz
    exact hret _ _ _ _ (by k_asm) (by k_asm) ⟨.tup List.mem_cons_self (.cons (.str _ _) (.cons (.int _ _) (.cons ((W1.sub E2.frz).up fun p hp => List.mem_cons_of_mem _ hp) (.cons (.bool _) (.cons (.bool _) .nil))))), S2.cons, ((Ext.up p1).trans E2).cons⟩
theorem PS.fresh {led : Led} {P : PA} {cur : TK} {nx : List TK} {dep : Int} {wi ne : Bool} (S : PS led P cur nx dep wi ne) {D : Addr} (l : ∀ p ∈ led, p.1 < D) : @Ne Nat D P.dx ∧ @Ne Nat D P.sdx ∧ @Ne Nat D P.al := by
  obtain ⟨tv, place, avs, vs, ahead, rest, ⟨hx, ⟨k, u4, u5, hb, hd⟩, hs, ⟨k2, v1, pb, hsd⟩, ⟨n, ha⟩, ⟨n', hr⟩, hne, hl⟩, -⟩ := S
  exact ⟨fun e => Nat.lt_irrefl _ (e ▸ l _ hd), fun e => Nat.lt_irrefl _ (e ▸ l _ hsd), fun e => Nat.lt_irrefl _ (e ▸ l _ ha)⟩
theorem Ext.keep {P : PA} {led led' : Led} {D : Addr} {o : Obj} (E : Ext P led led') (h : (D, o) ∈ led) (n : @Ne Nat D P.dx ∧ @Ne Nat D P.sdx ∧ @Ne Nat D P.al) : (D, o) ∈ led' := E.oth D o h n.1 n.2.1 n.2.2
section
variable {prog : Program} {w : World} {A : Around} {E : Value → Shared → Prop} {s : Shared} {env : Env} {h₀ : Heap} {target : PySem.Expr} {body : List Stmt} {Q : Flow → Shared → Prop}
theorem iter_rev0 {ax I : Addr} {i : Int} {m₀ : PySem.Str → Option Value} {news : Led} (hi : i = -1) (hh : A.handled = none) (F : Fr h₀ env.locals s.heap m₀) (N : News h₀ env.locals s.heap ((I, revObj ax i) :: news)) (hoff : ∀ p ∈ news, p.1 ≠ I)
    (rest : ∀ h tk, Fr h₀ env.locals h m₀ → News h₀ env.locals h news → Q .next { s with heap := h, toks := tk }) :
    wpAny (model prog w) A (pyIter (.ref I)) (fun it s₂ => TurnsAt prog w A h₀ env target body Q E it s₂) E s := by
  subst hi
  have hI := N _ List.mem_cons_self
  have hit : s.heap.IsRevIter I ax (-1) := ⟨_, hI.1, rfl, rfl⟩
  refine wpAny_pyIter_revIter hit ?_
  have W : KTurns prog w A target I [I] [I] 0 (fun _ _ _ => False) (fun _ _ _ => False) (fun _ h => h.IsRevIter I ax (-1)) :=
    { sub := fun b hb => hb
      frame := fun _ _ _ x hk => x.at fun o e => hk I (by simp) o e
      item := fun i s Q E hi => absurd hi (Nat.not_lt_zero _)
      go := fun i v s Q E h => h.elim
      done := fun s Q E x hQ => wpAny_pyNext_rev_end hh x fun h' he' => hQ h' s.toks fun b o hb eo => he' b o (fun h => hb (by simp [h])) eo }
  refine ⟨I, _, _, 0, _, _, _, m₀, news, fun _ m n => m = m₀ ∧ n = news, rfl, W, ?_, ?_, ?_, hit, F, (fun p hp => N p (List.mem_cons_of_mem _ hp)), ⟨rfl, rfl⟩, ?_, ?_⟩
  · intro hm; exact hI.2.1 (List.mem_singleton.mp hm).symm
  · intro b hb; rw [List.mem_singleton.mp hb]; exact hI.2.2
  · intro p hp hI'; exact hoff p hp (List.mem_singleton.mp hI')
  · intro i v m₁ news₁ h₁ tk₁ own hlt; exact absurd hlt (Nat.not_lt_zero _)
  · rintro h' tk m' news' F' N' _ ⟨rfl, rfl⟩
    exact rest h' tk F' N'
end
local macro_rules | `(tactic| walk_at "call type:reversed") => `(tactic| (k_here; k_dflt (refine krv_reversed (vs := []) (by k_asm) (by k_asm) (News.isList (by k_asm) (by k_mem)) ?_); k_whole; intro D' h' F' N' l1; (try k_sweep)))
local macro_rules | `(tactic| walk_at "exec For Tuple Call cons nil") => `(tactic| (k_here; (rename Fr _ _ _ _ => lF'); (with_unfolding_all refine' For_turns lF' ?_; k_whole)))
theorem unary_c {w : World} {led : Led} {P : PA} {c : Nat} {i : Int} {t : TK} {nx : List TK} {dep : Int} {wi ne : Bool} (hc : Fig c) (S : PS led P (.num ⟨#[c]⟩ i) (t :: nx) dep wi ne) :
    Con 820 7400 w 349 [.ref P.x] led (fun r led' => VI led' r (.tuple [.str "num", .int i, .tuple [.int 32, .int ((c : Int) - 48), .int 0], .bool true, .bool false]) ∧ PS led' P t nx dep wi ne ∧ Ext P led led') := by
  refine PS.openedNK S (fun tv0 td0 qa0 k0 u40 u50 hb0 kt0 u00 u20 hx0 hd0 ht0 htd0 => ?_)
  try unfold Con
  intro zmean zmg zmb zgd zcn zcs za zccd zcl zouter zA zbase zh zL zm zs zQ zE zB zF X zN zT zhk hret
  revert X; k_fill; intro X
  refine wpAny_call ?_
  k_dflt (refine' code_def ?k1 ?k2 ?k3 ?k4 ?k5 ?kA ?kF ?kK ?k6 ?k7 ?k8 ?k9 ?kB ?_ ?c2 ?c3 ?c4 ?c5; (case kA => exact rfl); (case kF => exact rfl); (case kK => assumption); (case k1 => k_asm); (case k2 => k_asm); (case k3 => k_asm); (case k4 => k_asm); (case k5 => k_asm); (case k6 => k_is); (case k7 => k_is); (case k8 => k_room); (case k9 => first | exact BindsTo.of_eq rfl | exact binds_K (by k_in) rfl (by k_is) rfl rfl rfl); (case c5 => decide); (case kB => exact locs rfl); (case c2 => exact rfl); (case c3 => exact rfl); (case c4 => exact rfl); k_whole; intro g' L' h' FG' F' N' B' X' T'; (try dsimp only); (try k_fold))
  (replace F' : Fr g' L' h' (fun y => List.lookup y [("self", .ref P.x)]) := F')
  (refine at_toks ?_; intro tk0)
  (refine (let A9 : Around := _; let g9 : Array GenState := _; let d9 : Drawn := _; let o9 : OsState := _; (?_ : wpAny _ A9 _ _ _ ⟨_, g9, d9, _, o9⟩)))
  k_steps
  unfold Hold
  with_unfolding_all refine while_out ?_
  k_steps
  (rename ∀ p ∈ led, p.1 < _ => lD)
  refine (let qk9 : Value → Shared → Prop := _; (?_ : wpAny _ _ _ qk9 _ _))
  first | ((with_reducible show wpAny _ _ (eval _ _) _ _ _); first | refine self_call (by assumption) (by k_asm) (by first | assumption | exact PS.cons (by assumption) | exact PS.cons (PS.cons (by assumption))) (by assumption) (by first | exact rfl | assumption) (by first | exact rfl | assumption) rfl rfl ⟨by k_is, by k_is, by k_is, by k_is, rfl⟩ rfl rfl ?_ | refine glob_call (by assumption) (by assumption) (by assumption) (by first | exact rfl | assumption) (by k_is) rfl rfl (by k_is) rfl ?_) | skip
  refine Con.use3 (Q := qk9) (primary_c hc S.cons) (by assumption) (by assumption) (by assumption) (by k_asm) (by assumption) (by first | exact rfl | assumption) rfl rfl ?_
  intro r9 led9 h9 tk9 F9 N9 V1 S1 E1
  have hD9 := E1.keep List.mem_cons_self (S.fresh lD)
  first | k_unfold | skip
  try clear qk9
  try dsimp only
  try k_fold
  k_steps
  unfold Hold
  k_dflt (refine iter_rev0 (by exact rfl) (by exact rfl) (by k_asm) (by k_asm) (fun p hp => Nat.ne_of_lt (by first | (apply_assumption; exact hp) | (rename ∀ p ∈ _, p.1 < _ => lL9; exact lL9 p hp))) ?_)
  intro h' tk' F' N'
  k_steps
  exact hret _ _ _ _ (by k_asm) (by k_asm) ⟨V1, S1, (Ext.up fun p hp => List.mem_cons_of_mem _ hp).trans E1⟩
noncomputable abbrev figD (c : Nat) (i : Int) : Dat := .tuple [.str "num", .int i, .tuple [.int 32, .int ((c : Int) - 48), .int 0], .bool true, .bool false]
theorem binary_c {w : World} {led : Led} {P : PA} {c : Nat} {i j : Int} {x : PySem.Str} {nx : List TK} {dep : Int} {wi ne : Bool} {u : Tok} (hc : Fig c) (hx : Stop x) (h0 : 0 ≤ dep) (h1 : dep ≤ 20) (S : PS led P (.num ⟨#[c]⟩ i) (.w "op" x j :: nx) dep wi ne) :
    Con 810 7300 w 342 [.ref P.x, .int 1 u] led (fun r led' => VI led' r (figD c i) ∧ PS led' P (.w "op" x j) nx dep wi ne ∧ Ext P led led') := by
  refine PS.openedK S (fun tv0 td0 k0 u40 u50 hb0 kt0 u00 u20 val0 hx0 hd0 ht0 htd0 => ?_)
  try unfold Con
  intro zmean zmg zmb zgd zcn zcs za zccd zcl zouter zA zbase zh zL zm zs zQ zE zB zF X zN zT zhk hret
  revert X; k_fill; intro X
  refine wpAny_call ?_
  k_dflt (refine' code_def ?k1 ?k2 ?k3 ?k4 ?k5 ?kA ?kF ?kK ?k6 ?k7 ?k8 ?k9 ?kB ?_ ?c2 ?c3 ?c4 ?c5; (case kA => exact rfl); (case kF => exact rfl); (case kK => assumption); (case k1 => k_asm); (case k2 => k_asm); (case k3 => k_asm); (case k4 => k_asm); (case k5 => k_asm); (case k6 => k_is); (case k7 => k_is); (case k8 => k_room); (case k9 => first | exact BindsTo.of_eq rfl | exact binds_K (by k_in) rfl (by k_is) rfl rfl rfl); (case c5 => decide); (case kB => exact locs rfl); (case c2 => exact rfl); (case c3 => exact rfl); (case c4 => exact rfl); k_whole; intro g' L' h' FG' F' N' B' X' T'; (try dsimp only); (try k_fold))
  (replace F' : Fr g' L' h' (fun y => List.lookup y [("least", .int 1 u), ("self", .ref P.x)]) := F')
  (refine at_toks ?_; intro tk0)
  (refine (let A9 : Around := _; let g9 : Array GenState := _; let d9 : Drawn := _; let o9 : OsState := _; (?_ : wpAny _ A9 _ _ _ ⟨_, g9, d9, _, o9⟩)))
  k_steps
  refine (let qk9 : Value → Shared → Prop := _; (?_ : wpAny _ _ _ qk9 _ _))
  first | ((with_reducible show wpAny _ _ (eval _ _) _ _ _); first | refine self_call (by assumption) (by k_asm) (by first | assumption | exact PS.cons (by assumption) | exact PS.cons (PS.cons (by assumption))) (by assumption) (by first | exact rfl | assumption) (by first | exact rfl | assumption) rfl rfl ⟨by k_is, by k_is, by k_is, by k_is, rfl⟩ rfl rfl ?_ | refine glob_call (by assumption) (by assumption) (by assumption) (by first | exact rfl | assumption) (by k_is) rfl rfl (by k_is) rfl ?_) | skip
  refine Con.useV (Q := qk9) (enter_c S h0 h1) (by assumption) (by assumption) (by assumption) (by k_asm) (by assumption) (by first | exact rfl | assumption) rfl rfl ?_
  intro led9 h9 tk9 F9 N9 S1 E1
  refine PS.openedK S1 (fun tv1 td1 k1 u41 u51 hb1 kt1 u01 u21 val1 hx1 hd1 ht1 htd1 => ?_)
  try clear hx0 hd0 ht0 htd0
  first | k_unfold | skip
  try clear qk9
  try dsimp only
  try k_fold
  k_steps
  refine (let qk9 : Value → Shared → Prop := _; (?_ : wpAny _ _ _ qk9 _ _))
  first | ((with_reducible show wpAny _ _ (eval _ _) _ _ _); first | refine self_call (by assumption) (by k_asm) (by first | assumption | exact PS.cons (by assumption) | exact PS.cons (PS.cons (by assumption))) (by assumption) (by first | exact rfl | assumption) (by first | exact rfl | assumption) rfl rfl ⟨by k_is, by k_is, by k_is, by k_is, rfl⟩ rfl rfl ?_ | refine glob_call (by assumption) (by assumption) (by assumption) (by first | exact rfl | assumption) (by k_is) rfl rfl (by k_is) rfl ?_) | skip
  refine Con.use3 (Q := qk9) (unary_c hc S1) (by assumption) (by assumption) (by assumption) (by k_asm) (by assumption) (by first | exact rfl | assumption) rfl rfl ?_
  intro r9 led9 h9 tk9 F9 N9 V2 S2 E2
  refine PS.openedWK S2 (fun tv2 td2 k2 u42 u52 hb2 kt2 u02 u12 u22 hx2 hd2 ht2 htd2 => ?_)
  try clear hx0 hd0 ht0 htd0
  try clear hx1 hd1 ht1 htd1
  first | k_unfold | skip
  try clear qk9
  try dsimp only
  try k_fold
  k_steps
  unfold Hold
  with_unfolding_all refine while_out ?_
  k_steps
  refine (let qk9 : Value → Shared → Prop := _; (?_ : wpAny _ _ _ qk9 _ _))
  first | ((with_reducible show wpAny _ _ (eval _ _) _ _ _); first | refine self_call (by assumption) (by k_asm) (by first | assumption | exact PS.cons (by assumption) | exact PS.cons (PS.cons (by assumption))) (by assumption) (by first | exact rfl | assumption) (by first | exact rfl | assumption) rfl rfl ⟨by k_is, by k_is, by k_is, by k_is, rfl⟩ rfl rfl ?_ | refine glob_call (by assumption) (by assumption) (by assumption) (by first | exact rfl | assumption) (by k_is) rfl rfl (by k_is) rfl ?_) | skip
  refine Con.useS (Q := qk9) (precedence_c hx) (by assumption) (by assumption) (by assumption) (by k_asm) (by assumption) (by first | exact rfl | assumption) rfl rfl ?_
  rintro r9 led9 h9 tk9 F9 N9 ⟨⟨u9, rfl⟩, p3⟩
  have S3 := S2.ups p3
  refine PS.openedWK S3 (fun tv3 td3 k3 u43 u53 hb3 kt3 u03 u13 u23 hx3 hd3 ht3 htd3 => ?_)
  try clear hx0 hd0 ht0 htd0
  try clear hx1 hd1 ht1 htd1
  try clear hx2 hd2 ht2 htd2
  first | k_unfold | skip
  try clear qk9
  try dsimp only
  try k_fold
  k_steps
  refine (let qk9 : Value → Shared → Prop := _; (?_ : wpAny _ _ _ qk9 _ _))
  first | ((with_reducible show wpAny _ _ (eval _ _) _ _ _); first | refine self_call (by assumption) (by k_asm) (by first | assumption | exact PS.cons (by assumption) | exact PS.cons (PS.cons (by assumption))) (by assumption) (by first | exact rfl | assumption) (by first | exact rfl | assumption) rfl rfl ⟨by k_is, by k_is, by k_is, by k_is, rfl⟩ rfl rfl ?_ | refine glob_call (by assumption) (by assumption) (by assumption) (by first | exact rfl | assumption) (by k_is) rfl rfl (by k_is) rfl ?_) | skip
  refine Con.useV (Q := qk9) (leave_c S3 (by omega) (by omega)) (by assumption) (by assumption) (by assumption) (by k_asm) (by assumption) (by first | exact rfl | assumption) rfl rfl ?_
  intro led9 h9 tk9 F9 N9 S4 E4
  first | k_unfold | skip
  try clear qk9
  try dsimp only
  try k_fold
  k_steps
  rw [Int.add_sub_cancel] at S4
  exact hret _ _ _ _ (by k_asm) (by k_asm) ⟨(V2.up p3).sub E4.frz, S4, ((E1.trans E2).trans (Ext.up p3)).trans E4⟩
theorem Stop.noq {x : PySem.Str} (h : Stop x) {j : Int} : (TK.w "op" x j).isW "op" "?" = false := by
  have e : (x == "?") = false := by cases h <;> decide +kernel
  show (PySem.Str.ofString "op" == "op" && x == "?") = false
  rw [e, Bool.and_false]
theorem inner_c {w : World} {led : Led} {P : PA} {c : Nat} {i j : Int} {x : PySem.Str} {nx : List TK} {dep : Int} {wi ne : Bool} (hc : Fig c) (hx : Stop x) (h0 : 0 ≤ dep) (h1 : dep ≤ 20) (S : PS led P (.num ⟨#[c]⟩ i) (.w "op" x j :: nx) dep wi ne) :
    Con 800 7200 w 335 [.ref P.x] led (fun r led' => VI led' r (figD c i) ∧ PS led' P (.w "op" x j) nx dep wi ne ∧ Ext P led led') := by
  refine PS.openedK S (fun tv0 td0 k0 u40 u50 hb0 kt0 u00 u20 val0 hx0 hd0 ht0 htd0 => ?_)
  try unfold Con
  intro zmean zmg zmb zgd zcn zcs za zccd zcl zouter zA zbase zh zL zm zs zQ zE zB zF X zN zT zhk hret
  revert X; k_fill; intro X
  refine wpAny_call ?_
  k_dflt (refine' code_def ?k1 ?k2 ?k3 ?k4 ?k5 ?kA ?kF ?kK ?k6 ?k7 ?k8 ?k9 ?kB ?_ ?c2 ?c3 ?c4 ?c5; (case kA => exact rfl); (case kF => exact rfl); (case kK => assumption); (case k1 => k_asm); (case k2 => k_asm); (case k3 => k_asm); (case k4 => k_asm); (case k5 => k_asm); (case k6 => k_is); (case k7 => k_is); (case k8 => k_room); (case k9 => first | exact BindsTo.of_eq rfl | exact binds_K (by k_in) rfl (by k_is) rfl rfl rfl); (case c5 => decide); (case kB => exact locs rfl); (case c2 => exact rfl); (case c3 => exact rfl); (case c4 => exact rfl); k_whole; intro g' L' h' FG' F' N' B' X' T'; (try dsimp only); (try k_fold))
  (replace F' : Fr g' L' h' (fun y => List.lookup y [("self", .ref P.x)]) := F')
  (refine at_toks ?_; intro tk0)
  (refine (let A9 : Around := _; let g9 : Array GenState := _; let d9 : Drawn := _; let o9 : OsState := _; (?_ : wpAny _ A9 _ _ _ ⟨_, g9, d9, _, o9⟩)))
  k_steps
  (rename ∀ p ∈ led, p.1 < _ => lD)
  refine (let qk9 : Value → Shared → Prop := _; (?_ : wpAny _ _ _ qk9 _ _))
  first | ((with_reducible show wpAny _ _ (eval _ _) _ _ _); first | refine self_call (by assumption) (by k_asm) (by first | assumption | exact PS.cons (by assumption) | exact PS.cons (PS.cons (by assumption))) (by assumption) (by first | exact rfl | assumption) (by first | exact rfl | assumption) rfl rfl ⟨by k_is, by k_is, by k_is, by k_is, rfl⟩ rfl rfl ?_ | refine glob_call (by assumption) (by assumption) (by assumption) (by first | exact rfl | assumption) (by k_is) rfl rfl (by k_is) rfl ?_) | skip
  refine Con.use3 (Q := qk9) (binary_c hc hx h0 h1 S.cons) (by assumption) (by assumption) (by assumption) (by k_asm) (by assumption) (by first | exact rfl | assumption) rfl rfl ?_
  intro r9 led9 h9 tk9 F9 N9 V1 S1 E1
  have hD9 := E1.keep List.mem_cons_self (S.fresh lD)
  refine PS.openedWK S1 (fun tv1 td1 k1 u41 u51 hb1 kt1 u01 u11 u21 hx1 hd1 ht1 htd1 => ?_)
  try clear hx0 hd0 ht0 htd0
  first | k_unfold | skip
  try clear qk9
  try dsimp only
  try k_fold
  k_steps
  unfold Hold
  with_unfolding_all refine while_out ?_
  k_steps
  refine (let qk9 : Value → Shared → Prop := _; (?_ : wpAny _ _ _ qk9 _ _))
  first | ((with_reducible show wpAny _ _ (eval _ _) _ _ _); first | refine self_call (by assumption) (by k_asm) (by first | assumption | exact PS.cons (by assumption) | exact PS.cons (PS.cons (by assumption))) (by assumption) (by first | exact rfl | assumption) (by first | exact rfl | assumption) rfl rfl ⟨by k_is, by k_is, by k_is, by k_is, rfl⟩ rfl rfl ?_ | refine glob_call (by assumption) (by assumption) (by assumption) (by first | exact rfl | assumption) (by k_is) rfl rfl (by k_is) rfl ?_) | skip
  refine Con.useVL (Q := qk9) (is_op_f S1 hx.noq) (by assumption) (by assumption) (by assumption) (by k_asm) (by assumption) (by first | exact rfl | assumption) rfl rfl ?_
  intro h9 tk9 F9 N9
  first | k_unfold | skip
  try clear qk9
  try dsimp only
  try k_fold
  k_steps
  unfold Hold
  k_dflt (refine iter_rev0 (by exact rfl) (by exact rfl) (by k_asm) (by k_asm) (fun p hp => Nat.ne_of_lt (by first | (apply_assumption; exact hp) | (rename ∀ p ∈ _, p.1 < _ => lL9; exact lL9 p hp))) ?_)
  intro h' tk' F' N'
  k_steps
  exact hret _ _ _ _ (by k_asm) (by k_asm) ⟨V1, S1, (Ext.up fun p hp => List.mem_cons_of_mem _ hp).trans E1⟩
end
section
local macro_rules | `(tactic| walk_at "exec For Name Call cons nil") => `(tactic| (k_here; (rename Fr _ _ _ _ => lF'); (with_unfolding_all refine' For_invVF lF' ?k1 ?k2 ?_; (case k1 => exact rfl); (case k2 => exact rfl); k_whole)))
theorem isin_b : bootBuiltins "isinstance" = some (.builtin "isinstance") := by kernel_rfl
theorem tup_b : bootBuiltins "tuple" = some (.type "tuple") := by kernel_rfl
theorem news_cl {h₀ h : Heap} {L : Addr} {led : Led} {a : Addr} {vs : List Value} {n : Nat} (N : News h₀ L h led) (m : (a, tupObj vs n) ∈ led) : Cl h (.ref a) := ⟨_, _, (N _ m).1, rfl, _, rfl⟩
theorem cl_nil {h : Heap} : ∀ v ∈ ([] : List Value), Cl h v := fun _ m => nomatch m
theorem cl_cons {h : Heap} {v : Value} {vs : List Value} (a : Cl h v) (b : ∀ u ∈ vs, Cl h u) : ∀ u ∈ v :: vs, Cl h u := fun u m => by
  rcases List.mem_cons.mp m with rfl | m
  · exact a
  · exact b u m
theorem unr_high {h₀ : Heap} {L I D : Addr} {it o1 : Obj} {p2 : Addr × Obj} {rest : (PySem.Str → Option Value) → List (Addr × Obj) → Prop} {s₁ : Shared} {h' : Heap} {tk : Nat} {m' : PySem.Str → Option Value} {led : Led} (F : Fr h₀ L h' m') (N : News h₀ L h' ((D, o1) :: (I, it) :: p2 :: led))
    (lD : ∀ p ∈ (I, it) :: p2 :: led, p.1 < D) (lI : ∀ p ∈ p2 :: led, p.1 < I) (r : rest m' ((D, o1) :: led)) : UnrEnd h₀ L s₁ I it rest { s₁ with heap := h', toks := tk } := by
  refine UnrEnd.intro F N ((D, o1) :: led) (fun p hp => ?_) (fun p hp => ?_) r
  · rcases List.mem_cons.mp hp with rfl | hp
    · exact List.mem_cons_of_mem _ List.mem_cons_self
    · rcases List.mem_cons.mp hp with rfl | hp
      · exact List.mem_cons_self
      · exact List.mem_cons_of_mem _ (List.mem_cons_of_mem _ (List.mem_cons_of_mem _ hp))
  · rcases List.mem_cons.mp hp with rfl | hp
    · exact Nat.ne_of_gt (lD (I, it) List.mem_cons_self)
    · exact Nat.ne_of_lt (lI p (List.mem_cons_of_mem _ hp))
theorem high_two {w : World} {led : Led} {a b : Addr} {n n' : Nat} {xs ys : List Value} (h1 : (a, tupObj xs n) ∈ led) (h2 : (b, tupObj ys n') ∈ led) (f1 : xs.filter isT = [.ref b]) (f2 : ys.filter isT = []) (k1 : ∀ h, Cl h (.ref b) → ∀ v ∈ xs, Cl h v) (k2 : ∀ h, ∀ v ∈ ys, Cl h v) (l1 : xs.length ≤ 1000) (l2 : ys.length ≤ 1000) :
    Con 860 7700 w 293 [.ref a] led (fun r led' => r = .bool false ∧ Sup led led') := by
  try unfold Con
  intro zmean zmg zmb zgd zcn zcs za zccd zcl zouter zA zbase zh zL zm zs zQ zE zB zF X zN zT zhk hret
  revert X; k_fill; intro X
  refine wpAny_call ?_
  k_dflt (refine' code_def ?k1 ?k2 ?k3 ?k4 ?k5 ?kA ?kF ?kK ?k6 ?k7 ?k8 ?k9 ?kB ?_ ?c2 ?c3 ?c4 ?c5; (case kA => exact rfl); (case kF => exact rfl); (case kK => assumption); (case k1 => k_asm); (case k2 => k_asm); (case k3 => k_asm); (case k4 => k_asm); (case k5 => k_asm); (case k6 => k_is); (case k7 => k_is); (case k8 => k_room); (case k9 => first | exact BindsTo.of_eq rfl | exact binds_K (by k_in) rfl (by k_is) rfl rfl rfl); (case c5 => decide); (case kB => exact locs rfl); (case c2 => exact rfl); (case c3 => exact rfl); (case c4 => exact rfl); k_whole; intro g' L' h' FG' F' N' B' X' T'; (try dsimp only); (try k_fold))
  (replace F' : Fr g' L' h' (fun y => List.lookup y [("term", .ref a)]) := F')
  (refine at_toks ?_; intro tk0)
  (refine (let A9 : Around := _; let g9 : Array GenState := _; let d9 : Drawn := _; let o9 : OsState := _; (?_ : wpAny _ A9 _ _ _ ⟨_, g9, d9, _, o9⟩)))
  k_steps
  unfold Hold
  (rename Fr _ _ _ _ => lF'); (rename News _ _ _ _ => lN'); (rename IsRange _ _ _ _ _ _ _ _ => lR')
  (with_unfolding_all refine iter_rangeUnr (n := 200) (by rfl) lR' (by decide) (by decide) lF' lN' ?_)
  intro i' l1'
  k_steps
  k_dflt (refine' assign_two ?hh ?F ?N ?hml ?hl ?ha ?hit ?hlen ?hk ?hy ?hdy ?hd0 ?hd1 ?hsw ?hcl ?hcell ?hsk ?hnames ?hx ?hG ?hB ?g1 ?g2 ?b1 ?b2 ?_; (case hh => exact rfl); (case F => k_asm); (case N => k_asm); (case hml => exact rfl); (case hl => k_mem); (case ha => k_mem); (case hit => exact k1 _ (news_cl (by k_asm) (by k_mem))); (case hlen => exact l1); (case hk => exact rfl); (case hy => exact rfl); (case hdy => decide); (case hd0 => decide); (case hd1 => decide); (case hsw => exact rfl); (case hcl => exact rfl); (case hcell => decide); (case hsk => exact rfl); (case hnames => decide); (case hx => intro C; exact ⟨rfl, rfl, rfl, rfl⟩); (case hG => exact Top.g (by k_asm)); (case hB => exact Top.b (by k_asm)); (case g1 => exact mg_none_of (by k_asm) (Top.g (by k_asm)) (by k_is)); (case g2 => exact mg_none_of (by k_asm) (Top.g (by k_asm)) (by k_is)); (case b1 => exact (Top.builtins (by k_asm) _ (by decide)).trans isin_b); (case b2 => exact (Top.builtins (by k_asm) _ (by decide)).trans tup_b))
  intro D' h' tk' ep' F' N' l1'
  rw [f1] at N'
  (try k_sweep)
  k_steps
  refine unr_high (by assumption) (by assumption) (by assumption) (by assumption) ?_
  k_steps
  k_dflt (refine' assign_two ?hh ?F ?N ?hml ?hl ?ha ?hit ?hlen ?hk ?hy ?hdy ?hd0 ?hd1 ?hsw ?hcl ?hcell ?hsk ?hnames ?hx ?hG ?hB ?g1 ?g2 ?b1 ?b2 ?_; (case hh => exact rfl); (case F => k_asm); (case N => k_asm); (case hml => exact rfl); (case hl => k_mem); (case ha => k_mem); (case hit => exact k2 _); (case hlen => exact l2); (case hk => exact rfl); (case hy => exact rfl); (case hdy => decide); (case hd0 => decide); (case hd1 => decide); (case hsw => exact rfl); (case hcl => exact rfl); (case hcell => decide); (case hsk => exact rfl); (case hnames => decide); (case hx => intro C; exact ⟨rfl, rfl, rfl, rfl⟩); (case hG => exact Top.g (by k_asm)); (case hB => exact Top.b (by k_asm)); (case g1 => exact mg_none_of (by k_asm) (Top.g (by k_asm)) (by k_is)); (case g2 => exact mg_none_of (by k_asm) (Top.g (by k_asm)) (by k_is)); (case b1 => exact (Top.builtins (by k_asm) _ (by decide)).trans isin_b); (case b2 => exact (Top.builtins (by k_asm) _ (by decide)).trans tup_b))
  intro D2 h2' tk2 ep2 F2 N2 l2'
  rw [f2] at N2
  (try k_sweep)
  k_steps
  exact hret _ _ _ _ (by k_asm) (by k_asm) ⟨rfl, (by intro p9 hp9; repeat (first | exact hp9 | apply List.mem_cons_of_mem))⟩
theorem high_fig {w : World} {led : Led} {a b : Addr} {n n' : Nat} {u1 u2 t1 t2 t3 : Tok} {x : PySem.Str} {i i1 i2 i3 : Int} (h1 : (a, tupObj [.str x u1, .int i u2, .ref b, .bool true, .bool false] n) ∈ led) (h2 : (b, tupObj [.int i1 t1, .int i2 t2, .int i3 t3] n') ∈ led) :
    Con 860 7700 w 293 [.ref a] led (fun r led' => r = .bool false ∧ Sup led led') :=
  high_two h1 h2 rfl rfl (fun _ c => cl_cons True.intro (cl_cons True.intro (cl_cons c (cl_cons True.intro (cl_cons True.intro cl_nil))))) (fun _ => cl_cons True.intro (cl_cons True.intro (cl_cons True.intro cl_nil))) (Nat.le_of_ble_eq_true rfl) (Nat.le_of_ble_eq_true rfl)
end
theorem VI.inv_fig {led : Led} {v : Value} {c : Nat} {i : Int} (h : VI led v (figD c i)) : ∃ a b n n' u1 u2 t1 t2 t3, v = .ref a ∧ (a, tupObj [.str "num" u1, .int i u2, .ref b, .bool true, .bool false] n) ∈ led ∧ (b, tupObj [.int 32 t1, .int ((c : Int) - 48) t2, .int 0 t3] n') ∈ led := by
  obtain ⟨a, vs, n, rfl, m, r⟩ := h.inv_tup
  obtain ⟨v1, r1, rfl, h1, r⟩ := r.inv_cons
  obtain ⟨v2, r2, rfl, h2, r⟩ := r.inv_cons
  obtain ⟨v3, r3, rfl, h3, r⟩ := r.inv_cons
  obtain ⟨v4, r4, rfl, h4, r⟩ := r.inv_cons
  obtain ⟨v5, r5, rfl, h5, r⟩ := r.inv_cons
  cases r.inv_nil
  obtain ⟨u1, rfl⟩ := h1.inv_str
  obtain ⟨u2, rfl⟩ := h2.inv_int
  cases h4.inv_bool
  cases h5.inv_bool
  obtain ⟨b, w1, w2, w3, n', rfl, mb, g1, g2, g3⟩ := h3.inv3
  obtain ⟨t1, rfl⟩ := g1.inv_int
  obtain ⟨t2, rfl⟩ := g2.inv_int
  obtain ⟨t3, rfl⟩ := g3.inv_int
  exact ⟨a, b, n, n', u1, u2, t1, t2, t3, rfl, m, mb⟩
theorem expression_c {w : World} {led : Led} {P : PA} {c : Nat} {i j : Int} {x : PySem.Str} {nx : List TK} {dep : Int} {ne : Bool} (hc : Fig c) (hx : Stop x) (h0 : 0 ≤ dep) (h1 : dep ≤ 20) (S : PS led P (.num ⟨#[c]⟩ i) (.w "op" x j :: nx) dep false ne) :
    Con 790 7100 w 328 [.ref P.x] led (fun r led' => VI led' r (figD c i) ∧ PS led' P (.w "op" x j) nx dep false ne ∧ Ext P led led') := by
  refine Con.news fun hh h hL N => ?_
  obtain ⟨tv, place, avs, vs, ahead, rest, S0, hcur, hah, hre, hnx, hle⟩ := S
  have H := S0.sep N
  have S' := S0
  obtain ⟨hxx, ⟨k, u4, u5, hb, hd⟩, -, -, -, -, -, -⟩ := S'
  obtain ⟨d1, -, -, -, -, -, -, -, -, -, -, -⟩ := H.d
  have SE := S0.put H k u4 u5 hb tv (TK.num ⟨#[c]⟩ i).pos dep true ne
  have S1 : PS _ P (.num ⟨#[c]⟩ i) (.w "op" x j :: nx) dep true ne := ⟨tv, place, avs, vs, ahead, rest, SE.1, hcur.sub SE.2.frz, hah.sub SE.2.frz, hre.sub SE.2.frz, hnx, hle⟩
  clear N
  try unfold Con
  intro zmean zmg zmb zgd zcn zcs za zccd zcl zouter zA zbase zh zL zm zs zQ zE zB zF X zN zT zhk hret
  revert X; k_fill; intro X
  refine wpAny_call ?_
  k_dflt (refine' code_def ?k1 ?k2 ?k3 ?k4 ?k5 ?kA ?kF ?kK ?k6 ?k7 ?k8 ?k9 ?kB ?_ ?c2 ?c3 ?c4 ?c5; (case kA => exact rfl); (case kF => exact rfl); (case kK => assumption); (case k1 => k_asm); (case k2 => k_asm); (case k3 => k_asm); (case k4 => k_asm); (case k5 => k_asm); (case k6 => k_is); (case k7 => k_is); (case k8 => k_room); (case k9 => first | exact BindsTo.of_eq rfl | exact binds_K (by k_in) rfl (by k_is) rfl rfl rfl); (case c5 => decide); (case kB => exact locs rfl); (case c2 => exact rfl); (case c3 => exact rfl); (case c4 => exact rfl); k_whole; intro g' L' h' FG' F' N' B' X' T'; (try dsimp only); (try k_fold))
  (replace F' : Fr g' L' h' (fun y => List.lookup y [("self", .ref P.x)]) := F')
  (refine at_toks ?_; intro tk0)
  (refine (let A9 : Around := _; let g9 : Array GenState := _; let d9 : Drawn := _; let o9 : OsState := _; (?_ : wpAny _ A9 _ _ _ ⟨_, g9, d9, _, o9⟩)))
  k_steps
  refine (let qk9 : Value → Shared → Prop := _; (?_ : wpAny _ _ _ qk9 _ _))
  first | ((with_reducible show wpAny _ _ (eval _ _) _ _ _); first | refine self_call (by assumption) (by k_asm) (by first | assumption | exact PS.cons (by assumption) | exact PS.cons (PS.cons (by assumption))) (by assumption) (by first | exact rfl | assumption) (by first | exact rfl | assumption) rfl rfl ⟨by k_is, by k_is, by k_is, by k_is, rfl⟩ rfl rfl ?_ | refine glob_call (by assumption) (by assumption) (by assumption) (by first | exact rfl | assumption) (by k_is) rfl rfl (by k_is) rfl ?_) | skip
  refine Con.use3 (Q := qk9) (inner_c hc hx h0 h1 S1) (by assumption) (by assumption) (by assumption) (by k_asm) (by assumption) (by first | exact rfl | assumption) rfl rfl ?_
  intro r9 led9 h9 tk9 F9 N9 V2 S2 E2
  obtain ⟨tw, place2, avs2, vs2, ahead2, rest2, S20, hcur2, hah2, hre2, hnx2, hle2⟩ := S2
  have H2 := S20.sep N9
  have S2' := S20
  obtain ⟨hx2, ⟨k2, u42, u52, hb2, hd2⟩, -, -, -, -, -, -⟩ := S2'
  obtain ⟨d2, -, -, -, -, -, -, -, -, -, -, -⟩ := H2.d
  have SE2 := S20.put H2 k2 u42 u52 hb2 tw (TK.w "op" x j).pos dep false ne
  have S3 : PS _ P (.w "op" x j) nx dep false ne := ⟨tw, place2, avs2, vs2, ahead2, rest2, SE2.1, hcur2.sub SE2.2.frz, hah2.sub SE2.2.frz, hre2.sub SE2.2.frz, hnx2, hle2⟩
  have V3 := V2.sub SE2.2.frz
  obtain ⟨a, b, n, n', ua, ub, t1, t2, t3, rfl, m1, m2⟩ := V3.inv_fig
  first | k_unfold | skip
  try clear qk9
  try dsimp only
  try k_fold
  k_steps
  refine (let qk9 : Value → Shared → Prop := _; (?_ : wpAny _ _ _ qk9 _ _))
  first | ((with_reducible show wpAny _ _ (eval _ _) _ _ _); first | refine self_call (by assumption) (by k_asm) (by first | assumption | exact PS.cons (by assumption) | exact PS.cons (PS.cons (by assumption))) (by assumption) (by first | exact rfl | assumption) (by first | exact rfl | assumption) rfl rfl ⟨by k_is, by k_is, by k_is, by k_is, rfl⟩ rfl rfl ?_ | refine glob_call (by assumption) (by assumption) (by assumption) (by first | exact rfl | assumption) (by k_is) rfl rfl (by k_is) rfl ?_) | skip
  refine Con.useS (Q := qk9) (high_fig m1 m2) (by assumption) (by assumption) (by assumption) (by k_asm) (by assumption) (by first | exact rfl | assumption) rfl rfl ?_
  rintro r9 led9 h9 tk9 F9 N9 ⟨rfl, p4⟩
  first | k_unfold | skip
  try clear qk9
  try dsimp only
  try k_fold
  k_steps
  exact hret _ _ _ _ (by k_asm) (by k_asm) ⟨V3.up p4, S3.ups p4, ((SE.2.trans E2).trans SE2.2).trans (Ext.up p4)⟩
theorem isW_ne {x y : PySem.Str} {j : Int} (e : (x == y) = false) : (TK.w "op" x j).isW "op" y = false := by
  show (PySem.Str.ofString "op" == "op" && x == y) = false
  rw [e, Bool.and_false]
theorem isW_eq {x : PySem.Str} {j : Int} : (TK.w "op" x j).isW "op" x = true := by
  show (PySem.Str.ofString "op" == "op" && x == x) = true
  rw [show (PySem.Str.ofString "op" == "op") = true by decide +kernel, Bool.true_and]
  exact beq_self_eq_true x
theorem range_none {w : World} {led : Led} {P : PA} {cur : TK} {nx : List TK} {dep : Int} {wi ne : Bool} (S : PS led P cur nx dep wi ne) (h : cur.isW "op" "[" = false) :
    Con 770 6900 w 447 [.ref P.x] led (fun r led' => r = .none ∧ led' = led) := by
  try unfold Con
  intro zmean zmg zmb zgd zcn zcs za zccd zcl zouter zA zbase zh zL zm zs zQ zE zB zF X zN zT zhk hret
  revert X; k_fill; intro X
  refine wpAny_call ?_
  k_dflt (refine' code_def ?k1 ?k2 ?k3 ?k4 ?k5 ?kA ?kF ?kK ?k6 ?k7 ?k8 ?k9 ?kB ?_ ?c2 ?c3 ?c4 ?c5; (case kA => exact rfl); (case kF => exact rfl); (case kK => assumption); (case k1 => k_asm); (case k2 => k_asm); (case k3 => k_asm); (case k4 => k_asm); (case k5 => k_asm); (case k6 => k_is); (case k7 => k_is); (case k8 => k_room); (case k9 => first | exact BindsTo.of_eq rfl | exact binds_K (by k_in) rfl (by k_is) rfl rfl rfl); (case c5 => decide); (case kB => exact locs rfl); (case c2 => exact rfl); (case c3 => exact rfl); (case c4 => exact rfl); k_whole; intro g' L' h' FG' F' N' B' X' T'; (try dsimp only); (try k_fold))
  (replace F' : Fr g' L' h' (fun y => List.lookup y [("self", .ref P.x)]) := F')
  (refine at_toks ?_; intro tk0)
  (refine (let A9 : Around := _; let g9 : Array GenState := _; let d9 : Drawn := _; let o9 : OsState := _; (?_ : wpAny _ A9 _ _ _ ⟨_, g9, d9, _, o9⟩)))
  k_steps
  refine (let qk9 : Value → Shared → Prop := _; (?_ : wpAny _ _ _ qk9 _ _))
  first | ((with_reducible show wpAny _ _ (eval _ _) _ _ _); first | refine self_call (by assumption) (by k_asm) (by first | assumption | exact PS.cons (by assumption) | exact PS.cons (PS.cons (by assumption))) (by assumption) (by first | exact rfl | assumption) (by first | exact rfl | assumption) rfl rfl ⟨by k_is, by k_is, by k_is, by k_is, rfl⟩ rfl rfl ?_ | refine glob_call (by assumption) (by assumption) (by assumption) (by first | exact rfl | assumption) (by k_is) rfl rfl (by k_is) rfl ?_) | skip
  refine Con.useVL (Q := qk9) (accept_op_f S h) (by assumption) (by assumption) (by assumption) (by k_asm) (by assumption) (by first | exact rfl | assumption) rfl rfl ?_
  intro h9 tk9 F9 N9
  first | k_unfold | skip
  try clear qk9
  try dsimp only
  try k_fold
  k_steps
  exact hret _ _ _ _ (by k_asm) (by k_asm) ⟨rfl, rfl⟩
noncomputable abbrev rangeT (c1 c2 : Nat) (j0 i1 j1 i2 j2 : Int) : List TK := [.w "op" "[" j0, .num ⟨#[c1]⟩ i1, .w "op" ":" j1, .num ⟨#[c2]⟩ i2, .w "op" "]" j2]
theorem range_some {w : World} {led : Led} {P : PA} {c1 c2 : Nat} {j0 i1 j1 i2 j2 : Int} {t : TK} {nx : List TK} {dep : Int} {ne : Bool} (hc1 : Fig c1) (hc2 : Fig c2) (h0 : 0 ≤ dep) (h1 : dep ≤ 20)
    (S : PS led P (.w "op" "[" j0) (.num ⟨#[c1]⟩ i1 :: .w "op" ":" j1 :: .num ⟨#[c2]⟩ i2 :: .w "op" "]" j2 :: t :: nx) dep false ne) :
    Con 770 6900 w 447 [.ref P.x] led (fun r led' => VI led' r (.tuple [figD c1 i1, figD c2 i2]) ∧ PS led' P t nx dep false ne ∧ Ext P led led') := by
  try unfold Con
  intro zmean zmg zmb zgd zcn zcs za zccd zcl zouter zA zbase zh zL zm zs zQ zE zB zF X zN zT zhk hret
  revert X; k_fill; intro X
  refine wpAny_call ?_
  k_dflt (refine' code_def ?k1 ?k2 ?k3 ?k4 ?k5 ?kA ?kF ?kK ?k6 ?k7 ?k8 ?k9 ?kB ?_ ?c2 ?c3 ?c4 ?c5; (case kA => exact rfl); (case kF => exact rfl); (case kK => assumption); (case k1 => k_asm); (case k2 => k_asm); (case k3 => k_asm); (case k4 => k_asm); (case k5 => k_asm); (case k6 => k_is); (case k7 => k_is); (case k8 => k_room); (case k9 => first | exact BindsTo.of_eq rfl | exact binds_K (by k_in) rfl (by k_is) rfl rfl rfl); (case c5 => decide); (case kB => exact locs rfl); (case c2 => exact rfl); (case c3 => exact rfl); (case c4 => exact rfl); k_whole; intro g' L' h' FG' F' N' B' X' T'; (try dsimp only); (try k_fold))
  (replace F' : Fr g' L' h' (fun y => List.lookup y [("self", .ref P.x)]) := F')
  (refine at_toks ?_; intro tk0)
  (refine (let A9 : Around := _; let g9 : Array GenState := _; let d9 : Drawn := _; let o9 : OsState := _; (?_ : wpAny _ A9 _ _ _ ⟨_, g9, d9, _, o9⟩)))
  k_steps
  refine (let qk9 : Value → Shared → Prop := _; (?_ : wpAny _ _ _ qk9 _ _))
  first | ((with_reducible show wpAny _ _ (eval _ _) _ _ _); first | refine self_call (by assumption) (by k_asm) (by first | assumption | exact PS.cons (by assumption) | exact PS.cons (PS.cons (by assumption))) (by assumption) (by first | exact rfl | assumption) (by first | exact rfl | assumption) rfl rfl ⟨by k_is, by k_is, by k_is, by k_is, rfl⟩ rfl rfl ?_ | refine glob_call (by assumption) (by assumption) (by assumption) (by first | exact rfl | assumption) (by k_is) rfl rfl (by k_is) rfl ?_) | skip
  refine Con.useV (Q := qk9) (accept_op_t S isW_eq) (by assumption) (by assumption) (by assumption) (by k_asm) (by assumption) (by first | exact rfl | assumption) rfl rfl ?_
  intro led9 h9 tk9 F9 N9 S1 E1
  first | k_unfold | skip
  try clear qk9
  try dsimp only
  try k_fold
  k_steps
  refine (let qk9 : Value → Shared → Prop := _; (?_ : wpAny _ _ _ qk9 _ _))
  first | ((with_reducible show wpAny _ _ (eval _ _) _ _ _); first | refine self_call (by assumption) (by k_asm) (by first | assumption | exact PS.cons (by assumption) | exact PS.cons (PS.cons (by assumption))) (by assumption) (by first | exact rfl | assumption) (by first | exact rfl | assumption) rfl rfl ⟨by k_is, by k_is, by k_is, by k_is, rfl⟩ rfl rfl ?_ | refine glob_call (by assumption) (by assumption) (by assumption) (by first | exact rfl | assumption) (by k_is) rfl rfl (by k_is) rfl ?_) | skip
  refine Con.use3 (Q := qk9) (expression_c hc1 .colon h0 h1 S1) (by assumption) (by assumption) (by assumption) (by k_asm) (by assumption) (by first | exact rfl | assumption) rfl rfl ?_
  intro r9 led9 h9 tk9 F9 N9 V2 S2 E2
  first | k_unfold | skip
  try clear qk9
  try dsimp only
  try k_fold
  k_steps
  refine (let qk9 : Value → Shared → Prop := _; (?_ : wpAny _ _ _ qk9 _ _))
  first | ((with_reducible show wpAny _ _ (eval _ _) _ _ _); first | refine self_call (by assumption) (by k_asm) (by first | assumption | exact PS.cons (by assumption) | exact PS.cons (PS.cons (by assumption))) (by assumption) (by first | exact rfl | assumption) (by first | exact rfl | assumption) rfl rfl ⟨by k_is, by k_is, by k_is, by k_is, rfl⟩ rfl rfl ?_ | refine glob_call (by assumption) (by assumption) (by assumption) (by first | exact rfl | assumption) (by k_is) rfl rfl (by k_is) rfl ?_) | skip
  refine Con.useV (Q := qk9) (expect_op_t S2 isW_eq) (by assumption) (by assumption) (by assumption) (by k_asm) (by assumption) (by first | exact rfl | assumption) rfl rfl ?_
  intro led9 h9 tk9 F9 N9 S3 E3
  first | k_unfold | skip
  try clear qk9
  try dsimp only
  try k_fold
  k_steps
  refine (let qk9 : Value → Shared → Prop := _; (?_ : wpAny _ _ _ qk9 _ _))
  first | ((with_reducible show wpAny _ _ (eval _ _) _ _ _); first | refine self_call (by assumption) (by k_asm) (by first | assumption | exact PS.cons (by assumption) | exact PS.cons (PS.cons (by assumption))) (by assumption) (by first | exact rfl | assumption) (by first | exact rfl | assumption) rfl rfl ⟨by k_is, by k_is, by k_is, by k_is, rfl⟩ rfl rfl ?_ | refine glob_call (by assumption) (by assumption) (by assumption) (by first | exact rfl | assumption) (by k_is) rfl rfl (by k_is) rfl ?_) | skip
  refine Con.use3 (Q := qk9) (expression_c hc2 .close h0 h1 S3) (by assumption) (by assumption) (by assumption) (by k_asm) (by assumption) (by first | exact rfl | assumption) rfl rfl ?_
  intro r9 led9 h9 tk9 F9 N9 V4 S4 E4
  first | k_unfold | skip
  try clear qk9
  try dsimp only
  try k_fold
  k_steps
  refine (let qk9 : Value → Shared → Prop := _; (?_ : wpAny _ _ _ qk9 _ _))
  first | ((with_reducible show wpAny _ _ (eval _ _) _ _ _); first | refine self_call (by assumption) (by k_asm) (by first | assumption | exact PS.cons (by assumption) | exact PS.cons (PS.cons (by assumption))) (by assumption) (by first | exact rfl | assumption) (by first | exact rfl | assumption) rfl rfl ⟨by k_is, by k_is, by k_is, by k_is, rfl⟩ rfl rfl ?_ | refine glob_call (by assumption) (by assumption) (by assumption) (by first | exact rfl | assumption) (by k_is) rfl rfl (by k_is) rfl ?_) | skip
  refine Con.useV (Q := qk9) (expect_op_t S4 isW_eq) (by assumption) (by assumption) (by assumption) (by k_asm) (by assumption) (by first | exact rfl | assumption) rfl rfl ?_
  intro led9 h9 tk9 F9 N9 S5 E5
  first | k_unfold | skip
  try clear qk9
  try dsimp only
  try k_fold
  k_steps
  exact hret _ _ _ _ (by k_asm) (by k_asm) ⟨.tup List.mem_cons_self (.cons (((V2.sub E3.frz).sub E4.frz).sub E5.frz |>.up fun p hp => List.mem_cons_of_mem _ hp) (.cons ((V4.sub E5.frz).up fun p hp => List.mem_cons_of_mem _ hp) .nil)), S5.cons, ((((E1.trans E2).trans E3).trans E4).trans E5).cons⟩
/-! a list of the walk's own beside the parser -/
structure Six (P : PA) (D : Addr) : Prop where
  x : @Ne Nat D P.x
  dx : @Ne Nat D P.dx
  sx : @Ne Nat D P.sx
  sdx : @Ne Nat D P.sdx
  al : @Ne Nat D P.al
  rl : @Ne Nat D P.rl
theorem PS.six {led : Led} {P : PA} {cur : TK} {nx : List TK} {dep : Int} {wi ne : Bool} (S : PS led P cur nx dep wi ne) {D : Addr} (l : ∀ p ∈ led, p.1 < D) : Six P D := by
  obtain ⟨tv, place, avs, vs, ahead, rest, ⟨hx, ⟨k, u4, u5, hb, hd⟩, hs, ⟨k2, v1, pb, hsd⟩, ⟨n, ha⟩, ⟨n', hr⟩, hne, hl⟩, -⟩ := S
  exact ⟨fun e => Nat.lt_irrefl _ (e ▸ l _ hx), fun e => Nat.lt_irrefl _ (e ▸ l _ hd), fun e => Nat.lt_irrefl _ (e ▸ l _ hs), fun e => Nat.lt_irrefl _ (e ▸ l _ hsd), fun e => Nat.lt_irrefl _ (e ▸ l _ ha), fun e => Nat.lt_irrefl _ (e ▸ l _ hr)⟩
theorem Six.three {P : PA} {D : Addr} (h : Six P D) : @Ne Nat D P.dx ∧ @Ne Nat D P.sdx ∧ @Ne Nat D P.al := ⟨h.dx, h.sdx, h.al⟩
theorem sub_putD {h₀ h : Heap} {L D : Addr} {led : Led} {vs : List Value} {k : Nat} {o' : Obj} (N : News h₀ L h led) (hD : (D, listOf vs.toArray k) ∈ led) : Sub led ((D, o') :: off D led) := fun q o f m =>
  List.mem_cons_of_mem _ (mem_off m fun e => frz_list (news_one N (e ▸ m) hD ▸ f))
theorem PS.putD {h₀ h : Heap} {L D : Addr} {led : Led} {vs : List Value} {k : Nat} {o' : Obj} {P : PA} {cur : TK} {nx : List TK} {dep : Int} {wi ne : Bool} (N : News h₀ L h led) (hD : (D, listOf vs.toArray k) ∈ led) (n : Six P D) (S : PS led P cur nx dep wi ne) :
    PS ((D, o') :: off D led) P cur nx dep wi ne := by
  have s := sub_putD (o' := o') N hD
  obtain ⟨tv, place, avs, vs, ahead, rest, ⟨hx, ⟨k, u4, u5, hb, hd⟩, hs, ⟨k2, v1, pb, hsd⟩, ⟨n1, ha⟩, ⟨n', hr⟩, hne, hl⟩, hcur, hah, hre, e1, e2⟩ := S
  have up : ∀ {q : Addr} {o : Obj}, @Ne Nat D q → (q, o) ∈ led → (q, o) ∈ (D, o') :: off D led := fun e m => List.mem_cons_of_mem _ (mem_off m e.symm)
  exact ⟨tv, place, avs, vs, ahead, rest, ⟨up n.x hx, ⟨k, u4, u5, hb, up n.dx hd⟩, up n.sx hs, ⟨k2, v1, pb, up n.sdx hsd⟩, ⟨n1, up n.al ha⟩, ⟨n', up n.rl hr⟩, hne, hl⟩, hcur.sub s, hah.sub s, hre.sub s, e1, e2⟩
theorem Ext.putD {P : PA} {led0 led : Led} {D : Addr} {o' : Obj} (E : Ext P led0 led) (l : ∀ p ∈ led0, p.1 < D) : Ext P led0 ((D, o') :: off D led) :=
  ⟨fun q o f m => List.mem_cons_of_mem _ (mem_off (E.frz q o f m) (Nat.ne_of_lt (l _ m))), fun q o m a b c => List.mem_cons_of_mem _ (mem_off (E.oth q o m a b c) (Nat.ne_of_lt (l _ m)))⟩
noncomputable def PSL (led : Led) (P : PA) (ts : List TK) (dep : Int) (wi ne : Bool) : Prop := match ts with
  | [] => False
  | t :: nx => PS led P t nx dep wi ne
theorem VIs.snoc {led : Led} {vs : List Value} {ds : List Dat} {v : Value} {d : Dat} (h : VIs led vs ds) (k : VI led v d) : VIs led (vs ++ [v]) (ds ++ [d]) :=
  VIs.rec (motive_1 := fun _ _ _ => True) (motive_2 := fun vs ds _ => VIs led (vs ++ [v]) (ds ++ [d])) trivial (fun _ => trivial) (fun _ _ => trivial) (fun _ _ => trivial) (fun _ _ _ => trivial) (.cons k .nil) (fun a _ _ b => .cons a b) h
theorem VIs.length {led : Led} {vs : List Value} {ds : List Dat} (h : VIs led vs ds) : vs.length = ds.length :=
  VIs.rec (motive_1 := fun _ _ _ => True) (motive_2 := fun vs ds _ => vs.length = ds.length) trivial (fun _ => trivial) (fun _ _ => trivial) (fun _ _ => trivial) (fun _ _ _ => trivial) rfl (fun _ _ _ b => congrArg (· + 1) b) h
theorem arrays_none {w : World} {led : Led} {P : PA} {cur : TK} {nx : List TK} {dep : Int} {wi ne : Bool} (S : PS led P cur nx dep wi ne) (h : cur.isW "op" "[" = false) :
    Con 760 6800 w 648 [.ref P.x] led (fun r led' => VI led' r (.tuple []) ∧ PS led' P cur nx dep wi ne ∧ Ext P led led') := by
  try unfold Con
  intro zmean zmg zmb zgd zcn zcs za zccd zcl zouter zA zbase zh zL zm zs zQ zE zB zF X zN zT zhk hret
  revert X; k_fill; intro X
  refine wpAny_call ?_
  k_dflt (refine' code_def ?k1 ?k2 ?k3 ?k4 ?k5 ?kA ?kF ?kK ?k6 ?k7 ?k8 ?k9 ?kB ?_ ?c2 ?c3 ?c4 ?c5; (case kA => exact rfl); (case kF => exact rfl); (case kK => assumption); (case k1 => k_asm); (case k2 => k_asm); (case k3 => k_asm); (case k4 => k_asm); (case k5 => k_asm); (case k6 => k_is); (case k7 => k_is); (case k8 => k_room); (case k9 => first | exact BindsTo.of_eq rfl | exact binds_K (by k_in) rfl (by k_is) rfl rfl rfl); (case c5 => decide); (case kB => exact locs rfl); (case c2 => exact rfl); (case c3 => exact rfl); (case c4 => exact rfl); k_whole; intro g' L' h' FG' F' N' B' X' T'; (try dsimp only); (try k_fold))
  (replace F' : Fr g' L' h' (fun y => List.lookup y [("self", .ref P.x)]) := F')
  (refine at_toks ?_; intro tk0)
  (refine (let A9 : Around := _; let g9 : Array GenState := _; let d9 : Drawn := _; let o9 : OsState := _; (?_ : wpAny _ A9 _ _ _ ⟨_, g9, d9, _, o9⟩)))
  k_steps
  refine (let qk9 : Value → Shared → Prop := _; (?_ : wpAny _ _ _ qk9 _ _))
  first | ((with_reducible show wpAny _ _ (eval _ _) _ _ _); first | refine self_call (by assumption) (by k_asm) (by first | assumption | exact PS.cons (by assumption) | exact PS.cons (PS.cons (by assumption))) (by assumption) (by first | exact rfl | assumption) (by first | exact rfl | assumption) rfl rfl ⟨by k_is, by k_is, by k_is, by k_is, rfl⟩ rfl rfl ?_ | refine glob_call (by assumption) (by assumption) (by assumption) (by first | exact rfl | assumption) (by k_is) rfl rfl (by k_is) rfl ?_) | skip
  refine Con.useVL (Q := qk9) (range_none S h) (by assumption) (by assumption) (by assumption) (by k_asm) (by assumption) (by first | exact rfl | assumption) rfl rfl ?_
  intro h9 tk9 F9 N9
  first | k_unfold | skip
  try clear qk9
  try dsimp only
  try k_fold
  k_steps
  exact hret _ _ _ _ (by k_asm) (by k_asm) ⟨.tup List.mem_cons_self .nil, S.cons, (Ext.refl _ _).cons⟩
noncomputable abbrev xDict (k : Nat → Int × Tok) (u0 u1 : Tok) (dv : Value) (kind : PySem.Str) (i : Int) : Obj :=
  dictOf [⟨(k 0).1, .str "kind" (k 0).2, .str kind u0⟩, ⟨(k 1).1, .str "at" (k 1).2, .int i u1⟩, ⟨(k 2).1, .str "detail" (k 2).2, dv⟩] 3
noncomputable def ConX (dp un : Nat) (w : World) (f : Addr) (args : List Value) (led : Led) (kind : PySem.Str) (i : Int) : Prop :=
  ∀ (mean : ExcName → Option Value) (mg mb : PySem.Str → Option Value) (gd : Option (List Code)) (cn : PySem.Str) (cs : Scope) (a : Addr) (ccd : Value) (cl : List (PySem.Str × Addr)) (outer : List Env) (A₀ : Around) (base h₀ : Heap) (L : Addr) (m : PySem.Str → Option Value) (s : Shared) (Q E : Value → Shared → Prop),
    ∀ keep : Led, (∀ p ∈ keep, Frz p.2 ∧ p ∈ led) → Below A₀ base outer h₀ → Fr h₀ L s.heap m → (headK w.params).In h₀ → News h₀ L s.heap led → Top headV LO mean mg mb h₀ → cs.kind = .function →
    (∀ e D k u0 u1 dv g h' tk', Fr h₀ L g m → g.UpToSlots h' → RaisedX base (envX cn cs L a ccd cl :: outer) 52 e D ((D, xDict k u0 u1 dv kind i) :: keep) h' → E (.ref e) { s with heap := h', toks := tk' }) →
    wpAny (model PySem.Challenge.rw_pq0478_02.row.prog w) (ktrTop dp un gd cn cs L a ccd cl outer) (call (.ref f) args) Q E s
theorem ConX.use {dp un dp' un' : Nat} {w : World} {f : Addr} {args : List Value} {led : Led} {kind : PySem.Str} {i : Int}
    {mean : ExcName → Option Value} {mg mb : PySem.Str → Option Value} {gd : Option (List Code)} {cn : PySem.Str} {cs : Scope} {a : Addr} {ccd : Value} {cl : List (PySem.Str × Addr)} {outer : List Env} {A₀ : Around} {base h₀ : Heap} {L : Addr} {m : PySem.Str → Option Value} {s : Shared} {Q E : Value → Shared → Prop}
    {keep : Led} (C : ConX dp un w f args led kind i) (K : ∀ p ∈ keep, Frz p.2 ∧ p ∈ led) (B : Below A₀ base outer h₀) (F : Fr h₀ L s.heap m) (X : (headK w.params).In h₀) (N : News h₀ L s.heap led) (T : Top headV LO mean mg mb h₀) (hk : cs.kind = .function)
    (hd : dp' ≤ dp) (hu : un' ≤ un)
    (ret : ∀ e D k u0 u1 dv g h' tk', Fr h₀ L g m → g.UpToSlots h' → RaisedX base (envX cn cs L a ccd cl :: outer) 52 e D ((D, xDict k u0 u1 dv kind i) :: keep) h' → E (.ref e) { s with heap := h', toks := tk' }) :
    wpAny (model PySem.Challenge.rw_pq0478_02.row.prog w) (ktrTop dp' un' gd cn cs L a ccd cl outer) (call (.ref f) args) Q E s :=
  wp_deeper hd hu (C _ _ _ _ _ _ _ _ _ _ _ _ _ _ _ _ _ _ _ K B F X N T hk ret)
noncomputable def ConE (dp un : Nat) (w : World) (f : Addr) (args : List Value) (led : Led) (R : Value → Led → Prop) (Z : PySem.Str → Int → Prop) : Prop :=
  ∀ (mean : ExcName → Option Value) (mg mb : PySem.Str → Option Value) (gd : Option (List Code)) (cn : PySem.Str) (cs : Scope) (a : Addr) (ccd : Value) (cl : List (PySem.Str × Addr)) (outer : List Env) (A₀ : Around) (base h₀ : Heap) (L : Addr) (m : PySem.Str → Option Value) (s : Shared) (Q E : Value → Shared → Prop),
    ∀ keep : Led, (∀ p ∈ keep, Frz p.2 ∧ p ∈ led) → Below A₀ base outer h₀ → Fr h₀ L s.heap m → (headK w.params).In h₀ → News h₀ L s.heap led → Top headV LO mean mg mb h₀ → cs.kind = .function →
    (∀ r led' h' tk', Fr h₀ L h' m → News h₀ L h' led' → R r led' → Q r { s with heap := h', toks := tk' }) →
    (∀ kind i, Z kind i → ∀ e D k u0 u1 dv g h' tk', Fr h₀ L g m → g.UpToSlots h' → RaisedX base (envX cn cs L a ccd cl :: outer) 52 e D ((D, xDict k u0 u1 dv kind i) :: keep) h' → E (.ref e) { s with heap := h', toks := tk' }) →
    wpAny (model PySem.Challenge.rw_pq0478_02.row.prog w) (ktrTop dp un gd cn cs L a ccd cl outer) (call (.ref f) args) Q E s
theorem ConX.news {dp un : Nat} {w : World} {f : Addr} {args : List Value} {led : Led} {kind : PySem.Str} {i : Int} (C : ∀ h₀ h L, News h₀ L h led → ConX dp un w f args led kind i) : ConX dp un w f args led kind i :=
  fun _ _ _ _ _ _ _ _ _ _ _ _ _ _ _ _ _ _ _ K B F X N T hk ret => C _ _ _ N _ _ _ _ _ _ _ _ _ _ _ _ _ _ _ _ _ _ _ K B F X N T hk ret
section
variable {w : World} {A : Around} {E : Value → Shared → Prop} {s : Shared} {x L D : Addr} {h₀ : Heap} {m : PySem.Str → Option Value} {led : Led} {es es' : List DictEntry} {n n' : Nat} {name : PySem.Str} {v : Value}
theorem src_refuse (self : Value) : refuseLoop self "__setattr__" [.ref 52, .ref 39, .type "Exception", .type "BaseException", .type "object"] = pure () := by
  rw [refuseLoop_ref, refuseLoop_ref]; exact PySem.F.store_Exception.passes self
theorem src_set {t : Addr} {Q : Unit → Shared → Prop} (F : Fr h₀ L s.heap m) (X₀ : (headK w.params).In h₀) (N : News h₀ L s.heap led) (hx : (x, excObj 52 t (some D)) ∈ led) (hD : (D, dictOf es n) ∈ led)
    (ht : takerIn (headK w.params) 52 name = some none) (hl : (getL name es).isSome = true)
    (e : (putL name (PyData.keyHash w.params name) (.str name (s.toks + 1)) v es, putN name es n) = (es', n')) (hz : es'.length ≤ 1000)
    (h : ∀ h', Fr h₀ L h' m → News h₀ L h' ((D, dictOf es' n') :: off D led) → Q () { s with heap := h', toks := s.toks + 2 }) :
    wpAny (model PySem.Challenge.rw_pq0478_02.row.prog w) A (setAttr (.ref x) name v) Q E s := by
  revert X₀ ht; k_fill; intro X₀ ht
  exact set_x F X₀ N hx hD rfl rfl rfl rfl src_refuse ht (by k_is) hl e hz h
theorem src_set0 {t : Addr} {Q : Unit → Shared → Prop} (F : Fr h₀ L s.heap m) (X₀ : (headK w.params).In h₀) (N : News h₀ L s.heap led) (hx : (x, excObj 52 t none) ∈ led)
    (ht : takerIn (headK w.params) 52 name = some none)
    (e : (putL name (PyData.keyHash w.params name) (.str name (s.toks + 1)) v [], putN name [] 0) = (es', n')) (hz : es'.length ≤ 1000)
    (h : ∀ D h', Fr h₀ L h' m → News h₀ L h' ((D, dictOf es' n') :: (x, excObj 52 t (some D)) :: off x led) → (∀ p ∈ led, p.1 < D) → x ≠ D → Q () { s with heap := h', toks := s.toks + 2 }) :
    wpAny (model PySem.Challenge.rw_pq0478_02.row.prog w) A (setAttr (.ref x) name v) Q E s := by
  revert X₀ ht; k_fill; intro X₀ ht
  exact set_x0 F X₀ N hx rfl rfl rfl rfl src_refuse ht (by k_is) e hz fun D h' F' N' l => h D h' F' N' l (Nat.ne_of_lt (l _ hx))
theorem src_call {rest : List Value} {Q : Value → Shared → Prop} (X₀ : (headK w.params).In h₀) (F : Fr h₀ L s.heap m) (N : News h₀ L s.heap led) (hz : rest.length ≤ 1000)
    (hq : ∀ e t h', Fr h₀ L h' m → News h₀ L h' ((e, excObj 52 t none) :: (t, argObj rest) :: led) → (∀ p ∈ led, p.1 < t) → t < e →
      codeAny (model PySem.Challenge.rw_pq0478_02.row.prog w) (A.under (.builtin "type.__call__" ⟨.ref 52 :: rest, []⟩)) (.call (.ref 36) ⟨.ref e :: rest, []⟩) (InitBack e fun r s' => match r with | .ok (.ret v) => Q v s' | .ok _ => False | .error e => E e s') { s with heap := h' }) :
    wpAny (model PySem.Challenge.rw_pq0478_02.row.prog w) A (call (.ref 52) rest) Q E s := by
  revert X₀; k_fill; intro X₀
  have X := X₀.keeps F.keep
  obtain ⟨hh, g, d, t, os⟩ := s
  refine call_x X (X _ _ rfl) rfl rfl rfl (by k_is) (by k_is) (hq _ hh.objs.size _ ((F.push _).push _) ?_ (fun p hp => Heap.lt_size (N p hp).1) (Nat.lt_succ_self _)) (by rw [sizeLine_eq]; omega)
  have := (N.push F (argObj rest)).push (F.push _) (excObj 52 hh.objs.size none)
  rwa [Heap.size_push] at this
theorem raisable_src {t : Addr} {D : Option Addr} (X₀ : (headK w.params).In h₀) (F : Fr h₀ L s.heap m) (N : News h₀ L s.heap led) (hx : (x, excObj 52 t D) ∈ led) (h : E (.ref x) s) : RaisableX 52 E (.ref x) s := by
  have X := X₀.keeps F.keep
  exact ⟨_, _, _, _, _, _, _, _, _, _, _, _, _, _, _, _, _, _, _, rfl, X _ _ rfl, rfl, (N _ hx).1, h⟩
theorem fail_keep {keep led : Led} {e t D : Addr} {oe ot : Obj} (K : ∀ p ∈ keep, Frz p.2 ∧ p ∈ led) (l1 : ∀ p ∈ led, @LT.lt Nat _ p.1 t) (l2 : @LT.lt Nat _ t e) (l3 : ∀ p ∈ (e, oe) :: (t, ot) :: led, @LT.lt Nat _ p.1 D) : ∀ p ∈ keep, p ∈ Mine.off e ((t, ot) :: led) ∧ @Ne Nat p.1 D ∧ @Ne Nat p.1 e := fun p hp => by
  have h := (K p hp).2
  have n := Nat.ne_of_lt (Nat.lt_trans (l1 p h) l2)
  exact ⟨mem_off (List.mem_cons_of_mem _ h) n, Nat.ne_of_lt (l3 p (List.mem_cons_of_mem _ (List.mem_cons_of_mem _ h))), n⟩
theorem fail_end {M : Model} {base g hp H : Heap} {outer : List Env} {L₀ a e t : Addr} {m₀ : PySem.Str → Option Value} {name : PySem.Str} {scope : Scope} {cd : Value} {E' : Value → Shared → Prop} {a0 a1 a2 : Int} {t0 t1 t2 u0 u1 tk : Tok} {dv : Value} {kind : PySem.Str} {i : Int} {keep : Led}
    (hret : ∀ e D k u0 u1 dv g h' tk', Fr H L₀ g m₀ → g.UpToSlots h' → RaisedX base outer 52 e D ((D, xDict k u0 u1 dv kind i) :: keep) h' → E (.ref e) { s with heap := h', toks := tk' })
    (FG : Fr H L₀ g m₀) (K : Below A base outer g) (F : Fr g L hp m) (N : News g L hp ((D, dictOf [⟨a0, .str "kind" t0, .str kind u0⟩, ⟨a1, .str "at" t1, .int i u1⟩, ⟨a2, .str "detail" t2, dv⟩] 3) :: off D ((e, excObj 52 t (some D)) :: led))) (hkp : ∀ p ∈ keep, p ∈ led ∧ @Ne Nat p.1 D ∧ @Ne Nat p.1 e) (hne : e ≠ D) (hk : scope.kind = .function) :
    wpAny M (A.deeper (envOf name scope L a cd)) (leaving (envOf name scope L a cd) (.ref e)) (fun _ s'' => E (.ref e) s'') E' ⟨hp, s.gens, s.drawn, tk, s.os⟩ :=
  leave_new (s' := ⟨hp, s.gens, s.drawn, tk, s.os⟩) (news := (D, xDict (fun n => match n with | 0 => (a0, t0) | 1 => (a1, t1) | _ => (a2, t2)) u0 u1 dv kind i) :: keep) K F N
    (List.mem_cons_of_mem _ (mem_off List.mem_cons_self hne)) rfl (fun q hq => by
    rcases List.mem_cons.mp hq with rfl | hq
    · exact ⟨List.mem_cons_self, hne.symm⟩
    · exact ⟨List.mem_cons_of_mem _ (mem_off (List.mem_cons_of_mem _ (hkp q hq).1) (hkp q hq).2.1), (hkp q hq).2.2⟩) (fun h' R U => hret _ _ _ _ _ _ _ _ _ FG U R) hk
theorem on_end {M : Model} {base g g₂ hp H : Heap} {outer : List Env} {L₀ a e : Addr} {m₀ : PySem.Str → Option Value} {name : PySem.Str} {scope : Scope} {cd : Value} {E' : Value → Shared → Prop} {k : Nat → Int × Tok} {u0 u1 tk : Tok} {dv : Value} {kind : PySem.Str} {i : Int} {keep : Led}
    (hret : ∀ e D k u0 u1 dv g h' tk', Fr H L₀ g m₀ → g.UpToSlots h' → RaisedX base outer 52 e D ((D, xDict k u0 u1 dv kind i) :: keep) h' → E (.ref e) { s with heap := h', toks := tk' })
    (FG : Fr H L₀ g m₀) (K : Below A base outer g) (F : Fr g L g₂ m) (U : g₂.UpToSlots hp) (R : RaisedX base (envOf name scope L a cd :: outer) 52 e D ((D, xDict k u0 u1 dv kind i) :: keep) hp) :
    wpAny M (A.deeper (envOf name scope L a cd)) (leaving (envOf name scope L a cd) (.ref e)) (fun _ s'' => E (.ref e) s'') E' ⟨hp, s.gens, s.drawn, tk, s.os⟩ :=
  leave_on (s' := ⟨hp, s.gens, s.drawn, tk, s.os⟩) K F R U fun h' R U => hret _ _ _ _ _ _ _ _ _ FG U R
end
section
local macro_rules | `(tactic| walk_at "setAttr ref") => `(tactic| (k_here; k_dflt (refine src_set (by k_asm) (by k_asm) (by k_asm) (by k_mem) (by k_mem) (by k_is) (by k_get) (by k_put) (by lge_go) ?_); lge_steps))
local macro_rules | `(tactic| walk_at "setAttr ref") => `(tactic| (k_here; k_dflt (refine src_set0 (by k_asm) (by k_asm) (by k_asm) (by k_mem) (by k_is) (by k_put) (by lge_go) ?_); k_whole; intro D'; lge_steps; intro l1 l2))
local macro_rules | `(tactic| walk_at "exec Raise some none") => `(tactic| (k_here; refine raise_x (C := 52) rfl ?_))
local macro_rules | `(tactic| walk_at "call ref") => `(tactic| (k_dflt (refine src_call (by k_asm) (by k_asm) (by k_asm) (by lge_go) ?_); k_whole; intro e' t'; lge_steps; intro l1 l2; (try k_lt l1); (try k_lt2 l2); k_enter))
theorem fail_3 {w : World} {led : Led} {P : PA} {cur : TK} {nx : List TK} {dep : Int} {wi ne : Bool} {kd tx : PySem.Str} {t1 t2 : Tok} (S : PS led P cur nx dep wi ne) :
    ConX 880 7900 w 196 [.ref P.x, .str kd t1, .str tx t2] led kd cur.pos := by
  refine PS.openedK S (fun tv0 td0 k0 u40 u50 hb0 kt0 u00 u20 val0 hx0 hd0 ht0 htd0 => ?_)
  unfold ConX
  intro zmean zmg zmb zgd zcn zcs za zccd zcl zouter zA zbase zh zL zm zs zQ zE zkeep zkp zB zF X zN zT zhk hret
  revert X; k_fill; intro X
  refine wpAny_call ?_
  k_dflt (refine' code_def ?k1 ?k2 ?k3 ?k4 ?k5 ?kA ?kF ?kK ?k6 ?k7 ?k8 ?k9 ?kB ?_ ?c2 ?c3 ?c4 ?c5; (case kA => exact rfl); (case kF => exact rfl); (case kK => assumption); (case k1 => k_asm); (case k2 => k_asm); (case k3 => k_asm); (case k4 => k_asm); (case k5 => k_asm); (case k6 => k_is); (case k7 => k_is); (case k8 => k_room); (case k9 => first | exact BindsTo.of_eq rfl | exact binds_K (by k_in) rfl (by k_is) rfl rfl rfl); (case c5 => decide); (case kB => exact locs rfl); (case c2 => exact rfl); (case c3 => exact rfl); (case c4 => exact rfl); k_whole; intro g' L' h' FG' F' N' B' X' T'; (try dsimp only); (try k_fold))
  (replace F' : Fr g' L' h' (fun y => List.lookup y [("detail", .str tx t2), ("kind", .str kd t1), ("self", .ref P.x)]) := F')
  (refine at_toks ?_; intro tk0)
  k_steps
  refine raisable_src (by assumption) (by assumption) (by assumption) (List.mem_cons_of_mem _ (mem_off List.mem_cons_self (by assumption))) ?_
  exact fail_end hret FG' B' (by assumption) (by assumption) (fail_keep zkp (by assumption) (by assumption) (by assumption)) (by assumption) rfl
theorem fail_2 {w : World} {led : Led} {P : PA} {cur : TK} {nx : List TK} {dep : Int} {wi ne : Bool} {kd : PySem.Str} {t1 : Tok} (S : PS led P cur nx dep wi ne) :
    ConX 880 7900 w 196 [.ref P.x, .str kd t1] led kd cur.pos := by
  refine PS.openedK S (fun tv0 td0 k0 u40 u50 hb0 kt0 u00 u20 val0 hx0 hd0 ht0 htd0 => ?_)
  unfold ConX
  intro zmean zmg zmb zgd zcn zcs za zccd zcl zouter zA zbase zh zL zm zs zQ zE zkeep zkp zB zF X zN zT zhk hret
  revert X; k_fill; intro X
  refine wpAny_call ?_
  k_dflt (refine' code_def ?k1 ?k2 ?k3 ?k4 ?k5 ?kA ?kF ?kK ?k6 ?k7 ?k8 ?k9 ?kB ?_ ?c2 ?c3 ?c4 ?c5; (case kA => exact rfl); (case kF => exact rfl); (case kK => assumption); (case k1 => k_asm); (case k2 => k_asm); (case k3 => k_asm); (case k4 => k_asm); (case k5 => k_asm); (case k6 => k_is); (case k7 => k_is); (case k8 => k_room); (case k9 => first | exact BindsTo.of_eq rfl | exact binds_K (by k_in) rfl (by k_is) rfl rfl rfl); (case c5 => decide); (case kB => exact locs rfl); (case c2 => exact rfl); (case c3 => exact rfl); (case c4 => exact rfl); k_whole; intro g' L' h' FG' F' N' B' X' T'; (try dsimp only); (try k_fold))
  (refine at_toks ?_; intro tk0)
  k_steps
  refine raisable_src (by assumption) (by assumption) (by assumption) (List.mem_cons_of_mem _ (mem_off List.mem_cons_self (by assumption))) ?_
  exact fail_end hret FG' B' (by assumption) (by assumption) (fail_keep zkp (by assumption) (by assumption) (by assumption)) (by assumption) rfl
end
noncomputable abbrev numD (i m : Int) : Dat := .tuple [.str "num", .int i, .tuple [.int 32, .int m, .int 0], .bool true, .bool false]
theorem fixed_range_c {w : World} {led : Led} {i m : Int} {t u : Tok} : Con 850 7600 w 480 [.int i t, .int m u] led (fun r led' => VI led' r (.tuple [numD i m, numD i 0]) ∧ Sup led led') := by
  try unfold Con
  intro zmean zmg zmb zgd zcn zcs za zccd zcl zouter zA zbase zh zL zm zs zQ zE zB zF X zN zT zhk hret
  revert X; k_fill; intro X
  refine wpAny_call ?_
  k_dflt (refine' code_def ?k1 ?k2 ?k3 ?k4 ?k5 ?kA ?kF ?kK ?k6 ?k7 ?k8 ?k9 ?kB ?_ ?c2 ?c3 ?c4 ?c5; (case kA => exact rfl); (case kF => exact rfl); (case kK => assumption); (case k1 => k_asm); (case k2 => k_asm); (case k3 => k_asm); (case k4 => k_asm); (case k5 => k_asm); (case k6 => k_is); (case k7 => k_is); (case k8 => k_room); (case k9 => first | exact BindsTo.of_eq rfl | exact binds_K (by k_in) rfl (by k_is) rfl rfl rfl); (case c5 => decide); (case kB => exact locs rfl); (case c2 => exact rfl); (case c3 => exact rfl); (case c4 => exact rfl); k_whole; intro g' L' h' FG' F' N' B' X' T'; (try dsimp only); (try k_fold))
  (replace F' : Fr g' L' h' (fun y => List.lookup y [("msb", .int m u), ("at", .int i t)]) := F')
  (refine at_toks ?_; intro tk0)
  (refine (let A9 : Around := _; let g9 : Array GenState := _; let d9 : Drawn := _; let o9 : OsState := _; (?_ : wpAny _ A9 _ _ _ ⟨_, g9, d9, _, o9⟩)))
  k_steps
  exact hret _ _ _ _ (by k_asm) (by k_asm) ⟨.tup (by k_mem) (.cons (.tup (by k_mem) (.cons (.str _ _) (.cons (.int _ _) (.cons (.tup (by k_mem) (.cons (.int _ _) (.cons (.int _ _) (.cons (.int _ _) .nil)))) (.cons (.bool _) (.cons (.bool _) .nil))))))
    (.cons (.tup (by k_mem) (.cons (.str _ _) (.cons (.int _ _) (.cons (.tup (by k_mem) (.cons (.int _ _) (.cons (.int _ _) (.cons (.int _ _) .nil)))) (.cons (.bool _) (.cons (.bool _) .nil)))))) .nil)), (by intro p9 hp9; repeat (first | exact hp9 | apply List.mem_cons_of_mem))⟩
theorem begins_port_c {w : World} {led : Led} {P : PA} {cur : TK} {nx : List TK} {dep : Int} {wi ne : Bool} (S : PS led P cur nx dep wi ne) :
    Con 850 7600 w 779 [.ref P.x] led (fun r led' => r = .bool (cur.isW "key" "input" || (cur.isW "key" "output" || cur.isW "key" "inout")) ∧ led' = led) := by
  rcases h1 : cur.isW "key" "input" with _ | _
  · rcases h2 : cur.isW "key" "output" with _ | _
    · rcases h3 : cur.isW "key" "inout" with _ | _
      ·
        try unfold Con
        intro zmean zmg zmb zgd zcn zcs za zccd zcl zouter zA zbase zh zL zm zs zQ zE zB zF X zN zT zhk hret
        revert X; k_fill; intro X
        refine wpAny_call ?_
        k_dflt (refine' code_def ?k1 ?k2 ?k3 ?k4 ?k5 ?kA ?kF ?kK ?k6 ?k7 ?k8 ?k9 ?kB ?_ ?c2 ?c3 ?c4 ?c5; (case kA => exact rfl); (case kF => exact rfl); (case kK => assumption); (case k1 => k_asm); (case k2 => k_asm); (case k3 => k_asm); (case k4 => k_asm); (case k5 => k_asm); (case k6 => k_is); (case k7 => k_is); (case k8 => k_room); (case k9 => first | exact BindsTo.of_eq rfl | exact binds_K (by k_in) rfl (by k_is) rfl rfl rfl); (case c5 => decide); (case kB => exact locs rfl); (case c2 => exact rfl); (case c3 => exact rfl); (case c4 => exact rfl); k_whole; intro g' L' h' FG' F' N' B' X' T'; (try dsimp only); (try k_fold))
        (replace F' : Fr g' L' h' (fun y => List.lookup y [("self", .ref P.x)]) := F')
        (refine at_toks ?_; intro tk0)
        (refine (let A9 : Around := _; let g9 : Array GenState := _; let d9 : Drawn := _; let o9 : OsState := _; (?_ : wpAny _ A9 _ _ _ ⟨_, g9, d9, _, o9⟩)))
        k_steps
        refine (let qk9 : Value → Shared → Prop := _; (?_ : wpAny _ _ _ qk9 _ _))
        first | ((with_reducible show wpAny _ _ (eval _ _) _ _ _); first | refine self_call (by assumption) (by k_asm) (by first | assumption | exact PS.cons (by assumption) | exact PS.cons (PS.cons (by assumption))) (by assumption) (by first | exact rfl | assumption) (by first | exact rfl | assumption) rfl rfl ⟨by k_is, by k_is, by k_is, by k_is, rfl⟩ rfl rfl ?_ | refine glob_call (by assumption) (by assumption) (by assumption) (by first | exact rfl | assumption) (by k_is) rfl rfl (by k_is) rfl ?_) | skip
        refine Con.useVL (Q := qk9) (is_key_f S h1) (by assumption) (by assumption) (by assumption) (by k_asm) (by assumption) (by first | exact rfl | assumption) rfl rfl ?_
        intro h9 tk9 F9 N9
        first | k_unfold | skip
        try clear qk9
        try dsimp only
        try k_fold
        k_steps
        refine (let qk9 : Value → Shared → Prop := _; (?_ : wpAny _ _ _ qk9 _ _))
        first | ((with_reducible show wpAny _ _ (eval _ _) _ _ _); first | refine self_call (by assumption) (by k_asm) (by first | assumption | exact PS.cons (by assumption) | exact PS.cons (PS.cons (by assumption))) (by assumption) (by first | exact rfl | assumption) (by first | exact rfl | assumption) rfl rfl ⟨by k_is, by k_is, by k_is, by k_is, rfl⟩ rfl rfl ?_ | refine glob_call (by assumption) (by assumption) (by assumption) (by first | exact rfl | assumption) (by k_is) rfl rfl (by k_is) rfl ?_) | skip
        refine Con.useVL (Q := qk9) (is_key_f S h2) (by assumption) (by assumption) (by assumption) (by k_asm) (by assumption) (by first | exact rfl | assumption) rfl rfl ?_
        intro h9 tk9 F9 N9
        first | k_unfold | skip
        try clear qk9
        try dsimp only
        try k_fold
        k_steps
        refine (let qk9 : Value → Shared → Prop := _; (?_ : wpAny _ _ _ qk9 _ _))
        first | ((with_reducible show wpAny _ _ (eval _ _) _ _ _); first | refine self_call (by assumption) (by k_asm) (by first | assumption | exact PS.cons (by assumption) | exact PS.cons (PS.cons (by assumption))) (by assumption) (by first | exact rfl | assumption) (by first | exact rfl | assumption) rfl rfl ⟨by k_is, by k_is, by k_is, by k_is, rfl⟩ rfl rfl ?_ | refine glob_call (by assumption) (by assumption) (by assumption) (by first | exact rfl | assumption) (by k_is) rfl rfl (by k_is) rfl ?_) | skip
        refine Con.useVL (Q := qk9) (is_key_f S h3) (by assumption) (by assumption) (by assumption) (by k_asm) (by assumption) (by first | exact rfl | assumption) rfl rfl ?_
        intro h9 tk9 F9 N9
        first | k_unfold | skip
        try clear qk9
        try dsimp only
        try k_fold
        k_steps
        exact hret _ _ _ _ (by k_asm) (by k_asm) ⟨rfl, rfl⟩
      ·
        try unfold Con
        intro zmean zmg zmb zgd zcn zcs za zccd zcl zouter zA zbase zh zL zm zs zQ zE zB zF X zN zT zhk hret
        revert X; k_fill; intro X
        refine wpAny_call ?_
        k_dflt (refine' code_def ?k1 ?k2 ?k3 ?k4 ?k5 ?kA ?kF ?kK ?k6 ?k7 ?k8 ?k9 ?kB ?_ ?c2 ?c3 ?c4 ?c5; (case kA => exact rfl); (case kF => exact rfl); (case kK => assumption); (case k1 => k_asm); (case k2 => k_asm); (case k3 => k_asm); (case k4 => k_asm); (case k5 => k_asm); (case k6 => k_is); (case k7 => k_is); (case k8 => k_room); (case k9 => first | exact BindsTo.of_eq rfl | exact binds_K (by k_in) rfl (by k_is) rfl rfl rfl); (case c5 => decide); (case kB => exact locs rfl); (case c2 => exact rfl); (case c3 => exact rfl); (case c4 => exact rfl); k_whole; intro g' L' h' FG' F' N' B' X' T'; (try dsimp only); (try k_fold))
        (replace F' : Fr g' L' h' (fun y => List.lookup y [("self", .ref P.x)]) := F')
        (refine at_toks ?_; intro tk0)
        (refine (let A9 : Around := _; let g9 : Array GenState := _; let d9 : Drawn := _; let o9 : OsState := _; (?_ : wpAny _ A9 _ _ _ ⟨_, g9, d9, _, o9⟩)))
        k_steps
        refine (let qk9 : Value → Shared → Prop := _; (?_ : wpAny _ _ _ qk9 _ _))
        first | ((with_reducible show wpAny _ _ (eval _ _) _ _ _); first | refine self_call (by assumption) (by k_asm) (by first | assumption | exact PS.cons (by assumption) | exact PS.cons (PS.cons (by assumption))) (by assumption) (by first | exact rfl | assumption) (by first | exact rfl | assumption) rfl rfl ⟨by k_is, by k_is, by k_is, by k_is, rfl⟩ rfl rfl ?_ | refine glob_call (by assumption) (by assumption) (by assumption) (by first | exact rfl | assumption) (by k_is) rfl rfl (by k_is) rfl ?_) | skip
        refine Con.useVL (Q := qk9) (is_key_f S h1) (by assumption) (by assumption) (by assumption) (by k_asm) (by assumption) (by first | exact rfl | assumption) rfl rfl ?_
        intro h9 tk9 F9 N9
        first | k_unfold | skip
        try clear qk9
        try dsimp only
        try k_fold
        k_steps
        refine (let qk9 : Value → Shared → Prop := _; (?_ : wpAny _ _ _ qk9 _ _))
        first | ((with_reducible show wpAny _ _ (eval _ _) _ _ _); first | refine self_call (by assumption) (by k_asm) (by first | assumption | exact PS.cons (by assumption) | exact PS.cons (PS.cons (by assumption))) (by assumption) (by first | exact rfl | assumption) (by first | exact rfl | assumption) rfl rfl ⟨by k_is, by k_is, by k_is, by k_is, rfl⟩ rfl rfl ?_ | refine glob_call (by assumption) (by assumption) (by assumption) (by first | exact rfl | assumption) (by k_is) rfl rfl (by k_is) rfl ?_) | skip
        refine Con.useVL (Q := qk9) (is_key_f S h2) (by assumption) (by assumption) (by assumption) (by k_asm) (by assumption) (by first | exact rfl | assumption) rfl rfl ?_
        intro h9 tk9 F9 N9
        first | k_unfold | skip
        try clear qk9
        try dsimp only
        try k_fold
        k_steps
        refine (let qk9 : Value → Shared → Prop := _; (?_ : wpAny _ _ _ qk9 _ _))
        first | ((with_reducible show wpAny _ _ (eval _ _) _ _ _); first | refine self_call (by assumption) (by k_asm) (by first | assumption | exact PS.cons (by assumption) | exact PS.cons (PS.cons (by assumption))) (by assumption) (by first | exact rfl | assumption) (by first | exact rfl | assumption) rfl rfl ⟨by k_is, by k_is, by k_is, by k_is, rfl⟩ rfl rfl ?_ | refine glob_call (by assumption) (by assumption) (by assumption) (by first | exact rfl | assumption) (by k_is) rfl rfl (by k_is) rfl ?_) | skip
        refine Con.useVL (Q := qk9) (is_key_t S h3) (by assumption) (by assumption) (by assumption) (by k_asm) (by assumption) (by first | exact rfl | assumption) rfl rfl ?_
        intro h9 tk9 F9 N9
        first | k_unfold | skip
        try clear qk9
        try dsimp only
        try k_fold
        k_steps
        exact hret _ _ _ _ (by k_asm) (by k_asm) ⟨rfl, rfl⟩
    ·
      try unfold Con
      intro zmean zmg zmb zgd zcn zcs za zccd zcl zouter zA zbase zh zL zm zs zQ zE zB zF X zN zT zhk hret
      revert X; k_fill; intro X
      refine wpAny_call ?_
      k_dflt (refine' code_def ?k1 ?k2 ?k3 ?k4 ?k5 ?kA ?kF ?kK ?k6 ?k7 ?k8 ?k9 ?kB ?_ ?c2 ?c3 ?c4 ?c5; (case kA => exact rfl); (case kF => exact rfl); (case kK => assumption); (case k1 => k_asm); (case k2 => k_asm); (case k3 => k_asm); (case k4 => k_asm); (case k5 => k_asm); (case k6 => k_is); (case k7 => k_is); (case k8 => k_room); (case k9 => first | exact BindsTo.of_eq rfl | exact binds_K (by k_in) rfl (by k_is) rfl rfl rfl); (case c5 => decide); (case kB => exact locs rfl); (case c2 => exact rfl); (case c3 => exact rfl); (case c4 => exact rfl); k_whole; intro g' L' h' FG' F' N' B' X' T'; (try dsimp only); (try k_fold))
      (replace F' : Fr g' L' h' (fun y => List.lookup y [("self", .ref P.x)]) := F')
      (refine at_toks ?_; intro tk0)
      (refine (let A9 : Around := _; let g9 : Array GenState := _; let d9 : Drawn := _; let o9 : OsState := _; (?_ : wpAny _ A9 _ _ _ ⟨_, g9, d9, _, o9⟩)))
      k_steps
      refine (let qk9 : Value → Shared → Prop := _; (?_ : wpAny _ _ _ qk9 _ _))
      first | ((with_reducible show wpAny _ _ (eval _ _) _ _ _); first | refine self_call (by assumption) (by k_asm) (by first | assumption | exact PS.cons (by assumption) | exact PS.cons (PS.cons (by assumption))) (by assumption) (by first | exact rfl | assumption) (by first | exact rfl | assumption) rfl rfl ⟨by k_is, by k_is, by k_is, by k_is, rfl⟩ rfl rfl ?_ | refine glob_call (by assumption) (by assumption) (by assumption) (by first | exact rfl | assumption) (by k_is) rfl rfl (by k_is) rfl ?_) | skip
      refine Con.useVL (Q := qk9) (is_key_f S h1) (by assumption) (by assumption) (by assumption) (by k_asm) (by assumption) (by first | exact rfl | assumption) rfl rfl ?_
      intro h9 tk9 F9 N9
      first | k_unfold | skip
      try clear qk9
      try dsimp only
      try k_fold
      k_steps
      refine (let qk9 : Value → Shared → Prop := _; (?_ : wpAny _ _ _ qk9 _ _))
      first | ((with_reducible show wpAny _ _ (eval _ _) _ _ _); first | refine self_call (by assumption) (by k_asm) (by first | assumption | exact PS.cons (by assumption) | exact PS.cons (PS.cons (by assumption))) (by assumption) (by first | exact rfl | assumption) (by first | exact rfl | assumption) rfl rfl ⟨by k_is, by k_is, by k_is, by k_is, rfl⟩ rfl rfl ?_ | refine glob_call (by assumption) (by assumption) (by assumption) (by first | exact rfl | assumption) (by k_is) rfl rfl (by k_is) rfl ?_) | skip
      refine Con.useVL (Q := qk9) (is_key_t S h2) (by assumption) (by assumption) (by assumption) (by k_asm) (by assumption) (by first | exact rfl | assumption) rfl rfl ?_
      intro h9 tk9 F9 N9
      first | k_unfold | skip
      try clear qk9
      try dsimp only
      try k_fold
      k_steps
      exact hret _ _ _ _ (by k_asm) (by k_asm) ⟨rfl, rfl⟩
  ·
    try unfold Con
    intro zmean zmg zmb zgd zcn zcs za zccd zcl zouter zA zbase zh zL zm zs zQ zE zB zF X zN zT zhk hret
    revert X; k_fill; intro X
    refine wpAny_call ?_
    k_dflt (refine' code_def ?k1 ?k2 ?k3 ?k4 ?k5 ?kA ?kF ?kK ?k6 ?k7 ?k8 ?k9 ?kB ?_ ?c2 ?c3 ?c4 ?c5; (case kA => exact rfl); (case kF => exact rfl); (case kK => assumption); (case k1 => k_asm); (case k2 => k_asm); (case k3 => k_asm); (case k4 => k_asm); (case k5 => k_asm); (case k6 => k_is); (case k7 => k_is); (case k8 => k_room); (case k9 => first | exact BindsTo.of_eq rfl | exact binds_K (by k_in) rfl (by k_is) rfl rfl rfl); (case c5 => decide); (case kB => exact locs rfl); (case c2 => exact rfl); (case c3 => exact rfl); (case c4 => exact rfl); k_whole; intro g' L' h' FG' F' N' B' X' T'; (try dsimp only); (try k_fold))
    (replace F' : Fr g' L' h' (fun y => List.lookup y [("self", .ref P.x)]) := F')
    (refine at_toks ?_; intro tk0)
    (refine (let A9 : Around := _; let g9 : Array GenState := _; let d9 : Drawn := _; let o9 : OsState := _; (?_ : wpAny _ A9 _ _ _ ⟨_, g9, d9, _, o9⟩)))
    k_steps
    refine (let qk9 : Value → Shared → Prop := _; (?_ : wpAny _ _ _ qk9 _ _))
    first | ((with_reducible show wpAny _ _ (eval _ _) _ _ _); first | refine self_call (by assumption) (by k_asm) (by first | assumption | exact PS.cons (by assumption) | exact PS.cons (PS.cons (by assumption))) (by assumption) (by first | exact rfl | assumption) (by first | exact rfl | assumption) rfl rfl ⟨by k_is, by k_is, by k_is, by k_is, rfl⟩ rfl rfl ?_ | refine glob_call (by assumption) (by assumption) (by assumption) (by first | exact rfl | assumption) (by k_is) rfl rfl (by k_is) rfl ?_) | skip
    refine Con.useVL (Q := qk9) (is_key_t S h1) (by assumption) (by assumption) (by assumption) (by k_asm) (by assumption) (by first | exact rfl | assumption) rfl rfl ?_
    intro h9 tk9 F9 N9
    first | k_unfold | skip
    try clear qk9
    try dsimp only
    try k_fold
    k_steps
    exact hret _ _ _ _ (by k_asm) (by k_asm) ⟨rfl, rfl⟩
noncomputable def declWords : List PySem.Str := ["reg", "integer", "time", "event", "parameter", "localparam", "real", "realtime"]
theorem begins_decl_c {w : World} {led : Led} {P : PA} {kd x : PySem.Str} {i : Int} {nx : List TK} {dep : Int} {wi ne : Bool} (S : PS led P (.w kd x i) nx dep wi ne) :
    Con 850 7600 w 620 [.ref P.x] led (fun r led' => r = .bool (kd == "key" && declWords.any (fun y => y == x)) ∧ Sup led led') := by
  refine PS.openedWK S (fun tv0 td0 k0 u40 u50 hb0 kt0 u00 u10 u20 hx0 hd0 ht0 htd0 => ?_)
  try unfold Con
  intro zmean zmg zmb zgd zcn zcs za zccd zcl zouter zA zbase zh zL zm zs zQ zE zB zF X zN zT zhk hret
  revert X; k_fill; intro X
  refine wpAny_call ?_
  k_dflt (refine' code_def ?k1 ?k2 ?k3 ?k4 ?k5 ?kA ?kF ?kK ?k6 ?k7 ?k8 ?k9 ?kB ?_ ?c2 ?c3 ?c4 ?c5; (case kA => exact rfl); (case kF => exact rfl); (case kK => assumption); (case k1 => k_asm); (case k2 => k_asm); (case k3 => k_asm); (case k4 => k_asm); (case k5 => k_asm); (case k6 => k_is); (case k7 => k_is); (case k8 => k_room); (case k9 => first | exact BindsTo.of_eq rfl | exact binds_K (by k_in) rfl (by k_is) rfl rfl rfl); (case c5 => decide); (case kB => exact locs rfl); (case c2 => exact rfl); (case c3 => exact rfl); (case c4 => exact rfl); k_whole; intro g' L' h' FG' F' N' B' X' T'; (try dsimp only); (try k_fold))
  (replace F' : Fr g' L' h' (fun y => List.lookup y [("self", .ref P.x)]) := F')
  (refine at_toks ?_; intro tk0)
  (refine (let A9 : Around := _; let g9 : Array GenState := _; let d9 : Drawn := _; let o9 : OsState := _; (?_ : wpAny _ A9 _ _ _ ⟨_, g9, d9, _, o9⟩)))
  k_steps
  all_goals exact hret _ _ _ _ (by k_asm) (by k_asm) ⟨congrArg Value.bool (by rw [show (kd == PySem.Str.ofString "key") = !(kd != PySem.Str.ofString "key") from (Bool.not_not _).symm]; simp only [*]; rfl), (by intro p9 hp9; repeat (first | exact hp9 | apply List.mem_cons_of_mem))⟩
theorem variable_item_c {w : World} {led : Led} {P : PA} {nm kd : PySem.Str} {j b : Int} {u u2 : Tok} {sg : Bool} {vx : Value} {dx : Dat} {t : TK} {nx : List TK} {dep : Int} {ne : Bool} (ht : t.isW "op" "[" = false) (V : VI led vx dx) (S : PS led P (.w "id" nm j) (t :: nx) dep false ne) :
    Con 720 6200 w 641 [.ref P.x, .int b u, .str kd u2, .bool sg, vx, .bool false] led (fun r led' => VI led' r (.tuple [.str "var", .int b, .str kd, .bool sg, dx, .str nm, .tuple [], .none]) ∧ PS led' P t nx dep false ne ∧ Ext P led led') := by
  try unfold Con
  intro zmean zmg zmb zgd zcn zcs za zccd zcl zouter zA zbase zh zL zm zs zQ zE zB zF X zN zT zhk hret
  revert X; k_fill; intro X
  refine wpAny_call ?_
  k_dflt (refine' code_def ?k1 ?k2 ?k3 ?k4 ?k5 ?kA ?kF ?kK ?k6 ?k7 ?k8 ?k9 ?kB ?_ ?c2 ?c3 ?c4 ?c5; (case kA => exact rfl); (case kF => exact rfl); (case kK => assumption); (case k1 => k_asm); (case k2 => k_asm); (case k3 => k_asm); (case k4 => k_asm); (case k5 => k_asm); (case k6 => k_is); (case k7 => k_is); (case k8 => k_room); (case k9 => first | exact BindsTo.of_eq rfl | exact binds_K (by k_in) rfl (by k_is) rfl rfl rfl); (case c5 => decide); (case kB => exact locs rfl); (case c2 => exact rfl); (case c3 => exact rfl); (case c4 => exact rfl); k_whole; intro g' L' h' FG' F' N' B' X' T'; (try dsimp only); (try k_fold))
  (replace F' : Fr g' L' h' (fun y => List.lookup y [("with_init", .bool false), ("extent", vx), ("signed", .bool sg), ("kind", .str kd u2), ("at", .int b u), ("self", .ref P.x)]) := F')
  (refine at_toks ?_; intro tk0)
  (refine (let A9 : Around := _; let g9 : Array GenState := _; let d9 : Drawn := _; let o9 : OsState := _; (?_ : wpAny _ A9 _ _ _ ⟨_, g9, d9, _, o9⟩)))
  k_steps
  refine (let qk9 : Value → Shared → Prop := _; (?_ : wpAny _ _ _ qk9 _ _))
  first | ((with_reducible show wpAny _ _ (eval _ _) _ _ _); first | refine self_call (by assumption) (by k_asm) (by first | assumption | exact PS.cons (by assumption) | exact PS.cons (PS.cons (by assumption))) (by assumption) (by first | exact rfl | assumption) (by first | exact rfl | assumption) rfl rfl ⟨by k_is, by k_is, by k_is, by k_is, rfl⟩ rfl rfl ?_ | refine glob_call (by assumption) (by assumption) (by assumption) (by first | exact rfl | assumption) (by k_is) rfl rfl (by k_is) rfl ?_) | skip
  refine Con.useT (Q := qk9) (expect_id_c S) (by assumption) (by assumption) (by assumption) (by k_asm) (by assumption) (by first | exact rfl | assumption) rfl rfl ?_
  intro u3 led9 h9 tk9 F9 N9 S1 E1
  first | k_unfold | skip
  try clear qk9
  try dsimp only
  try k_fold
  k_steps
  refine (let qk9 : Value → Shared → Prop := _; (?_ : wpAny _ _ _ qk9 _ _))
  first | ((with_reducible show wpAny _ _ (eval _ _) _ _ _); first | refine self_call (by assumption) (by k_asm) (by first | assumption | exact PS.cons (by assumption) | exact PS.cons (PS.cons (by assumption))) (by assumption) (by first | exact rfl | assumption) (by first | exact rfl | assumption) rfl rfl ⟨by k_is, by k_is, by k_is, by k_is, rfl⟩ rfl rfl ?_ | refine glob_call (by assumption) (by assumption) (by assumption) (by first | exact rfl | assumption) (by k_is) rfl rfl (by k_is) rfl ?_) | skip
  refine Con.use3 (Q := qk9) (arrays_none S1 ht) (by assumption) (by assumption) (by assumption) (by k_asm) (by assumption) (by first | exact rfl | assumption) rfl rfl ?_
  intro r9 led9 h9 tk9 F9 N9 V2 S2 E2
  have VX := (V.sub E1.frz).sub E2.frz
  obtain ⟨qa, qs, qn, rfl, qm, r⟩ := V2.inv_tup
  first | k_unfold | skip
  try clear qk9
  try dsimp only
  try k_fold
  cases r.inv_nil
  k_steps
  exact hret _ _ _ _ (by k_asm) (by k_asm) ⟨.tup List.mem_cons_self (.cons (.str _ _) (.cons (.int _ _) (.cons (.str _ _) (.cons (.bool _) (.cons (VX.up fun p hp => List.mem_cons_of_mem _ hp) (.cons (.str _ _) (.cons (.tup (List.mem_cons_of_mem _ qm) .nil) (.cons .none .nil)))))))), S2.cons, (E1.trans E2).cons⟩
theorem variable_items_c {w : World} {led : Led} {P : PA} {nm : PySem.Str} {j b e : Int} {t : TK} {nx : List TK} {dep : Int} {ne : Bool} (S : PS led P (.w "key" "integer" b) (.w "id" nm j :: .w "op" ";" e :: t :: nx) dep false ne) :
    Con 700 6000 w 634 [.ref P.x, .bool false] led (fun r led' => (∃ D vs k, r = .ref D ∧ (D, listOf vs.toArray k) ∈ led' ∧ VIs led' vs [.tuple [.str "var", .int b, .str "integer", .bool true, .none, .str nm, .tuple [], .none]]) ∧ PS led' P t nx dep false ne ∧ Ext P led led') := by
  refine PS.openedWK S (fun tv0 td0 k0 u40 u50 hb0 kt0 u00 u10 u20 hx0 hd0 ht0 htd0 => ?_)
  try unfold Con
  intro zmean zmg zmb zgd zcn zcs za zccd zcl zouter zA zbase zh zL zm zs zQ zE zB zF X zN zT zhk hret
  revert X; k_fill; intro X
  refine wpAny_call ?_
  k_dflt (refine' code_def ?k1 ?k2 ?k3 ?k4 ?k5 ?kA ?kF ?kK ?k6 ?k7 ?k8 ?k9 ?kB ?_ ?c2 ?c3 ?c4 ?c5; (case kA => exact rfl); (case kF => exact rfl); (case kK => assumption); (case k1 => k_asm); (case k2 => k_asm); (case k3 => k_asm); (case k4 => k_asm); (case k5 => k_asm); (case k6 => k_is); (case k7 => k_is); (case k8 => k_room); (case k9 => first | exact BindsTo.of_eq rfl | exact binds_K (by k_in) rfl (by k_is) rfl rfl rfl); (case c5 => decide); (case kB => exact locs rfl); (case c2 => exact rfl); (case c3 => exact rfl); (case c4 => exact rfl); k_whole; intro g' L' h' FG' F' N' B' X' T'; (try dsimp only); (try k_fold))
  (replace F' : Fr g' L' h' (fun y => List.lookup y [("with_init", .bool false), ("self", .ref P.x)]) := F')
  (refine at_toks ?_; intro tk0)
  (refine (let A9 : Around := _; let g9 : Array GenState := _; let d9 : Drawn := _; let o9 : OsState := _; (?_ : wpAny _ A9 _ _ _ ⟨_, g9, d9, _, o9⟩)))
  k_steps
  refine (let qk9 : Value → Shared → Prop := _; (?_ : wpAny _ _ _ qk9 _ _))
  first | ((with_reducible show wpAny _ _ (eval _ _) _ _ _); first | refine self_call (by assumption) (by k_asm) (by first | assumption | exact PS.cons (by assumption) | exact PS.cons (PS.cons (by assumption))) (by assumption) (by first | exact rfl | assumption) (by first | exact rfl | assumption) rfl rfl ⟨by k_is, by k_is, by k_is, by k_is, rfl⟩ rfl rfl ?_ | refine glob_call (by assumption) (by assumption) (by assumption) (by first | exact rfl | assumption) (by k_is) rfl rfl (by k_is) rfl ?_) | skip
  refine Con.use3 (Q := qk9) (take_c S) (by assumption) (by assumption) (by assumption) (by k_asm) (by assumption) (by first | exact rfl | assumption) rfl rfl ?_
  intro r9 led9 h9 tk9 F9 N9 V1 S1 E1
  first | k_unfold | skip
  try clear qk9
  try dsimp only
  try k_fold
  k_steps
  refine (let qk9 : Value → Shared → Prop := _; (?_ : wpAny _ _ _ qk9 _ _))
  first | ((with_reducible show wpAny _ _ (eval _ _) _ _ _); first | refine self_call (by assumption) (by k_asm) (by first | assumption | exact PS.cons (by assumption) | exact PS.cons (PS.cons (by assumption))) (by assumption) (by first | exact rfl | assumption) (by first | exact rfl | assumption) rfl rfl ⟨by k_is, by k_is, by k_is, by k_is, rfl⟩ rfl rfl ?_ | refine glob_call (by assumption) (by assumption) (by assumption) (by first | exact rfl | assumption) (by k_is) rfl rfl (by k_is) rfl ?_) | skip
  refine Con.use3 (Q := qk9) (variable_item_c (isW_ne (by decide +kernel)) .none S1) (by assumption) (by assumption) (by assumption) (by k_asm) (by assumption) (by first | exact rfl | assumption) rfl rfl ?_
  intro r9 led9 h9 tk9 F9 N9 V2 S2 E2
  first | k_unfold | skip
  try clear qk9
  try dsimp only
  try k_fold
  k_steps
  (rename ∀ p ∈ led9, p.1 < _ => lD)
  have six := S2.six lD
  unfold Hold
  with_unfolding_all refine while_out ?_
  k_steps
  refine (let qk9 : Value → Shared → Prop := _; (?_ : wpAny _ _ _ qk9 _ _))
  first | ((with_reducible show wpAny _ _ (eval _ _) _ _ _); first | refine self_call (by assumption) (by k_asm) (by first | assumption | exact PS.cons (by assumption) | exact PS.cons (PS.cons (by assumption))) (by assumption) (by first | exact rfl | assumption) (by first | exact rfl | assumption) rfl rfl ⟨by k_is, by k_is, by k_is, by k_is, rfl⟩ rfl rfl ?_ | refine glob_call (by assumption) (by assumption) (by assumption) (by first | exact rfl | assumption) (by k_is) rfl rfl (by k_is) rfl ?_) | skip
  refine Con.useVL (Q := qk9) (accept_op_f S2.cons (isW_ne (by decide +kernel))) (by assumption) (by assumption) (by assumption) (by k_asm) (by assumption) (by first | exact rfl | assumption) rfl rfl ?_
  intro h9 tk9 F9 N9
  first | k_unfold | skip
  try clear qk9
  try dsimp only
  try k_fold
  k_steps
  refine (let qk9 : Value → Shared → Prop := _; (?_ : wpAny _ _ _ qk9 _ _))
  first | ((with_reducible show wpAny _ _ (eval _ _) _ _ _); first | refine self_call (by assumption) (by k_asm) (by first | assumption | exact PS.cons (by assumption) | exact PS.cons (PS.cons (by assumption))) (by assumption) (by first | exact rfl | assumption) (by first | exact rfl | assumption) rfl rfl ⟨by k_is, by k_is, by k_is, by k_is, rfl⟩ rfl rfl ?_ | refine glob_call (by assumption) (by assumption) (by assumption) (by first | exact rfl | assumption) (by k_is) rfl rfl (by k_is) rfl ?_) | skip
  refine Con.useV (Q := qk9) (expect_op_t S2.cons isW_eq) (by assumption) (by assumption) (by assumption) (by k_asm) (by assumption) (by first | exact rfl | assumption) rfl rfl ?_
  intro led9 h9 tk9 F9 N9 S3 E3
  first | k_unfold | skip
  try clear qk9
  try dsimp only
  try k_fold
  k_steps
  exact hret _ _ _ _ (by k_asm) (by k_asm) ⟨⟨_, _, _, rfl, E3.oth _ _ List.mem_cons_self six.dx six.sdx six.al, .cons ((V2.up fun p hp => List.mem_cons_of_mem _ hp).sub E3.frz) .nil⟩, S3, ((E1.trans E2).trans (Ext.up fun p hp => List.mem_cons_of_mem _ hp)).trans E3⟩
theorem declaration_c {w : World} {led : Led} {P : PA} {nm : PySem.Str} {j b e : Int} {t : TK} {nx : List TK} {dep : Int} {ne : Bool} (S : PS led P (.w "key" "integer" b) (.w "id" nm j :: .w "op" ";" e :: t :: nx) dep false ne) :
    Con 690 5900 w 627 [.ref P.x, .bool false] led (fun r led' => (∃ D vs k, r = .ref D ∧ (D, listOf vs.toArray k) ∈ led' ∧ VIs led' vs [.tuple [.str "var", .int b, .str "integer", .bool true, .none, .str nm, .tuple [], .none]]) ∧ PS led' P t nx dep false ne ∧ Ext P led led') := by
  refine PS.openedWK S (fun tv0 td0 k0 u40 u50 hb0 kt0 u00 u10 u20 hx0 hd0 ht0 htd0 => ?_)
  try unfold Con
  intro zmean zmg zmb zgd zcn zcs za zccd zcl zouter zA zbase zh zL zm zs zQ zE zB zF X zN zT zhk hret
  revert X; k_fill; intro X
  refine wpAny_call ?_
  k_dflt (refine' code_def ?k1 ?k2 ?k3 ?k4 ?k5 ?kA ?kF ?kK ?k6 ?k7 ?k8 ?k9 ?kB ?_ ?c2 ?c3 ?c4 ?c5; (case kA => exact rfl); (case kF => exact rfl); (case kK => assumption); (case k1 => k_asm); (case k2 => k_asm); (case k3 => k_asm); (case k4 => k_asm); (case k5 => k_asm); (case k6 => k_is); (case k7 => k_is); (case k8 => k_room); (case k9 => first | exact BindsTo.of_eq rfl | exact binds_K (by k_in) rfl (by k_is) rfl rfl rfl); (case c5 => decide); (case kB => exact locs rfl); (case c2 => exact rfl); (case c3 => exact rfl); (case c4 => exact rfl); k_whole; intro g' L' h' FG' F' N' B' X' T'; (try dsimp only); (try k_fold))
  (replace F' : Fr g' L' h' (fun y => List.lookup y [("with_init", .bool false), ("self", .ref P.x)]) := F')
  (refine at_toks ?_; intro tk0)
  (refine (let A9 : Around := _; let g9 : Array GenState := _; let d9 : Drawn := _; let o9 : OsState := _; (?_ : wpAny _ A9 _ _ _ ⟨_, g9, d9, _, o9⟩)))
  k_steps
  refine (let qk9 : Value → Shared → Prop := _; (?_ : wpAny _ _ _ qk9 _ _))
  first | ((with_reducible show wpAny _ _ (eval _ _) _ _ _); first | refine self_call (by assumption) (by k_asm) (by first | assumption | exact PS.cons (by assumption) | exact PS.cons (PS.cons (by assumption))) (by assumption) (by first | exact rfl | assumption) (by first | exact rfl | assumption) rfl rfl ⟨by k_is, by k_is, by k_is, by k_is, rfl⟩ rfl rfl ?_ | refine glob_call (by assumption) (by assumption) (by assumption) (by first | exact rfl | assumption) (by k_is) rfl rfl (by k_is) rfl ?_) | skip
  refine Con.useS (Q := qk9) (variable_items_c S.cons) (by assumption) (by assumption) (by assumption) (by k_asm) (by assumption) (by first | exact rfl | assumption) rfl rfl ?_
  rintro r9 led9 h9 tk9 F9 N9 ⟨⟨D, vs, k, rfl, m, V⟩, S1, E1⟩
  first | k_unfold | skip
  try clear qk9
  try dsimp only
  try k_fold
  k_steps
  exact hret _ _ _ _ (by k_asm) (by k_asm) ⟨⟨D, vs, k, rfl, m, V⟩, S1, (Ext.up fun p hp => List.mem_cons_of_mem _ hp).trans E1⟩
theorem statement_semi {w : World} {led : Led} {P : PA} {e : Int} {t : TK} {nx : List TK} {dep : Int} {ne : Bool} (S : PS led P (.w "op" ";" e) (t :: nx) dep false ne) :
    Con 690 5900 w 494 [.ref P.x] led (fun r led' => r = .none ∧ PS led' P t nx dep false ne ∧ Ext P led led') := by
  try unfold Con
  intro zmean zmg zmb zgd zcn zcs za zccd zcl zouter zA zbase zh zL zm zs zQ zE zB zF X zN zT zhk hret
  revert X; k_fill; intro X
  refine wpAny_call ?_
  k_dflt (refine' code_def ?k1 ?k2 ?k3 ?k4 ?k5 ?kA ?kF ?kK ?k6 ?k7 ?k8 ?k9 ?kB ?_ ?c2 ?c3 ?c4 ?c5; (case kA => exact rfl); (case kF => exact rfl); (case kK => assumption); (case k1 => k_asm); (case k2 => k_asm); (case k3 => k_asm); (case k4 => k_asm); (case k5 => k_asm); (case k6 => k_is); (case k7 => k_is); (case k8 => k_room); (case k9 => first | exact BindsTo.of_eq rfl | exact binds_K (by k_in) rfl (by k_is) rfl rfl rfl); (case c5 => decide); (case kB => exact locs rfl); (case c2 => exact rfl); (case c3 => exact rfl); (case c4 => exact rfl); k_whole; intro g' L' h' FG' F' N' B' X' T'; (try dsimp only); (try k_fold))
  (replace F' : Fr g' L' h' (fun y => List.lookup y [("self", .ref P.x)]) := F')
  (refine at_toks ?_; intro tk0)
  (refine (let A9 : Around := _; let g9 : Array GenState := _; let d9 : Drawn := _; let o9 : OsState := _; (?_ : wpAny _ A9 _ _ _ ⟨_, g9, d9, _, o9⟩)))
  k_steps
  refine (let qk9 : Value → Shared → Prop := _; (?_ : wpAny _ _ _ qk9 _ _))
  first | ((with_reducible show wpAny _ _ (eval _ _) _ _ _); first | refine self_call (by assumption) (by k_asm) (by first | assumption | exact PS.cons (by assumption) | exact PS.cons (PS.cons (by assumption))) (by assumption) (by first | exact rfl | assumption) (by first | exact rfl | assumption) rfl rfl ⟨by k_is, by k_is, by k_is, by k_is, rfl⟩ rfl rfl ?_ | refine glob_call (by assumption) (by assumption) (by assumption) (by first | exact rfl | assumption) (by k_is) rfl rfl (by k_is) rfl ?_) | skip
  refine Con.useV (Q := qk9) (accept_op_t S isW_eq) (by assumption) (by assumption) (by assumption) (by k_asm) (by assumption) (by first | exact rfl | assumption) rfl rfl ?_
  intro led9 h9 tk9 F9 N9 S1 E1
  first | k_unfold | skip
  try clear qk9
  try dsimp only
  try k_fold
  k_steps
  exact hret _ _ _ _ (by k_asm) (by k_asm) ⟨rfl, S1, E1⟩
theorem ConE.useL {dp un : Nat} {w : World} {f : Addr} {args : List Value} {led : Led} {R : Value → Led → Prop} {Z : PySem.Str → Int → Prop} {cn : PySem.Str} {cs : Scope} {a : Addr} {ccd : Value} {base h₀ : Heap}
    {mean : ExcName → Option Value} {mg mb : PySem.Str → Option Value} {L : Addr} {m : PySem.Str → Option Value} {s : Shared} {Q E : Value → Shared → Prop} (keep : Led)
    (C : ConE dp un w f args led R Z) (K : ∀ p ∈ keep, Frz p.2 ∧ p ∈ led) (B : Below callerA base [] h₀) (F : Fr h₀ L s.heap m) (X : (headK w.params).In h₀) (N : News h₀ L s.heap led) (T : Top headV LO mean mg mb h₀) (hk : cs.kind = .function)
    (hd : (callerA.deeper (envOf cn cs L a ccd)).depth ≤ dp) (hu : (callerA.deeper (envOf cn cs L a ccd)).units ≤ un)
    (ret : ∀ r led' h' tk', Fr h₀ L h' m → News h₀ L h' led' → R r led' → Q r { s with heap := h', toks := tk' })
    (exc : ∀ kind i, Z kind i → ∀ e D k u0 u1 dv g h' tk', Fr h₀ L g m → g.UpToSlots h' → RaisedX base [envOf cn cs L a ccd] 52 e D ((D, xDict k u0 u1 dv kind i) :: keep) h' → E (.ref e) { s with heap := h', toks := tk' }) :
    wpAny (model PySem.Challenge.rw_pq0478_02.row.prog w) (callerA.deeper (envOf cn cs L a ccd)) (call (.ref f) args) Q E s :=
  wp_deeper hd hu (C _ _ _ _ _ _ _ _ _ _ _ _ _ _ _ _ _ _ keep K B F X N T hk ret exc)
section
variable {prog : Program} {w : World} {A : Around} {E : Value → Shared → Prop} {s : Shared} {env : Env} {Q : Flow → Shared → Prop}
theorem cutN {st : Stmt} {rest : List Stmt} {h₀ hp : Heap} {L : Addr} {gs : Array GenState} {dr : Drawn} {tk : Nat} {os : OsState} {m0 : PySem.Str → Option Value} (n : PySem.Str) (_ : Fr h₀ L hp m0) (R : Value → Led → Prop)
    (a : wpAny (model prog w) A (exec st env) (CNext h₀ L gs dr os fun m' led' => ∃ v', R v' led' ∧ m' = fun y => if y = n then some v' else m0 y) E ⟨hp, gs, dr, tk, os⟩)
    (b : ∀ h' tk' v' led', R v' led' → Fr h₀ L h' (fun y => if y = n then some v' else m0 y) → News h₀ L h' led' → wpAny (model prog w) A (execs rest env) Q E ⟨h', gs, dr, tk', os⟩) : wpAny (model prog w) A (execs (st :: rest) env) Q E ⟨hp, gs, dr, tk, os⟩ :=
  cut _ a fun h' tk' m' led' F N p => by obtain ⟨v', r, rfl⟩ := p; exact b h' tk' v' led' r F N
theorem cutL {st : Stmt} {rest : List Stmt} {h₀ hp : Heap} {L : Addr} {gs : Array GenState} {dr : Drawn} {tk : Nat} {os : OsState} {m0 : PySem.Str → Option Value} (_ : Fr h₀ L hp m0) (R : Led → Prop)
    (a : wpAny (model prog w) A (exec st env) (CNext h₀ L gs dr os fun m' led' => R led' ∧ m' = m0) E ⟨hp, gs, dr, tk, os⟩)
    (b : ∀ h' tk' led', R led' → Fr h₀ L h' m0 → News h₀ L h' led' → wpAny (model prog w) A (execs rest env) Q E ⟨h', gs, dr, tk', os⟩) : wpAny (model prog w) A (execs (st :: rest) env) Q E ⟨hp, gs, dr, tk, os⟩ :=
  cut _ a fun h' tk' m' led' F2 N p => by obtain ⟨r, e⟩ := p; rw [e] at F2; exact b h' tk' led' r F2 N
theorem cutV {st : Stmt} {rest : List Stmt} {h₀ hp : Heap} {L : Addr} {gs : Array GenState} {dr : Drawn} {tk : Nat} {os : OsState} {m0 : PySem.Str → Option Value} (_ : Fr h₀ L hp m0) (R : (PySem.Str → Option Value) → (PySem.Str → Option Value) → Led → Prop)
    (a : wpAny (model prog w) A (exec st env) (CNext h₀ L gs dr os (R m0)) E ⟨hp, gs, dr, tk, os⟩)
    (b : ∀ h' tk' m' led', R m0 m' led' → Fr h₀ L h' m' → News h₀ L h' led' → wpAny (model prog w) A (execs rest env) Q E ⟨h', gs, dr, tk', os⟩) : wpAny (model prog w) A (execs (st :: rest) env) Q E ⟨hp, gs, dr, tk, os⟩ :=
  cut _ a fun h' tk' m' led' F N p => b h' tk' m' led' p F N
end
structure SP where
  c1 : Nat
  c2 : Nat
  j0 : Int
  i1 : Int
  j1 : Int
  i2 : Int
  j2 : Int
noncomputable def spT : Option SP → List TK
  | .none => []
  | .some p => [.w "op" "[" p.j0, .num ⟨#[p.c1]⟩ p.i1, .w "op" ":" p.j1, .num ⟨#[p.c2]⟩ p.i2, .w "op" "]" p.j2]
noncomputable def spD : Option SP → Dat
  | .none => .none
  | .some p => .tuple [figD p.c1 p.i1, figD p.c2 p.i2]
noncomputable def spF : Option SP → Prop
  | .none => True
  | .some p => Fig p.c1 ∧ Fig p.c2
noncomputable def siT : Option Int → List TK
  | .none => []
  | .some j => [.w "key" "signed" j]
theorem TokIn.openedW {led : Led} {v : Value} {kind text : PySem.Str} {i : Int} (h : TokIn led v (.w kind text i)) : ∃ (a d : Addr) (k : Nat → Int × Tok) (u0 u1 u2 : Tok), v = .ref a ∧ (a, instObj 71 d) ∈ led ∧
    (d, dictOf [⟨(k 0).1, .str "kind" (k 0).2, .str kind u0⟩, ⟨(k 1).1, .str "value" (k 1).2, .str text u1⟩, ⟨(k 2).1, .str "at" (k 2).2, .int i u2⟩] 3) ∈ led := by
  cases h with
  | w h1 h2 => exact ⟨_, _, _, _, _, _, rfl, h1, h2⟩
inductive WK where
  | none
  | reg (j : Int)
  | int (j : Int)
  | time (j : Int)
structure SH where
  k : WK
  si : Option Int
  sp : Option SP
noncomputable def WK.word : WK → PySem.Str
  | .none => ""
  | .reg _ => "reg"
  | .int _ => "integer"
  | .time _ => "time"
noncomputable def WK.tag : WK → PySem.Str
  | .none => ""
  | _ => "var"
noncomputable def SH.toks (s : SH) : List TK := match s.k with
  | .none => siT s.si ++ spT s.sp
  | .reg j => .w "key" "reg" j :: (siT s.si ++ spT s.sp)
  | .int j => [.w "key" "integer" j]
  | .time j => [.w "key" "time" j]
noncomputable def SH.sg (s : SH) : Bool := match s.k with
  | .int _ => true
  | .time _ => false
  | _ => s.si.isSome
noncomputable def SH.ex (s : SH) (b : Int) : Dat := match s.k with
  | .int _ => .tuple [numD b 31, numD b 0]
  | .time _ => .tuple [numD b 63, numD b 0]
  | _ => spD s.sp
noncomputable def SH.dat (s : SH) (b : Int) : Dat := .tuple [.str s.k.tag, .str s.k.word, .bool s.sg, s.ex b]
theorem off_cons {a : Addr} {o : Obj} {p q : Addr × Obj} {led : Led} (h : q ∈ (a, o) :: off a led) : q ∈ (a, o) :: off a (p :: led) := by
  rcases List.mem_cons.mp h with rfl | h
  · exact List.mem_cons_self
  · exact List.mem_cons_of_mem _ (List.mem_filter.mpr ⟨List.mem_cons_of_mem _ (List.mem_filter.mp h).1, (List.mem_filter.mp h).2⟩)
noncomputable def LD (D : Addr) (ds : List Dat) (led : Led) : Prop := ∃ vs k, (D, listOf vs.toArray k) ∈ led ∧ VIs led vs ds
theorem LD.ext {P : PA} {D : Addr} {ds : List Dat} {led led' : Led} (h : LD D ds led) (E : Ext P led led') (six : Six P D) : LD D ds led' := by
  obtain ⟨vs, k, m, v⟩ := h
  exact ⟨vs, k, E.oth _ _ m six.dx six.sdx six.al, v.sub E.frz⟩
theorem PSL.mk {led : Led} {P : PA} {ts : List TK} {t : TK} {nx : List TK} {dep : Int} {wi ne : Bool} (e : ts = t :: nx) (S : PS led P t nx dep wi ne) : PSL led P ts dep wi ne := by subst e; exact S
theorem PSL.get {led : Led} {P : PA} {ts : List TK} {t : TK} {nx : List TK} {dep : Int} {wi ne : Bool} (S : PSL led P ts dep wi ne) (e : ts = t :: nx) : PS led P t nx dep wi ne := by subst e; exact S
theorem isW_kind {k k' x y : PySem.Str} {i : Int} (h : (k == k') = false) : (TK.w k x i).isW k' y = false := by
  show (k == k' && x == y) = false
  rw [h, Bool.false_and]
theorem isW_text {k k' x y : PySem.Str} {i : Int} (h : (x == y) = false) : (TK.w k x i).isW k' y = false := by
  show (k == k' && x == y) = false
  rw [h, Bool.and_false]
theorem isW_key {x : PySem.Str} {j : Int} : (TK.w "key" x j).isW "key" x = true := by
  show (PySem.Str.ofString "key" == "key" && x == x) = true
  rw [show (PySem.Str.ofString "key" == "key") = true by decide +kernel, Bool.true_and]
  exact beq_self_eq_true x
section
local macro_rules | `(tactic| walk_at "eval Name") => `(tactic| (k_here; k_dflt (refine nameX_L (by k_asm) (by assumption) ?_ rfl rfl); k_whole))
theorem port_int {w : World} {led : Led} {P : PA} {b j : Int} {u : Tok} {t : TK} {nx : List TK} {dep : Int} {wi ne : Bool} (S : PS led P (.w "key" "integer" j) (t :: nx) dep wi ne) :
    Con 760 6800 w 709 [.ref P.x, .int b u] led (fun r led' => VI led' r (.tuple [.str "var", .str "integer", .bool true, .tuple [numD b 31, numD b 0]]) ∧ PS led' P t nx dep wi ne ∧ Ext P led led') := by
  try unfold Con
  intro zmean zmg zmb zgd zcn zcs za zccd zcl zouter zA zbase zh zL zm zs zQ zE zB zF X zN zT zhk hret
  revert X; k_fill; intro X
  refine wpAny_call ?_
  k_dflt (refine' code_def ?k1 ?k2 ?k3 ?k4 ?k5 ?kA ?kF ?kK ?k6 ?k7 ?k8 ?k9 ?kB ?_ ?c2 ?c3 ?c4 ?c5; (case kA => exact rfl); (case kF => exact rfl); (case kK => assumption); (case k1 => k_asm); (case k2 => k_asm); (case k3 => k_asm); (case k4 => k_asm); (case k5 => k_asm); (case k6 => k_is); (case k7 => k_is); (case k8 => k_room); (case k9 => first | exact BindsTo.of_eq rfl | exact binds_K (by k_in) rfl (by k_is) rfl rfl rfl); (case c5 => decide); (case kB => exact locs rfl); (case c2 => exact rfl); (case c3 => exact rfl); (case c4 => exact rfl); k_whole; intro g' L' h' FG' F' N' B' X' T'; (try dsimp only); (try k_fold))
  (replace F' : Fr g' L' h' (fun y => List.lookup y [("at", .int b u), ("self", .ref P.x)]) := F')
  (refine at_toks ?_; intro tk0)
  (refine (let A9 : Around := _; let g9 : Array GenState := _; let d9 : Drawn := _; let o9 : OsState := _; (?_ : wpAny _ A9 _ _ _ ⟨_, g9, d9, _, o9⟩)))
  k_steps
  refine (let qk9 : Value → Shared → Prop := _; (?_ : wpAny _ _ _ qk9 _ _))
  first | ((with_reducible show wpAny _ _ (eval _ _) _ _ _); first | refine self_call (by assumption) (by k_asm) (by first | assumption | exact PS.cons (by assumption) | exact PS.cons (PS.cons (by assumption))) (by assumption) (by first | exact rfl | assumption) (by first | exact rfl | assumption) rfl rfl ⟨by k_is, by k_is, by k_is, by k_is, rfl⟩ rfl rfl ?_ | refine glob_call (by assumption) (by assumption) (by assumption) (by first | exact rfl | assumption) (by k_is) rfl rfl (by k_is) rfl ?_) | skip
  refine Con.useV (Q := qk9) (accept_key_t S isW_key) (by assumption) (by assumption) (by assumption) (by k_asm) (by assumption) (by first | exact rfl | assumption) rfl rfl ?_
  intro led9 h9 tk9 F9 N9 S1 E1
  first | k_unfold | skip
  try clear qk9
  try dsimp only
  try k_fold
  k_steps
  refine (let qk9 : Value → Shared → Prop := _; (?_ : wpAny _ _ _ qk9 _ _))
  first | ((with_reducible show wpAny _ _ (eval _ _) _ _ _); first | refine self_call (by assumption) (by k_asm) (by first | assumption | exact PS.cons (by assumption) | exact PS.cons (PS.cons (by assumption))) (by assumption) (by first | exact rfl | assumption) (by first | exact rfl | assumption) rfl rfl ⟨by k_is, by k_is, by k_is, by k_is, rfl⟩ rfl rfl ?_ | refine glob_call (by assumption) (by assumption) (by assumption) (by first | exact rfl | assumption) (by k_is) rfl rfl (by k_is) rfl ?_) | skip
  refine Con.use2 (Q := qk9) (fixed_range_c) (by assumption) (by assumption) (by assumption) (by k_asm) (by assumption) (by first | exact rfl | assumption) rfl rfl ?_
  intro r9 led9 h9 tk9 F9 N9 V2 p2
  have S2 := S1.ups p2
  first | k_unfold | skip
  try clear qk9
  try dsimp only
  try k_fold
  k_steps
  exact hret _ _ _ _ (by k_asm) (by k_asm) ⟨.tup List.mem_cons_self (.cons (.str _ _) (.cons (.str _ _) (.cons (.bool _) (.cons (V2.up fun p hp => List.mem_cons_of_mem _ hp) .nil)))), S2.cons, (E1.trans (Ext.up p2)).cons⟩
theorem port_time {w : World} {led : Led} {P : PA} {b j : Int} {u : Tok} {t : TK} {nx : List TK} {dep : Int} {wi ne : Bool} (S : PS led P (.w "key" "time" j) (t :: nx) dep wi ne) :
    Con 760 6800 w 709 [.ref P.x, .int b u] led (fun r led' => VI led' r (.tuple [.str "var", .str "time", .bool false, .tuple [numD b 63, numD b 0]]) ∧ PS led' P t nx dep wi ne ∧ Ext P led led') := by
  try unfold Con
  intro zmean zmg zmb zgd zcn zcs za zccd zcl zouter zA zbase zh zL zm zs zQ zE zB zF X zN zT zhk hret
  revert X; k_fill; intro X
  refine wpAny_call ?_
  k_dflt (refine' code_def ?k1 ?k2 ?k3 ?k4 ?k5 ?kA ?kF ?kK ?k6 ?k7 ?k8 ?k9 ?kB ?_ ?c2 ?c3 ?c4 ?c5; (case kA => exact rfl); (case kF => exact rfl); (case kK => assumption); (case k1 => k_asm); (case k2 => k_asm); (case k3 => k_asm); (case k4 => k_asm); (case k5 => k_asm); (case k6 => k_is); (case k7 => k_is); (case k8 => k_room); (case k9 => first | exact BindsTo.of_eq rfl | exact binds_K (by k_in) rfl (by k_is) rfl rfl rfl); (case c5 => decide); (case kB => exact locs rfl); (case c2 => exact rfl); (case c3 => exact rfl); (case c4 => exact rfl); k_whole; intro g' L' h' FG' F' N' B' X' T'; (try dsimp only); (try k_fold))
  (replace F' : Fr g' L' h' (fun y => List.lookup y [("at", .int b u), ("self", .ref P.x)]) := F')
  (refine at_toks ?_; intro tk0)
  (refine (let A9 : Around := _; let g9 : Array GenState := _; let d9 : Drawn := _; let o9 : OsState := _; (?_ : wpAny _ A9 _ _ _ ⟨_, g9, d9, _, o9⟩)))
  k_steps
  refine (let qk9 : Value → Shared → Prop := _; (?_ : wpAny _ _ _ qk9 _ _))
  first | ((with_reducible show wpAny _ _ (eval _ _) _ _ _); first | refine self_call (by assumption) (by k_asm) (by first | assumption | exact PS.cons (by assumption) | exact PS.cons (PS.cons (by assumption))) (by assumption) (by first | exact rfl | assumption) (by first | exact rfl | assumption) rfl rfl ⟨by k_is, by k_is, by k_is, by k_is, rfl⟩ rfl rfl ?_ | refine glob_call (by assumption) (by assumption) (by assumption) (by first | exact rfl | assumption) (by k_is) rfl rfl (by k_is) rfl ?_) | skip
  refine Con.useVL (Q := qk9) (accept_key_f S (isW_text (by decide +kernel))) (by assumption) (by assumption) (by assumption) (by k_asm) (by assumption) (by first | exact rfl | assumption) rfl rfl ?_
  intro h9 tk9 F9 N9
  first | k_unfold | skip
  try clear qk9
  try dsimp only
  try k_fold
  k_steps
  refine (let qk9 : Value → Shared → Prop := _; (?_ : wpAny _ _ _ qk9 _ _))
  first | ((with_reducible show wpAny _ _ (eval _ _) _ _ _); first | refine self_call (by assumption) (by k_asm) (by first | assumption | exact PS.cons (by assumption) | exact PS.cons (PS.cons (by assumption))) (by assumption) (by first | exact rfl | assumption) (by first | exact rfl | assumption) rfl rfl ⟨by k_is, by k_is, by k_is, by k_is, rfl⟩ rfl rfl ?_ | refine glob_call (by assumption) (by assumption) (by assumption) (by first | exact rfl | assumption) (by k_is) rfl rfl (by k_is) rfl ?_) | skip
  refine Con.useV (Q := qk9) (accept_key_t S isW_key) (by assumption) (by assumption) (by assumption) (by k_asm) (by assumption) (by first | exact rfl | assumption) rfl rfl ?_
  intro led9 h9 tk9 F9 N9 S1 E1
  first | k_unfold | skip
  try clear qk9
  try dsimp only
  try k_fold
  k_steps
  refine (let qk9 : Value → Shared → Prop := _; (?_ : wpAny _ _ _ qk9 _ _))
  first | ((with_reducible show wpAny _ _ (eval _ _) _ _ _); first | refine self_call (by assumption) (by k_asm) (by first | assumption | exact PS.cons (by assumption) | exact PS.cons (PS.cons (by assumption))) (by assumption) (by first | exact rfl | assumption) (by first | exact rfl | assumption) rfl rfl ⟨by k_is, by k_is, by k_is, by k_is, rfl⟩ rfl rfl ?_ | refine glob_call (by assumption) (by assumption) (by assumption) (by first | exact rfl | assumption) (by k_is) rfl rfl (by k_is) rfl ?_) | skip
  refine Con.use2 (Q := qk9) (fixed_range_c) (by assumption) (by assumption) (by assumption) (by k_asm) (by assumption) (by first | exact rfl | assumption) rfl rfl ?_
  intro r9 led9 h9 tk9 F9 N9 V2 p2
  have S2 := S1.ups p2
  first | k_unfold | skip
  try clear qk9
  try dsimp only
  try k_fold
  k_steps
  exact hret _ _ _ _ (by k_asm) (by k_asm) ⟨.tup List.mem_cons_self (.cons (.str _ _) (.cons (.str _ _) (.cons (.bool _) (.cons (V2.up fun p hp => List.mem_cons_of_mem _ hp) .nil)))), S2.cons, (E1.trans (Ext.up p2)).cons⟩
theorem sip {si : Option Int} {sp : Option SP} {nm : PySem.Str} {j : Int} {r : List TK} : ∃ t n, siT si ++ (spT sp ++ .w "id" nm j :: r) = t :: n ∧ (∀ x : PySem.Str, (("signed" : PySem.Str) == x) = false → t.isW "key" x = false) := by
  rcases si with _ | i
  · rcases sp with _ | p
    · exact ⟨_, _, rfl, fun _ _ => isW_kind (by decide +kernel)⟩
    · exact ⟨_, _, rfl, fun _ _ => isW_kind (by decide +kernel)⟩
  · exact ⟨_, _, rfl, fun _ h => isW_text h⟩
theorem spp {sp : Option SP} {nm : PySem.Str} {j : Int} {r : List TK} : ∃ t n, spT sp ++ .w "id" nm j :: r = t :: n ∧ (∀ x : PySem.Str, t.isW "key" x = false) := by
  rcases sp with _ | p
  · exact ⟨_, _, rfl, fun _ => isW_kind (by decide +kernel)⟩
  · exact ⟨_, _, rfl, fun _ => isW_kind (by decide +kernel)⟩
structure ShC (P : PA) (led : Led) (tag word : PySem.Str) (ts : List TK) (dep : Int) (ne : Bool) (m' : PySem.Str → Option Value) (led' : Led) : Prop where
  se : m' "self" = some (.ref P.x)
  tg : ∃ t, m' "tag" = some (.str tag t)
  kd : ∃ t, m' "kind" = some (.str word t)
  S : PSL led' P ts dep false ne
  E : Ext P led led'
theorem port_none {w : World} {led : Led} {P : PA} {b j : Int} {u : Tok} {nm : PySem.Str} {si : Option Int} {sp : Option SP} {t : TK} {nx : List TK} {dep : Int} {ne : Bool} (hs : spF sp) (h0 : 0 ≤ dep) (h1 : dep ≤ 20) (S : PSL led P (siT si ++ (spT sp ++ .w "id" nm j :: t :: nx)) dep false ne) :
    Con 760 6800 w 709 [.ref P.x, .int b u] led (fun r led' => VI led' r (.tuple [.str "", .str "", .bool si.isSome, spD sp]) ∧ PS led' P (.w "id" nm j) (t :: nx) dep false ne ∧ Ext P led led') := by
  obtain ⟨t0, n0, e0, ht0⟩ := sip (si := si) (sp := sp) (nm := nm) (j := j) (r := t :: nx)
  have S0 := S.get e0
  try unfold Con
  intro zmean zmg zmb zgd zcn zcs za zccd zcl zouter zA zbase zh zL zm zs zQ zE zB zF X zN zT zhk hret
  revert X; k_fill; intro X
  refine wpAny_call ?_
  k_dflt (refine' code_def ?k1 ?k2 ?k3 ?k4 ?k5 ?kA ?kF ?kK ?k6 ?k7 ?k8 ?k9 ?kB ?_ ?c2 ?c3 ?c4 ?c5; (case kA => exact rfl); (case kF => exact rfl); (case kK => assumption); (case k1 => k_asm); (case k2 => k_asm); (case k3 => k_asm); (case k4 => k_asm); (case k5 => k_asm); (case k6 => k_is); (case k7 => k_is); (case k8 => k_room); (case k9 => first | exact BindsTo.of_eq rfl | exact binds_K (by k_in) rfl (by k_is) rfl rfl rfl); (case c5 => decide); (case kB => exact locs rfl); (case c2 => exact rfl); (case c3 => exact rfl); (case c4 => exact rfl); k_whole; intro g' L' h' FG' F' N' B' X' T'; (try dsimp only); (try k_fold))
  (replace F' : Fr g' L' h' (fun y => List.lookup y [("at", .int b u), ("self", .ref P.x)]) := F')
  (refine at_toks ?_; intro tk0)
  (refine (let A9 : Around := _; let g9 : Array GenState := _; let d9 : Drawn := _; let o9 : OsState := _; (?_ : wpAny _ A9 _ _ _ ⟨_, g9, d9, _, o9⟩)))
  k_steps
  refine (let qk9 : Value → Shared → Prop := _; (?_ : wpAny _ _ _ qk9 _ _))
  first | ((with_reducible show wpAny _ _ (eval _ _) _ _ _); first | refine self_call (by assumption) (by k_asm) (by first | assumption | exact PS.cons (by assumption) | exact PS.cons (PS.cons (by assumption))) (by assumption) (by first | exact rfl | assumption) (by first | exact rfl | assumption) rfl rfl ⟨by k_is, by k_is, by k_is, by k_is, rfl⟩ rfl rfl ?_ | refine glob_call (by assumption) (by assumption) (by assumption) (by first | exact rfl | assumption) (by k_is) rfl rfl (by k_is) rfl ?_) | skip
  refine Con.useVL (Q := qk9) (accept_key_f S0 (ht0 _ (by decide +kernel))) (by assumption) (by assumption) (by assumption) (by k_asm) (by assumption) (by first | exact rfl | assumption) rfl rfl ?_
  intro h9 tk9 F9 N9
  first | k_unfold | skip
  try clear qk9
  try dsimp only
  try k_fold
  k_steps
  refine (let qk9 : Value → Shared → Prop := _; (?_ : wpAny _ _ _ qk9 _ _))
  first | ((with_reducible show wpAny _ _ (eval _ _) _ _ _); first | refine self_call (by assumption) (by k_asm) (by first | assumption | exact PS.cons (by assumption) | exact PS.cons (PS.cons (by assumption))) (by assumption) (by first | exact rfl | assumption) (by first | exact rfl | assumption) rfl rfl ⟨by k_is, by k_is, by k_is, by k_is, rfl⟩ rfl rfl ?_ | refine glob_call (by assumption) (by assumption) (by assumption) (by first | exact rfl | assumption) (by k_is) rfl rfl (by k_is) rfl ?_) | skip
  refine Con.useVL (Q := qk9) (accept_key_f S0 (ht0 _ (by decide +kernel))) (by assumption) (by assumption) (by assumption) (by k_asm) (by assumption) (by first | exact rfl | assumption) rfl rfl ?_
  intro h9 tk9 F9 N9
  first | k_unfold | skip
  try clear qk9
  try dsimp only
  try k_fold
  k_steps
  unfold Hold
  refine cutV (by assumption) (fun _ => ShC P led "" "" (siT si ++ (spT sp ++ .w "id" nm j :: t :: nx)) dep ne) ?_ ?_
  · rcases si with _ | i
    · rcases sp with _ | p
      · have S1 : PS led P (.w "id" nm j) (t :: nx) dep false ne := S
        refine (let G9 : Prop := _; (?_ : G9))
        refine PS.openedWK S1 (fun tv1 td1 k1 u41 u51 hb1 kt1 u01 u11 u21 hx1 hd1 ht1 htd1 => ?_)
        first | k_unfold | skip
        try clear G9
        k_steps
        refine (let qk9 : Value → Shared → Prop := _; (?_ : wpAny _ _ _ qk9 _ _))
        first | ((with_reducible show wpAny _ _ (eval _ _) _ _ _); first | refine self_call (by assumption) (by k_asm) (by first | assumption | exact PS.cons (by assumption) | exact PS.cons (PS.cons (by assumption))) (by assumption) (by first | exact rfl | assumption) (by first | exact rfl | assumption) rfl rfl ⟨by k_is, by k_is, by k_is, by k_is, rfl⟩ rfl rfl ?_ | refine glob_call (by assumption) (by assumption) (by assumption) (by first | exact rfl | assumption) (by k_is) rfl rfl (by k_is) rfl ?_) | skip
        refine Con.useVL (Q := qk9) (accept_key_f S1 (isW_kind (by decide +kernel))) (by assumption) (by assumption) (by assumption) (by k_asm) (by assumption) (by first | exact rfl | assumption) rfl rfl ?_
        intro h9 tk9 F9 N9
        first | k_unfold | skip
        try clear qk9
        try dsimp only
        try k_fold
        k_steps
        exact CNext.mk (by k_asm) (by k_asm) ⟨rfl, ⟨_, rfl⟩, ⟨_, rfl⟩, S, .refl _ _⟩
      · have S1 : PS led P (.w "op" "[" p.j0) (.num ⟨#[p.c1]⟩ p.i1 :: .w "op" ":" p.j1 :: .num ⟨#[p.c2]⟩ p.i2 :: .w "op" "]" p.j2 :: .w "id" nm j :: t :: nx) dep false ne := S
        refine (let G9 : Prop := _; (?_ : G9))
        refine PS.openedWK S1 (fun tv1 td1 k1 u41 u51 hb1 kt1 u01 u11 u21 hx1 hd1 ht1 htd1 => ?_)
        first | k_unfold | skip
        try clear G9
        k_steps
        refine (let qk9 : Value → Shared → Prop := _; (?_ : wpAny _ _ _ qk9 _ _))
        first | ((with_reducible show wpAny _ _ (eval _ _) _ _ _); first | refine self_call (by assumption) (by k_asm) (by first | assumption | exact PS.cons (by assumption) | exact PS.cons (PS.cons (by assumption))) (by assumption) (by first | exact rfl | assumption) (by first | exact rfl | assumption) rfl rfl ⟨by k_is, by k_is, by k_is, by k_is, rfl⟩ rfl rfl ?_ | refine glob_call (by assumption) (by assumption) (by assumption) (by first | exact rfl | assumption) (by k_is) rfl rfl (by k_is) rfl ?_) | skip
        refine Con.useVL (Q := qk9) (accept_key_f S1 (isW_kind (by decide +kernel))) (by assumption) (by assumption) (by assumption) (by k_asm) (by assumption) (by first | exact rfl | assumption) rfl rfl ?_
        intro h9 tk9 F9 N9
        first | k_unfold | skip
        try clear qk9
        try dsimp only
        try k_fold
        k_steps
        exact CNext.mk (by k_asm) (by k_asm) ⟨rfl, ⟨_, rfl⟩, ⟨_, rfl⟩, S, .refl _ _⟩
    · refine (let G9 : Prop := _; (?_ : G9))
      obtain ⟨t2, n2, e2, ht2⟩ := spp (sp := sp) (nm := nm) (j := j) (r := t :: nx)
      have S1 : PS led P (.w "key" "signed" i) (t2 :: n2) dep false ne := by
        have := S
        rw [e2] at this
        exact this
      refine PS.openedWK S1 (fun tv1 td1 k1 u41 u51 hb1 kt1 u01 u11 u21 hx1 hd1 ht1 htd1 => ?_)
      first | k_unfold | skip
      try clear G9
      k_steps
      refine (let qk9 : Value → Shared → Prop := _; (?_ : wpAny _ _ _ qk9 _ _))
      first | ((with_reducible show wpAny _ _ (eval _ _) _ _ _); first | refine self_call (by assumption) (by k_asm) (by first | assumption | exact PS.cons (by assumption) | exact PS.cons (PS.cons (by assumption))) (by assumption) (by first | exact rfl | assumption) (by first | exact rfl | assumption) rfl rfl ⟨by k_is, by k_is, by k_is, by k_is, rfl⟩ rfl rfl ?_ | refine glob_call (by assumption) (by assumption) (by assumption) (by first | exact rfl | assumption) (by k_is) rfl rfl (by k_is) rfl ?_) | skip
      refine Con.useVL (Q := qk9) (accept_key_f S1 (isW_text (by decide +kernel))) (by assumption) (by assumption) (by assumption) (by k_asm) (by assumption) (by first | exact rfl | assumption) rfl rfl ?_
      intro h9 tk9 F9 N9
      first | k_unfold | skip
      try clear qk9
      try dsimp only
      try k_fold
      k_steps
      refine (let qk9 : Value → Shared → Prop := _; (?_ : wpAny _ _ _ qk9 _ _))
      first | ((with_reducible show wpAny _ _ (eval _ _) _ _ _); first | refine self_call (by assumption) (by k_asm) (by first | assumption | exact PS.cons (by assumption) | exact PS.cons (PS.cons (by assumption))) (by assumption) (by first | exact rfl | assumption) (by first | exact rfl | assumption) rfl rfl ⟨by k_is, by k_is, by k_is, by k_is, rfl⟩ rfl rfl ?_ | refine glob_call (by assumption) (by assumption) (by assumption) (by first | exact rfl | assumption) (by k_is) rfl rfl (by k_is) rfl ?_) | skip
      refine Con.useS (Q := qk9) (net_kind_c) (by assumption) (by assumption) (by assumption) (by k_asm) (by assumption) (by first | exact rfl | assumption) rfl rfl ?_
      rintro r9 led9 h9 tk9 F9 N9 ⟨⟨t4, rfl⟩, p4⟩
      first | k_unfold | skip
      try clear qk9
      try dsimp only
      try k_fold
      k_steps
      exact CNext.mk (by k_asm) (by k_asm) ⟨rfl, ⟨_, rfl⟩, ⟨_, rfl⟩, by rw [e2]; exact S1.ups p4, .up p4⟩
  clear S S0 e0 ht0
  intro h3 tk3 m3 led3 hq9 F3 N3
  obtain ⟨m1, ⟨t5, m2⟩, ⟨t6, m4⟩, S3, E3⟩ := hq9
  first | k_unfold | skip
  try clear qk9
  try dsimp only
  refine (let G9 : Prop := _; (?_ : G9))
  obtain ⟨t2, n2, e2, ht2⟩ := spp (sp := sp) (nm := nm) (j := j) (r := t :: nx)
  first | k_unfold | skip
  try clear G9
  k_steps
  unfold Hold
  refine cutN "signed" (by assumption) (fun v' led' => v' = .bool si.isSome ∧ PS led' P t2 n2 dep false ne ∧ Ext P led3 led') ?_ ?_
  · rw [e2] at S3
    rcases si with _ | i
    · have S4 : PS led3 P t2 n2 dep false ne := S3
      k_steps
      refine (let qk9 : Value → Shared → Prop := _; (?_ : wpAny _ _ _ qk9 _ _))
      first | ((with_reducible show wpAny _ _ (eval _ _) _ _ _); first | refine self_call (by assumption) (by k_asm) (by first | assumption | exact PS.cons (by assumption) | exact PS.cons (PS.cons (by assumption))) (by assumption) (by first | exact rfl | assumption) (by first | exact rfl | assumption) rfl rfl ⟨by k_is, by k_is, by k_is, by k_is, rfl⟩ rfl rfl ?_ | refine glob_call (by assumption) (by assumption) (by assumption) (by first | exact rfl | assumption) (by k_is) rfl rfl (by k_is) rfl ?_) | skip
      refine Con.useVL (Q := qk9) (accept_key_f S4 (ht2 _)) (by assumption) (by assumption) (by assumption) (by k_asm) (by assumption) (by first | exact rfl | assumption) rfl rfl ?_
      intro h9 tk9 F9 N9
      first | k_unfold | skip
      try clear qk9
      try dsimp only
      try k_fold
      k_steps
      exact CNext.mk (by k_asm) (by k_asm) ⟨_, ⟨rfl, S4, .refl _ _⟩, rfl⟩
    · have S4 : PS led3 P (.w "key" "signed" i) (t2 :: n2) dep false ne := S3
      k_steps
      refine (let qk9 : Value → Shared → Prop := _; (?_ : wpAny _ _ _ qk9 _ _))
      first | ((with_reducible show wpAny _ _ (eval _ _) _ _ _); first | refine self_call (by assumption) (by k_asm) (by first | assumption | exact PS.cons (by assumption) | exact PS.cons (PS.cons (by assumption))) (by assumption) (by first | exact rfl | assumption) (by first | exact rfl | assumption) rfl rfl ⟨by k_is, by k_is, by k_is, by k_is, rfl⟩ rfl rfl ?_ | refine glob_call (by assumption) (by assumption) (by assumption) (by first | exact rfl | assumption) (by k_is) rfl rfl (by k_is) rfl ?_) | skip
      refine Con.useV (Q := qk9) (accept_key_t S4 isW_key) (by assumption) (by assumption) (by assumption) (by k_asm) (by assumption) (by first | exact rfl | assumption) rfl rfl ?_
      intro led9 h9 tk9 F9 N9 S5 E5
      first | k_unfold | skip
      try clear qk9
      try dsimp only
      try k_fold
      k_steps
      exact CNext.mk (by k_asm) (by k_asm) ⟨_, ⟨rfl, S5, E5⟩, rfl⟩
  clear S3 F3 N3
  intro h4 tk4 v4 led4 hq9 F4 N4
  obtain ⟨rfl, S4, E4⟩ := hq9
  have E34 := E3.trans E4
  clear E3 E4
  first | k_unfold | skip
  try clear qk9
  try dsimp only
  rcases sp with _ | p
  · cases e2
    k_steps
    refine (let qk9 : Value → Shared → Prop := _; (?_ : wpAny _ _ _ qk9 _ _))
    first | ((with_reducible show wpAny _ _ (eval _ _) _ _ _); first | refine self_call (by assumption) (by k_asm) (by first | assumption | exact PS.cons (by assumption) | exact PS.cons (PS.cons (by assumption))) (by assumption) (by first | exact rfl | assumption) (by first | exact rfl | assumption) rfl rfl ⟨by k_is, by k_is, by k_is, by k_is, rfl⟩ rfl rfl ?_ | refine glob_call (by assumption) (by assumption) (by assumption) (by first | exact rfl | assumption) (by k_is) rfl rfl (by k_is) rfl ?_) | skip
    refine Con.useVL (Q := qk9) (range_none S4 (isW_kind (by decide +kernel))) (by assumption) (by assumption) (by assumption) (by k_asm) (by assumption) (by first | exact rfl | assumption) rfl rfl ?_
    intro h9 tk9 F9 N9
    first | k_unfold | skip
    try clear qk9
    try dsimp only
    try k_fold
    k_steps
    exact hret _ _ _ _ (by k_asm) (by k_asm) ⟨.tup List.mem_cons_self (.cons (.str _ _) (.cons (.str _ _) (.cons (.bool _) (.cons .none .nil)))), S4.cons, E34.cons⟩
  · cases e2
    k_steps
    refine (let qk9 : Value → Shared → Prop := _; (?_ : wpAny _ _ _ qk9 _ _))
    first | ((with_reducible show wpAny _ _ (eval _ _) _ _ _); first | refine self_call (by assumption) (by k_asm) (by first | assumption | exact PS.cons (by assumption) | exact PS.cons (PS.cons (by assumption))) (by assumption) (by first | exact rfl | assumption) (by first | exact rfl | assumption) rfl rfl ⟨by k_is, by k_is, by k_is, by k_is, rfl⟩ rfl rfl ?_ | refine glob_call (by assumption) (by assumption) (by assumption) (by first | exact rfl | assumption) (by k_is) rfl rfl (by k_is) rfl ?_) | skip
    refine Con.use3 (Q := qk9) (range_some hs.1 hs.2 h0 h1 S4) (by assumption) (by assumption) (by assumption) (by k_asm) (by assumption) (by first | exact rfl | assumption) rfl rfl ?_
    intro r9 led9 h9 tk9 F9 N9 V5 S5 E5
    first | k_unfold | skip
    try clear qk9
    try dsimp only
    try k_fold
    k_steps
    exact hret _ _ _ _ (by k_asm) (by k_asm) ⟨.tup List.mem_cons_self (.cons (.str _ _) (.cons (.str _ _) (.cons (.bool _) (.cons (V5.up fun p hp => List.mem_cons_of_mem _ hp) .nil)))), S5.cons, (E34.trans E5).cons⟩
theorem port_reg {w : World} {led : Led} {P : PA} {b j j9 : Int} {u : Tok} {nm : PySem.Str} {si : Option Int} {sp : Option SP} {t : TK} {nx : List TK} {dep : Int} {ne : Bool} (hs : spF sp) (h0 : 0 ≤ dep) (h1 : dep ≤ 20) (S : PSL led P (.w "key" "reg" j9 :: (siT si ++ (spT sp ++ .w "id" nm j :: t :: nx))) dep false ne) :
    Con 760 6800 w 709 [.ref P.x, .int b u] led (fun r led' => VI led' r (.tuple [.str "var", .str "reg", .bool si.isSome, spD sp]) ∧ PS led' P (.w "id" nm j) (t :: nx) dep false ne ∧ Ext P led led') := by
  obtain ⟨t0, n0, e0, ht0⟩ := sip (si := si) (sp := sp) (nm := nm) (j := j) (r := t :: nx)
  have S0 : PS led P (.w "key" "reg" j9) (t0 :: n0) dep false ne := by
    rw [e0] at S
    exact S
  try unfold Con
  intro zmean zmg zmb zgd zcn zcs za zccd zcl zouter zA zbase zh zL zm zs zQ zE zB zF X zN zT zhk hret
  revert X; k_fill; intro X
  refine wpAny_call ?_
  k_dflt (refine' code_def ?k1 ?k2 ?k3 ?k4 ?k5 ?kA ?kF ?kK ?k6 ?k7 ?k8 ?k9 ?kB ?_ ?c2 ?c3 ?c4 ?c5; (case kA => exact rfl); (case kF => exact rfl); (case kK => assumption); (case k1 => k_asm); (case k2 => k_asm); (case k3 => k_asm); (case k4 => k_asm); (case k5 => k_asm); (case k6 => k_is); (case k7 => k_is); (case k8 => k_room); (case k9 => first | exact BindsTo.of_eq rfl | exact binds_K (by k_in) rfl (by k_is) rfl rfl rfl); (case c5 => decide); (case kB => exact locs rfl); (case c2 => exact rfl); (case c3 => exact rfl); (case c4 => exact rfl); k_whole; intro g' L' h' FG' F' N' B' X' T'; (try dsimp only); (try k_fold))
  (replace F' : Fr g' L' h' (fun y => List.lookup y [("at", .int b u), ("self", .ref P.x)]) := F')
  (refine at_toks ?_; intro tk0)
  (refine (let A9 : Around := _; let g9 : Array GenState := _; let d9 : Drawn := _; let o9 : OsState := _; (?_ : wpAny _ A9 _ _ _ ⟨_, g9, d9, _, o9⟩)))
  k_steps
  refine (let qk9 : Value → Shared → Prop := _; (?_ : wpAny _ _ _ qk9 _ _))
  first | ((with_reducible show wpAny _ _ (eval _ _) _ _ _); first | refine self_call (by assumption) (by k_asm) (by first | assumption | exact PS.cons (by assumption) | exact PS.cons (PS.cons (by assumption))) (by assumption) (by first | exact rfl | assumption) (by first | exact rfl | assumption) rfl rfl ⟨by k_is, by k_is, by k_is, by k_is, rfl⟩ rfl rfl ?_ | refine glob_call (by assumption) (by assumption) (by assumption) (by first | exact rfl | assumption) (by k_is) rfl rfl (by k_is) rfl ?_) | skip
  refine Con.useVL (Q := qk9) (accept_key_f S0 (isW_text (by decide +kernel))) (by assumption) (by assumption) (by assumption) (by k_asm) (by assumption) (by first | exact rfl | assumption) rfl rfl ?_
  intro h9 tk9 F9 N9
  first | k_unfold | skip
  try clear qk9
  try dsimp only
  try k_fold
  k_steps
  refine (let qk9 : Value → Shared → Prop := _; (?_ : wpAny _ _ _ qk9 _ _))
  first | ((with_reducible show wpAny _ _ (eval _ _) _ _ _); first | refine self_call (by assumption) (by k_asm) (by first | assumption | exact PS.cons (by assumption) | exact PS.cons (PS.cons (by assumption))) (by assumption) (by first | exact rfl | assumption) (by first | exact rfl | assumption) rfl rfl ⟨by k_is, by k_is, by k_is, by k_is, rfl⟩ rfl rfl ?_ | refine glob_call (by assumption) (by assumption) (by assumption) (by first | exact rfl | assumption) (by k_is) rfl rfl (by k_is) rfl ?_) | skip
  refine Con.useVL (Q := qk9) (accept_key_f S0 (isW_text (by decide +kernel))) (by assumption) (by assumption) (by assumption) (by k_asm) (by assumption) (by first | exact rfl | assumption) rfl rfl ?_
  intro h9 tk9 F9 N9
  first | k_unfold | skip
  try clear qk9
  try dsimp only
  try k_fold
  k_steps
  unfold Hold
  refine cutV (by assumption) (fun _ => ShC P led "var" "reg" (siT si ++ (spT sp ++ .w "id" nm j :: t :: nx)) dep ne) ?_ ?_
  · k_steps
    refine (let qk9 : Value → Shared → Prop := _; (?_ : wpAny _ _ _ qk9 _ _))
    first | ((with_reducible show wpAny _ _ (eval _ _) _ _ _); first | refine self_call (by assumption) (by k_asm) (by first | assumption | exact PS.cons (by assumption) | exact PS.cons (PS.cons (by assumption))) (by assumption) (by first | exact rfl | assumption) (by first | exact rfl | assumption) rfl rfl ⟨by k_is, by k_is, by k_is, by k_is, rfl⟩ rfl rfl ?_ | refine glob_call (by assumption) (by assumption) (by assumption) (by first | exact rfl | assumption) (by k_is) rfl rfl (by k_is) rfl ?_) | skip
    refine Con.useV (Q := qk9) (accept_key_t S0 isW_key) (by assumption) (by assumption) (by assumption) (by k_asm) (by assumption) (by first | exact rfl | assumption) rfl rfl ?_
    intro led9 h9 tk9 F9 N9 S1 E1
    first | k_unfold | skip
    try clear qk9
    try dsimp only
    try k_fold
    k_steps
    exact CNext.mk (by k_asm) (by k_asm) ⟨rfl, ⟨_, rfl⟩, ⟨_, rfl⟩, by rw [e0]; exact S1, E1⟩
  clear S S0 e0 ht0
  intro h3 tk3 m3 led3 hq9 F3 N3
  obtain ⟨m1, ⟨t5, m2⟩, ⟨t6, m4⟩, S3, E3⟩ := hq9
  first | k_unfold | skip
  try clear qk9
  try dsimp only
  refine (let G9 : Prop := _; (?_ : G9))
  obtain ⟨t2, n2, e2, ht2⟩ := spp (sp := sp) (nm := nm) (j := j) (r := t :: nx)
  first | k_unfold | skip
  try clear G9
  k_steps
  unfold Hold
  refine cutN "signed" (by assumption) (fun v' led' => v' = .bool si.isSome ∧ PS led' P t2 n2 dep false ne ∧ Ext P led3 led') ?_ ?_
  · rw [e2] at S3
    rcases si with _ | i
    · have S4 : PS led3 P t2 n2 dep false ne := S3
      k_steps
      refine (let qk9 : Value → Shared → Prop := _; (?_ : wpAny _ _ _ qk9 _ _))
      first | ((with_reducible show wpAny _ _ (eval _ _) _ _ _); first | refine self_call (by assumption) (by k_asm) (by first | assumption | exact PS.cons (by assumption) | exact PS.cons (PS.cons (by assumption))) (by assumption) (by first | exact rfl | assumption) (by first | exact rfl | assumption) rfl rfl ⟨by k_is, by k_is, by k_is, by k_is, rfl⟩ rfl rfl ?_ | refine glob_call (by assumption) (by assumption) (by assumption) (by first | exact rfl | assumption) (by k_is) rfl rfl (by k_is) rfl ?_) | skip
      refine Con.useVL (Q := qk9) (accept_key_f S4 (ht2 _)) (by assumption) (by assumption) (by assumption) (by k_asm) (by assumption) (by first | exact rfl | assumption) rfl rfl ?_
      intro h9 tk9 F9 N9
      first | k_unfold | skip
      try clear qk9
      try dsimp only
      try k_fold
      k_steps
      exact CNext.mk (by k_asm) (by k_asm) ⟨_, ⟨rfl, S4, .refl _ _⟩, rfl⟩
    · have S4 : PS led3 P (.w "key" "signed" i) (t2 :: n2) dep false ne := S3
      k_steps
      refine (let qk9 : Value → Shared → Prop := _; (?_ : wpAny _ _ _ qk9 _ _))
      first | ((with_reducible show wpAny _ _ (eval _ _) _ _ _); first | refine self_call (by assumption) (by k_asm) (by first | assumption | exact PS.cons (by assumption) | exact PS.cons (PS.cons (by assumption))) (by assumption) (by first | exact rfl | assumption) (by first | exact rfl | assumption) rfl rfl ⟨by k_is, by k_is, by k_is, by k_is, rfl⟩ rfl rfl ?_ | refine glob_call (by assumption) (by assumption) (by assumption) (by first | exact rfl | assumption) (by k_is) rfl rfl (by k_is) rfl ?_) | skip
      refine Con.useV (Q := qk9) (accept_key_t S4 isW_key) (by assumption) (by assumption) (by assumption) (by k_asm) (by assumption) (by first | exact rfl | assumption) rfl rfl ?_
      intro led9 h9 tk9 F9 N9 S5 E5
      first | k_unfold | skip
      try clear qk9
      try dsimp only
      try k_fold
      k_steps
      exact CNext.mk (by k_asm) (by k_asm) ⟨_, ⟨rfl, S5, E5⟩, rfl⟩
  clear S3 F3 N3
  intro h4 tk4 v4 led4 hq9 F4 N4
  obtain ⟨rfl, S4, E4⟩ := hq9
  have E34 := E3.trans E4
  clear E3 E4
  first | k_unfold | skip
  try clear qk9
  try dsimp only
  rcases sp with _ | p
  · cases e2
    k_steps
    refine (let qk9 : Value → Shared → Prop := _; (?_ : wpAny _ _ _ qk9 _ _))
    first | ((with_reducible show wpAny _ _ (eval _ _) _ _ _); first | refine self_call (by assumption) (by k_asm) (by first | assumption | exact PS.cons (by assumption) | exact PS.cons (PS.cons (by assumption))) (by assumption) (by first | exact rfl | assumption) (by first | exact rfl | assumption) rfl rfl ⟨by k_is, by k_is, by k_is, by k_is, rfl⟩ rfl rfl ?_ | refine glob_call (by assumption) (by assumption) (by assumption) (by first | exact rfl | assumption) (by k_is) rfl rfl (by k_is) rfl ?_) | skip
    refine Con.useVL (Q := qk9) (range_none S4 (isW_kind (by decide +kernel))) (by assumption) (by assumption) (by assumption) (by k_asm) (by assumption) (by first | exact rfl | assumption) rfl rfl ?_
    intro h9 tk9 F9 N9
    first | k_unfold | skip
    try clear qk9
    try dsimp only
    try k_fold
    k_steps
    exact hret _ _ _ _ (by k_asm) (by k_asm) ⟨.tup List.mem_cons_self (.cons (.str _ _) (.cons (.str _ _) (.cons (.bool _) (.cons .none .nil)))), S4.cons, E34.cons⟩
  · cases e2
    k_steps
    refine (let qk9 : Value → Shared → Prop := _; (?_ : wpAny _ _ _ qk9 _ _))
    first | ((with_reducible show wpAny _ _ (eval _ _) _ _ _); first | refine self_call (by assumption) (by k_asm) (by first | assumption | exact PS.cons (by assumption) | exact PS.cons (PS.cons (by assumption))) (by assumption) (by first | exact rfl | assumption) (by first | exact rfl | assumption) rfl rfl ⟨by k_is, by k_is, by k_is, by k_is, rfl⟩ rfl rfl ?_ | refine glob_call (by assumption) (by assumption) (by assumption) (by first | exact rfl | assumption) (by k_is) rfl rfl (by k_is) rfl ?_) | skip
    refine Con.use3 (Q := qk9) (range_some hs.1 hs.2 h0 h1 S4) (by assumption) (by assumption) (by assumption) (by k_asm) (by assumption) (by first | exact rfl | assumption) rfl rfl ?_
    intro r9 led9 h9 tk9 F9 N9 V5 S5 E5
    first | k_unfold | skip
    try clear qk9
    try dsimp only
    try k_fold
    k_steps
    exact hret _ _ _ _ (by k_asm) (by k_asm) ⟨.tup List.mem_cons_self (.cons (.str _ _) (.cons (.str _ _) (.cons (.bool _) (.cons (V5.up fun p hp => List.mem_cons_of_mem _ hp) .nil)))), S5.cons, (E34.trans E5).cons⟩
theorem port_shape_c {w : World} {led : Led} {P : PA} {b j : Int} {u : Tok} {nm : PySem.Str} {s : SH} {t : TK} {nx : List TK} {dep : Int} {ne : Bool} (hs : spF s.sp) (h0 : 0 ≤ dep) (h1 : dep ≤ 20) (S : PSL led P (s.toks ++ .w "id" nm j :: t :: nx) dep false ne) :
    Con 760 6800 w 709 [.ref P.x, .int b u] led (fun r led' => VI led' r (s.dat b) ∧ PS led' P (.w "id" nm j) (t :: nx) dep false ne ∧ Ext P led led') := by
  obtain ⟨k, si, sp⟩ := s
  cases k with
  | none => exact port_none hs h0 h1 (by rw [← List.append_assoc]; exact S)
  | reg j9 => exact port_reg hs h0 h1 (by rw [← List.append_assoc]; exact S)
  | int j9 => exact port_int S
  | time j9 => exact port_time S
theorem port_wire {w : World} {led : Led} {P : PA} {b j j9 : Int} {u : Tok} {nm : PySem.Str} {nx : List TK} {dep : Int} {ne : Bool} (S : PS led P (.w "key" "wire" j9) (.w "id" nm j :: nx) dep false ne) :
    Con 760 6800 w 709 [.ref P.x, .int b u] led (fun r led' => VI led' r (.tuple [.str "net", .str "wire", .bool false, .none]) ∧ PS led' P (.w "id" nm j) nx dep false ne ∧ Ext P led led') := by
  refine PS.openedWK S (fun tv0 td0 k0 u40 u50 hb0 kt0 u00 u10 u20 hx0 hd0 ht0 htd0 => ?_)
  try unfold Con
  intro zmean zmg zmb zgd zcn zcs za zccd zcl zouter zA zbase zh zL zm zs zQ zE zB zF X zN zT zhk hret
  revert X; k_fill; intro X
  refine wpAny_call ?_
  k_dflt (refine' code_def ?k1 ?k2 ?k3 ?k4 ?k5 ?kA ?kF ?kK ?k6 ?k7 ?k8 ?k9 ?kB ?_ ?c2 ?c3 ?c4 ?c5; (case kA => exact rfl); (case kF => exact rfl); (case kK => assumption); (case k1 => k_asm); (case k2 => k_asm); (case k3 => k_asm); (case k4 => k_asm); (case k5 => k_asm); (case k6 => k_is); (case k7 => k_is); (case k8 => k_room); (case k9 => first | exact BindsTo.of_eq rfl | exact binds_K (by k_in) rfl (by k_is) rfl rfl rfl); (case c5 => decide); (case kB => exact locs rfl); (case c2 => exact rfl); (case c3 => exact rfl); (case c4 => exact rfl); k_whole; intro g' L' h' FG' F' N' B' X' T'; (try dsimp only); (try k_fold))
  (replace F' : Fr g' L' h' (fun y => List.lookup y [("at", .int b u), ("self", .ref P.x)]) := F')
  (refine at_toks ?_; intro tk0)
  (refine (let A9 : Around := _; let g9 : Array GenState := _; let d9 : Drawn := _; let o9 : OsState := _; (?_ : wpAny _ A9 _ _ _ ⟨_, g9, d9, _, o9⟩)))
  k_steps
  refine (let qk9 : Value → Shared → Prop := _; (?_ : wpAny _ _ _ qk9 _ _))
  first | ((with_reducible show wpAny _ _ (eval _ _) _ _ _); first | refine self_call (by assumption) (by k_asm) (by first | assumption | exact PS.cons (by assumption) | exact PS.cons (PS.cons (by assumption))) (by assumption) (by first | exact rfl | assumption) (by first | exact rfl | assumption) rfl rfl ⟨by k_is, by k_is, by k_is, by k_is, rfl⟩ rfl rfl ?_ | refine glob_call (by assumption) (by assumption) (by assumption) (by first | exact rfl | assumption) (by k_is) rfl rfl (by k_is) rfl ?_) | skip
  refine Con.useVL (Q := qk9) (accept_key_f S (isW_text (by decide +kernel))) (by assumption) (by assumption) (by assumption) (by k_asm) (by assumption) (by first | exact rfl | assumption) rfl rfl ?_
  intro h9 tk9 F9 N9
  first | k_unfold | skip
  try clear qk9
  try dsimp only
  try k_fold
  k_steps
  refine (let qk9 : Value → Shared → Prop := _; (?_ : wpAny _ _ _ qk9 _ _))
  first | ((with_reducible show wpAny _ _ (eval _ _) _ _ _); first | refine self_call (by assumption) (by k_asm) (by first | assumption | exact PS.cons (by assumption) | exact PS.cons (PS.cons (by assumption))) (by assumption) (by first | exact rfl | assumption) (by first | exact rfl | assumption) rfl rfl ⟨by k_is, by k_is, by k_is, by k_is, rfl⟩ rfl rfl ?_ | refine glob_call (by assumption) (by assumption) (by assumption) (by first | exact rfl | assumption) (by k_is) rfl rfl (by k_is) rfl ?_) | skip
  refine Con.useVL (Q := qk9) (accept_key_f S (isW_text (by decide +kernel))) (by assumption) (by assumption) (by assumption) (by k_asm) (by assumption) (by first | exact rfl | assumption) rfl rfl ?_
  intro h9 tk9 F9 N9
  first | k_unfold | skip
  try clear qk9
  try dsimp only
  try k_fold
  k_steps
  unfold Hold
  refine cutV (by assumption) (fun _ => ShC P led "net" "wire" (.w "id" nm j :: nx) dep ne) ?_ ?_
  · k_steps
    refine (let qk9 : Value → Shared → Prop := _; (?_ : wpAny _ _ _ qk9 _ _))
    first | ((with_reducible show wpAny _ _ (eval _ _) _ _ _); first | refine self_call (by assumption) (by k_asm) (by first | assumption | exact PS.cons (by assumption) | exact PS.cons (PS.cons (by assumption))) (by assumption) (by first | exact rfl | assumption) (by first | exact rfl | assumption) rfl rfl ⟨by k_is, by k_is, by k_is, by k_is, rfl⟩ rfl rfl ?_ | refine glob_call (by assumption) (by assumption) (by assumption) (by first | exact rfl | assumption) (by k_is) rfl rfl (by k_is) rfl ?_) | skip
    refine Con.useVL (Q := qk9) (accept_key_f S (isW_text (by decide +kernel))) (by assumption) (by assumption) (by assumption) (by k_asm) (by assumption) (by first | exact rfl | assumption) rfl rfl ?_
    intro h9 tk9 F9 N9
    first | k_unfold | skip
    try clear qk9
    try dsimp only
    try k_fold
    k_steps
    refine (let qk9 : Value → Shared → Prop := _; (?_ : wpAny _ _ _ qk9 _ _))
    first | ((with_reducible show wpAny _ _ (eval _ _) _ _ _); first | refine self_call (by assumption) (by k_asm) (by first | assumption | exact PS.cons (by assumption) | exact PS.cons (PS.cons (by assumption))) (by assumption) (by first | exact rfl | assumption) (by first | exact rfl | assumption) rfl rfl ⟨by k_is, by k_is, by k_is, by k_is, rfl⟩ rfl rfl ?_ | refine glob_call (by assumption) (by assumption) (by assumption) (by first | exact rfl | assumption) (by k_is) rfl rfl (by k_is) rfl ?_) | skip
    refine Con.useS (Q := qk9) (net_kind_c) (by assumption) (by assumption) (by assumption) (by k_asm) (by assumption) (by first | exact rfl | assumption) rfl rfl ?_
    rintro r9 led9 h9 tk9 F9 N9 ⟨⟨t4, rfl⟩, p4⟩
    have S1 := S.ups p4
    refine PS.openedWK S1 (fun tv1 td1 k1 u41 u51 hb1 kt1 u01 u11 u21 hx1 hd1 ht1 htd1 => ?_)
    try clear hx0 hd0 ht0 htd0
    first | k_unfold | skip
    try clear qk9
    try dsimp only
    try k_fold
    k_steps
    refine (let qk9 : Value → Shared → Prop := _; (?_ : wpAny _ _ _ qk9 _ _))
    first | ((with_reducible show wpAny _ _ (eval _ _) _ _ _); first | refine self_call (by assumption) (by k_asm) (by first | assumption | exact PS.cons (by assumption) | exact PS.cons (PS.cons (by assumption))) (by assumption) (by first | exact rfl | assumption) (by first | exact rfl | assumption) rfl rfl ⟨by k_is, by k_is, by k_is, by k_is, rfl⟩ rfl rfl ?_ | refine glob_call (by assumption) (by assumption) (by assumption) (by first | exact rfl | assumption) (by k_is) rfl rfl (by k_is) rfl ?_) | skip
    refine Con.use3 (Q := qk9) (take_c S1) (by assumption) (by assumption) (by assumption) (by k_asm) (by assumption) (by first | exact rfl | assumption) rfl rfl ?_
    intro r9 led9 h9 tk9 F9 N9 V2 S2 E2
    obtain ⟨a1, d1, k1, u10, u11, u12, rfl, ha1, hd1'⟩ := V2.openedW
    first | k_unfold | skip
    try clear qk9
    try dsimp only
    try k_fold
    k_steps
    refine (let qk9 : Value → Shared → Prop := _; (?_ : wpAny _ _ _ qk9 _ _))
    first | ((with_reducible show wpAny _ _ (eval _ _) _ _ _); first | refine self_call (by assumption) (by k_asm) (by first | assumption | exact PS.cons (by assumption) | exact PS.cons (PS.cons (by assumption))) (by assumption) (by first | exact rfl | assumption) (by first | exact rfl | assumption) rfl rfl ⟨by k_is, by k_is, by k_is, by k_is, rfl⟩ rfl rfl ?_ | refine glob_call (by assumption) (by assumption) (by assumption) (by first | exact rfl | assumption) (by k_is) rfl rfl (by k_is) rfl ?_) | skip
    refine Con.useS (Q := qk9) (net_kind_c) (by assumption) (by assumption) (by assumption) (by k_asm) (by assumption) (by first | exact rfl | assumption) rfl rfl ?_
    rintro r9 led9 h9 tk9 F9 N9 ⟨⟨t5, rfl⟩, p5⟩
    first | k_unfold | skip
    try clear qk9
    try dsimp only
    try k_fold
    k_steps
    exact CNext.mk (by k_asm) (by k_asm) ⟨rfl, ⟨_, rfl⟩, ⟨_, rfl⟩, S2.ups p5, ((Ext.up p4).trans E2).trans (.up p5)⟩
  clear S
  intro h3 tk3 m3 led3 hq9 F3 N3
  obtain ⟨m1, ⟨t5, m2⟩, ⟨t6, m4⟩, S3, E3⟩ := hq9
  first | k_unfold | skip
  try clear qk9
  try dsimp only
  k_steps
  unfold Hold
  refine cutN "signed" (by assumption) (fun v' led' => v' = .bool false ∧ PS led' P (.w "id" nm j) nx dep false ne ∧ Ext P led3 led') ?_ ?_
  · have S4 : PS led3 P (.w "id" nm j) nx dep false ne := S3
    k_steps
    refine (let qk9 : Value → Shared → Prop := _; (?_ : wpAny _ _ _ qk9 _ _))
    first | ((with_reducible show wpAny _ _ (eval _ _) _ _ _); first | refine self_call (by assumption) (by k_asm) (by first | assumption | exact PS.cons (by assumption) | exact PS.cons (PS.cons (by assumption))) (by assumption) (by first | exact rfl | assumption) (by first | exact rfl | assumption) rfl rfl ⟨by k_is, by k_is, by k_is, by k_is, rfl⟩ rfl rfl ?_ | refine glob_call (by assumption) (by assumption) (by assumption) (by first | exact rfl | assumption) (by k_is) rfl rfl (by k_is) rfl ?_) | skip
    refine Con.useVL (Q := qk9) (accept_key_f S4 (isW_kind (by decide +kernel))) (by assumption) (by assumption) (by assumption) (by k_asm) (by assumption) (by first | exact rfl | assumption) rfl rfl ?_
    intro h9 tk9 F9 N9
    first | k_unfold | skip
    try clear qk9
    try dsimp only
    try k_fold
    k_steps
    exact CNext.mk (by k_asm) (by k_asm) ⟨_, ⟨rfl, S4, .refl _ _⟩, rfl⟩
  clear S3 F3 N3
  intro h4 tk4 v4 led4 hq9 F4 N4
  obtain ⟨rfl, S4, E4⟩ := hq9
  first | k_unfold | skip
  try clear qk9
  try dsimp only
  k_steps
  refine (let qk9 : Value → Shared → Prop := _; (?_ : wpAny _ _ _ qk9 _ _))
  first | ((with_reducible show wpAny _ _ (eval _ _) _ _ _); first | refine self_call (by assumption) (by k_asm) (by first | assumption | exact PS.cons (by assumption) | exact PS.cons (PS.cons (by assumption))) (by assumption) (by first | exact rfl | assumption) (by first | exact rfl | assumption) rfl rfl ⟨by k_is, by k_is, by k_is, by k_is, rfl⟩ rfl rfl ?_ | refine glob_call (by assumption) (by assumption) (by assumption) (by first | exact rfl | assumption) (by k_is) rfl rfl (by k_is) rfl ?_) | skip
  refine Con.useVL (Q := qk9) (range_none S4 (isW_kind (by decide +kernel))) (by assumption) (by assumption) (by assumption) (by k_asm) (by assumption) (by first | exact rfl | assumption) rfl rfl ?_
  intro h9 tk9 F9 N9
  first | k_unfold | skip
  try clear qk9
  try dsimp only
  try k_fold
  k_steps
  exact hret _ _ _ _ (by k_asm) (by k_asm) ⟨.tup List.mem_cons_self (.cons (.str _ _) (.cons (.str _ _) (.cons (.bool _) (.cons .none .nil)))), S4.cons, (E3.trans E4).cons⟩
end
theorem touchc {M : Model} {A : Around} {env : Env} {Q : Flow → Shared → Prop} {E : Value → Shared → Prop} {s : Shared} (h : Q .next s) : wpAny M A (execs [] env) Q E s := by
  walk1
  exact h
structure PG where
  dir : PySem.Str
  b : Int
  sh : SH
  nm : PySem.Str
  j : Int
  more : List (Int × PySem.Str × Int)
noncomputable def moreP : List (Int × PySem.Str × Int) → List TK → List TK
  | [], r => r
  | (c, nm, j) :: l, r => .w "op" "," c :: .w "id" nm j :: moreP l r
noncomputable def PG.toks (g : PG) (r : List TK) : List TK := .w "key" g.dir g.b :: (g.sh.toks ++ .w "id" g.nm g.j :: moreP g.more r)
noncomputable def portD (g : PG) (nm : PySem.Str) : Dat := .tuple [.str "port", .int g.b, .str g.dir, .bool g.sh.sg, g.sh.ex g.b, .str nm]
noncomputable def PG.dats (g : PG) : List Dat := portD g g.nm :: g.more.map fun p => portD g p.2.1
inductive IsDir : PySem.Str → Prop
  | inp : IsDir "input"
  | out : IsDir "output"
  | ino : IsDir "inout"
structure PG.wf (g : PG) : Prop where
  d : IsDir g.dir
  s : spF g.sh.sp
  l : g.more.length ≤ 2
inductive PEnd : List TK → Prop
  | a {t : TK} {nx : List TK} : t.isW "op" "," = false → PEnd (t :: nx)
  | b {c i : Int} {x : PySem.Str} {nx : List TK} : PEnd (.w "op" "," c :: .w "key" x i :: nx)
theorem SH.toks_cons {s : SH} {nm : PySem.Str} {j : Int} {r : List TK} : ∃ t n, s.toks ++ .w "id" nm j :: r = t :: n := by
  cases h : s.toks with
  | nil => exact ⟨_, _, rfl⟩
  | cons t n => exact ⟨_, _, rfl⟩
theorem moreP_cons (l : List (Int × PySem.Str × Int)) {t : TK} {nx : List TK} : ∃ t' n', moreP l (t :: nx) = t' :: n' := by
  cases l with
  | nil => exact ⟨_, _, rfl⟩
  | cons p l => exact ⟨_, _, rfl⟩
theorem VI.inv_sh {led : Led} {v : Value} {tg wd : PySem.Str} {sg : Bool} {ex : Dat} (h : VI led v (.tuple [.str tg, .str wd, .bool sg, ex])) : ∃ a u1 u2 vx n, v = .ref a ∧ (a, tupObj [.str tg u1, .str wd u2, .bool sg, vx] n) ∈ led ∧ VI led vx ex := by
  obtain ⟨a, vs, n, rfl, m, r⟩ := h.inv_tup
  obtain ⟨v1, r1, rfl, h1, r⟩ := r.inv_cons
  obtain ⟨v2, r2, rfl, h2, r⟩ := r.inv_cons
  obtain ⟨v3, r3, rfl, h3, r⟩ := r.inv_cons
  obtain ⟨v4, r4, rfl, h4, r⟩ := r.inv_cons
  cases r.inv_nil
  obtain ⟨u1, rfl⟩ := h1.inv_str
  obtain ⟨u2, rfl⟩ := h2.inv_str
  cases h3.inv_bool
  exact ⟨a, u1, u2, v4, n, rfl, m, h4⟩
theorem begins_port_t {w : World} {led : Led} {P : PA} {x : PySem.Str} {i : Int} {nx : List TK} {dep : Int} {wi ne : Bool} (h : IsDir x) (S : PS led P (.w "key" x i) nx dep wi ne) :
    Con 850 7600 w 779 [.ref P.x] led (fun r led' => r = .bool true ∧ led' = led) :=
  (begins_port_c S).weaken fun _ _ k => ⟨k.1.trans (congrArg Value.bool (by
    cases h with
    | inp => rw [isW_key, Bool.true_or]
    | out => rw [isW_key, Bool.true_or, Bool.or_true]
    | ino => rw [isW_key, Bool.or_true, Bool.or_true])), k.2⟩
theorem ports_c {w : World} {led : Led} {P : PA} {g : PG} {t : TK} {nx : List TK} {dep : Int} {ne : Bool} (hg : g.wf) (hp : PEnd (t :: nx)) (h0 : 0 ≤ dep) (h1 : dep ≤ 20) (S : PSL led P (g.toks (t :: nx)) dep false ne) :
    Con 750 6700 w 793 [.ref P.x] led (fun r led' => (∃ D, r = .ref D ∧ LD D g.dats led') ∧ PS led' P t nx dep false ne ∧ Ext P led led') := by
  obtain ⟨dir, b, sh, nm, j, more⟩ := g
  obtain ⟨hd, hs, hl⟩ := hg
  dsimp only at hd hs hl
  obtain ⟨t7, n7, e7⟩ := moreP_cons more (t := t) (nx := nx)
  obtain ⟨t0, n0, e0⟩ := SH.toks_cons (s := sh) (nm := nm) (j := j) (r := t7 :: n7)
  have S0 : PS led P (.w "key" dir b) (t0 :: n0) dep false ne := by
    have := S
    rw [PG.toks, e7, e0] at this
    exact this
  have htg : (sh.k.tag == PySem.Str.ofString "net") = false := by
    obtain ⟨k, si, sp⟩ := sh
    cases k with
    | none => exact (by decide +kernel : (PySem.Str.ofString "" == PySem.Str.ofString "net") = false)
    | _ => exact (by decide +kernel : (PySem.Str.ofString "var" == PySem.Str.ofString "net") = false)
  clear S
  refine PS.openedWK S0 (fun tv0 td0 k0 u40 u50 hb0 kt0 u00 u10 u20 hx0 hd0 ht0 htd0 => ?_)
  try unfold Con
  intro zmean zmg zmb zgd zcn zcs za zccd zcl zouter zA zbase zh zL zm zs zQ zE zB zF X zN zT zhk hret
  revert X; k_fill; intro X
  refine wpAny_call ?_
  k_dflt (refine' code_def ?k1 ?k2 ?k3 ?k4 ?k5 ?kA ?kF ?kK ?k6 ?k7 ?k8 ?k9 ?kB ?_ ?c2 ?c3 ?c4 ?c5; (case kA => exact rfl); (case kF => exact rfl); (case kK => assumption); (case k1 => k_asm); (case k2 => k_asm); (case k3 => k_asm); (case k4 => k_asm); (case k5 => k_asm); (case k6 => k_is); (case k7 => k_is); (case k8 => k_room); (case k9 => first | exact BindsTo.of_eq rfl | exact binds_K (by k_in) rfl (by k_is) rfl rfl rfl); (case c5 => decide); (case kB => exact locs rfl); (case c2 => exact rfl); (case c3 => exact rfl); (case c4 => exact rfl); k_whole; intro g' L' h' FG' F' N' B' X' T'; (try dsimp only); (try k_fold))
  (replace F' : Fr g' L' h' (fun y => List.lookup y [("self", .ref P.x)]) := F')
  (refine at_toks ?_; intro tk0)
  (refine (let A9 : Around := _; let g9 : Array GenState := _; let d9 : Drawn := _; let o9 : OsState := _; (?_ : wpAny _ A9 _ _ _ ⟨_, g9, d9, _, o9⟩)))
  k_steps
  refine (let qk9 : Value → Shared → Prop := _; (?_ : wpAny _ _ _ qk9 _ _))
  first | ((with_reducible show wpAny _ _ (eval _ _) _ _ _); first | refine self_call (by assumption) (by k_asm) (by first | assumption | exact PS.cons (by assumption) | exact PS.cons (PS.cons (by assumption))) (by assumption) (by first | exact rfl | assumption) (by first | exact rfl | assumption) rfl rfl ⟨by k_is, by k_is, by k_is, by k_is, rfl⟩ rfl rfl ?_ | refine glob_call (by assumption) (by assumption) (by assumption) (by first | exact rfl | assumption) (by k_is) rfl rfl (by k_is) rfl ?_) | skip
  refine Con.useVL (Q := qk9) (begins_port_t hd S0) (by assumption) (by assumption) (by assumption) (by k_asm) (by assumption) (by first | exact rfl | assumption) rfl rfl ?_
  intro h9 tk9 F9 N9
  first | k_unfold | skip
  try clear qk9
  try dsimp only
  try k_fold
  k_steps
  refine (let qk9 : Value → Shared → Prop := _; (?_ : wpAny _ _ _ qk9 _ _))
  first | ((with_reducible show wpAny _ _ (eval _ _) _ _ _); first | refine self_call (by assumption) (by k_asm) (by first | assumption | exact PS.cons (by assumption) | exact PS.cons (PS.cons (by assumption))) (by assumption) (by first | exact rfl | assumption) (by first | exact rfl | assumption) rfl rfl ⟨by k_is, by k_is, by k_is, by k_is, rfl⟩ rfl rfl ?_ | refine glob_call (by assumption) (by assumption) (by assumption) (by first | exact rfl | assumption) (by k_is) rfl rfl (by k_is) rfl ?_) | skip
  refine Con.use3 (Q := qk9) (take_c S0) (by assumption) (by assumption) (by assumption) (by k_asm) (by assumption) (by first | exact rfl | assumption) rfl rfl ?_
  intro r9 led9 h9 tk9 F9 N9 V1 S1 E1
  obtain ⟨a1, d1, k1, u10, u11, u12, rfl, ha1, hd1'⟩ := V1.openedW
  first | k_unfold | skip
  try clear qk9
  try dsimp only
  try k_fold
  k_steps
  refine (let qk9 : Value → Shared → Prop := _; (?_ : wpAny _ _ _ qk9 _ _))
  first | ((with_reducible show wpAny _ _ (eval _ _) _ _ _); first | refine self_call (by assumption) (by k_asm) (by first | assumption | exact PS.cons (by assumption) | exact PS.cons (PS.cons (by assumption))) (by assumption) (by first | exact rfl | assumption) (by first | exact rfl | assumption) rfl rfl ⟨by k_is, by k_is, by k_is, by k_is, rfl⟩ rfl rfl ?_ | refine glob_call (by assumption) (by assumption) (by assumption) (by first | exact rfl | assumption) (by k_is) rfl rfl (by k_is) rfl ?_) | skip
  refine Con.use3 (Q := qk9) (port_shape_c hs h0 h1 (PSL.mk e0 S1)) (by assumption) (by assumption) (by assumption) (by k_asm) (by assumption) (by first | exact rfl | assumption) rfl rfl ?_
  intro r9 led9 h9 tk9 F9 N9 V2 S2 E2
  obtain ⟨a2, u1, u2, vx, n2, rfl, m2, VX⟩ := V2.inv_sh
  first | k_unfold | skip
  try clear qk9
  try dsimp only
  try k_fold
  generalize sh.k.tag = tg at *
  generalize sh.k.word = wd at *
  k_steps
  refine (let qk9 : Value → Shared → Prop := _; (?_ : wpAny _ _ _ qk9 _ _))
  first | ((with_reducible show wpAny _ _ (eval _ _) _ _ _); first | refine self_call (by assumption) (by k_asm) (by first | assumption | exact PS.cons (by assumption) | exact PS.cons (PS.cons (by assumption))) (by assumption) (by first | exact rfl | assumption) (by first | exact rfl | assumption) rfl rfl ⟨by k_is, by k_is, by k_is, by k_is, rfl⟩ rfl rfl ?_ | refine glob_call (by assumption) (by assumption) (by assumption) (by first | exact rfl | assumption) (by k_is) rfl rfl (by k_is) rfl ?_) | skip
  refine Con.useT (Q := qk9) (expect_id_c S2) (by assumption) (by assumption) (by assumption) (by k_asm) (by assumption) (by first | exact rfl | assumption) rfl rfl ?_
  intro u3 led9 h9 tk9 F9 N9 S3 E3
  have VX3 := VX.sub E3.frz
  have E13 := (E1.trans E2).trans E3
  clear V1 ha1 hd1' V2 m2 VX E1 E2 E3 S0 S1 S2
  first | k_unfold | skip
  try clear qk9
  try dsimp only
  try k_fold
  k_steps
  (rename Fr _ _ _ _ => F5); (rename News _ _ _ _ => N5)
  rename_i D hh1 lD hh2
  have lD9 := allLt_get lD.2
  have six := S3.six lD9
  unfold Hold
  refine while_invM (fun n led₁ => ∃ done rem vs k, more = done ++ rem ∧ n = rem.length ∧ (D, listOf vs.toArray k) ∈ led₁ ∧ VIs led₁ vs (portD ⟨dir, b, sh, nm, j, more⟩ nm :: done.map fun p => portD ⟨dir, b, sh, nm, j, more⟩ p.2.1) ∧ PSL led₁ P (moreP rem (t :: nx)) dep false ne ∧ Ext P led9 led₁) more.length F5 N5
    ⟨[], more, [_], 0, rfl, rfl, List.mem_cons_self, .cons (.tup (List.mem_cons_of_mem _ List.mem_cons_self) (.cons (.str _ _) (.cons (.int _ _) (.cons (.str _ _) (.cons (.bool _) (.cons ((VX3.up fun p hp => List.mem_cons_of_mem _ hp).up fun p hp => List.mem_cons_of_mem _ hp) (.cons (.str _ _) .nil))))))) .nil, by rw [e7]; exact S3.cons.cons, (Ext.refl _ _).cons.cons⟩ ?_
  clear N5 F5
  intro n led₁ h₁ tk₁ hq9 F₁ N₁
  refine (let G9 : Prop := _; (?_ : G9))
  obtain ⟨done, rem, vs, k, rfl, rfl, hD, hV, hS, hE⟩ := hq9
  have hvl := hV.length
  rw [List.length_cons, List.length_map] at hvl
  rw [List.length_append] at hl
  have hz : vs.length ≤ 1000 := by omega
  first | k_unfold | skip
  try clear G9
  cases rem with
  | nil =>
    have hS' : PS led₁ P t nx dep false ne := hS
    have hL : LD D (PG.dats ⟨dir, b, sh, nm, j, done ++ []⟩) led₁ := ⟨vs, k, hD, by rw [PG.dats, List.append_nil]; rw [List.append_nil] at hV; exact hV⟩
    cases hp with
    | a h =>
      k_steps
      refine (let qk9 : Value → Shared → Prop := _; (?_ : wpAny _ _ _ qk9 _ _))
      first | ((with_reducible show wpAny _ _ (eval _ _) _ _ _); first | refine self_call (by assumption) (by k_asm) (by first | assumption | exact PS.cons (by assumption) | exact PS.cons (PS.cons (by assumption))) (by assumption) (by first | exact rfl | assumption) (by first | exact rfl | assumption) rfl rfl ⟨by k_is, by k_is, by k_is, by k_is, rfl⟩ rfl rfl ?_ | refine glob_call (by assumption) (by assumption) (by assumption) (by first | exact rfl | assumption) (by k_is) rfl rfl (by k_is) rfl ?_) | skip
      refine Con.useVL (Q := qk9) (is_op_f hS' h) (by assumption) (by assumption) (by assumption) (by k_asm) (by assumption) (by first | exact rfl | assumption) rfl rfl ?_
      intro h9 tk9 F9 N9
      first | k_unfold | skip
      try clear qk9
      try dsimp only
      try k_fold
      k_steps
      exact hret _ _ _ _ (by k_asm) (by k_asm) ⟨⟨D, rfl, hL⟩, hS', E13.trans hE⟩
    | b =>
      k_steps
      refine (let qk9 : Value → Shared → Prop := _; (?_ : wpAny _ _ _ qk9 _ _))
      first | ((with_reducible show wpAny _ _ (eval _ _) _ _ _); first | refine self_call (by assumption) (by k_asm) (by first | assumption | exact PS.cons (by assumption) | exact PS.cons (PS.cons (by assumption))) (by assumption) (by first | exact rfl | assumption) (by first | exact rfl | assumption) rfl rfl ⟨by k_is, by k_is, by k_is, by k_is, rfl⟩ rfl rfl ?_ | refine glob_call (by assumption) (by assumption) (by assumption) (by first | exact rfl | assumption) (by k_is) rfl rfl (by k_is) rfl ?_) | skip
      refine Con.useVL (Q := qk9) (is_op_t hS' isW_eq) (by assumption) (by assumption) (by assumption) (by k_asm) (by assumption) (by first | exact rfl | assumption) rfl rfl ?_
      intro h9 tk9 F9 N9
      first | k_unfold | skip
      try clear qk9
      try dsimp only
      try k_fold
      k_steps
      refine (let qk9 : Value → Shared → Prop := _; (?_ : wpAny _ _ _ qk9 _ _))
      first | ((with_reducible show wpAny _ _ (eval _ _) _ _ _); first | refine self_call (by assumption) (by k_asm) (by first | assumption | exact PS.cons (by assumption) | exact PS.cons (PS.cons (by assumption))) (by assumption) (by first | exact rfl | assumption) (by first | exact rfl | assumption) rfl rfl ⟨by k_is, by k_is, by k_is, by k_is, rfl⟩ rfl rfl ?_ | refine glob_call (by assumption) (by assumption) (by assumption) (by first | exact rfl | assumption) (by k_is) rfl rfl (by k_is) rfl ?_) | skip
      refine Con.use3 (Q := qk9) (peek_c hS') (by assumption) (by assumption) (by assumption) (by k_asm) (by assumption) (by first | exact rfl | assumption) rfl rfl ?_
      intro r9 led9 h9 tk9 F9 N9 V6 S6 E6
      obtain ⟨a6, d6, k6, u60, u61, u62, rfl, ha6, hd6⟩ := V6.openedW
      first | k_unfold | skip
      try clear qk9
      try dsimp only
      try k_fold
      k_steps
      exact hret _ _ _ _ (by k_asm) (by k_asm) ⟨⟨D, rfl, hL.ext E6 six⟩, S6, (E13.trans hE).trans E6⟩
  | cons p rem =>
    refine (let G9 : Prop := _; (?_ : G9))
    obtain ⟨c, nm', j'⟩ := p
    obtain ⟨t8, n8, e8⟩ := moreP_cons rem (t := t) (nx := nx)
    have hS' : PS led₁ P (.w "op" "," c) (.w "id" nm' j' :: t8 :: n8) dep false ne := by
      rw [← e8]; exact hS
    first | k_unfold | skip
    try clear G9
    k_steps
    refine (let qk9 : Value → Shared → Prop := _; (?_ : wpAny _ _ _ qk9 _ _))
    first | ((with_reducible show wpAny _ _ (eval _ _) _ _ _); first | refine self_call (by assumption) (by k_asm) (by first | assumption | exact PS.cons (by assumption) | exact PS.cons (PS.cons (by assumption))) (by assumption) (by first | exact rfl | assumption) (by first | exact rfl | assumption) rfl rfl ⟨by k_is, by k_is, by k_is, by k_is, rfl⟩ rfl rfl ?_ | refine glob_call (by assumption) (by assumption) (by assumption) (by first | exact rfl | assumption) (by k_is) rfl rfl (by k_is) rfl ?_) | skip
    refine Con.useVL (Q := qk9) (is_op_t hS' isW_eq) (by assumption) (by assumption) (by assumption) (by k_asm) (by assumption) (by first | exact rfl | assumption) rfl rfl ?_
    intro h9 tk9 F9 N9
    first | k_unfold | skip
    try clear qk9
    try dsimp only
    try k_fold
    k_steps
    refine (let qk9 : Value → Shared → Prop := _; (?_ : wpAny _ _ _ qk9 _ _))
    first | ((with_reducible show wpAny _ _ (eval _ _) _ _ _); first | refine self_call (by assumption) (by k_asm) (by first | assumption | exact PS.cons (by assumption) | exact PS.cons (PS.cons (by assumption))) (by assumption) (by first | exact rfl | assumption) (by first | exact rfl | assumption) rfl rfl ⟨by k_is, by k_is, by k_is, by k_is, rfl⟩ rfl rfl ?_ | refine glob_call (by assumption) (by assumption) (by assumption) (by first | exact rfl | assumption) (by k_is) rfl rfl (by k_is) rfl ?_) | skip
    refine Con.use3 (Q := qk9) (peek_c hS') (by assumption) (by assumption) (by assumption) (by k_asm) (by assumption) (by first | exact rfl | assumption) rfl rfl ?_
    intro r9 led9 h9 tk9 F9 N9 V6 S6 E6
    obtain ⟨a6, d6, k6, u60, u61, u62, rfl, ha6, hd6⟩ := V6.openedW
    first | k_unfold | skip
    try clear qk9
    try dsimp only
    try k_fold
    k_steps
    clear ha6 hd6 V6
    refine (let qk9 : Value → Shared → Prop := _; (?_ : wpAny _ _ _ qk9 _ _))
    first | ((with_reducible show wpAny _ _ (eval _ _) _ _ _); first | refine self_call (by assumption) (by k_asm) (by first | assumption | exact PS.cons (by assumption) | exact PS.cons (PS.cons (by assumption))) (by assumption) (by first | exact rfl | assumption) (by first | exact rfl | assumption) rfl rfl ⟨by k_is, by k_is, by k_is, by k_is, rfl⟩ rfl rfl ?_ | refine glob_call (by assumption) (by assumption) (by assumption) (by first | exact rfl | assumption) (by k_is) rfl rfl (by k_is) rfl ?_) | skip
    refine Con.use3 (Q := qk9) (take_c S6) (by assumption) (by assumption) (by assumption) (by k_asm) (by assumption) (by first | exact rfl | assumption) rfl rfl ?_
    intro r9 led9 h9 tk9 F9 N9 V7 S7 E7
    have hD7 := (E6.trans E7).oth _ _ hD six.dx six.sdx six.al
    clear V7
    first | k_unfold | skip
    try clear qk9
    try dsimp only
    try k_fold
    k_steps
    refine (let qk9 : Value → Shared → Prop := _; (?_ : wpAny _ _ _ qk9 _ _))
    first | ((with_reducible show wpAny _ _ (eval _ _) _ _ _); first | refine self_call (by assumption) (by k_asm) (by first | assumption | exact PS.cons (by assumption) | exact PS.cons (PS.cons (by assumption))) (by assumption) (by first | exact rfl | assumption) (by first | exact rfl | assumption) rfl rfl ⟨by k_is, by k_is, by k_is, by k_is, rfl⟩ rfl rfl ?_ | refine glob_call (by assumption) (by assumption) (by assumption) (by first | exact rfl | assumption) (by k_is) rfl rfl (by k_is) rfl ?_) | skip
    refine Con.useT (Q := qk9) (expect_id_c S7) (by assumption) (by assumption) (by assumption) (by k_asm) (by assumption) (by first | exact rfl | assumption) rfl rfl ?_
    intro u8 led9 h9 tk9 F9 N9 S8 E8
    have E68 := (E6.trans E7).trans E8
    have hD8 := E8.oth _ _ hD7 six.dx six.sdx six.al
    have VX8 := VX3.sub (hE.trans E68).frz
    have hV8 := hV.sub E68.frz
    have s0 : ∀ o', Sub led9 ((D, o') :: off D led9) := fun o' => sub_putD (o' := o') N9 hD8
    have P0 : ∀ o', PS ((D, o') :: off D led9) P t8 n8 dep false ne := fun o' => S8.putD N9 hD8 six
    clear E6 E7 E8 S6 S7 hD hD7 hV
    first | k_unfold | skip
    try clear qk9
    try dsimp only
    try k_fold
    k_steps
    rename_i Dt hh3 lDt hh4 Ft Nt
    have hne : Dt ≠ D := Nat.ne_of_gt (lDt _ hD8)
    have U9 : ∀ (o : Obj), ∀ q ∈ (D, listOf (vs ++ [Value.ref Dt]).toArray (k + 1)) :: off D led9, q ∈ (D, listOf (vs ++ [Value.ref Dt]).toArray (k + 1)) :: off D ((Dt, o) :: led9) := fun o q hq => off_cons hq
    have s8 := fun o => (s0 (listOf (vs ++ [Value.ref Dt]).toArray (k + 1))).trans (Sub.of (U9 o))
    refine WNext.mk (k := rem.length) (Nat.lt_succ_self _) Ft Nt ⟨done ++ [(c, nm', j')], rem, vs ++ [.ref Dt], k + 1, by simp, rfl, List.mem_cons_self, ?_, by rw [e8]; exact (P0 _).ups (U9 _), ((hE.trans E68).putD lD9).trans (Ext.up (U9 _))⟩
    rw [List.map_append]
    exact (hV8.sub (s8 _)).snoc (.tup (List.mem_cons_of_mem _ (mem_off List.mem_cons_self hne)) (.cons (.str _ _) (.cons (.int _ _) (.cons (.str _ _) (.cons (.bool _) (.cons (VX8.sub (s8 _)) (.cons (.str _ _) .nil)))))))
theorem ports_x {w : World} {led : Led} {P : PA} {b j j9 : Int} {nm : PySem.Str} {nx : List TK} {dep : Int} {ne : Bool} (S : PS led P (.w "key" "input" b) (.w "key" "wire" j9 :: .w "id" nm j :: nx) dep false ne) :
    ConX 750 6700 w 793 [.ref P.x] led "unexpected_token" j := by
  refine PS.openedWK S (fun tv0 td0 k0 u40 u50 hb0 kt0 u00 u10 u20 hx0 hd0 ht0 htd0 => ?_)
  unfold ConX
  intro zmean zmg zmb zgd zcn zcs za zccd zcl zouter zA zbase zh zL zm zs zQ zE zkeep zkp zB zF X zN zT zhk hret
  revert X; k_fill; intro X
  refine wpAny_call ?_
  k_dflt (refine' code_def ?k1 ?k2 ?k3 ?k4 ?k5 ?kA ?kF ?kK ?k6 ?k7 ?k8 ?k9 ?kB ?_ ?c2 ?c3 ?c4 ?c5; (case kA => exact rfl); (case kF => exact rfl); (case kK => assumption); (case k1 => k_asm); (case k2 => k_asm); (case k3 => k_asm); (case k4 => k_asm); (case k5 => k_asm); (case k6 => k_is); (case k7 => k_is); (case k8 => k_room); (case k9 => first | exact BindsTo.of_eq rfl | exact binds_K (by k_in) rfl (by k_is) rfl rfl rfl); (case c5 => decide); (case kB => exact locs rfl); (case c2 => exact rfl); (case c3 => exact rfl); (case c4 => exact rfl); k_whole; intro g' L' h' FG' F' N' B' X' T'; (try dsimp only); (try k_fold))
  (replace F' : Fr g' L' h' (fun y => List.lookup y [("self", .ref P.x)]) := F')
  (refine at_toks ?_; intro tk0)
  (refine (let A9 : Around := _; let g9 : Array GenState := _; let d9 : Drawn := _; let o9 : OsState := _; (?_ : wpAny _ A9 _ _ _ ⟨_, g9, d9, _, o9⟩)))
  k_steps
  refine (let qk9 : Value → Shared → Prop := _; (?_ : wpAny _ _ _ qk9 _ _))
  first | ((with_reducible show wpAny _ _ (eval _ _) _ _ _); first | refine self_call (by assumption) (by k_asm) (by first | assumption | exact PS.cons (by assumption) | exact PS.cons (PS.cons (by assumption))) (by assumption) (by first | exact rfl | assumption) (by first | exact rfl | assumption) rfl rfl ⟨by k_is, by k_is, by k_is, by k_is, rfl⟩ rfl rfl ?_ | refine glob_call (by assumption) (by assumption) (by assumption) (by first | exact rfl | assumption) (by k_is) rfl rfl (by k_is) rfl ?_) | skip
  refine Con.useVL (Q := qk9) (begins_port_t .inp S) (by assumption) (by assumption) (by assumption) (by k_asm) (by assumption) (by first | exact rfl | assumption) rfl rfl ?_
  intro h9 tk9 F9 N9
  first | k_unfold | skip
  try clear qk9
  try dsimp only
  try k_fold
  k_steps
  refine (let qk9 : Value → Shared → Prop := _; (?_ : wpAny _ _ _ qk9 _ _))
  first | ((with_reducible show wpAny _ _ (eval _ _) _ _ _); first | refine self_call (by assumption) (by k_asm) (by first | assumption | exact PS.cons (by assumption) | exact PS.cons (PS.cons (by assumption))) (by assumption) (by first | exact rfl | assumption) (by first | exact rfl | assumption) rfl rfl ⟨by k_is, by k_is, by k_is, by k_is, rfl⟩ rfl rfl ?_ | refine glob_call (by assumption) (by assumption) (by assumption) (by first | exact rfl | assumption) (by k_is) rfl rfl (by k_is) rfl ?_) | skip
  refine Con.use3 (Q := qk9) (take_c S) (by assumption) (by assumption) (by assumption) (by k_asm) (by assumption) (by first | exact rfl | assumption) rfl rfl ?_
  intro r9 led9 h9 tk9 F9 N9 V1 S1 E1
  obtain ⟨a1, d1, k1, u10, u11, u12, rfl, ha1, hd1'⟩ := V1.openedW
  first | k_unfold | skip
  try clear qk9
  try dsimp only
  try k_fold
  k_steps
  refine (let qk9 : Value → Shared → Prop := _; (?_ : wpAny _ _ _ qk9 _ _))
  first | ((with_reducible show wpAny _ _ (eval _ _) _ _ _); first | refine self_call (by assumption) (by k_asm) (by first | assumption | exact PS.cons (by assumption) | exact PS.cons (PS.cons (by assumption))) (by assumption) (by first | exact rfl | assumption) (by first | exact rfl | assumption) rfl rfl ⟨by k_is, by k_is, by k_is, by k_is, rfl⟩ rfl rfl ?_ | refine glob_call (by assumption) (by assumption) (by assumption) (by first | exact rfl | assumption) (by k_is) rfl rfl (by k_is) rfl ?_) | skip
  refine Con.use3 (Q := qk9) (port_wire S1) (by assumption) (by assumption) (by assumption) (by k_asm) (by assumption) (by first | exact rfl | assumption) rfl rfl ?_
  intro r9 led9 h9 tk9 F9 N9 V2 S2 E2
  have E12 := E1.trans E2
  obtain ⟨a2, u1, u2, vx, n2, rfl, m2, VX⟩ := V2.inv_sh
  first | k_unfold | skip
  try clear qk9
  try dsimp only
  try k_fold
  k_steps
  unfold Hold
  first | ((with_reducible show wpAny _ _ (eval _ _) _ _ _); first | refine self_call (by assumption) (by k_asm) (by first | assumption | exact PS.cons (by assumption) | exact PS.cons (PS.cons (by assumption))) (by assumption) (by first | exact rfl | assumption) (by first | exact rfl | assumption) rfl rfl ⟨by k_is, by k_is, by k_is, by k_is, rfl⟩ rfl rfl ?_ | refine glob_call (by assumption) (by assumption) (by assumption) (by first | exact rfl | assumption) (by k_is) rfl rfl (by k_is) rfl ?_) | skip
  refine ConX.use (fail_2 S2) (keep_of zkp (by first | exact .refl _ | exact Ext.frz (by assumption) | exact Sub.of (by assumption))) (by assumption) (by assumption) (by assumption) (by k_asm) (by assumption) (by first | exact rfl | assumption) (Nat.le_of_ble_eq_true rfl) (Nat.le_of_ble_eq_true rfl) ?_
  rintro e9 D9 k9 u90 u91 dv9 g9 h9 tk9 F9 U9 R9
  exact on_end hret FG' B' F9 U9 R9
section
local macro_rules | `(tactic| walk_at "call builtin:list.extend") => `(tactic| (k_here; (try dsimp only [List.nil_append, List.cons_append]); k_dflt (refine grow_mem (by k_asm) (by k_asm) (by k_mem) (by k_mem) (by lge_go) ?_); k_whole; intro n'; lge_steps))
noncomputable def tlT : List (Int × PG) → List TK → List TK
  | [], r => r
  | (c, g) :: l, r => .w "op" "," c :: g.toks (tlT l r)
noncomputable def hsT : List (Int × PG) → List TK → List TK
  | [], r => r
  | (_, g) :: l, r => g.toks (tlT l r)
noncomputable def psD : List (Int × PG) → List Dat
  | [] => []
  | (_, g) :: l => g.dats ++ psD l
theorem psD_app (l l' : List (Int × PG)) : psD (l ++ l') = psD l ++ psD l' := by
  induction l with
  | nil => rfl
  | cons p l ih => obtain ⟨c, g⟩ := p; show g.dats ++ psD (l ++ l') = (g.dats ++ psD l) ++ psD l'; rw [ih, List.append_assoc]
theorem PG.dats_len {g : PG} (h : g.wf) : g.dats.length ≤ 3 := by
  have := h.l
  rw [PG.dats, List.length_cons, List.length_map]; omega
theorem psD_len {l : List (Int × PG)} (h : ∀ p ∈ l, p.2.wf) : (psD l).length ≤ 3 * l.length := by
  induction l with
  | nil => exact Nat.le_refl _
  | cons p l ih =>
    obtain ⟨c, g⟩ := p
    have := PG.dats_len (h _ List.mem_cons_self)
    have := ih fun q hq => h q (List.mem_cons_of_mem _ hq)
    rw [psD, List.length_append, List.length_cons]; dsimp only at *; omega
theorem tlT_end (l : List (Int × PG)) {e : Int} {r : List TK} : ∃ t n, tlT l (.w "op" ")" e :: r) = t :: n ∧ PEnd (t :: n) := by
  cases l with
  | nil => exact ⟨_, _, rfl, .a (isW_ne (by decide +kernel))⟩
  | cons p l => obtain ⟨c, g⟩ := p; exact ⟨_, _, rfl, .b⟩
theorem VIs.app {led : Led} {vs us : List Value} {ds es : List Dat} (h : VIs led vs ds) (k : VIs led us es) : VIs led (vs ++ us) (ds ++ es) :=
  VIs.rec (motive_1 := fun _ _ _ => True) (motive_2 := fun vs ds _ => VIs led (vs ++ us) (ds ++ es)) trivial (fun _ => trivial) (fun _ _ => trivial) (fun _ _ => trivial) (fun _ _ _ => trivial) k (fun a _ _ b => .cons a b) h
theorem header_c {w : World} {led : Led} {P : PA} {l : List (Int × PG)} {e : Int} {t : TK} {nx : List TK} {dep : Int} {ne : Bool} (hl : ∀ p ∈ l, p.2.wf) (hn : l.length ≤ 2) (h0 : 0 ≤ dep) (h1 : dep ≤ 20) (S : PSL led P (hsT l (.w "op" ")" e :: t :: nx)) dep false ne) :
    Con 740 6600 w 786 [.ref P.x] led (fun r led' => (∃ D, r = .ref D ∧ LD D (psD l) led') ∧ PS led' P t nx dep false ne ∧ Ext P led led') := by
  cases l with
  | nil =>
    have S0 : PS led P (.w "op" ")" e) (t :: nx) dep false ne := S
    try unfold Con
    intro zmean zmg zmb zgd zcn zcs za zccd zcl zouter zA zbase zh zL zm zs zQ zE zB zF X zN zT zhk hret
    revert X; k_fill; intro X
    refine wpAny_call ?_
    k_dflt (refine' code_def ?k1 ?k2 ?k3 ?k4 ?k5 ?kA ?kF ?kK ?k6 ?k7 ?k8 ?k9 ?kB ?_ ?c2 ?c3 ?c4 ?c5; (case kA => exact rfl); (case kF => exact rfl); (case kK => assumption); (case k1 => k_asm); (case k2 => k_asm); (case k3 => k_asm); (case k4 => k_asm); (case k5 => k_asm); (case k6 => k_is); (case k7 => k_is); (case k8 => k_room); (case k9 => first | exact BindsTo.of_eq rfl | exact binds_K (by k_in) rfl (by k_is) rfl rfl rfl); (case c5 => decide); (case kB => exact locs rfl); (case c2 => exact rfl); (case c3 => exact rfl); (case c4 => exact rfl); k_whole; intro g' L' h' FG' F' N' B' X' T'; (try dsimp only); (try k_fold))
    (replace F' : Fr g' L' h' (fun y => List.lookup y [("self", .ref P.x)]) := F')
    (refine at_toks ?_; intro tk0)
    (refine (let A9 : Around := _; let g9 : Array GenState := _; let d9 : Drawn := _; let o9 : OsState := _; (?_ : wpAny _ A9 _ _ _ ⟨_, g9, d9, _, o9⟩)))
    k_steps
    (rename ∀ p ∈ led, p.1 < _ => lD)
    have six := S0.six lD
    refine (let qk9 : Value → Shared → Prop := _; (?_ : wpAny _ _ _ qk9 _ _))
    first | ((with_reducible show wpAny _ _ (eval _ _) _ _ _); first | refine self_call (by assumption) (by k_asm) (by first | assumption | exact PS.cons (by assumption) | exact PS.cons (PS.cons (by assumption))) (by assumption) (by first | exact rfl | assumption) (by first | exact rfl | assumption) rfl rfl ⟨by k_is, by k_is, by k_is, by k_is, rfl⟩ rfl rfl ?_ | refine glob_call (by assumption) (by assumption) (by assumption) (by first | exact rfl | assumption) (by k_is) rfl rfl (by k_is) rfl ?_) | skip
    refine Con.useV (Q := qk9) (accept_op_t S0.cons isW_eq) (by assumption) (by assumption) (by assumption) (by k_asm) (by assumption) (by first | exact rfl | assumption) rfl rfl ?_
    intro led9 h9 tk9 F9 N9 S1 E1
    first | k_unfold | skip
    try clear qk9
    try dsimp only
    try k_fold
    k_steps
    exact hret _ _ _ _ (by k_asm) (by k_asm) ⟨⟨_, rfl, [], _, E1.oth _ _ List.mem_cons_self six.dx six.sdx six.al, .nil⟩, S1, (Ext.up fun p hp => List.mem_cons_of_mem _ hp).trans E1⟩
  | cons p l =>
    refine (let G9 : Prop := _; (?_ : G9))
    obtain ⟨c0, g⟩ := p
    obtain ⟨t0, n0, e0, hp0⟩ := tlT_end l (e := e) (r := t :: nx)
    have S0 : PS led P (.w "key" g.dir g.b) (g.sh.toks ++ .w "id" g.nm g.j :: moreP g.more (t0 :: n0)) dep false ne := by
      rw [← e0]; exact S
    clear S
    first | k_unfold | skip
    try clear G9
    try unfold Con
    intro zmean zmg zmb zgd zcn zcs za zccd zcl zouter zA zbase zh zL zm zs zQ zE zB zF X zN zT zhk hret
    revert X; k_fill; intro X
    refine wpAny_call ?_
    k_dflt (refine' code_def ?k1 ?k2 ?k3 ?k4 ?k5 ?kA ?kF ?kK ?k6 ?k7 ?k8 ?k9 ?kB ?_ ?c2 ?c3 ?c4 ?c5; (case kA => exact rfl); (case kF => exact rfl); (case kK => assumption); (case k1 => k_asm); (case k2 => k_asm); (case k3 => k_asm); (case k4 => k_asm); (case k5 => k_asm); (case k6 => k_is); (case k7 => k_is); (case k8 => k_room); (case k9 => first | exact BindsTo.of_eq rfl | exact binds_K (by k_in) rfl (by k_is) rfl rfl rfl); (case c5 => decide); (case kB => exact locs rfl); (case c2 => exact rfl); (case c3 => exact rfl); (case c4 => exact rfl); k_whole; intro g' L' h' FG' F' N' B' X' T'; (try dsimp only); (try k_fold))
    (replace F' : Fr g' L' h' (fun y => List.lookup y [("self", .ref P.x)]) := F')
    (refine at_toks ?_; intro tk0)
    (refine (let A9 : Around := _; let g9 : Array GenState := _; let d9 : Drawn := _; let o9 : OsState := _; (?_ : wpAny _ A9 _ _ _ ⟨_, g9, d9, _, o9⟩)))
    k_steps
    rename_i D hh1 lD hh2 Fa Na
    have six := S0.six lD
    refine (let qk9 : Value → Shared → Prop := _; (?_ : wpAny _ _ _ qk9 _ _))
    first | ((with_reducible show wpAny _ _ (eval _ _) _ _ _); first | refine self_call (by assumption) (by k_asm) (by first | assumption | exact PS.cons (by assumption) | exact PS.cons (PS.cons (by assumption))) (by assumption) (by first | exact rfl | assumption) (by first | exact rfl | assumption) rfl rfl ⟨by k_is, by k_is, by k_is, by k_is, rfl⟩ rfl rfl ?_ | refine glob_call (by assumption) (by assumption) (by assumption) (by first | exact rfl | assumption) (by k_is) rfl rfl (by k_is) rfl ?_) | skip
    refine Con.useVL (Q := qk9) (accept_op_f S0.cons (isW_kind (by decide +kernel))) (by assumption) (by assumption) (by assumption) (by k_asm) (by assumption) (by first | exact rfl | assumption) rfl rfl ?_
    intro h9 tk9 F9 N9
    first | k_unfold | skip
    try clear qk9
    try dsimp only
    try k_fold
    k_steps
    refine (let qk9 : Value → Shared → Prop := _; (?_ : wpAny _ _ _ qk9 _ _))
    first | ((with_reducible show wpAny _ _ (eval _ _) _ _ _); first | refine self_call (by assumption) (by k_asm) (by first | assumption | exact PS.cons (by assumption) | exact PS.cons (PS.cons (by assumption))) (by assumption) (by first | exact rfl | assumption) (by first | exact rfl | assumption) rfl rfl ⟨by k_is, by k_is, by k_is, by k_is, rfl⟩ rfl rfl ?_ | refine glob_call (by assumption) (by assumption) (by assumption) (by first | exact rfl | assumption) (by k_is) rfl rfl (by k_is) rfl ?_) | skip
    refine Con.useS (Q := qk9) (ports_c (g := g) (hl _ List.mem_cons_self) hp0 h0 h1 S0.cons) (by assumption) (by assumption) (by assumption) (by k_asm) (by assumption) (by first | exact rfl | assumption) rfl rfl ?_
    rintro r9 led9 h9 tk9 F9 N9 ⟨⟨D1, rfl, us, k1, m1, V1⟩, S1, E1⟩
    have mD := E1.oth _ _ List.mem_cons_self six.dx six.sdx six.al
    have hul := V1.length
    have hgl := PG.dats_len (hl _ List.mem_cons_self)
    have hz : (([] : List Value).length + us.length) ≤ 1000 := by dsimp only at hgl; rw [List.length_nil]; omega
    have Eb : Ext P led led9 := (Ext.up fun p hp => List.mem_cons_of_mem _ hp).trans E1
    have S2 := fun o' => S1.putD (o' := o') N9 mD six
    have E2 := fun o' => Eb.putD (o' := o') lD
    have s2 := fun o' => sub_putD (o' := o') N9 mD
    clear E1 S1 Eb hul hgl S0 Na Fa
    first | k_unfold | skip
    try clear qk9
    try dsimp only
    try k_fold
    k_steps
    rename_i n1 hh3 Fb Nb
    unfold Hold
    refine while_invM (fun n led₁ => ∃ done rem vs k, (c0, g) :: l = done ++ rem ∧ n = rem.length ∧ (D, listOf vs.toArray k) ∈ led₁ ∧ VIs led₁ vs (psD done) ∧ PSL led₁ P (tlT rem (.w "op" ")" e :: t :: nx)) dep false ne ∧ Ext P led led₁) l.length Fb Nb
      ⟨[(c0, g)], l, us, n1, rfl, rfl, List.mem_cons_self, by rw [psD, psD, List.append_nil]; exact V1.sub (s2 _), by rw [e0]; exact S2 _, E2 _⟩ ?_
    clear Nb Fb S2 E2 s2 V1 m1 hz
    intro n led₁ h₁ tk₁ hq9 F₁ N₁
    refine (let G9 : Prop := _; (?_ : G9))
    obtain ⟨done, rem, vs, k, hall, rfl, hD, hV, hS, hE⟩ := hq9
    have hvl := hV.length
    rw [hall] at hl hn
    have hdl := psD_len fun p hp => hl p (List.mem_append_left _ hp)
    rw [List.length_append] at hn
    first | k_unfold | skip
    try clear G9
    cases rem with
    | nil =>
      have hS' : PS led₁ P (.w "op" ")" e) (t :: nx) dep false ne := hS
      k_steps
      refine (let qk9 : Value → Shared → Prop := _; (?_ : wpAny _ _ _ qk9 _ _))
      first | ((with_reducible show wpAny _ _ (eval _ _) _ _ _); first | refine self_call (by assumption) (by k_asm) (by first | assumption | exact PS.cons (by assumption) | exact PS.cons (PS.cons (by assumption))) (by assumption) (by first | exact rfl | assumption) (by first | exact rfl | assumption) rfl rfl ⟨by k_is, by k_is, by k_is, by k_is, rfl⟩ rfl rfl ?_ | refine glob_call (by assumption) (by assumption) (by assumption) (by first | exact rfl | assumption) (by k_is) rfl rfl (by k_is) rfl ?_) | skip
      refine Con.useVL (Q := qk9) (accept_op_f hS' (isW_ne (by decide +kernel))) (by assumption) (by assumption) (by assumption) (by k_asm) (by assumption) (by first | exact rfl | assumption) rfl rfl ?_
      intro h9 tk9 F9 N9
      first | k_unfold | skip
      try clear qk9
      try dsimp only
      try k_fold
      k_steps
      refine (let qk9 : Value → Shared → Prop := _; (?_ : wpAny _ _ _ qk9 _ _))
      first | ((with_reducible show wpAny _ _ (eval _ _) _ _ _); first | refine self_call (by assumption) (by k_asm) (by first | assumption | exact PS.cons (by assumption) | exact PS.cons (PS.cons (by assumption))) (by assumption) (by first | exact rfl | assumption) (by first | exact rfl | assumption) rfl rfl ⟨by k_is, by k_is, by k_is, by k_is, rfl⟩ rfl rfl ?_ | refine glob_call (by assumption) (by assumption) (by assumption) (by first | exact rfl | assumption) (by k_is) rfl rfl (by k_is) rfl ?_) | skip
      refine Con.useV (Q := qk9) (expect_op_t hS' isW_eq) (by assumption) (by assumption) (by assumption) (by k_asm) (by assumption) (by first | exact rfl | assumption) rfl rfl ?_
      intro led9 h9 tk9 F9 N9 S6 E6
      first | k_unfold | skip
      try clear qk9
      try dsimp only
      try k_fold
      k_steps
      exact hret _ _ _ _ (by k_asm) (by k_asm) ⟨⟨D, rfl, LD.ext ⟨vs, k, hD, by rw [hall, List.append_nil]; exact hV⟩ E6 six⟩, S6, hE.trans E6⟩
    | cons p rem =>
      refine (let G9 : Prop := _; (?_ : G9))
      obtain ⟨c, g2⟩ := p
      obtain ⟨t2, n2, e2, hp2⟩ := tlT_end rem (e := e) (r := t :: nx)
      have hg2 := hl _ (List.mem_append_right _ List.mem_cons_self)
      have hS' : PS led₁ P (.w "op" "," c) (.w "key" g2.dir g2.b :: (g2.sh.toks ++ .w "id" g2.nm g2.j :: moreP g2.more (t2 :: n2))) dep false ne := by
        rw [← e2]; exact hS
      first | k_unfold | skip
      try clear G9
      k_steps
      refine (let qk9 : Value → Shared → Prop := _; (?_ : wpAny _ _ _ qk9 _ _))
      first | ((with_reducible show wpAny _ _ (eval _ _) _ _ _); first | refine self_call (by assumption) (by k_asm) (by first | assumption | exact PS.cons (by assumption) | exact PS.cons (PS.cons (by assumption))) (by assumption) (by first | exact rfl | assumption) (by first | exact rfl | assumption) rfl rfl ⟨by k_is, by k_is, by k_is, by k_is, rfl⟩ rfl rfl ?_ | refine glob_call (by assumption) (by assumption) (by assumption) (by first | exact rfl | assumption) (by k_is) rfl rfl (by k_is) rfl ?_) | skip
      refine Con.useV (Q := qk9) (accept_op_t hS' isW_eq) (by assumption) (by assumption) (by assumption) (by k_asm) (by assumption) (by first | exact rfl | assumption) rfl rfl ?_
      intro led9 h9 tk9 F9 N9 S6 E6
      have hD6 := E6.oth _ _ hD six.dx six.sdx six.al
      first | k_unfold | skip
      try clear qk9
      try dsimp only
      try k_fold
      k_steps
      refine (let qk9 : Value → Shared → Prop := _; (?_ : wpAny _ _ _ qk9 _ _))
      first | ((with_reducible show wpAny _ _ (eval _ _) _ _ _); first | refine self_call (by assumption) (by k_asm) (by first | assumption | exact PS.cons (by assumption) | exact PS.cons (PS.cons (by assumption))) (by assumption) (by first | exact rfl | assumption) (by first | exact rfl | assumption) rfl rfl ⟨by k_is, by k_is, by k_is, by k_is, rfl⟩ rfl rfl ?_ | refine glob_call (by assumption) (by assumption) (by assumption) (by first | exact rfl | assumption) (by k_is) rfl rfl (by k_is) rfl ?_) | skip
      refine Con.useS (Q := qk9) (ports_c (g := g2) hg2 hp2 h0 h1 S6) (by assumption) (by assumption) (by assumption) (by k_asm) (by assumption) (by first | exact rfl | assumption) rfl rfl ?_
      rintro r9 led9 h9 tk9 F9 N9 ⟨⟨D2, rfl, us2, k2, m2, V2⟩, S7, E7⟩
      have hD7 := E7.oth _ _ hD6 six.dx six.sdx six.al
      have hgl := PG.dats_len hg2
      have hul := V2.length
      have hz : vs.length + us2.length ≤ 1000 := by dsimp only at hgl; omega
      have E67 := E6.trans E7
      have S8 := fun o' => S7.putD (o' := o') N9 hD7 six
      have s8 := fun o' => sub_putD (o' := o') N9 hD7
      have E8 := fun o' => (hE.trans E67).putD (o' := o') lD
      have hV7 := hV.sub E67.frz
      clear E6 E7 S6 S7 hul hgl hvl hdl hD hV hS hE
      first | k_unfold | skip
      try clear qk9
      try dsimp only
      try k_fold
      k_steps
      refine WNext.mk (k := rem.length) (Nat.lt_succ_self _) (by assumption) (by assumption) ⟨done ++ [(c, g2)], rem, vs ++ us2, _, by rw [hall]; simp, rfl, List.mem_cons_self, ?_, by rw [e2]; exact S8 _, E8 _⟩
      rw [psD_app, psD, psD, List.append_nil]
      exact (hV7.sub (s8 _)).app (V2.sub (s8 _))
end
theorem isW_opk {x y : PySem.Str} {j : Int} : (TK.w "op" x j).isW "key" y = false := isW_kind (by decide +kernel)
noncomputable abbrev idD (j : Int) (nm : PySem.Str) : Dat := .tuple [.str "id", .int j, .str nm]
theorem VI.inv_id {led : Led} {v : Value} {j : Int} {nm x : PySem.Str} (h : VI led v (.tuple [.str x, .int j, .str nm])) : ∃ a n u1 u2 u3, v = .ref a ∧ (a, tupObj [.str x u1, .int j u2, .str nm u3] n) ∈ led := by
  obtain ⟨a, v1, v2, v3, n, rfl, m, h1, h2, h3⟩ := h.inv3
  obtain ⟨u1, rfl⟩ := h1.inv_str
  obtain ⟨u2, rfl⟩ := h2.inv_int
  obtain ⟨u3, rfl⟩ := h3.inv_str
  exact ⟨a, n, u1, u2, u3, rfl, m⟩
theorem path_term_c {w : World} {led : Led} {P : PA} {pl q : Addr} {k n : Nat} {nm : PySem.Str} {u t : Tok} {j : Int} (h1 : (pl, listOf [Value.ref q].toArray k) ∈ led) (h2 : (q, tupObj [.str nm u, .none] n) ∈ led) :
    Con 840 7600 w 405 [.ref P.x, .int j t, .ref pl] led (fun r led' => VI led' r (idD j nm) ∧ Sup led led') := by
  try unfold Con
  intro zmean zmg zmb zgd zcn zcs za zccd zcl zouter zA zbase zh zL zm zs zQ zE zB zF X zN zT zhk hret
  revert X; k_fill; intro X
  refine wpAny_call ?_
  k_dflt (refine' code_def ?k1 ?k2 ?k3 ?k4 ?k5 ?kA ?kF ?kK ?k6 ?k7 ?k8 ?k9 ?kB ?_ ?c2 ?c3 ?c4 ?c5; (case kA => exact rfl); (case kF => exact rfl); (case kK => assumption); (case k1 => k_asm); (case k2 => k_asm); (case k3 => k_asm); (case k4 => k_asm); (case k5 => k_asm); (case k6 => k_is); (case k7 => k_is); (case k8 => k_room); (case k9 => first | exact BindsTo.of_eq rfl | exact binds_K (by k_in) rfl (by k_is) rfl rfl rfl); (case c5 => decide); (case kB => exact locs rfl); (case c2 => exact rfl); (case c3 => exact rfl); (case c4 => exact rfl); k_whole; intro g' L' h' FG' F' N' B' X' T'; (try dsimp only); (try k_fold))
  (replace F' : Fr g' L' h' (fun y => List.lookup y [("parts", .ref pl), ("at", .int j t), ("self", .ref P.x)]) := F')
  (refine at_toks ?_; intro tk0)
  (refine (let A9 : Around := _; let g9 : Array GenState := _; let d9 : Drawn := _; let o9 : OsState := _; (?_ : wpAny _ A9 _ _ _ ⟨_, g9, d9, _, o9⟩)))
  k_steps
  exact hret _ _ _ _ (by k_asm) (by k_asm) ⟨.tup List.mem_cons_self (.cons (.str _ _) (.cons (.int _ _) (.cons (.str _ _) .nil))), (by intro p9 hp9; repeat (first | exact hp9 | apply List.mem_cons_of_mem))⟩
theorem reference_c {w : World} {led : Led} {P : PA} {nm : PySem.Str} {j : Int} {t : TK} {nx : List TK} {dep : Int} {wi ne : Bool} (ht1 : t.isW "op" "." = false) (ht2 : t.isW "op" "[" = false) (S : PS led P (.w "id" nm j) (t :: nx) dep wi ne) :
    Con 830 7500 w 398 [.ref P.x] led (fun r led' => VI led' r (idD j nm) ∧ PS led' P t nx dep wi ne ∧ Ext P led led') := by
  refine PS.openedWK S (fun tv0 td0 k0 u40 u50 hb0 kt0 u00 u10 u20 hx0 hd0 ht0 htd0 => ?_)
  try unfold Con
  intro zmean zmg zmb zgd zcn zcs za zccd zcl zouter zA zbase zh zL zm zs zQ zE zB zF X zN zT zhk hret
  revert X; k_fill; intro X
  refine wpAny_call ?_
  k_dflt (refine' code_def ?k1 ?k2 ?k3 ?k4 ?k5 ?kA ?kF ?kK ?k6 ?k7 ?k8 ?k9 ?kB ?_ ?c2 ?c3 ?c4 ?c5; (case kA => exact rfl); (case kF => exact rfl); (case kK => assumption); (case k1 => k_asm); (case k2 => k_asm); (case k3 => k_asm); (case k4 => k_asm); (case k5 => k_asm); (case k6 => k_is); (case k7 => k_is); (case k8 => k_room); (case k9 => first | exact BindsTo.of_eq rfl | exact binds_K (by k_in) rfl (by k_is) rfl rfl rfl); (case c5 => decide); (case kB => exact locs rfl); (case c2 => exact rfl); (case c3 => exact rfl); (case c4 => exact rfl); k_whole; intro g' L' h' FG' F' N' B' X' T'; (try dsimp only); (try k_fold))
  (replace F' : Fr g' L' h' (fun y => List.lookup y [("self", .ref P.x)]) := F')
  (refine at_toks ?_; intro tk0)
  (refine (let A9 : Around := _; let g9 : Array GenState := _; let d9 : Drawn := _; let o9 : OsState := _; (?_ : wpAny _ A9 _ _ _ ⟨_, g9, d9, _, o9⟩)))
  k_steps
  refine (let qk9 : Value → Shared → Prop := _; (?_ : wpAny _ _ _ qk9 _ _))
  first | ((with_reducible show wpAny _ _ (eval _ _) _ _ _); first | refine self_call (by assumption) (by k_asm) (by first | assumption | exact PS.cons (by assumption) | exact PS.cons (PS.cons (by assumption))) (by assumption) (by first | exact rfl | assumption) (by first | exact rfl | assumption) rfl rfl ⟨by k_is, by k_is, by k_is, by k_is, rfl⟩ rfl rfl ?_ | refine glob_call (by assumption) (by assumption) (by assumption) (by first | exact rfl | assumption) (by k_is) rfl rfl (by k_is) rfl ?_) | skip
  refine Con.useT (Q := qk9) (expect_id_c S) (by assumption) (by assumption) (by assumption) (by k_asm) (by assumption) (by first | exact rfl | assumption) rfl rfl ?_
  intro u3 led9 h9 tk9 F9 N9 S1 E1
  first | k_unfold | skip
  try clear qk9
  try dsimp only
  try k_fold
  k_steps
  (rename Fr _ _ _ _ => F5); (rename News _ _ _ _ => N5)
  unfold Hold
  refine while_invM (fun n led₁ => PS led₁ P t nx dep wi ne ∧ Ext P led led₁ ∧ ∃ pl q k u n, (pl, listOf [Value.ref q].toArray k) ∈ led₁ ∧ (q, tupObj [.str nm u, .none] n) ∈ led₁ ∧ pl = _) 0 F5 N5 ⟨S1.cons.cons, E1.cons.cons, _, _, _, _, _, List.mem_cons_self, List.mem_cons_of_mem _ List.mem_cons_self, rfl⟩ ?_
  clear S1 E1 N5 F5
  intro n led₁ h₁ tk₁ hq9 F₁ N₁
  refine (let G9 : Prop := _; (?_ : G9))
  obtain ⟨S2, E2, pl, q, k, u, n', m1, m2, rfl⟩ := hq9
  first | k_unfold | skip
  try clear G9
  k_steps
  refine (let qk9 : Value → Shared → Prop := _; (?_ : wpAny _ _ _ qk9 _ _))
  first | ((with_reducible show wpAny _ _ (eval _ _) _ _ _); first | refine self_call (by assumption) (by k_asm) (by first | assumption | exact PS.cons (by assumption) | exact PS.cons (PS.cons (by assumption))) (by assumption) (by first | exact rfl | assumption) (by first | exact rfl | assumption) rfl rfl ⟨by k_is, by k_is, by k_is, by k_is, rfl⟩ rfl rfl ?_ | refine glob_call (by assumption) (by assumption) (by assumption) (by first | exact rfl | assumption) (by k_is) rfl rfl (by k_is) rfl ?_) | skip
  refine Con.useVL (Q := qk9) (accept_op_f S2 ht1) (by assumption) (by assumption) (by assumption) (by k_asm) (by assumption) (by first | exact rfl | assumption) rfl rfl ?_
  intro h9 tk9 F9 N9
  first | k_unfold | skip
  try clear qk9
  try dsimp only
  try k_fold
  k_steps
  refine (let qk9 : Value → Shared → Prop := _; (?_ : wpAny _ _ _ qk9 _ _))
  first | ((with_reducible show wpAny _ _ (eval _ _) _ _ _); first | refine self_call (by assumption) (by k_asm) (by first | assumption | exact PS.cons (by assumption) | exact PS.cons (PS.cons (by assumption))) (by assumption) (by first | exact rfl | assumption) (by first | exact rfl | assumption) rfl rfl ⟨by k_is, by k_is, by k_is, by k_is, rfl⟩ rfl rfl ?_ | refine glob_call (by assumption) (by assumption) (by assumption) (by first | exact rfl | assumption) (by k_is) rfl rfl (by k_is) rfl ?_) | skip
  refine Con.useVL (Q := qk9) (is_op_f S2 ht2) (by assumption) (by assumption) (by assumption) (by k_asm) (by assumption) (by first | exact rfl | assumption) rfl rfl ?_
  intro h9 tk9 F9 N9
  first | k_unfold | skip
  try clear qk9
  try dsimp only
  try k_fold
  k_steps
  refine (let qk9 : Value → Shared → Prop := _; (?_ : wpAny _ _ _ qk9 _ _))
  first | ((with_reducible show wpAny _ _ (eval _ _) _ _ _); first | refine self_call (by assumption) (by k_asm) (by first | assumption | exact PS.cons (by assumption) | exact PS.cons (PS.cons (by assumption))) (by assumption) (by first | exact rfl | assumption) (by first | exact rfl | assumption) rfl rfl ⟨by k_is, by k_is, by k_is, by k_is, rfl⟩ rfl rfl ?_ | refine glob_call (by assumption) (by assumption) (by assumption) (by first | exact rfl | assumption) (by k_is) rfl rfl (by k_is) rfl ?_) | skip
  refine Con.use2 (Q := qk9) (path_term_c m1 m2) (by assumption) (by assumption) (by assumption) (by k_asm) (by assumption) (by first | exact rfl | assumption) rfl rfl ?_
  intro r9 led9 h9 tk9 F9 N9 V3 p3
  first | k_unfold | skip
  try clear qk9
  try dsimp only
  try k_fold
  k_steps
  exact hret _ _ _ _ (by k_asm) (by k_asm) ⟨V3, S2.ups p3, E2.trans (.up p3)⟩
theorem name_path_c {w : World} {led : Led} {P : PA} {nm : PySem.Str} {j : Int} {t : TK} {nx : List TK} {dep : Int} {wi ne : Bool} (ht1 : t.isW "op" "." = false) (ht2 : t.isW "op" "[" = false) (S : PS led P (.w "id" nm j) (t :: nx) dep wi ne) :
    Con 820 7400 w 440 [.ref P.x] led (fun r led' => VI led' r (idD j nm) ∧ PS led' P t nx dep wi ne ∧ Ext P led led') := by
  try unfold Con
  intro zmean zmg zmb zgd zcn zcs za zccd zcl zouter zA zbase zh zL zm zs zQ zE zB zF X zN zT zhk hret
  revert X; k_fill; intro X
  refine wpAny_call ?_
  k_dflt (refine' code_def ?k1 ?k2 ?k3 ?k4 ?k5 ?kA ?kF ?kK ?k6 ?k7 ?k8 ?k9 ?kB ?_ ?c2 ?c3 ?c4 ?c5; (case kA => exact rfl); (case kF => exact rfl); (case kK => assumption); (case k1 => k_asm); (case k2 => k_asm); (case k3 => k_asm); (case k4 => k_asm); (case k5 => k_asm); (case k6 => k_is); (case k7 => k_is); (case k8 => k_room); (case k9 => first | exact BindsTo.of_eq rfl | exact binds_K (by k_in) rfl (by k_is) rfl rfl rfl); (case c5 => decide); (case kB => exact locs rfl); (case c2 => exact rfl); (case c3 => exact rfl); (case c4 => exact rfl); k_whole; intro g' L' h' FG' F' N' B' X' T'; (try dsimp only); (try k_fold))
  (replace F' : Fr g' L' h' (fun y => List.lookup y [("self", .ref P.x)]) := F')
  (refine at_toks ?_; intro tk0)
  (refine (let A9 : Around := _; let g9 : Array GenState := _; let d9 : Drawn := _; let o9 : OsState := _; (?_ : wpAny _ A9 _ _ _ ⟨_, g9, d9, _, o9⟩)))
  k_steps
  refine (let qk9 : Value → Shared → Prop := _; (?_ : wpAny _ _ _ qk9 _ _))
  first | ((with_reducible show wpAny _ _ (eval _ _) _ _ _); first | refine self_call (by assumption) (by k_asm) (by first | assumption | exact PS.cons (by assumption) | exact PS.cons (PS.cons (by assumption))) (by assumption) (by first | exact rfl | assumption) (by first | exact rfl | assumption) rfl rfl ⟨by k_is, by k_is, by k_is, by k_is, rfl⟩ rfl rfl ?_ | refine glob_call (by assumption) (by assumption) (by assumption) (by first | exact rfl | assumption) (by k_is) rfl rfl (by k_is) rfl ?_) | skip
  refine Con.use3 (Q := qk9) (reference_c ht1 ht2 S) (by assumption) (by assumption) (by assumption) (by k_asm) (by assumption) (by first | exact rfl | assumption) rfl rfl ?_
  intro r9 led9 h9 tk9 F9 N9 V1 S1 E1
  obtain ⟨a, n, u1, u2, u3, rfl, m⟩ := V1.inv_id
  first | k_unfold | skip
  try clear qk9
  try dsimp only
  try k_fold
  k_steps
  exact hret _ _ _ _ (by k_asm) (by k_asm) ⟨V1, S1, E1⟩
noncomputable abbrev trigD (a : Int) (j : Int) (nm : PySem.Str) : Dat := .tuple [.str "trigger", .int a, idD j nm]
theorem full_c {w : World} {led : Led} {P : PA} {nm : PySem.Str} {a j e : Int} {t : TK} {nx : List TK} {dep : Int} {wi ne : Bool} (S : PS led P (.w "op" "->" a) (.w "id" nm j :: .w "op" ";" e :: t :: nx) dep wi ne) :
    Con 810 7300 w 508 [.ref P.x] led (fun r led' => VI led' r (trigD a j nm) ∧ PS led' P t nx dep wi ne ∧ Ext P led led') := by
  refine PS.openedWK S (fun tv0 td0 k0 u40 u50 hb0 kt0 u00 u10 u20 hx0 hd0 ht0 htd0 => ?_)
  try unfold Con
  intro zmean zmg zmb zgd zcn zcs za zccd zcl zouter zA zbase zh zL zm zs zQ zE zB zF X zN zT zhk hret
  revert X; k_fill; intro X
  refine wpAny_call ?_
  k_dflt (refine' code_def ?k1 ?k2 ?k3 ?k4 ?k5 ?kA ?kF ?kK ?k6 ?k7 ?k8 ?k9 ?kB ?_ ?c2 ?c3 ?c4 ?c5; (case kA => exact rfl); (case kF => exact rfl); (case kK => assumption); (case k1 => k_asm); (case k2 => k_asm); (case k3 => k_asm); (case k4 => k_asm); (case k5 => k_asm); (case k6 => k_is); (case k7 => k_is); (case k8 => k_room); (case k9 => first | exact BindsTo.of_eq rfl | exact binds_K (by k_in) rfl (by k_is) rfl rfl rfl); (case c5 => decide); (case kB => exact locs rfl); (case c2 => exact rfl); (case c3 => exact rfl); (case c4 => exact rfl); k_whole; intro g' L' h' FG' F' N' B' X' T'; (try dsimp only); (try k_fold))
  (replace F' : Fr g' L' h' (fun y => List.lookup y [("self", .ref P.x)]) := F')
  (refine at_toks ?_; intro tk0)
  (refine (let A9 : Around := _; let g9 : Array GenState := _; let d9 : Drawn := _; let o9 : OsState := _; (?_ : wpAny _ A9 _ _ _ ⟨_, g9, d9, _, o9⟩)))
  k_steps
  refine (let qk9 : Value → Shared → Prop := _; (?_ : wpAny _ _ _ qk9 _ _))
  first | ((with_reducible show wpAny _ _ (eval _ _) _ _ _); first | refine self_call (by assumption) (by k_asm) (by first | assumption | exact PS.cons (by assumption) | exact PS.cons (PS.cons (by assumption))) (by assumption) (by first | exact rfl | assumption) (by first | exact rfl | assumption) rfl rfl ⟨by k_is, by k_is, by k_is, by k_is, rfl⟩ rfl rfl ?_ | refine glob_call (by assumption) (by assumption) (by assumption) (by first | exact rfl | assumption) (by k_is) rfl rfl (by k_is) rfl ?_) | skip
  refine Con.useVL (Q := qk9) (is_op_f S (isW_ne (by decide +kernel))) (by assumption) (by assumption) (by assumption) (by k_asm) (by assumption) (by first | exact rfl | assumption) rfl rfl ?_
  intro h9 tk9 F9 N9
  first | k_unfold | skip
  try clear qk9
  try dsimp only
  try k_fold
  k_steps
  refine (let qk9 : Value → Shared → Prop := _; (?_ : wpAny _ _ _ qk9 _ _))
  first | ((with_reducible show wpAny _ _ (eval _ _) _ _ _); first | refine self_call (by assumption) (by k_asm) (by first | assumption | exact PS.cons (by assumption) | exact PS.cons (PS.cons (by assumption))) (by assumption) (by first | exact rfl | assumption) (by first | exact rfl | assumption) rfl rfl ⟨by k_is, by k_is, by k_is, by k_is, rfl⟩ rfl rfl ?_ | refine glob_call (by assumption) (by assumption) (by assumption) (by first | exact rfl | assumption) (by k_is) rfl rfl (by k_is) rfl ?_) | skip
  refine Con.useVL (Q := qk9) (accept_op_f S (isW_ne (by decide +kernel))) (by assumption) (by assumption) (by assumption) (by k_asm) (by assumption) (by first | exact rfl | assumption) rfl rfl ?_
  intro h9 tk9 F9 N9
  first | k_unfold | skip
  try clear qk9
  try dsimp only
  try k_fold
  k_steps
  refine (let qk9 : Value → Shared → Prop := _; (?_ : wpAny _ _ _ qk9 _ _))
  first | ((with_reducible show wpAny _ _ (eval _ _) _ _ _); first | refine self_call (by assumption) (by k_asm) (by first | assumption | exact PS.cons (by assumption) | exact PS.cons (PS.cons (by assumption))) (by assumption) (by first | exact rfl | assumption) (by first | exact rfl | assumption) rfl rfl ⟨by k_is, by k_is, by k_is, by k_is, rfl⟩ rfl rfl ?_ | refine glob_call (by assumption) (by assumption) (by assumption) (by first | exact rfl | assumption) (by k_is) rfl rfl (by k_is) rfl ?_) | skip
  refine Con.useVL (Q := qk9) (is_op_f S (isW_ne (by decide +kernel))) (by assumption) (by assumption) (by assumption) (by k_asm) (by assumption) (by first | exact rfl | assumption) rfl rfl ?_
  intro h9 tk9 F9 N9
  first | k_unfold | skip
  try clear qk9
  try dsimp only
  try k_fold
  k_steps
  refine (let qk9 : Value → Shared → Prop := _; (?_ : wpAny _ _ _ qk9 _ _))
  first | ((with_reducible show wpAny _ _ (eval _ _) _ _ _); first | refine self_call (by assumption) (by k_asm) (by first | assumption | exact PS.cons (by assumption) | exact PS.cons (PS.cons (by assumption))) (by assumption) (by first | exact rfl | assumption) (by first | exact rfl | assumption) rfl rfl ⟨by k_is, by k_is, by k_is, by k_is, rfl⟩ rfl rfl ?_ | refine glob_call (by assumption) (by assumption) (by assumption) (by first | exact rfl | assumption) (by k_is) rfl rfl (by k_is) rfl ?_) | skip
  refine Con.useV (Q := qk9) (accept_op_t S isW_eq) (by assumption) (by assumption) (by assumption) (by k_asm) (by assumption) (by first | exact rfl | assumption) rfl rfl ?_
  intro led9 h9 tk9 F9 N9 S1 E1
  first | k_unfold | skip
  try clear qk9
  try dsimp only
  try k_fold
  k_steps
  refine (let qk9 : Value → Shared → Prop := _; (?_ : wpAny _ _ _ qk9 _ _))
  first | ((with_reducible show wpAny _ _ (eval _ _) _ _ _); first | refine self_call (by assumption) (by k_asm) (by first | assumption | exact PS.cons (by assumption) | exact PS.cons (PS.cons (by assumption))) (by assumption) (by first | exact rfl | assumption) (by first | exact rfl | assumption) rfl rfl ⟨by k_is, by k_is, by k_is, by k_is, rfl⟩ rfl rfl ?_ | refine glob_call (by assumption) (by assumption) (by assumption) (by first | exact rfl | assumption) (by k_is) rfl rfl (by k_is) rfl ?_) | skip
  refine Con.use3 (Q := qk9) (name_path_c (isW_ne (by decide +kernel)) (isW_ne (by decide +kernel)) S1) (by assumption) (by assumption) (by assumption) (by k_asm) (by assumption) (by first | exact rfl | assumption) rfl rfl ?_
  intro r9 led9 h9 tk9 F9 N9 V2 S2 E2
  first | k_unfold | skip
  try clear qk9
  try dsimp only
  try k_fold
  k_steps
  refine (let qk9 : Value → Shared → Prop := _; (?_ : wpAny _ _ _ qk9 _ _))
  first | ((with_reducible show wpAny _ _ (eval _ _) _ _ _); first | refine self_call (by assumption) (by k_asm) (by first | assumption | exact PS.cons (by assumption) | exact PS.cons (PS.cons (by assumption))) (by assumption) (by first | exact rfl | assumption) (by first | exact rfl | assumption) rfl rfl ⟨by k_is, by k_is, by k_is, by k_is, rfl⟩ rfl rfl ?_ | refine glob_call (by assumption) (by assumption) (by assumption) (by first | exact rfl | assumption) (by k_is) rfl rfl (by k_is) rfl ?_) | skip
  refine Con.useV (Q := qk9) (expect_op_t S2 isW_eq) (by assumption) (by assumption) (by assumption) (by k_asm) (by assumption) (by first | exact rfl | assumption) rfl rfl ?_
  intro led9 h9 tk9 F9 N9 S3 E3
  first | k_unfold | skip
  try clear qk9
  try dsimp only
  try k_fold
  k_steps
  exact hret _ _ _ _ (by k_asm) (by k_asm) ⟨.tup List.mem_cons_self (.cons (.str _ _) (.cons (.int _ _) (.cons ((V2.sub E3.frz).up fun p hp => List.mem_cons_of_mem _ hp) .nil))), S3.cons, ((E1.trans E2).trans E3).cons⟩
theorem counted_c {w : World} {led : Led} {P : PA} {nm : PySem.Str} {a j e : Int} {t : TK} {nx : List TK} {dep : Int} {wi ne : Bool} (h0 : 0 ≤ dep) (h1 : dep ≤ 20) (S : PS led P (.w "op" "->" a) (.w "id" nm j :: .w "op" ";" e :: t :: nx) dep wi ne) :
    Con 800 7200 w 501 [.ref P.x] led (fun r led' => VI led' r (trigD a j nm) ∧ PS led' P t nx dep wi ne ∧ Ext P led led') := by
  try unfold Con
  intro zmean zmg zmb zgd zcn zcs za zccd zcl zouter zA zbase zh zL zm zs zQ zE zB zF X zN zT zhk hret
  revert X; k_fill; intro X
  refine wpAny_call ?_
  k_dflt (refine' code_def ?k1 ?k2 ?k3 ?k4 ?k5 ?kA ?kF ?kK ?k6 ?k7 ?k8 ?k9 ?kB ?_ ?c2 ?c3 ?c4 ?c5; (case kA => exact rfl); (case kF => exact rfl); (case kK => assumption); (case k1 => k_asm); (case k2 => k_asm); (case k3 => k_asm); (case k4 => k_asm); (case k5 => k_asm); (case k6 => k_is); (case k7 => k_is); (case k8 => k_room); (case k9 => first | exact BindsTo.of_eq rfl | exact binds_K (by k_in) rfl (by k_is) rfl rfl rfl); (case c5 => decide); (case kB => exact locs rfl); (case c2 => exact rfl); (case c3 => exact rfl); (case c4 => exact rfl); k_whole; intro g' L' h' FG' F' N' B' X' T'; (try dsimp only); (try k_fold))
  (replace F' : Fr g' L' h' (fun y => List.lookup y [("self", .ref P.x)]) := F')
  (refine at_toks ?_; intro tk0)
  (refine (let A9 : Around := _; let g9 : Array GenState := _; let d9 : Drawn := _; let o9 : OsState := _; (?_ : wpAny _ A9 _ _ _ ⟨_, g9, d9, _, o9⟩)))
  k_steps
  refine (let qk9 : Value → Shared → Prop := _; (?_ : wpAny _ _ _ qk9 _ _))
  first | ((with_reducible show wpAny _ _ (eval _ _) _ _ _); first | refine self_call (by assumption) (by k_asm) (by first | assumption | exact PS.cons (by assumption) | exact PS.cons (PS.cons (by assumption))) (by assumption) (by first | exact rfl | assumption) (by first | exact rfl | assumption) rfl rfl ⟨by k_is, by k_is, by k_is, by k_is, rfl⟩ rfl rfl ?_ | refine glob_call (by assumption) (by assumption) (by assumption) (by first | exact rfl | assumption) (by k_is) rfl rfl (by k_is) rfl ?_) | skip
  refine Con.useV (Q := qk9) (enter_c S h0 h1) (by assumption) (by assumption) (by assumption) (by k_asm) (by assumption) (by first | exact rfl | assumption) rfl rfl ?_
  intro led9 h9 tk9 F9 N9 S1 E1
  first | k_unfold | skip
  try clear qk9
  try dsimp only
  try k_fold
  k_steps
  refine (let qk9 : Value → Shared → Prop := _; (?_ : wpAny _ _ _ qk9 _ _))
  first | ((with_reducible show wpAny _ _ (eval _ _) _ _ _); first | refine self_call (by assumption) (by k_asm) (by first | assumption | exact PS.cons (by assumption) | exact PS.cons (PS.cons (by assumption))) (by assumption) (by first | exact rfl | assumption) (by first | exact rfl | assumption) rfl rfl ⟨by k_is, by k_is, by k_is, by k_is, rfl⟩ rfl rfl ?_ | refine glob_call (by assumption) (by assumption) (by assumption) (by first | exact rfl | assumption) (by k_is) rfl rfl (by k_is) rfl ?_) | skip
  refine Con.use3 (Q := qk9) (full_c S1) (by assumption) (by assumption) (by assumption) (by k_asm) (by assumption) (by first | exact rfl | assumption) rfl rfl ?_
  intro r9 led9 h9 tk9 F9 N9 V2 S2 E2
  first | k_unfold | skip
  try clear qk9
  try dsimp only
  try k_fold
  k_steps
  refine (let qk9 : Value → Shared → Prop := _; (?_ : wpAny _ _ _ qk9 _ _))
  first | ((with_reducible show wpAny _ _ (eval _ _) _ _ _); first | refine self_call (by assumption) (by k_asm) (by first | assumption | exact PS.cons (by assumption) | exact PS.cons (PS.cons (by assumption))) (by assumption) (by first | exact rfl | assumption) (by first | exact rfl | assumption) rfl rfl ⟨by k_is, by k_is, by k_is, by k_is, rfl⟩ rfl rfl ?_ | refine glob_call (by assumption) (by assumption) (by assumption) (by first | exact rfl | assumption) (by k_is) rfl rfl (by k_is) rfl ?_) | skip
  refine Con.useV (Q := qk9) (leave_c S2 (by omega) (by omega)) (by assumption) (by assumption) (by assumption) (by k_asm) (by assumption) (by first | exact rfl | assumption) rfl rfl ?_
  intro led9 h9 tk9 F9 N9 S3 E3
  rw [show dep + 1 - 1 = dep by omega] at S3
  first | k_unfold | skip
  try clear qk9
  try dsimp only
  try k_fold
  k_steps
  exact hret _ _ _ _ (by k_asm) (by k_asm) ⟨V2.sub E3.frz, S3, (E1.trans E2).trans E3⟩
theorem statement_trig {w : World} {led : Led} {P : PA} {nm : PySem.Str} {a j e : Int} {t : TK} {nx : List TK} {dep : Int} {wi : Bool} (h0 : 0 ≤ dep) (h1 : dep ≤ 20) (S : PS led P (.w "op" "->" a) (.w "id" nm j :: .w "op" ";" e :: t :: nx) dep wi false) :
    Con 790 7100 w 494 [.ref P.x] led (fun r led' => VI led' r (trigD a j nm) ∧ PS led' P t nx dep wi false ∧ Ext P led led') := by
  refine Con.news fun hh h hL N => ?_
  have SF := S
  obtain ⟨tv, place, avs, vs, ahead, rest, S0, hcur, hah, hre, hnx, hle⟩ := S
  have H := S0.sep N
  have S' := S0
  obtain ⟨hxx, ⟨k, u4, u5, hb, hd⟩, -, -, -, -, -, -⟩ := S'
  obtain ⟨d1, -, -, -, -, -, -, -, -, -, -, -⟩ := H.d
  have SE := S0.put H k u4 u5 hb tv (TK.w "op" "->" a).pos dep wi true
  have S1 : PS _ P (.w "op" "->" a) (.w "id" nm j :: .w "op" ";" e :: t :: nx) dep wi true := ⟨tv, place, avs, vs, ahead, rest, SE.1, hcur.sub SE.2.frz, hah.sub SE.2.frz, hre.sub SE.2.frz, hnx, hle⟩
  clear N
  try unfold Con
  intro zmean zmg zmb zgd zcn zcs za zccd zcl zouter zA zbase zh zL zm zs zQ zE zB zF X zN zT zhk hret
  revert X; k_fill; intro X
  refine wpAny_call ?_
  k_dflt (refine' code_def ?k1 ?k2 ?k3 ?k4 ?k5 ?kA ?kF ?kK ?k6 ?k7 ?k8 ?k9 ?kB ?_ ?c2 ?c3 ?c4 ?c5; (case kA => exact rfl); (case kF => exact rfl); (case kK => assumption); (case k1 => k_asm); (case k2 => k_asm); (case k3 => k_asm); (case k4 => k_asm); (case k5 => k_asm); (case k6 => k_is); (case k7 => k_is); (case k8 => k_room); (case k9 => first | exact BindsTo.of_eq rfl | exact binds_K (by k_in) rfl (by k_is) rfl rfl rfl); (case c5 => decide); (case kB => exact locs rfl); (case c2 => exact rfl); (case c3 => exact rfl); (case c4 => exact rfl); k_whole; intro g' L' h' FG' F' N' B' X' T'; (try dsimp only); (try k_fold))
  (replace F' : Fr g' L' h' (fun y => List.lookup y [("self", .ref P.x)]) := F')
  (refine at_toks ?_; intro tk0)
  (refine (let A9 : Around := _; let g9 : Array GenState := _; let d9 : Drawn := _; let o9 : OsState := _; (?_ : wpAny _ A9 _ _ _ ⟨_, g9, d9, _, o9⟩)))
  k_steps
  refine (let qk9 : Value → Shared → Prop := _; (?_ : wpAny _ _ _ qk9 _ _))
  first | ((with_reducible show wpAny _ _ (eval _ _) _ _ _); first | refine self_call (by assumption) (by k_asm) (by first | assumption | exact PS.cons (by assumption) | exact PS.cons (PS.cons (by assumption))) (by assumption) (by first | exact rfl | assumption) (by first | exact rfl | assumption) rfl rfl ⟨by k_is, by k_is, by k_is, by k_is, rfl⟩ rfl rfl ?_ | refine glob_call (by assumption) (by assumption) (by assumption) (by first | exact rfl | assumption) (by k_is) rfl rfl (by k_is) rfl ?_) | skip
  refine Con.useVL (Q := qk9) (accept_op_f SF (isW_ne (by decide +kernel))) (by assumption) (by assumption) (by assumption) (by k_asm) (by assumption) (by first | exact rfl | assumption) rfl rfl ?_
  intro h9 tk9 F9 N9
  first | k_unfold | skip
  try clear qk9
  try dsimp only
  try k_fold
  k_steps
  refine (let qk9 : Value → Shared → Prop := _; (?_ : wpAny _ _ _ qk9 _ _))
  first | ((with_reducible show wpAny _ _ (eval _ _) _ _ _); first | refine self_call (by assumption) (by k_asm) (by first | assumption | exact PS.cons (by assumption) | exact PS.cons (PS.cons (by assumption))) (by assumption) (by first | exact rfl | assumption) (by first | exact rfl | assumption) rfl rfl ⟨by k_is, by k_is, by k_is, by k_is, rfl⟩ rfl rfl ?_ | refine glob_call (by assumption) (by assumption) (by assumption) (by first | exact rfl | assumption) (by k_is) rfl rfl (by k_is) rfl ?_) | skip
  refine Con.use3 (Q := qk9) (counted_c h0 h1 S1) (by assumption) (by assumption) (by assumption) (by k_asm) (by assumption) (by first | exact rfl | assumption) rfl rfl ?_
  intro r9 led9 h9 tk9 F9 N9 V2 S2 E2
  obtain ⟨tw, place2, avs2, vs2, ahead2, rest2, S20, hcur2, hah2, hre2, hnx2, hle2⟩ := S2
  have H2 := S20.sep N9
  have S2' := S20
  obtain ⟨hx2, ⟨k2, u42, u52, hb2, hd2⟩, -, -, -, -, -, -⟩ := S2'
  obtain ⟨d2, -, -, -, -, -, -, -, -, -, -, -⟩ := H2.d
  have SE2 := S20.put H2 k2 u42 u52 hb2 tw t.pos dep wi false
  have S3 : PS _ P t nx dep wi false := ⟨tw, place2, avs2, vs2, ahead2, rest2, SE2.1, hcur2.sub SE2.2.frz, hah2.sub SE2.2.frz, hre2.sub SE2.2.frz, hnx2, hle2⟩
  have V3 := V2.sub SE2.2.frz
  obtain ⟨q, v1, v2, v3, n, rfl, m, g1, g2, g3⟩ := V3.inv3
  obtain ⟨u1, rfl⟩ := g1.inv_str
  obtain ⟨u2, rfl⟩ := g2.inv_int
  obtain ⟨q2, n2, w1, w2, w3, rfl, m2⟩ := g3.inv_id
  first | k_unfold | skip
  try clear qk9
  try dsimp only
  try k_fold
  k_steps
  refine (let qk9 : Value → Shared → Prop := _; (?_ : wpAny _ _ _ qk9 _ _))
  first | ((with_reducible show wpAny _ _ (eval _ _) _ _ _); first | refine self_call (by assumption) (by k_asm) (by first | assumption | exact PS.cons (by assumption) | exact PS.cons (PS.cons (by assumption))) (by assumption) (by first | exact rfl | assumption) (by first | exact rfl | assumption) rfl rfl ⟨by k_is, by k_is, by k_is, by k_is, rfl⟩ rfl rfl ?_ | refine glob_call (by assumption) (by assumption) (by assumption) (by first | exact rfl | assumption) (by k_is) rfl rfl (by k_is) rfl ?_) | skip
  refine Con.useS (Q := qk9) (high_two m m2 rfl rfl (fun _ c => cl_cons True.intro (cl_cons True.intro (cl_cons c cl_nil))) (fun _ => cl_cons True.intro (cl_cons True.intro (cl_cons True.intro cl_nil))) (Nat.le_of_ble_eq_true rfl) (Nat.le_of_ble_eq_true rfl)) (by assumption) (by assumption) (by assumption) (by k_asm) (by assumption) (by first | exact rfl | assumption) rfl rfl ?_
  rintro r9 led9 h9 tk9 F9 N9 ⟨rfl, p4⟩
  first | k_unfold | skip
  try clear qk9
  try dsimp only
  try k_fold
  k_steps
  exact hret _ _ _ _ (by k_asm) (by k_asm) ⟨V3.up p4, S3.ups p4, ((SE.2.trans E2).trans SE2.2).trans (Ext.up p4)⟩
theorem keyword_x {w : World} {led : Led} {P : PA} {i : Int} {nx : List TK} {dep : Int} {wi ne : Bool} (S : PS led P (.w "key" "endmodule" i) nx dep wi ne) :
    ConX 820 7400 w 515 [.ref P.x] led "unexpected_token" i := by
  refine PS.openedWK S (fun tv0 td0 k0 u40 u50 hb0 kt0 u00 u10 u20 hx0 hd0 ht0 htd0 => ?_)
  unfold ConX
  intro zmean zmg zmb zgd zcn zcs za zccd zcl zouter zA zbase zh zL zm zs zQ zE zkeep zkp zB zF X zN zT zhk hret
  revert X; k_fill; intro X
  refine wpAny_call ?_
  k_dflt (refine' code_def ?k1 ?k2 ?k3 ?k4 ?k5 ?kA ?kF ?kK ?k6 ?k7 ?k8 ?k9 ?kB ?_ ?c2 ?c3 ?c4 ?c5; (case kA => exact rfl); (case kF => exact rfl); (case kK => assumption); (case k1 => k_asm); (case k2 => k_asm); (case k3 => k_asm); (case k4 => k_asm); (case k5 => k_asm); (case k6 => k_is); (case k7 => k_is); (case k8 => k_room); (case k9 => first | exact BindsTo.of_eq rfl | exact binds_K (by k_in) rfl (by k_is) rfl rfl rfl); (case c5 => decide); (case kB => exact locs rfl); (case c2 => exact rfl); (case c3 => exact rfl); (case c4 => exact rfl); k_whole; intro g' L' h' FG' F' N' B' X' T'; (try dsimp only); (try k_fold))
  (replace F' : Fr g' L' h' (fun y => List.lookup y [("self", .ref P.x)]) := F')
  (refine at_toks ?_; intro tk0)
  (refine (let A9 : Around := _; let g9 : Array GenState := _; let d9 : Drawn := _; let o9 : OsState := _; (?_ : wpAny _ A9 _ _ _ ⟨_, g9, d9, _, o9⟩)))
  k_steps
  refine (let qk9 : Value → Shared → Prop := _; (?_ : wpAny _ _ _ qk9 _ _))
  first | ((with_reducible show wpAny _ _ (eval _ _) _ _ _); first | refine self_call (by assumption) (by k_asm) (by first | assumption | exact PS.cons (by assumption) | exact PS.cons (PS.cons (by assumption))) (by assumption) (by first | exact rfl | assumption) (by first | exact rfl | assumption) rfl rfl ⟨by k_is, by k_is, by k_is, by k_is, rfl⟩ rfl rfl ?_ | refine glob_call (by assumption) (by assumption) (by assumption) (by first | exact rfl | assumption) (by k_is) rfl rfl (by k_is) rfl ?_) | skip
  refine Con.useVL (Q := qk9) (accept_key_f S.cons.cons (isW_text (by decide +kernel))) (by assumption) (by assumption) (by assumption) (by k_asm) (by assumption) (by first | exact rfl | assumption) rfl rfl ?_
  intro h9 tk9 F9 N9
  first | k_unfold | skip
  try clear qk9
  try dsimp only
  try k_fold
  k_steps
  refine (let qk9 : Value → Shared → Prop := _; (?_ : wpAny _ _ _ qk9 _ _))
  first | ((with_reducible show wpAny _ _ (eval _ _) _ _ _); first | refine self_call (by assumption) (by k_asm) (by first | assumption | exact PS.cons (by assumption) | exact PS.cons (PS.cons (by assumption))) (by assumption) (by first | exact rfl | assumption) (by first | exact rfl | assumption) rfl rfl ⟨by k_is, by k_is, by k_is, by k_is, rfl⟩ rfl rfl ?_ | refine glob_call (by assumption) (by assumption) (by assumption) (by first | exact rfl | assumption) (by k_is) rfl rfl (by k_is) rfl ?_) | skip
  refine Con.useVL (Q := qk9) (accept_key_f S.cons.cons (isW_text (by decide +kernel))) (by assumption) (by assumption) (by assumption) (by k_asm) (by assumption) (by first | exact rfl | assumption) rfl rfl ?_
  intro h9 tk9 F9 N9
  first | k_unfold | skip
  try clear qk9
  try dsimp only
  try k_fold
  k_steps
  refine (let qk9 : Value → Shared → Prop := _; (?_ : wpAny _ _ _ qk9 _ _))
  first | ((with_reducible show wpAny _ _ (eval _ _) _ _ _); first | refine self_call (by assumption) (by k_asm) (by first | assumption | exact PS.cons (by assumption) | exact PS.cons (PS.cons (by assumption))) (by assumption) (by first | exact rfl | assumption) (by first | exact rfl | assumption) rfl rfl ⟨by k_is, by k_is, by k_is, by k_is, rfl⟩ rfl rfl ?_ | refine glob_call (by assumption) (by assumption) (by assumption) (by first | exact rfl | assumption) (by k_is) rfl rfl (by k_is) rfl ?_) | skip
  refine Con.useVL (Q := qk9) (accept_key_f S.cons.cons (isW_text (by decide +kernel))) (by assumption) (by assumption) (by assumption) (by k_asm) (by assumption) (by first | exact rfl | assumption) rfl rfl ?_
  intro h9 tk9 F9 N9
  first | k_unfold | skip
  try clear qk9
  try dsimp only
  try k_fold
  k_steps
  refine (let qk9 : Value → Shared → Prop := _; (?_ : wpAny _ _ _ qk9 _ _))
  first | ((with_reducible show wpAny _ _ (eval _ _) _ _ _); first | refine self_call (by assumption) (by k_asm) (by first | assumption | exact PS.cons (by assumption) | exact PS.cons (PS.cons (by assumption))) (by assumption) (by first | exact rfl | assumption) (by first | exact rfl | assumption) rfl rfl ⟨by k_is, by k_is, by k_is, by k_is, rfl⟩ rfl rfl ?_ | refine glob_call (by assumption) (by assumption) (by assumption) (by first | exact rfl | assumption) (by k_is) rfl rfl (by k_is) rfl ?_) | skip
  refine Con.useVL (Q := qk9) (accept_key_f S.cons.cons (isW_text (by decide +kernel))) (by assumption) (by assumption) (by assumption) (by k_asm) (by assumption) (by first | exact rfl | assumption) rfl rfl ?_
  intro h9 tk9 F9 N9
  first | k_unfold | skip
  try clear qk9
  try dsimp only
  try k_fold
  k_steps
  refine (let qk9 : Value → Shared → Prop := _; (?_ : wpAny _ _ _ qk9 _ _))
  first | ((with_reducible show wpAny _ _ (eval _ _) _ _ _); first | refine self_call (by assumption) (by k_asm) (by first | assumption | exact PS.cons (by assumption) | exact PS.cons (PS.cons (by assumption))) (by assumption) (by first | exact rfl | assumption) (by first | exact rfl | assumption) rfl rfl ⟨by k_is, by k_is, by k_is, by k_is, rfl⟩ rfl rfl ?_ | refine glob_call (by assumption) (by assumption) (by assumption) (by first | exact rfl | assumption) (by k_is) rfl rfl (by k_is) rfl ?_) | skip
  refine Con.useVL (Q := qk9) (accept_key_f S.cons.cons (isW_text (by decide +kernel))) (by assumption) (by assumption) (by assumption) (by k_asm) (by assumption) (by first | exact rfl | assumption) rfl rfl ?_
  intro h9 tk9 F9 N9
  first | k_unfold | skip
  try clear qk9
  try dsimp only
  try k_fold
  k_steps
  unfold Hold
  first | ((with_reducible show wpAny _ _ (eval _ _) _ _ _); first | refine self_call (by assumption) (by k_asm) (by first | assumption | exact PS.cons (by assumption) | exact PS.cons (PS.cons (by assumption))) (by assumption) (by first | exact rfl | assumption) (by first | exact rfl | assumption) rfl rfl ⟨by k_is, by k_is, by k_is, by k_is, rfl⟩ rfl rfl ?_ | refine glob_call (by assumption) (by assumption) (by assumption) (by first | exact rfl | assumption) (by k_is) rfl rfl (by k_is) rfl ?_) | skip
  refine ConX.use (fail_2 S.cons.cons) (keep_of zkp (Sub.of fun _ h => List.mem_cons_of_mem _ (List.mem_cons_of_mem _ h))) (by assumption) (by assumption) (by assumption) (by k_asm) (by assumption) (by first | exact rfl | assumption) (Nat.le_of_ble_eq_true rfl) (Nat.le_of_ble_eq_true rfl) ?_
  rintro e9 D9 k9 u90 u91 dv9 g9 h9 tk9 F9 U9 R9
  exact on_end hret FG' B' F9 U9 R9
theorem full_x {w : World} {led : Led} {P : PA} {i : Int} {nx : List TK} {dep : Int} {wi ne : Bool} (S : PS led P (.w "key" "endmodule" i) nx dep wi ne) :
    ConX 810 7300 w 508 [.ref P.x] led "unexpected_token" i := by
  refine PS.openedWK S (fun tv0 td0 k0 u40 u50 hb0 kt0 u00 u10 u20 hx0 hd0 ht0 htd0 => ?_)
  unfold ConX
  intro zmean zmg zmb zgd zcn zcs za zccd zcl zouter zA zbase zh zL zm zs zQ zE zkeep zkp zB zF X zN zT zhk hret
  revert X; k_fill; intro X
  refine wpAny_call ?_
  k_dflt (refine' code_def ?k1 ?k2 ?k3 ?k4 ?k5 ?kA ?kF ?kK ?k6 ?k7 ?k8 ?k9 ?kB ?_ ?c2 ?c3 ?c4 ?c5; (case kA => exact rfl); (case kF => exact rfl); (case kK => assumption); (case k1 => k_asm); (case k2 => k_asm); (case k3 => k_asm); (case k4 => k_asm); (case k5 => k_asm); (case k6 => k_is); (case k7 => k_is); (case k8 => k_room); (case k9 => first | exact BindsTo.of_eq rfl | exact binds_K (by k_in) rfl (by k_is) rfl rfl rfl); (case c5 => decide); (case kB => exact locs rfl); (case c2 => exact rfl); (case c3 => exact rfl); (case c4 => exact rfl); k_whole; intro g' L' h' FG' F' N' B' X' T'; (try dsimp only); (try k_fold))
  (replace F' : Fr g' L' h' (fun y => List.lookup y [("self", .ref P.x)]) := F')
  (refine at_toks ?_; intro tk0)
  (refine (let A9 : Around := _; let g9 : Array GenState := _; let d9 : Drawn := _; let o9 : OsState := _; (?_ : wpAny _ A9 _ _ _ ⟨_, g9, d9, _, o9⟩)))
  k_steps
  unfold Hold
  first | ((with_reducible show wpAny _ _ (eval _ _) _ _ _); first | refine self_call (by assumption) (by k_asm) (by first | assumption | exact PS.cons (by assumption) | exact PS.cons (PS.cons (by assumption))) (by assumption) (by first | exact rfl | assumption) (by first | exact rfl | assumption) rfl rfl ⟨by k_is, by k_is, by k_is, by k_is, rfl⟩ rfl rfl ?_ | refine glob_call (by assumption) (by assumption) (by assumption) (by first | exact rfl | assumption) (by k_is) rfl rfl (by k_is) rfl ?_) | skip
  refine ConX.use (keyword_x S) (keep_of zkp (by first | exact .refl _ | exact Ext.frz (by assumption) | exact Sub.of (by assumption))) (by assumption) (by assumption) (by assumption) (by k_asm) (by assumption) (by first | exact rfl | assumption) (Nat.le_of_ble_eq_true rfl) (Nat.le_of_ble_eq_true rfl) ?_
  rintro e9 D9 k9 u90 u91 dv9 g9 h9 tk9 F9 U9 R9
  exact on_end hret FG' B' F9 U9 R9
theorem counted_x {w : World} {led : Led} {P : PA} {i : Int} {nx : List TK} {dep : Int} {wi ne : Bool} (h0 : 0 ≤ dep) (h1 : dep ≤ 20) (S : PS led P (.w "key" "endmodule" i) nx dep wi ne) :
    ConX 800 7200 w 501 [.ref P.x] led "unexpected_token" i := by
  unfold ConX
  intro zmean zmg zmb zgd zcn zcs za zccd zcl zouter zA zbase zh zL zm zs zQ zE zkeep zkp zB zF X zN zT zhk hret
  revert X; k_fill; intro X
  refine wpAny_call ?_
  k_dflt (refine' code_def ?k1 ?k2 ?k3 ?k4 ?k5 ?kA ?kF ?kK ?k6 ?k7 ?k8 ?k9 ?kB ?_ ?c2 ?c3 ?c4 ?c5; (case kA => exact rfl); (case kF => exact rfl); (case kK => assumption); (case k1 => k_asm); (case k2 => k_asm); (case k3 => k_asm); (case k4 => k_asm); (case k5 => k_asm); (case k6 => k_is); (case k7 => k_is); (case k8 => k_room); (case k9 => first | exact BindsTo.of_eq rfl | exact binds_K (by k_in) rfl (by k_is) rfl rfl rfl); (case c5 => decide); (case kB => exact locs rfl); (case c2 => exact rfl); (case c3 => exact rfl); (case c4 => exact rfl); k_whole; intro g' L' h' FG' F' N' B' X' T'; (try dsimp only); (try k_fold))
  (replace F' : Fr g' L' h' (fun y => List.lookup y [("self", .ref P.x)]) := F')
  (refine at_toks ?_; intro tk0)
  (refine (let A9 : Around := _; let g9 : Array GenState := _; let d9 : Drawn := _; let o9 : OsState := _; (?_ : wpAny _ A9 _ _ _ ⟨_, g9, d9, _, o9⟩)))
  k_steps
  refine (let qk9 : Value → Shared → Prop := _; (?_ : wpAny _ _ _ qk9 _ _))
  first | ((with_reducible show wpAny _ _ (eval _ _) _ _ _); first | refine self_call (by assumption) (by k_asm) (by first | assumption | exact PS.cons (by assumption) | exact PS.cons (PS.cons (by assumption))) (by assumption) (by first | exact rfl | assumption) (by first | exact rfl | assumption) rfl rfl ⟨by k_is, by k_is, by k_is, by k_is, rfl⟩ rfl rfl ?_ | refine glob_call (by assumption) (by assumption) (by assumption) (by first | exact rfl | assumption) (by k_is) rfl rfl (by k_is) rfl ?_) | skip
  refine Con.useV (Q := qk9) (enter_c S h0 h1) (by assumption) (by assumption) (by assumption) (by k_asm) (by assumption) (by first | exact rfl | assumption) rfl rfl ?_
  intro led9 h9 tk9 F9 N9 S1 E1
  first | k_unfold | skip
  try clear qk9
  try dsimp only
  try k_fold
  k_steps
  unfold Hold
  first | ((with_reducible show wpAny _ _ (eval _ _) _ _ _); first | refine self_call (by assumption) (by k_asm) (by first | assumption | exact PS.cons (by assumption) | exact PS.cons (PS.cons (by assumption))) (by assumption) (by first | exact rfl | assumption) (by first | exact rfl | assumption) rfl rfl ⟨by k_is, by k_is, by k_is, by k_is, rfl⟩ rfl rfl ?_ | refine glob_call (by assumption) (by assumption) (by assumption) (by first | exact rfl | assumption) (by k_is) rfl rfl (by k_is) rfl ?_) | skip
  refine ConX.use (full_x S1) (keep_of zkp (by first | exact .refl _ | exact Ext.frz (by assumption) | exact Sub.of (by assumption))) (by assumption) (by assumption) (by assumption) (by k_asm) (by assumption) (by first | exact rfl | assumption) (Nat.le_of_ble_eq_true rfl) (Nat.le_of_ble_eq_true rfl) ?_
  rintro e9 D9 k9 u90 u91 dv9 g9 h9 tk9 F9 U9 R9
  exact on_end hret FG' B' F9 U9 R9
theorem statement_x {w : World} {led : Led} {P : PA} {i : Int} {nx : List TK} {dep : Int} {wi : Bool} (h0 : 0 ≤ dep) (h1 : dep ≤ 20) (S : PS led P (.w "key" "endmodule" i) nx dep wi false) :
    ConX 790 7100 w 494 [.ref P.x] led "unexpected_token" i := by
  refine ConX.news fun hh h hL N => ?_
  have SF := S
  obtain ⟨tv, place, avs, vs, ahead, rest, S0, hcur, hah, hre, hnx, hle⟩ := S
  have H := S0.sep N
  have S' := S0
  obtain ⟨hxx, ⟨k, u4, u5, hb, hd⟩, -, -, -, -, -, -⟩ := S'
  obtain ⟨d1, -, -, -, -, -, -, -, -, -, -, -⟩ := H.d
  have SE := S0.put H k u4 u5 hb tv (TK.w "key" "endmodule" i).pos dep wi true
  have S1 : PS _ P (.w "key" "endmodule" i) nx dep wi true := ⟨tv, place, avs, vs, ahead, rest, SE.1, hcur.sub SE.2.frz, hah.sub SE.2.frz, hre.sub SE.2.frz, hnx, hle⟩
  have ES := SE.2
  clear N
  unfold ConX
  intro zmean zmg zmb zgd zcn zcs za zccd zcl zouter zA zbase zh zL zm zs zQ zE zkeep zkp zB zF X zN zT zhk hret
  revert X; k_fill; intro X
  refine wpAny_call ?_
  k_dflt (refine' code_def ?k1 ?k2 ?k3 ?k4 ?k5 ?kA ?kF ?kK ?k6 ?k7 ?k8 ?k9 ?kB ?_ ?c2 ?c3 ?c4 ?c5; (case kA => exact rfl); (case kF => exact rfl); (case kK => assumption); (case k1 => k_asm); (case k2 => k_asm); (case k3 => k_asm); (case k4 => k_asm); (case k5 => k_asm); (case k6 => k_is); (case k7 => k_is); (case k8 => k_room); (case k9 => first | exact BindsTo.of_eq rfl | exact binds_K (by k_in) rfl (by k_is) rfl rfl rfl); (case c5 => decide); (case kB => exact locs rfl); (case c2 => exact rfl); (case c3 => exact rfl); (case c4 => exact rfl); k_whole; intro g' L' h' FG' F' N' B' X' T'; (try dsimp only); (try k_fold))
  (replace F' : Fr g' L' h' (fun y => List.lookup y [("self", .ref P.x)]) := F')
  (refine at_toks ?_; intro tk0)
  (refine (let A9 : Around := _; let g9 : Array GenState := _; let d9 : Drawn := _; let o9 : OsState := _; (?_ : wpAny _ A9 _ _ _ ⟨_, g9, d9, _, o9⟩)))
  k_steps
  refine (let qk9 : Value → Shared → Prop := _; (?_ : wpAny _ _ _ qk9 _ _))
  first | ((with_reducible show wpAny _ _ (eval _ _) _ _ _); first | refine self_call (by assumption) (by k_asm) (by first | assumption | exact PS.cons (by assumption) | exact PS.cons (PS.cons (by assumption))) (by assumption) (by first | exact rfl | assumption) (by first | exact rfl | assumption) rfl rfl ⟨by k_is, by k_is, by k_is, by k_is, rfl⟩ rfl rfl ?_ | refine glob_call (by assumption) (by assumption) (by assumption) (by first | exact rfl | assumption) (by k_is) rfl rfl (by k_is) rfl ?_) | skip
  refine Con.useVL (Q := qk9) (accept_op_f SF (isW_kind (by decide +kernel))) (by assumption) (by assumption) (by assumption) (by k_asm) (by assumption) (by first | exact rfl | assumption) rfl rfl ?_
  intro h9 tk9 F9 N9
  first | k_unfold | skip
  try clear qk9
  try dsimp only
  try k_fold
  k_steps
  unfold Hold
  first | ((with_reducible show wpAny _ _ (eval _ _) _ _ _); first | refine self_call (by assumption) (by k_asm) (by first | assumption | exact PS.cons (by assumption) | exact PS.cons (PS.cons (by assumption))) (by assumption) (by first | exact rfl | assumption) (by first | exact rfl | assumption) rfl rfl ⟨by k_is, by k_is, by k_is, by k_is, rfl⟩ rfl rfl ?_ | refine glob_call (by assumption) (by assumption) (by assumption) (by first | exact rfl | assumption) (by k_is) rfl rfl (by k_is) rfl ?_) | skip
  refine ConX.use (counted_x h0 h1 S1) (keep_of zkp (by first | exact .refl _ | exact Ext.frz (by assumption) | exact Sub.of (by assumption))) (by assumption) (by assumption) (by assumption) (by k_asm) (by assumption) (by first | exact rfl | assumption) (Nat.le_of_ble_eq_true rfl) (Nat.le_of_ble_eq_true rfl) ?_
  rintro e9 D9 k9 u90 u91 dv9 g9 h9 tk9 F9 U9 R9
  exact on_end hret FG' B' F9 U9 R9
inductive DI where
  | ports (g : PG) (e : Int)
  | int (b : Int) (nm : PySem.Str) (j e : Int)
noncomputable def DI.toks : DI → List TK → List TK
  | .ports g e, r => g.toks (.w "op" ";" e :: r)
  | .int b nm j e, r => .w "key" "integer" b :: .w "id" nm j :: .w "op" ";" e :: r
noncomputable def dsT : List DI → List TK → List TK
  | [], r => r
  | d :: l, r => d.toks (dsT l r)
noncomputable abbrev varD (b : Int) (nm : PySem.Str) : Dat := .tuple [.str "var", .int b, .str "integer", .bool true, .none, .str nm, .tuple [], .none]
noncomputable def DI.dats : DI → List Dat
  | .ports g _ => g.dats
  | .int b nm _ _ => [varD b nm]
noncomputable def dsD : List DI → List Dat
  | [] => []
  | d :: l => d.dats ++ dsD l
noncomputable def DI.wf : DI → Prop
  | .ports g _ => g.wf
  | .int _ _ _ _ => True
inductive BD where
  | none
  | semi (e : Int)
  | trig (a : Int) (nm : PySem.Str) (j e : Int)
noncomputable def BD.toks : BD → List TK → List TK
  | .none, r => r
  | .semi e, r => .w "op" ";" e :: r
  | .trig a nm j e, r => .w "op" "->" a :: .w "id" nm j :: .w "op" ";" e :: r
noncomputable def BD.dat : BD → Dat
  | .trig a nm j _ => trigD a j nm
  | _ => .none
noncomputable def wiT : Option (Int × Int × Int) → List TK → List TK
  | none, r => r
  | some (a, b, c), r => .w "key" "input" a :: .w "key" "wire" b :: .w "id" "w" c :: r
noncomputable def hdT : Option (Int × List (Int × PG) × Int) → List TK → List TK
  | none, r => r
  | some (o, l, c), r => .w "op" "(" o :: hsT l (.w "op" ")" c :: r)
noncomputable def hdD : Option (Int × List (Int × PG) × Int) → List Dat
  | none => []
  | some (_, l, _) => psD l
noncomputable def auT : Option Int → List TK
  | none => []
  | some j => [.w "key" "automatic" j]
noncomputable def shT (fn : Bool) (s : SH) : List TK := bif fn then s.toks else []
noncomputable def shE (fn : Bool) (s : SH) (b : Int) : Dat := bif fn then s.ex b else .none
noncomputable def rtF (fn : Bool) (wd : PySem.Str) (j : Int) (wi : Option (Int × Int × Int)) (ok : Bool) (ei : Int) : Option Int := bif fn && wd == "reg" then some j else match wi with
  | some (_, _, c) => some c
  | none => bif ok then none else some ei
theorem dsD_app (l l' : List DI) : dsD (l ++ l') = dsD l ++ dsD l' := by
  induction l with
  | nil => rfl
  | cons d l ih => show d.dats ++ dsD (l ++ l') = (d.dats ++ dsD l) ++ dsD l'; rw [ih, List.append_assoc]
theorem DI.dats_len {d : DI} (h : d.wf) : d.dats.length ≤ 3 := by
  cases d with
  | ports g e => exact PG.dats_len h
  | int b nm j e => exact Nat.le_of_ble_eq_true rfl
theorem dsD_len {l : List DI} (h : ∀ d ∈ l, d.wf) : (dsD l).length ≤ 3 * l.length := by
  induction l with
  | nil => exact Nat.le_refl _
  | cons d l ih =>
    have := DI.dats_len (h _ List.mem_cons_self)
    have := ih fun q hq => h q (List.mem_cons_of_mem _ hq)
    rw [dsD, List.length_append, List.length_cons]; omega
structure NoD (t : TK) : Prop where
  k : ∃ k x i, t = .w k x i ∧ (k == "key" && declWords.any (fun y => y == x)) = false
  d : ∀ x, IsDir x → t.isW "key" x = false
theorem noD_op {x : PySem.Str} {i : Int} : NoD (.w "op" x i) := ⟨⟨_, _, _, rfl, by rw [show (("op" : PySem.Str) == "key") = false by decide +kernel, Bool.false_and]⟩, fun _ _ => isW_kind (by decide +kernel)⟩
theorem noD_key {x : PySem.Str} {i : Int} (h : declWords.any (fun y => y == x) = false) (h1 : (x == "input") = false) (h2 : (x == "output") = false) (h3 : (x == "inout") = false) : NoD (.w "key" x i) :=
  ⟨⟨_, _, _, rfl, by rw [h, Bool.and_false]⟩, fun _ d => by cases d <;> (refine isW_text ?_; assumption)⟩
noncomputable def endW (fn : Bool) : PySem.Str := bif fn then "endfunction" else "endtask"
theorem bd_cons {bd : BD} {fn ok : Bool} {we : PySem.Str} {ei : Int} {r : List TK} (h : we = bif ok then endW fn else "endmodule") : ∃ t n, bd.toks (.w "key" we ei :: r) = t :: n ∧ NoD t := by
  cases bd with
  | none =>
    refine ⟨_, _, rfl, ?_⟩
    cases ok <;> cases fn <;> (subst h; exact noD_key (by decide +kernel) (by decide +kernel) (by decide +kernel) (by decide +kernel))
  | semi e => exact ⟨_, _, rfl, noD_op⟩
  | trig a nm j e => exact ⟨_, _, rfl, noD_op⟩
theorem begins_decl_t {w : World} {led : Led} {P : PA} {kd x : PySem.Str} {i : Int} {nx : List TK} {dep : Int} {wi ne b : Bool} (h : (kd == "key" && declWords.any (fun y => y == x)) = b) (S : PS led P (.w kd x i) nx dep wi ne) :
    Con 850 7600 w 620 [.ref P.x] led (fun r led' => r = .bool b ∧ PS led' P (.w kd x i) nx dep wi ne ∧ Ext P led led') := (begins_decl_c S).weaken fun _ _ k => ⟨k.1.trans (congrArg Value.bool h), S.ups k.2, .up k.2⟩
theorem begins_port_f {w : World} {led : Led} {P : PA} {t : TK} {nx : List TK} {dep : Int} {wi ne : Bool} (h : ∀ x, IsDir x → t.isW "key" x = false) (S : PS led P t nx dep wi ne) :
    Con 850 7600 w 779 [.ref P.x] led (fun r led' => r = .bool false ∧ led' = led) :=
  (begins_port_c S).weaken fun _ _ k => ⟨k.1.trans (congrArg Value.bool (by rw [h _ .inp, h _ .out, h _ .ino]; rfl)), k.2⟩
theorem dir_key {x : PySem.Str} (h : IsDir x) : (("key" : PySem.Str) == "key" && declWords.any (fun y => y == x)) = false := by cases h <;> decide +kernel
theorem PSL.cons' {led : Led} {P : PA} {ts : List TK} {dep : Int} {wi ne : Bool} {p : Addr × Obj} (S : PSL led P ts dep wi ne) : PSL (p :: led) P ts dep wi ne := by
  cases ts with
  | nil => exact S
  | cons t n => exact PS.cons S
theorem accept_auto {w : World} {led : Led} {P : PA} {o : Option Int} {t : TK} {n : List TK} {dep : Int} {wi ne : Bool} {ut : Tok} (h : t.isW "key" "automatic" = false) (S : PSL led P (auT o ++ t :: n) dep wi ne) :
    Con 860 7800 w 167 [.ref P.x, .str "automatic" ut] led (fun r led' => r = .bool o.isSome ∧ PS led' P t n dep wi ne ∧ Ext P led led') := by
  cases o with
  | none => exact (accept_key_f S h).weaken fun _ l k => ⟨k.1, by rw [k.2]; exact S, by rw [k.2]; exact .refl _ _⟩
  | some j => exact accept_key_t (S : PS led P (.w "key" "automatic" j) (t :: n) dep wi ne) isW_key
theorem expect_key_t {w : World} {led : Led} {P : PA} {cur t : TK} {nx : List TK} {dep : Int} {wi ne : Bool} {text : PySem.Str} {ut : Tok} (S : PS led P cur (t :: nx) dep wi ne) (h : cur.isW "key" text = true) :
    Con 850 7700 w 181 [.ref P.x, .str text ut] led (fun r led' => r = .none ∧ PS led' P t nx dep wi ne ∧ Ext P led led') := by
  try unfold Con
  intro zmean zmg zmb zgd zcn zcs za zccd zcl zouter zA zbase zh zL zm zs zQ zE zB zF X zN zT zhk hret
  revert X; k_fill; intro X
  refine wpAny_call ?_
  k_dflt (refine' code_def ?k1 ?k2 ?k3 ?k4 ?k5 ?kA ?kF ?kK ?k6 ?k7 ?k8 ?k9 ?kB ?_ ?c2 ?c3 ?c4 ?c5; (case kA => exact rfl); (case kF => exact rfl); (case kK => assumption); (case k1 => k_asm); (case k2 => k_asm); (case k3 => k_asm); (case k4 => k_asm); (case k5 => k_asm); (case k6 => k_is); (case k7 => k_is); (case k8 => k_room); (case k9 => first | exact BindsTo.of_eq rfl | exact binds_K (by k_in) rfl (by k_is) rfl rfl rfl); (case c5 => decide); (case kB => exact locs rfl); (case c2 => exact rfl); (case c3 => exact rfl); (case c4 => exact rfl); k_whole; intro g' L' h' FG' F' N' B' X' T'; (try dsimp only); (try k_fold))
  (replace F' : Fr g' L' h' (fun y => List.lookup y [("text", .str text ut), ("self", .ref P.x)]) := F')
  (refine at_toks ?_; intro tk0)
  (refine (let A9 : Around := _; let g9 : Array GenState := _; let d9 : Drawn := _; let o9 : OsState := _; (?_ : wpAny _ A9 _ _ _ ⟨_, g9, d9, _, o9⟩)))
  k_steps
  refine (let qk9 : Value → Shared → Prop := _; (?_ : wpAny _ _ _ qk9 _ _))
  first | ((with_reducible show wpAny _ _ (eval _ _) _ _ _); first | refine self_call (by assumption) (by k_asm) (by first | assumption | exact PS.cons (by assumption) | exact PS.cons (PS.cons (by assumption))) (by assumption) (by first | exact rfl | assumption) (by first | exact rfl | assumption) rfl rfl ⟨by k_is, by k_is, by k_is, by k_is, rfl⟩ rfl rfl ?_ | refine glob_call (by assumption) (by assumption) (by assumption) (by first | exact rfl | assumption) (by k_is) rfl rfl (by k_is) rfl ?_) | skip
  refine Con.useV (Q := qk9) (accept_key_t S h) (by assumption) (by assumption) (by assumption) (by k_asm) (by assumption) (by first | exact rfl | assumption) rfl rfl ?_
  intro led9 h9 tk9 F9 N9 S1 E1
  first | k_unfold | skip
  try clear qk9
  try dsimp only
  try k_fold
  k_steps
  exact hret _ _ _ _ (by k_asm) (by k_asm) ⟨rfl, S1, E1⟩
theorem expect_key_x {w : World} {led : Led} {P : PA} {cur : TK} {nx : List TK} {dep : Int} {wi ne : Bool} {tx : PySem.Str} {t1 : Tok} (S : PS led P cur nx dep wi ne) (h : cur.isW "key" tx = false) :
    ConX 850 7700 w 181 [.ref P.x, .str tx t1] led "unexpected_token" cur.pos := by
  refine PS.openedK S (fun tv0 td0 k0 u40 u50 hb0 kt0 u00 u20 val0 hx0 hd0 ht0 htd0 => ?_)
  unfold ConX
  intro zmean zmg zmb zgd zcn zcs za zccd zcl zouter zA zbase zh zL zm zs zQ zE zkeep zkp zB zF X zN zT zhk hret
  revert X; k_fill; intro X
  refine wpAny_call ?_
  k_dflt (refine' code_def ?k1 ?k2 ?k3 ?k4 ?k5 ?kA ?kF ?kK ?k6 ?k7 ?k8 ?k9 ?kB ?_ ?c2 ?c3 ?c4 ?c5; (case kA => exact rfl); (case kF => exact rfl); (case kK => assumption); (case k1 => k_asm); (case k2 => k_asm); (case k3 => k_asm); (case k4 => k_asm); (case k5 => k_asm); (case k6 => k_is); (case k7 => k_is); (case k8 => k_room); (case k9 => first | exact BindsTo.of_eq rfl | exact binds_K (by k_in) rfl (by k_is) rfl rfl rfl); (case c5 => decide); (case kB => exact locs rfl); (case c2 => exact rfl); (case c3 => exact rfl); (case c4 => exact rfl); k_whole; intro g' L' h' FG' F' N' B' X' T'; (try dsimp only); (try k_fold))
  (replace F' : Fr g' L' h' (fun y => List.lookup y [("text", .str tx t1), ("self", .ref P.x)]) := F')
  (refine at_toks ?_; intro tk0)
  (refine (let A9 : Around := _; let g9 : Array GenState := _; let d9 : Drawn := _; let o9 : OsState := _; (?_ : wpAny _ A9 _ _ _ ⟨_, g9, d9, _, o9⟩)))
  k_steps
  refine (let qk9 : Value → Shared → Prop := _; (?_ : wpAny _ _ _ qk9 _ _))
  first | ((with_reducible show wpAny _ _ (eval _ _) _ _ _); first | refine self_call (by assumption) (by k_asm) (by first | assumption | exact PS.cons (by assumption) | exact PS.cons (PS.cons (by assumption))) (by assumption) (by first | exact rfl | assumption) (by first | exact rfl | assumption) rfl rfl ⟨by k_is, by k_is, by k_is, by k_is, rfl⟩ rfl rfl ?_ | refine glob_call (by assumption) (by assumption) (by assumption) (by first | exact rfl | assumption) (by k_is) rfl rfl (by k_is) rfl ?_) | skip
  refine Con.useVL (Q := qk9) (accept_key_f S h) (by assumption) (by assumption) (by assumption) (by k_asm) (by assumption) (by first | exact rfl | assumption) rfl rfl ?_
  intro h9 tk9 F9 N9
  first | k_unfold | skip
  try clear qk9
  try dsimp only
  try k_fold
  k_steps
  unfold Hold
  first | ((with_reducible show wpAny _ _ (eval _ _) _ _ _); first | refine self_call (by assumption) (by k_asm) (by first | assumption | exact PS.cons (by assumption) | exact PS.cons (PS.cons (by assumption))) (by assumption) (by first | exact rfl | assumption) (by first | exact rfl | assumption) rfl rfl ⟨by k_is, by k_is, by k_is, by k_is, rfl⟩ rfl rfl ?_ | refine glob_call (by assumption) (by assumption) (by assumption) (by first | exact rfl | assumption) (by k_is) rfl rfl (by k_is) rfl ?_) | skip
  refine ConX.use (fail_3 S) (keep_of zkp (by first | exact .refl _ | exact Ext.frz (by assumption) | exact Sub.of (by assumption))) (by assumption) (by assumption) (by assumption) (by k_asm) (by assumption) (by first | exact rfl | assumption) (Nat.le_of_ble_eq_true rfl) (Nat.le_of_ble_eq_true rfl) ?_
  rintro e9 D9 k9 u90 u91 dv9 g9 h9 tk9 F9 U9 R9
  exact on_end hret FG' B' F9 U9 R9
section
local macro_rules | `(tactic| walk_at "call builtin:list.extend") => `(tactic| (k_here; (try dsimp only [List.nil_append, List.cons_append]); k_dflt (refine grow_mem (by k_asm) (by k_asm) (by k_mem) (by k_mem) (by lge_go) ?_); k_whole; intro n'; lge_steps))
section
local macro_rules | `(tactic| walk_at "binaryOp Add str str") => `(tactic| (refine PyProof.Rows.add_str (fun _ _ => ?_) (by assumption)))
section
local macro_rules | `(tactic| walk_at "eval Name") => `(tactic| (k_here; k_dflt (refine nameX_L (by k_asm) (by assumption) ?_ rfl rfl); k_whole))
theorem map_same {m : PySem.Str → Option Value} {n : PySem.Str} {v : Value} (h : m n = some v) : m = fun y => if y = n then some v else m y := by
  funext y; by_cases e : y = n
  · rw [if_pos e, e, h]
  · rw [if_neg e]
structure RtC (P : PA) (led : Led) (b : Int) (sort : PySem.Str) (au sg : Bool) (ex : Dat) (ts : List TK) (bad : Bool) (m' : PySem.Str → Option Value) (led' : Led) : Prop where
  se : m' "self" = some (.ref P.x)
  at_ : ∃ t, m' "at" = some (.int b t)
  kd : ∃ t, m' "kind" = some (.str sort t)
  au : m' "automatic" = some (.bool au)
  sg : m' "signed" = some (.bool sg)
  ex : ∃ v, m' "extent" = some v ∧ VI led' v ex
  S : PSL led' P ts 0 false false
  E : Ext P led led'
  nf : bad = false
theorem sh_word (s : SH) : ((s.k.word = "" ∨ s.k.word = "integer" ∨ s.k.word = "time") ∧ (s.k.word == "reg") = false) ∨ s.k.word = "reg" := by
  obtain ⟨k, si, sp⟩ := s
  cases k with
  | none => exact .inl ⟨.inl rfl, (by decide +kernel : (("" : PySem.Str) == "reg") = false)⟩
  | reg j => exact .inr rfl
  | int j => exact .inl ⟨.inr (.inl rfl), (by decide +kernel : (("integer" : PySem.Str) == "reg") = false)⟩
  | time j => exact .inl ⟨.inr (.inr rfl), (by decide +kernel : (("time" : PySem.Str) == "reg") = false)⟩
theorem shT_cons {fn : Bool} {s : SH} {nm : PySem.Str} {j : Int} {r : List TK} : ∃ t n, shT fn s ++ .w "id" nm j :: r = t :: n ∧ t.isW "key" "automatic" = false := by
  cases fn with
  | false => exact ⟨_, _, rfl, isW_kind (by decide +kernel)⟩
  | true =>
    obtain ⟨k, si, sp⟩ := s
    cases k with
    | none =>
      obtain ⟨t, n, e, h⟩ := sip (si := si) (sp := sp) (nm := nm) (j := j) (r := r)
      exact ⟨t, n, by rw [← e, ← List.append_assoc]; rfl, h _ (by decide +kernel)⟩
    | reg j => exact ⟨_, _, rfl, isW_text (by decide +kernel)⟩
    | int j => exact ⟨_, _, rfl, isW_text (by decide +kernel)⟩
    | time j => exact ⟨_, _, rfl, isW_text (by decide +kernel)⟩
theorem auT_cons {o : Option Int} {t : TK} {n : List TK} : ∃ t' n', auT o ++ t :: n = t' :: n' := by
  cases o with
  | none => exact ⟨_, _, rfl⟩
  | some j => exact ⟨_, _, rfl⟩
theorem dsT_cons (l : List DI) {wi : Option (Int × Int × Int)} {t : TK} {n : List TK} : ∃ t' n', dsT l (wiT wi (t :: n)) = t' :: n' := by
  cases l with
  | nil =>
    rcases wi with _ | ⟨a, b, c⟩
    · exact ⟨_, _, rfl⟩
    · exact ⟨_, _, rfl⟩
  | cons d l => cases d <;> exact ⟨_, _, rfl⟩
theorem hdT_cons {hd : Option (Int × List (Int × PG) × Int)} {e : Int} {r : List TK} : ∃ t' n', hdT hd (.w "op" ";" e :: r) = t' :: n' := by
  rcases hd with _ | ⟨o, l, c⟩
  · exact ⟨_, _, rfl⟩
  · exact ⟨_, _, rfl⟩
theorem hsT_cons (l : List (Int × PG)) {t : TK} {r : List TK} : ∃ t' n', hsT l (t :: r) = t' :: n' := by
  rcases l with _ | ⟨⟨c, g⟩, l⟩
  · exact ⟨_, _, rfl⟩
  · exact ⟨_, _, rfl⟩
inductive RemAlt (rem : List DI) (wi : Option (Int × Int × Int)) (R : List TK) : Prop
  | out : rem = [] → wi = none → RemAlt rem wi R
  | int (b j e : Int) (nm : PySem.Str) (l : List DI) : rem = .int b nm j e :: l → RemAlt rem wi R
  | dir (x : PySem.Str) (b : Int) (r : List TK) : IsDir x → dsT rem (wiT wi R) = .w "key" x b :: r → ((∃ a c, x = "input" ∧ r = .w "key" "wire" a :: .w "id" "w" c :: R ∧ rem = [] ∧ wi = some (b, a, c)) ∨ ∃ g e l, rem = .ports g e :: l) → RemAlt rem wi R
theorem rem_alt {rem : List DI} {wi : Option (Int × Int × Int)} {R : List TK} (h : ∀ d ∈ rem, d.wf) : RemAlt rem wi R := by
  rcases rem with _ | ⟨d, l⟩
  · rcases wi with _ | ⟨a, b, c⟩
    · exact .out rfl rfl
    · exact .dir _ _ _ .inp rfl (.inl ⟨_, _, rfl, rfl, rfl, rfl⟩)
  · cases d with
    | ports g e => exact .dir _ _ _ (h (.ports g e) List.mem_cons_self).d rfl (.inr ⟨_, _, _, rfl⟩)
    | int b nm j e => exact .int _ _ _ _ _ rfl
theorem rtF_none {fn ok : Bool} {wd : PySem.Str} {j ei : Int} {wi : Option (Int × Int × Int)} (h : (fn && wd == "reg") = false) (k : wi = none) : rtF fn wd j wi ok ei = bif ok then none else some ei := by
  subst k; unfold rtF; rw [h]; rfl
theorem rtF_some {fn ok : Bool} {wd : PySem.Str} {j ei a b c : Int} {wi : Option (Int × Int × Int)} (h : (fn && wd == "reg") = false) (k : wi = some (a, b, c)) : rtF fn wd j wi ok ei = some c := by
  subst k; unfold rtF; rw [h]; rfl
noncomputable def sortW (fn : Bool) : PySem.Str := bif fn then "function" else "task"
theorem end_sort (fn : Bool) : PySem.Str.ofString "end" ++ sortW fn = endW fn := by cases fn <;> decide +kernel
theorem end_len (fn : Bool) : (PySem.Str.ofString "end").length + (sortW fn).length ≤ sizeLine := by cases fn <;> exact Nat.le_of_ble_eq_true rfl
theorem end_not (fn : Bool) : (("endmodule" : PySem.Str) == endW fn) = false := by cases fn <;> decide +kernel
theorem routine_item_c {w : World} {led : Led} {P : PA} {nm we : PySem.Str} {fn ok : Bool} {b j se ei : Int} {au : Option Int} {s : SH} {hd : Option (Int × List (Int × PG) × Int)} {ds : List DI} {wi : Option (Int × Int × Int)} {bd : BD} {t : TK} {nx R1 R2 R3 : List TK}
    (hs : spF s.sp) (hhd : ∀ o l c, hd = some (o, l, c) → (∀ p ∈ l, p.2.wf) ∧ l.length ≤ 2) (hds : ∀ d ∈ ds, d.wf) (hdn : ds.length ≤ 2) (hwe : we = bif ok then endW fn else "endmodule")
    (hR1 : R1 = bd.toks (.w "key" we ei :: t :: nx)) (hR2 : R2 = dsT ds (wiT wi R1)) (hR3 : R3 = hdT hd (.w "op" ";" se :: R2))
    (S : PS led P (.w "key" (sortW fn) b) (auT au ++ (shT fn s ++ .w "id" nm j :: R3)) 0 false false) :
    ConE 680 5800 w 772 [.ref P.x] led
      (fun r led' => rtF fn s.k.word j wi ok ei = none ∧ VI led' r (.tuple [.str "routine", .int b, .str (sortW fn), .bool au.isSome, .bool (fn && s.sg), shE fn s b, .str nm, .tuple (hdD hd ++ dsD ds), bd.dat]) ∧ PS led' P t nx 0 false false ∧ Ext P led led')
      (fun kind i => kind = "unexpected_token" ∧ rtF fn s.k.word j wi ok ei = some i) := by
  obtain ⟨t1, n1, e1, hno⟩ := bd_cons (bd := bd) (ei := ei) (r := t :: nx) hwe
  rw [← hR1] at e1
  obtain ⟨t2, n2, e2⟩ := dsT_cons ds (wi := wi) (t := t1) (n := n1)
  rw [← e1, ← hR2] at e2
  obtain ⟨t3, n3, e3⟩ := hdT_cons (hd := hd) (e := se) (r := R2)
  rw [← hR3] at e3
  obtain ⟨t4, n4, e4, h4⟩ := shT_cons (fn := fn) (s := s) (nm := nm) (j := j) (r := R3)
  obtain ⟨t5, n5, e5⟩ := auT_cons (o := au) (t := t4) (n := n4)
  rw [e4, e5] at S
  obtain ⟨sort, hsort⟩ : ∃ sort, sort = sortW fn := ⟨_, rfl⟩
  rw [← hsort] at S ⊢
  have hlen : (PySem.Str.ofString "end").length + sort.length ≤ sizeLine := hsort ▸ end_len fn
  have hend : PySem.Str.ofString "end" ++ sort = endW fn := hsort ▸ end_sort fn
  refine PS.openedWK S (fun tv0 td0 k0 u40 u50 hb0 kt0 u00 u10 u20 hx0 hd0 ht0 htd0 => ?_)
  unfold ConE
  intro zmean zmg zmb zgd zcn zcs za zccd zcl zouter zA zbase zh zL zm zs zQ zE zkeep zkp zB zF X zN zT zhk hret hexc
  revert X; k_fill; intro X
  refine wpAny_call ?_
  k_dflt (refine' code_def ?k1 ?k2 ?k3 ?k4 ?k5 ?kA ?kF ?kK ?k6 ?k7 ?k8 ?k9 ?kB ?_ ?c2 ?c3 ?c4 ?c5; (case kA => exact rfl); (case kF => exact rfl); (case kK => assumption); (case k1 => k_asm); (case k2 => k_asm); (case k3 => k_asm); (case k4 => k_asm); (case k5 => k_asm); (case k6 => k_is); (case k7 => k_is); (case k8 => k_room); (case k9 => first | exact BindsTo.of_eq rfl | exact binds_K (by k_in) rfl (by k_is) rfl rfl rfl); (case c5 => decide); (case kB => exact locs rfl); (case c2 => exact rfl); (case c3 => exact rfl); (case c4 => exact rfl); k_whole; intro g' L' h' FG' F' N' B' X' T'; (try dsimp only); (try k_fold))
  (replace F' : Fr g' L' h' (fun y => List.lookup y [("self", .ref P.x)]) := F')
  (refine at_toks ?_; intro tk0)
  (refine (let A9 : Around := _; let g9 : Array GenState := _; let d9 : Drawn := _; let o9 : OsState := _; (?_ : wpAny _ A9 _ _ _ ⟨_, g9, d9, _, o9⟩)))
  k_steps
  refine (let qk9 : Value → Shared → Prop := _; (?_ : wpAny _ _ _ qk9 _ _))
  first | ((with_reducible show wpAny _ _ (eval _ _) _ _ _); first | refine self_call (by assumption) (by k_asm) (by first | assumption | exact PS.cons (by assumption) | exact PS.cons (PS.cons (by assumption))) (by assumption) (by first | exact rfl | assumption) (by first | exact rfl | assumption) rfl rfl ⟨by k_is, by k_is, by k_is, by k_is, rfl⟩ rfl rfl ?_ | refine glob_call (by assumption) (by assumption) (by assumption) (by first | exact rfl | assumption) (by k_is) rfl rfl (by k_is) rfl ?_) | skip
  refine Con.use3 (Q := qk9) (take_c S) (by assumption) (by assumption) (by assumption) (by k_asm) (by assumption) (by first | exact rfl | assumption) rfl rfl ?_
  intro r9 led9 h9 tk9 F9 N9 V1 S1 E1
  obtain ⟨a1, d1, k1, u10, u11, u12, rfl, ha1, hd1'⟩ := V1.openedW
  first | k_unfold | skip
  try clear qk9
  try dsimp only
  try k_fold
  k_steps
  refine (let qk9 : Value → Shared → Prop := _; (?_ : wpAny _ _ _ qk9 _ _))
  first | ((with_reducible show wpAny _ _ (eval _ _) _ _ _); first | refine self_call (by assumption) (by k_asm) (by first | assumption | exact PS.cons (by assumption) | exact PS.cons (PS.cons (by assumption))) (by assumption) (by first | exact rfl | assumption) (by first | exact rfl | assumption) rfl rfl ⟨by k_is, by k_is, by k_is, by k_is, rfl⟩ rfl rfl ?_ | refine glob_call (by assumption) (by assumption) (by assumption) (by first | exact rfl | assumption) (by k_is) rfl rfl (by k_is) rfl ?_) | skip
  refine Con.useV (Q := qk9) (accept_auto (o := au) h4 (PSL.mk e5 S1)) (by assumption) (by assumption) (by assumption) (by k_asm) (by assumption) (by first | exact rfl | assumption) rfl rfl ?_
  intro led9 h9 tk9 F9 N9 S2 E2
  have E02 := E1.trans E2
  clear V1 ha1 hd1' S1 S E1 E2 hx0 hd0 ht0 htd0
  first | k_unfold | skip
  try clear qk9
  try dsimp only
  try k_fold
  k_steps
  unfold Hold
  refine cutV (by assumption) (fun _ => RtC P led b sort au.isSome (fn && s.sg) (shE fn s b) (.w "id" nm j :: R3) (fn && s.k.word == "reg")) ?_ ?_
  · clear hret
    cases fn with
    | false =>
      have es : sort = "task" := hsort
      subst es
      have S3 : PSL led9 P (.w "id" nm j :: R3) 0 false false := PSL.mk e4 S2
      k_steps
      exact CNext.mk (by k_asm) (by k_asm) ⟨rfl, ⟨_, rfl⟩, ⟨_, rfl⟩, rfl, rfl, ⟨_, rfl, .none⟩, S3, E02, rfl⟩
    | true =>
      have es : sort = "function" := hsort
      subst es
      have S3 : PSL led9 P (s.toks ++ .w "id" nm j :: t3 :: n3) 0 false false := by rw [← e3]; exact PSL.mk e4 S2
      k_steps
      refine (let qk9 : Value → Shared → Prop := _; (?_ : wpAny _ _ _ qk9 _ _))
      first | ((with_reducible show wpAny _ _ (eval _ _) _ _ _); first | refine self_call (by assumption) (by k_asm) (by first | assumption | exact PS.cons (by assumption) | exact PS.cons (PS.cons (by assumption))) (by assumption) (by first | exact rfl | assumption) (by first | exact rfl | assumption) rfl rfl ⟨by k_is, by k_is, by k_is, by k_is, rfl⟩ rfl rfl ?_ | refine glob_call (by assumption) (by assumption) (by assumption) (by first | exact rfl | assumption) (by k_is) rfl rfl (by k_is) rfl ?_) | skip
      refine Con.use3 (Q := qk9) (port_shape_c hs (by decide) (by decide) S3) (by assumption) (by assumption) (by assumption) (by k_asm) (by assumption) (by first | exact rfl | assumption) rfl rfl ?_
      intro r9 led9 h9 tk9 F9 N9 V4 S4 E4
      have E04 := E02.trans E4
      obtain ⟨a2, u1, u2, vx, n2', rfl, m2, VX⟩ := V4.inv_sh
      first | k_unfold | skip
      try clear qk9
      try dsimp only
      try k_fold
      generalize s.k.tag = tg at m2
      refine (let G9 : Prop := _; (?_ : G9))
      rcases sh_word s with ⟨hw, hr⟩ | hw <;> (first | k_unfold | skip)
      · rcases hw with hw | hw | hw
        all_goals
          rw [hw] at m2
          k_steps
          exact CNext.mk (by k_asm) (by k_asm) ⟨rfl, ⟨_, rfl⟩, ⟨_, rfl⟩, rfl, rfl, ⟨_, rfl, VX.up fun _ h => List.mem_cons_of_mem _ h⟩, (by rw [e3]; exact S4.cons), E04.cons, hr⟩
      · rw [hw] at m2
        k_steps
        unfold Hold
        first | ((with_reducible show wpAny _ _ (eval _ _) _ _ _); first | refine self_call (by assumption) (by k_asm) (by first | assumption | exact PS.cons (by assumption) | exact PS.cons (PS.cons (by assumption))) (by assumption) (by first | exact rfl | assumption) (by first | exact rfl | assumption) rfl rfl ⟨by k_is, by k_is, by k_is, by k_is, rfl⟩ rfl rfl ?_ | refine glob_call (by assumption) (by assumption) (by assumption) (by first | exact rfl | assumption) (by k_is) rfl rfl (by k_is) rfl ?_) | skip
        refine ConX.use (fail_2 S4.cons) (keep_of zkp (E04.frz.trans (Sub.of fun _ h => List.mem_cons_of_mem _ h))) (by assumption) (by assumption) (by assumption) (by k_asm) (by assumption) (by first | exact rfl | assumption) (Nat.le_of_ble_eq_true rfl) (Nat.le_of_ble_eq_true rfl) ?_
        rintro e9 D9 k9 u90 u91 dv9 g9 h9 tk9 F9 U9 R9
        exact on_end (hexc _ _ (⟨rfl, by rw [hw]; rfl⟩)) FG' B' F9 U9 R9
  clear S2 E02 e4 e5 h4
  intro h3 tk3 m3 led3 hq9 F3 N3
  obtain ⟨m_se, ⟨ta, m_at⟩, ⟨tk_, m_kd⟩, m_au, m_sg, ⟨vx, m_ex, VX⟩, S3, E3, hnf⟩ := hq9
  have S3' : PS led3 P (.w "id" nm j) (t3 :: n3) 0 false false := by
    rw [e3] at S3; exact S3
  first | k_unfold | skip
  try clear qk9
  try dsimp only
  k_steps
  refine (let qk9 : Value → Shared → Prop := _; (?_ : wpAny _ _ _ qk9 _ _))
  first | ((with_reducible show wpAny _ _ (eval _ _) _ _ _); first | refine self_call (by assumption) (by k_asm) (by first | assumption | exact PS.cons (by assumption) | exact PS.cons (PS.cons (by assumption))) (by assumption) (by first | exact rfl | assumption) (by first | exact rfl | assumption) rfl rfl ⟨by k_is, by k_is, by k_is, by k_is, rfl⟩ rfl rfl ?_ | refine glob_call (by assumption) (by assumption) (by assumption) (by first | exact rfl | assumption) (by k_is) rfl rfl (by k_is) rfl ?_) | skip
  refine Con.useT (Q := qk9) (expect_id_c S3') (by assumption) (by assumption) (by assumption) (by k_asm) (by assumption) (by first | exact rfl | assumption) rfl rfl ?_
  intro u3 led9 h9 tk9 F9 N9 S4 E4
  have VX4 := VX.sub E4.frz
  have EA := E3.trans E4
  clear VX E3 E4 S3 S3'
  first | k_unfold | skip
  try clear qk9
  try dsimp only
  try k_fold
  k_steps
  (rename List (Addr × Obj) => ledA)
  rename_i D hh1 lD hh2 Fa Na
  have six := S4.six lD
  have S5 : PSL ((D, listOf ([] : List Value).toArray 0) :: ledA) P R3 0 false false := by rw [e3]; exact S4.cons
  unfold Hold
  refine cutL (by assumption) (fun led' => ∃ vs k, (D, listOf vs.toArray k) ∈ led' ∧ VIs led' vs (hdD hd) ∧ vs.length ≤ 6 ∧ PSL led' P (.w "op" ";" se :: R2) 0 false false ∧ Ext P ledA led') ?_ ?_
  · clear hret hexc S4 e3
    rw [hR3] at S5
    refine (let G9 : Prop := _; (?_ : G9))
    rcases hd with _ | ⟨o, l, c⟩ <;> (first | k_unfold | skip)
    · have S6 : PS ((D, listOf ([] : List Value).toArray 0) :: ledA) P (.w "op" ";" se) R2 0 false false := S5
      k_steps
      refine (let qk9 : Value → Shared → Prop := _; (?_ : wpAny _ _ _ qk9 _ _))
      first | ((with_reducible show wpAny _ _ (eval _ _) _ _ _); first | refine self_call (by assumption) (by k_asm) (by first | assumption | exact PS.cons (by assumption) | exact PS.cons (PS.cons (by assumption))) (by assumption) (by first | exact rfl | assumption) (by first | exact rfl | assumption) rfl rfl ⟨by k_is, by k_is, by k_is, by k_is, rfl⟩ rfl rfl ?_ | refine glob_call (by assumption) (by assumption) (by assumption) (by first | exact rfl | assumption) (by k_is) rfl rfl (by k_is) rfl ?_) | skip
      refine Con.useVL (Q := qk9) (accept_op_f S6 (isW_ne (by decide +kernel))) (by assumption) (by assumption) (by assumption) (by k_asm) (by assumption) (by first | exact rfl | assumption) rfl rfl ?_
      intro h9 tk9 F9 N9
      first | k_unfold | skip
      try clear qk9
      try dsimp only
      try k_fold
      k_steps
      exact CNext.mk (by k_asm) (by k_asm) ⟨⟨[], 0, List.mem_cons_self, .nil, Nat.zero_le _, S6, (Ext.refl _ _).cons⟩, rfl⟩
    · refine (let G9 : Prop := _; (?_ : G9))
      obtain ⟨t6, n6, e6⟩ := hsT_cons l (t := .w "op" ")" c) (r := .w "op" ";" se :: R2)
      have S6 : PS ((D, listOf ([] : List Value).toArray 0) :: ledA) P (.w "op" "(" o) (t6 :: n6) 0 false false := by
        rw [← e6]; exact S5
      have hh := hhd _ _ _ rfl
      have hpl := psD_len hh.1
      first | k_unfold | skip
      try clear G9
      k_steps
      refine (let qk9 : Value → Shared → Prop := _; (?_ : wpAny _ _ _ qk9 _ _))
      first | ((with_reducible show wpAny _ _ (eval _ _) _ _ _); first | refine self_call (by assumption) (by k_asm) (by first | assumption | exact PS.cons (by assumption) | exact PS.cons (PS.cons (by assumption))) (by assumption) (by first | exact rfl | assumption) (by first | exact rfl | assumption) rfl rfl ⟨by k_is, by k_is, by k_is, by k_is, rfl⟩ rfl rfl ?_ | refine glob_call (by assumption) (by assumption) (by assumption) (by first | exact rfl | assumption) (by k_is) rfl rfl (by k_is) rfl ?_) | skip
      refine Con.useV (Q := qk9) (accept_op_t S6 isW_eq) (by assumption) (by assumption) (by assumption) (by k_asm) (by assumption) (by first | exact rfl | assumption) rfl rfl ?_
      intro led9 h9 tk9 F9 N9 S7 E7
      have mD7 := E7.oth _ _ List.mem_cons_self six.dx six.sdx six.al
      first | k_unfold | skip
      try clear qk9
      try dsimp only
      try k_fold
      k_steps
      refine (let qk9 : Value → Shared → Prop := _; (?_ : wpAny _ _ _ qk9 _ _))
      first | ((with_reducible show wpAny _ _ (eval _ _) _ _ _); first | refine self_call (by assumption) (by k_asm) (by first | assumption | exact PS.cons (by assumption) | exact PS.cons (PS.cons (by assumption))) (by assumption) (by first | exact rfl | assumption) (by first | exact rfl | assumption) rfl rfl ⟨by k_is, by k_is, by k_is, by k_is, rfl⟩ rfl rfl ?_ | refine glob_call (by assumption) (by assumption) (by assumption) (by first | exact rfl | assumption) (by k_is) rfl rfl (by k_is) rfl ?_) | skip
      refine Con.useS (Q := qk9) (header_c hh.1 hh.2 (by decide) (by decide) (PSL.mk e6 S7)) (by assumption) (by assumption) (by assumption) (by k_asm) (by assumption) (by first | exact rfl | assumption) rfl rfl ?_
      rintro r9 led9 h9 tk9 F9 N9 ⟨⟨D1, rfl, us, k1, m1, V1⟩, S8, E8⟩
      have mD8 := E8.oth _ _ mD7 six.dx six.sdx six.al
      have hul := V1.length
      have hz : ([] : List Value).length + us.length ≤ 1000 := by rw [List.length_nil]; omega
      have E08 : Ext P ledA led9 := (Ext.up fun p hp => List.mem_cons_of_mem _ hp).trans (E7.trans E8)
      have S9 := fun o' => S8.putD (o' := o') N9 mD8 six
      have s9 := fun o' => sub_putD (o' := o') N9 mD8
      have E9 := fun o' => E08.putD (o' := o') lD
      clear E7 E8 E08 mD7 S7 S8 S5 S6 e6
      first | k_unfold | skip
      try clear qk9
      try dsimp only
      try k_fold
      k_steps
      exact CNext.mk (by k_asm) (by k_asm) ⟨⟨us, _, List.mem_cons_self, V1.sub (s9 _), by omega, S9 _, E9 _⟩, rfl⟩
  clear S4 S5 e3 hR3 hhd Na Fa
  intro h5 tk5 led5 hq9 F5 N5
  obtain ⟨vs5, k5, mD, V5, hv5, S5, E5⟩ := hq9
  have S5' : PS led5 P (.w "op" ";" se) (t2 :: n2) 0 false false := by
    rw [e2] at S5; exact S5
  first | k_unfold | skip
  try clear qk9
  try dsimp only
  k_steps
  refine (let qk9 : Value → Shared → Prop := _; (?_ : wpAny _ _ _ qk9 _ _))
  first | ((with_reducible show wpAny _ _ (eval _ _) _ _ _); first | refine self_call (by assumption) (by k_asm) (by first | assumption | exact PS.cons (by assumption) | exact PS.cons (PS.cons (by assumption))) (by assumption) (by first | exact rfl | assumption) (by first | exact rfl | assumption) rfl rfl ⟨by k_is, by k_is, by k_is, by k_is, rfl⟩ rfl rfl ?_ | refine glob_call (by assumption) (by assumption) (by assumption) (by first | exact rfl | assumption) (by k_is) rfl rfl (by k_is) rfl ?_) | skip
  refine Con.useV (Q := qk9) (expect_op_t S5' isW_eq) (by assumption) (by assumption) (by assumption) (by k_asm) (by assumption) (by first | exact rfl | assumption) rfl rfl ?_
  intro led9 h9 tk9 F9 N9 S6 E6
  have mD6 := E6.oth _ _ mD six.dx six.sdx six.al
  first | k_unfold | skip
  try clear qk9
  try dsimp only
  try k_fold
  k_steps
  (rename Fr _ _ _ _ => F7); (rename News _ _ _ _ => N7)
  have h52 := V5.length
  unfold Hold
  refine while_invM (fun n led₁ => ∃ done rem vs k, ds = done ++ rem ∧ n = rem.length ∧ (D, listOf vs.toArray k) ∈ led₁ ∧ VIs led₁ vs (hdD hd ++ dsD done) ∧ PSL led₁ P (dsT rem (wiT wi R1)) 0 false false ∧ Ext P ledA led₁) ds.length F7 N7
    ⟨[], ds, vs5, k5, rfl, rfl, mD6, by rw [dsD, List.append_nil]; exact V5.sub E6.frz, by rw [← hR2]; exact PSL.mk e2 S6, E5.trans E6⟩ ?_
  clear mD mD6 V5 S5 S5' S6 E5 E6 F7 N7 hR2 e2
  intro n led₁ h₁ tk₁ hq9 F₁ N₁
  refine (let G9 : Prop := _; (?_ : G9))
  obtain ⟨done, rem, vs, k, rfl, rfl, hD, hV, hS, hE⟩ := hq9
  have hvl := hV.length
  rw [List.length_append, ← h52] at hvl
  have hdl := dsD_len fun d hd => hds d (List.mem_append_left _ hd)
  rw [List.length_append] at hdn
  first | k_unfold | skip
  try clear G9
  refine (let G9 : Prop := _; (?_ : G9))
  rcases rem_alt (rem := rem) (wi := wi) (R := R1) (fun d hd => hds d (List.mem_append_right _ hd)) with ⟨hrem, hwi⟩ | ⟨b9, j9, e, nm9, l, hrem⟩ | ⟨x9, b9, r9, hdir, e7, halt⟩ <;> (first | k_unfold | skip)
  · refine (let G9 : Prop := _; (?_ : G9))
    obtain ⟨⟨kk, xx, ii, rfl, hb⟩, hdr⟩ := hno
    rw [hrem, hwi] at hS
    have S7 : PS led₁ P (.w kk xx ii) n1 0 false false := PSL.get hS e1
    first | k_unfold | skip
    try clear G9
    k_steps
    refine (let qk9 : Value → Shared → Prop := _; (?_ : wpAny _ _ _ qk9 _ _))
    first | ((with_reducible show wpAny _ _ (eval _ _) _ _ _); first | refine self_call (by assumption) (by k_asm) (by first | assumption | exact PS.cons (by assumption) | exact PS.cons (PS.cons (by assumption))) (by assumption) (by first | exact rfl | assumption) (by first | exact rfl | assumption) rfl rfl ⟨by k_is, by k_is, by k_is, by k_is, rfl⟩ rfl rfl ?_ | refine glob_call (by assumption) (by assumption) (by assumption) (by first | exact rfl | assumption) (by k_is) rfl rfl (by k_is) rfl ?_) | skip
    refine Con.useV (Q := qk9) (begins_decl_t hb S7) (by assumption) (by assumption) (by assumption) (by k_asm) (by assumption) (by first | exact rfl | assumption) rfl rfl ?_
    intro led9 h9 tk9 F9 N9 S8 E8
    have hD8 := E8.oth _ _ hD six.dx six.sdx six.al
    have hV8 := hV.sub E8.frz
    have E08 := hE.trans E8
    clear E8 hD hV hE S7 hS
    first | k_unfold | skip
    try clear qk9
    try dsimp only
    try k_fold
    k_steps
    refine (let qk9 : Value → Shared → Prop := _; (?_ : wpAny _ _ _ qk9 _ _))
    first | ((with_reducible show wpAny _ _ (eval _ _) _ _ _); first | refine self_call (by assumption) (by k_asm) (by first | assumption | exact PS.cons (by assumption) | exact PS.cons (PS.cons (by assumption))) (by assumption) (by first | exact rfl | assumption) (by first | exact rfl | assumption) rfl rfl ⟨by k_is, by k_is, by k_is, by k_is, rfl⟩ rfl rfl ?_ | refine glob_call (by assumption) (by assumption) (by assumption) (by first | exact rfl | assumption) (by k_is) rfl rfl (by k_is) rfl ?_) | skip
    refine Con.useVL (Q := qk9) (begins_port_f hdr S8) (by assumption) (by assumption) (by assumption) (by k_asm) (by assumption) (by first | exact rfl | assumption) rfl rfl ?_
    intro h9 tk9 F9 N9
    first | k_unfold | skip
    try clear qk9
    try dsimp only
    try k_fold
    k_steps
    have eS : (.w kk xx ii : TK) :: n1 = bd.toks (.w "key" we ei :: t :: nx) := e1.symm.trans hR1
    (rename List (Addr × Obj) => ledB)
    unfold Hold
    refine cutN "body" (by assumption) (fun v' led' => VI led' v' bd.dat ∧ PS led' P (.w "key" we ei) (t :: nx) 0 false false ∧ Ext P ledB led') ?_ ?_
    · clear hret
      refine (let G9 : Prop := _; (?_ : G9))
      refine PS.openedK S8 (fun tv8 td8 k8 u48 u58 hb8 kt8 u08 u28 val8 hx8 hd8 ht8 htd8 => ?_)
      try clear hx0 hd0 ht0 htd0
      first | k_unfold | skip
      try clear G9
      k_steps
      rw [hend]
      rcases hq : (TK.w kk xx ii).isW "key" (endW fn) with _ | _
      ·
        refine (let qk9 : Value → Shared → Prop := _; (?_ : wpAny _ _ _ qk9 _ _))
        first | ((with_reducible show wpAny _ _ (eval _ _) _ _ _); first | refine self_call (by assumption) (by k_asm) (by first | assumption | exact PS.cons (by assumption) | exact PS.cons (PS.cons (by assumption))) (by assumption) (by first | exact rfl | assumption) (by first | exact rfl | assumption) rfl rfl ⟨by k_is, by k_is, by k_is, by k_is, rfl⟩ rfl rfl ?_ | refine glob_call (by assumption) (by assumption) (by assumption) (by first | exact rfl | assumption) (by k_is) rfl rfl (by k_is) rfl ?_) | skip
        refine Con.useVL (Q := qk9) (is_key_f S8 hq) (by assumption) (by assumption) (by assumption) (by k_asm) (by assumption) (by first | exact rfl | assumption) rfl rfl ?_
        intro h9 tk9 F9 N9
        first | k_unfold | skip
        try clear qk9
        try dsimp only
        try k_fold
        k_steps
        cases bd with
        | none =>
          cases eS
          cases ok with
          | true => exact absurd (hq.symm.trans ((show we = endW fn from hwe) ▸ isW_key)) Bool.false_ne_true
          | false =>
            have ew : we = "endmodule" := hwe
            subst ew
            unfold Hold
            first | ((with_reducible show wpAny _ _ (eval _ _) _ _ _); first | refine self_call (by assumption) (by k_asm) (by first | assumption | exact PS.cons (by assumption) | exact PS.cons (PS.cons (by assumption))) (by assumption) (by first | exact rfl | assumption) (by first | exact rfl | assumption) rfl rfl ⟨by k_is, by k_is, by k_is, by k_is, rfl⟩ rfl rfl ?_ | refine glob_call (by assumption) (by assumption) (by assumption) (by first | exact rfl | assumption) (by k_is) rfl rfl (by k_is) rfl ?_) | skip
            refine ConX.use (statement_x (by decide) (by decide) S8) (keep_of zkp ((EA.trans E08).frz)) (by assumption) (by assumption) (by assumption) (by k_asm) (by assumption) (by first | exact rfl | assumption) (Nat.le_of_ble_eq_true rfl) (Nat.le_of_ble_eq_true rfl) ?_
            rintro e9 D9 k9 u90 u91 dv9 g9 h9 tk9 F9 U9 R9
            exact on_end (hexc _ _ (⟨rfl, rtF_none hnf hwi⟩)) FG' B' F9 U9 R9
        | semi e =>
          cases eS
          refine (let qk9 : Value → Shared → Prop := _; (?_ : wpAny _ _ _ qk9 _ _))
          first | ((with_reducible show wpAny _ _ (eval _ _) _ _ _); first | refine self_call (by assumption) (by k_asm) (by first | assumption | exact PS.cons (by assumption) | exact PS.cons (PS.cons (by assumption))) (by assumption) (by first | exact rfl | assumption) (by first | exact rfl | assumption) rfl rfl ⟨by k_is, by k_is, by k_is, by k_is, rfl⟩ rfl rfl ?_ | refine glob_call (by assumption) (by assumption) (by assumption) (by first | exact rfl | assumption) (by k_is) rfl rfl (by k_is) rfl ?_) | skip
          refine Con.useV (Q := qk9) (statement_semi S8) (by assumption) (by assumption) (by assumption) (by k_asm) (by assumption) (by first | exact rfl | assumption) rfl rfl ?_
          intro led9 h9 tk9 F9 N9 S9 E9
          first | k_unfold | skip
          try clear qk9
          try dsimp only
          try k_fold
          k_steps
          exact CNext.mk (by k_asm) (by k_asm) ⟨_, ⟨.none, S9, E9⟩, rfl⟩
        | trig a nm j e =>
          cases eS
          refine (let qk9 : Value → Shared → Prop := _; (?_ : wpAny _ _ _ qk9 _ _))
          first | ((with_reducible show wpAny _ _ (eval _ _) _ _ _); first | refine self_call (by assumption) (by k_asm) (by first | assumption | exact PS.cons (by assumption) | exact PS.cons (PS.cons (by assumption))) (by assumption) (by first | exact rfl | assumption) (by first | exact rfl | assumption) rfl rfl ⟨by k_is, by k_is, by k_is, by k_is, rfl⟩ rfl rfl ?_ | refine glob_call (by assumption) (by assumption) (by assumption) (by first | exact rfl | assumption) (by k_is) rfl rfl (by k_is) rfl ?_) | skip
          refine Con.use3 (Q := qk9) (statement_trig (by decide) (by decide) S8) (by assumption) (by assumption) (by assumption) (by k_asm) (by assumption) (by first | exact rfl | assumption) rfl rfl ?_
          intro r9 led9 h9 tk9 F9 N9 V9 S9 E9
          first | k_unfold | skip
          try clear qk9
          try dsimp only
          try k_fold
          k_steps
          exact CNext.mk (by k_asm) (by k_asm) ⟨_, ⟨V9, S9, E9⟩, rfl⟩
      ·
        refine (let qk9 : Value → Shared → Prop := _; (?_ : wpAny _ _ _ qk9 _ _))
        first | ((with_reducible show wpAny _ _ (eval _ _) _ _ _); first | refine self_call (by assumption) (by k_asm) (by first | assumption | exact PS.cons (by assumption) | exact PS.cons (PS.cons (by assumption))) (by assumption) (by first | exact rfl | assumption) (by first | exact rfl | assumption) rfl rfl ⟨by k_is, by k_is, by k_is, by k_is, rfl⟩ rfl rfl ?_ | refine glob_call (by assumption) (by assumption) (by assumption) (by first | exact rfl | assumption) (by k_is) rfl rfl (by k_is) rfl ?_) | skip
        refine Con.useVL (Q := qk9) (is_key_t S8 hq) (by assumption) (by assumption) (by assumption) (by k_asm) (by assumption) (by first | exact rfl | assumption) rfl rfl ?_
        intro h9 tk9 F9 N9
        first | k_unfold | skip
        try clear qk9
        try dsimp only
        try k_fold
        k_steps
        cases bd with
        | none => cases eS; exact CNext.mk (by k_asm) (by k_asm) ⟨_, ⟨.none, S8, .refl _ _⟩, map_same rfl⟩
        | semi e => rw [(List.cons.inj eS).1] at hq; exact absurd ((isW_kind (by decide +kernel)).symm.trans hq) Bool.noConfusion
        | trig a nm j e => rw [(List.cons.inj eS).1] at hq; exact absurd ((isW_kind (by decide +kernel)).symm.trans hq) Bool.noConfusion
    clear S8 eS
    intro h6 tk6 v6 led6 hq9 F6 N6
    obtain ⟨V6, S6, E6⟩ := hq9
    have hD6 := E6.oth _ _ hD8 six.dx six.sdx six.al
    have hV6 := hV8.sub E6.frz
    have VX6 := VX4.sub (E08.trans E6).frz
    have E06 := EA.trans (E08.trans E6)
    clear hD8 hV8 E08 E6 EA VX4
    first | k_unfold | skip
    try clear qk9
    try dsimp only
    refine (let G9 : Prop := _; (?_ : G9))
    refine PS.openedK S6 (fun tv6 td6 k6 u46 u56 hb6 kt6 u06 u26 val6 hx6 hd6 ht6 htd6 => ?_)
    try clear hx0 hd0 ht0 htd0
    try clear hx8 hd8 ht8 htd8
    first | k_unfold | skip
    try clear G9
    k_steps
    rw [hend]
    cases ok with
    | true =>
      have ew : we = endW fn := hwe
      subst ew
      refine (let qk9 : Value → Shared → Prop := _; (?_ : wpAny _ _ _ qk9 _ _))
      first | ((with_reducible show wpAny _ _ (eval _ _) _ _ _); first | refine self_call (by assumption) (by k_asm) (by first | assumption | exact PS.cons (by assumption) | exact PS.cons (PS.cons (by assumption))) (by assumption) (by first | exact rfl | assumption) (by first | exact rfl | assumption) rfl rfl ⟨by k_is, by k_is, by k_is, by k_is, rfl⟩ rfl rfl ?_ | refine glob_call (by assumption) (by assumption) (by assumption) (by first | exact rfl | assumption) (by k_is) rfl rfl (by k_is) rfl ?_) | skip
      refine Con.useV (Q := qk9) (expect_key_t S6 isW_key) (by assumption) (by assumption) (by assumption) (by k_asm) (by assumption) (by first | exact rfl | assumption) rfl rfl ?_
      intro led9 h9 tk9 F9 N9 S9 E9
      have hD9 := E9.oth _ _ hD6 six.dx six.sdx six.al
      have hV9 := hV6.sub E9.frz
      have VX9 := VX6.sub E9.frz
      have V9 := V6.sub E9.frz
      have hvz : vs.length ≤ 1000 := by omega
      clear hexc hD6 hV6 VX6 V6 S6
      first | k_unfold | skip
      try clear qk9
      try dsimp only
      try k_fold
      k_steps
      exact hret _ _ _ _ (by k_asm) (by k_asm) ⟨rtF_none hnf hwi, .tup List.mem_cons_self (.cons (.str _ _) (.cons (.int _ _) (.cons (.str _ _) (.cons (.bool _) (.cons (.bool _) (.cons ((VX9.up fun _ h => List.mem_cons_of_mem _ h).up fun _ h => List.mem_cons_of_mem _ h) (.cons (.str _ _) (.cons (.tup (List.mem_cons_of_mem _ List.mem_cons_self) (((by rw [hrem, List.append_nil]; exact hV9 : VIs led9 vs (hdD hd ++ dsD (done ++ rem))).up fun _ h => List.mem_cons_of_mem _ h).up fun _ h => List.mem_cons_of_mem _ h)) (.cons ((V9.up fun _ h => List.mem_cons_of_mem _ h).up fun _ h => List.mem_cons_of_mem _ h) .nil))))))))), S9.cons.cons, (E06.trans E9).cons.cons⟩
    | false =>
      have ew : we = "endmodule" := hwe
      subst ew
      unfold Hold
      first | ((with_reducible show wpAny _ _ (eval _ _) _ _ _); first | refine self_call (by assumption) (by k_asm) (by first | assumption | exact PS.cons (by assumption) | exact PS.cons (PS.cons (by assumption))) (by assumption) (by first | exact rfl | assumption) (by first | exact rfl | assumption) rfl rfl ⟨by k_is, by k_is, by k_is, by k_is, rfl⟩ rfl rfl ?_ | refine glob_call (by assumption) (by assumption) (by assumption) (by first | exact rfl | assumption) (by k_is) rfl rfl (by k_is) rfl ?_) | skip
      refine ConX.use (expect_key_x S6 (isW_text (end_not fn))) (keep_of zkp (E06.frz)) (by assumption) (by assumption) (by assumption) (by k_asm) (by assumption) (by first | exact rfl | assumption) (Nat.le_of_ble_eq_true rfl) (Nat.le_of_ble_eq_true rfl) ?_
      rintro e9 D9 k9 u90 u91 dv9 g9 h9 tk9 F9 U9 R9
      exact on_end (hexc _ _ (⟨rfl, rtF_none hnf hwi⟩)) FG' B' F9 U9 R9
  · refine (let G9 : Prop := _; (?_ : G9))
    obtain ⟨t9, n9, e9⟩ := dsT_cons l (wi := wi) (t := t1) (n := n1)
    rw [← e1] at e9
    rw [hrem] at hS
    rw [hrem, List.length_cons] at hdn
    have S7 : PS led₁ P (.w "key" "integer" b9) (.w "id" nm9 j9 :: .w "op" ";" e :: t9 :: n9) 0 false false := by
      rw [← e9]; exact hS
    first | k_unfold | skip
    try clear G9
    k_steps
    refine (let qk9 : Value → Shared → Prop := _; (?_ : wpAny _ _ _ qk9 _ _))
    first | ((with_reducible show wpAny _ _ (eval _ _) _ _ _); first | refine self_call (by assumption) (by k_asm) (by first | assumption | exact PS.cons (by assumption) | exact PS.cons (PS.cons (by assumption))) (by assumption) (by first | exact rfl | assumption) (by first | exact rfl | assumption) rfl rfl ⟨by k_is, by k_is, by k_is, by k_is, rfl⟩ rfl rfl ?_ | refine glob_call (by assumption) (by assumption) (by assumption) (by first | exact rfl | assumption) (by k_is) rfl rfl (by k_is) rfl ?_) | skip
    refine Con.useV (Q := qk9) (begins_decl_t (b := true) (by decide +kernel) S7) (by assumption) (by assumption) (by assumption) (by k_asm) (by assumption) (by first | exact rfl | assumption) rfl rfl ?_
    intro led9 h9 tk9 F9 N9 S8 E8
    have hD8 := E8.oth _ _ hD six.dx six.sdx six.al
    have hV8 := hV.sub E8.frz
    have E08 := hE.trans E8
    clear E8 hD hV hE S7 hS
    first | k_unfold | skip
    try clear qk9
    try dsimp only
    try k_fold
    k_steps
    refine (let qk9 : Value → Shared → Prop := _; (?_ : wpAny _ _ _ qk9 _ _))
    first | ((with_reducible show wpAny _ _ (eval _ _) _ _ _); first | refine self_call (by assumption) (by k_asm) (by first | assumption | exact PS.cons (by assumption) | exact PS.cons (PS.cons (by assumption))) (by assumption) (by first | exact rfl | assumption) (by first | exact rfl | assumption) rfl rfl ⟨by k_is, by k_is, by k_is, by k_is, rfl⟩ rfl rfl ?_ | refine glob_call (by assumption) (by assumption) (by assumption) (by first | exact rfl | assumption) (by k_is) rfl rfl (by k_is) rfl ?_) | skip
    refine Con.useVL (Q := qk9) (begins_port_f (fun x d => by cases d <;> exact isW_text (by decide +kernel)) S8) (by assumption) (by assumption) (by assumption) (by k_asm) (by assumption) (by first | exact rfl | assumption) rfl rfl ?_
    intro h9 tk9 F9 N9
    first | k_unfold | skip
    try clear qk9
    try dsimp only
    try k_fold
    k_steps
    refine (let qk9 : Value → Shared → Prop := _; (?_ : wpAny _ _ _ qk9 _ _))
    first | ((with_reducible show wpAny _ _ (eval _ _) _ _ _); first | refine self_call (by assumption) (by k_asm) (by first | assumption | exact PS.cons (by assumption) | exact PS.cons (PS.cons (by assumption))) (by assumption) (by first | exact rfl | assumption) (by first | exact rfl | assumption) rfl rfl ⟨by k_is, by k_is, by k_is, by k_is, rfl⟩ rfl rfl ?_ | refine glob_call (by assumption) (by assumption) (by assumption) (by first | exact rfl | assumption) (by k_is) rfl rfl (by k_is) rfl ?_) | skip
    refine Con.useS (Q := qk9) (declaration_c S8) (by assumption) (by assumption) (by assumption) (by k_asm) (by assumption) (by first | exact rfl | assumption) rfl rfl ?_
    rintro r9 led9 h9 tk9 F9 N9 ⟨⟨D1, us, k1, rfl, m1, V1⟩, Sa, Ea⟩
    have mDa := Ea.oth _ _ hD8 six.dx six.sdx six.al
    have hul := V1.length
    have hz : vs.length + us.length ≤ 1000 := by rw [hul]; dsimp only [List.length_cons, List.length_nil]; omega
    have hVa := hV8.sub Ea.frz
    have Sb := fun o' => Sa.putD (o' := o') N9 mDa six
    have sb := fun o' => sub_putD (o' := o') N9 mDa
    have Eb := fun o' => (E08.trans Ea).putD (o' := o') lD
    clear Ea Sa hV8 hD8 E08 S8
    first | k_unfold | skip
    try clear qk9
    try dsimp only
    try k_fold
    k_steps
    refine WNext.mk (k := l.length) (by rw [hrem]; exact Nat.lt_succ_self _) (by assumption) (by assumption) ⟨done ++ [.int b9 nm9 j9 e], l, vs ++ us, _, by rw [hrem]; simp, rfl, List.mem_cons_self, ?_, PSL.mk e9 (Sb _), Eb _⟩
    rw [dsD_app, ← List.append_assoc, dsD, dsD, List.append_nil]
    exact (hVa.sub (sb _)).app (V1.sub (sb _))
  · have S7 : PS led₁ P (.w "key" x9 b9) r9 0 false false := PSL.get hS e7
    k_steps
    refine (let qk9 : Value → Shared → Prop := _; (?_ : wpAny _ _ _ qk9 _ _))
    first | ((with_reducible show wpAny _ _ (eval _ _) _ _ _); first | refine self_call (by assumption) (by k_asm) (by first | assumption | exact PS.cons (by assumption) | exact PS.cons (PS.cons (by assumption))) (by assumption) (by first | exact rfl | assumption) (by first | exact rfl | assumption) rfl rfl ⟨by k_is, by k_is, by k_is, by k_is, rfl⟩ rfl rfl ?_ | refine glob_call (by assumption) (by assumption) (by assumption) (by first | exact rfl | assumption) (by k_is) rfl rfl (by k_is) rfl ?_) | skip
    refine Con.useV (Q := qk9) (begins_decl_t (dir_key hdir) S7) (by assumption) (by assumption) (by assumption) (by k_asm) (by assumption) (by first | exact rfl | assumption) rfl rfl ?_
    intro led9 h9 tk9 F9 N9 S8 E8
    have hD8 := E8.oth _ _ hD six.dx six.sdx six.al
    have hV8 := hV.sub E8.frz
    have E08 := hE.trans E8
    clear E8 hD hV hE S7 hS
    first | k_unfold | skip
    try clear qk9
    try dsimp only
    try k_fold
    k_steps
    refine (let qk9 : Value → Shared → Prop := _; (?_ : wpAny _ _ _ qk9 _ _))
    first | ((with_reducible show wpAny _ _ (eval _ _) _ _ _); first | refine self_call (by assumption) (by k_asm) (by first | assumption | exact PS.cons (by assumption) | exact PS.cons (PS.cons (by assumption))) (by assumption) (by first | exact rfl | assumption) (by first | exact rfl | assumption) rfl rfl ⟨by k_is, by k_is, by k_is, by k_is, rfl⟩ rfl rfl ?_ | refine glob_call (by assumption) (by assumption) (by assumption) (by first | exact rfl | assumption) (by k_is) rfl rfl (by k_is) rfl ?_) | skip
    refine Con.useVL (Q := qk9) (begins_port_t hdir S8) (by assumption) (by assumption) (by assumption) (by k_asm) (by assumption) (by first | exact rfl | assumption) rfl rfl ?_
    intro h9 tk9 F9 N9
    first | k_unfold | skip
    try clear qk9
    try dsimp only
    try k_fold
    k_steps
    refine (let qk9 : Value → Shared → Prop := _; (?_ : wpAny _ _ _ qk9 _ _))
    first | ((with_reducible show wpAny _ _ (eval _ _) _ _ _); first | refine self_call (by assumption) (by k_asm) (by first | assumption | exact PS.cons (by assumption) | exact PS.cons (PS.cons (by assumption))) (by assumption) (by first | exact rfl | assumption) (by first | exact rfl | assumption) rfl rfl ⟨by k_is, by k_is, by k_is, by k_is, rfl⟩ rfl rfl ?_ | refine glob_call (by assumption) (by assumption) (by assumption) (by first | exact rfl | assumption) (by k_is) rfl rfl (by k_is) rfl ?_) | skip
    refine Con.useVL (Q := qk9) (begins_port_t hdir S8) (by assumption) (by assumption) (by assumption) (by k_asm) (by assumption) (by first | exact rfl | assumption) rfl rfl ?_
    intro h9 tk9 F9 N9
    first | k_unfold | skip
    try clear qk9
    try dsimp only
    try k_fold
    k_steps
    refine (let G9 : Prop := _; (?_ : G9))
    rcases halt with ⟨a9, c9, hx, hr, hrem, hwi⟩ | ⟨g, e, l, hrem⟩ <;> (first | k_unfold | skip)
    · rw [hx, hr] at S8
      unfold Hold
      first | ((with_reducible show wpAny _ _ (eval _ _) _ _ _); first | refine self_call (by assumption) (by k_asm) (by first | assumption | exact PS.cons (by assumption) | exact PS.cons (PS.cons (by assumption))) (by assumption) (by first | exact rfl | assumption) (by first | exact rfl | assumption) rfl rfl ⟨by k_is, by k_is, by k_is, by k_is, rfl⟩ rfl rfl ?_ | refine glob_call (by assumption) (by assumption) (by assumption) (by first | exact rfl | assumption) (by k_is) rfl rfl (by k_is) rfl ?_) | skip
      refine ConX.use (ports_x S8) (keep_of zkp ((EA.trans E08).frz)) (by assumption) (by assumption) (by assumption) (by k_asm) (by assumption) (by first | exact rfl | assumption) (Nat.le_of_ble_eq_true rfl) (Nat.le_of_ble_eq_true rfl) ?_
      rintro e9 D9 k9 u90 u91 dv9 g9 h9 tk9 F9 U9 R9
      exact on_end (hexc _ _ (⟨rfl, rtF_some hnf hwi⟩)) FG' B' F9 U9 R9
    · have hg : g.wf := hds (.ports g e) (List.mem_append_right _ (hrem ▸ List.mem_cons_self))
      refine (let G9 : Prop := _; (?_ : G9))
      obtain ⟨t9, n9, e9⟩ := dsT_cons l (wi := wi) (t := t1) (n := n1)
      rw [← e1] at e9
      rw [hrem] at e7
      rw [hrem, List.length_cons] at hdn
      have hz3 := PG.dats_len hg
      have S9 : PSL led9 P (g.toks (.w "op" ";" e :: t9 :: n9)) 0 false false := by rw [← e9]; exact PSL.mk e7 S8
      first | k_unfold | skip
      try clear G9
      refine (let qk9 : Value → Shared → Prop := _; (?_ : wpAny _ _ _ qk9 _ _))
      first | ((with_reducible show wpAny _ _ (eval _ _) _ _ _); first | refine self_call (by assumption) (by k_asm) (by first | assumption | exact PS.cons (by assumption) | exact PS.cons (PS.cons (by assumption))) (by assumption) (by first | exact rfl | assumption) (by first | exact rfl | assumption) rfl rfl ⟨by k_is, by k_is, by k_is, by k_is, rfl⟩ rfl rfl ?_ | refine glob_call (by assumption) (by assumption) (by assumption) (by first | exact rfl | assumption) (by k_is) rfl rfl (by k_is) rfl ?_) | skip
      refine Con.useS (Q := qk9) (ports_c (g := g) hg (.a (isW_ne (by decide +kernel))) (by decide) (by decide) S9) (by assumption) (by assumption) (by assumption) (by k_asm) (by assumption) (by first | exact rfl | assumption) rfl rfl ?_
      rintro r9 led9 h9 tk9 F9 N9 ⟨⟨D1, rfl, us, k1, m1, V1⟩, Sa, Ea⟩
      have mDa := Ea.oth _ _ hD8 six.dx six.sdx six.al
      have hul := V1.length
      have hz : vs.length + us.length ≤ 1000 := by omega
      have hVa := hV8.sub Ea.frz
      have Sb := fun o' => Sa.putD (o' := o') N9 mDa six
      have sb := fun o' => sub_putD (o' := o') N9 mDa
      have Eb := fun o' => (E08.trans Ea).putD (o' := o') lD
      clear Ea Sa hV8 hD8 E08 S9 S8
      first | k_unfold | skip
      try clear qk9
      try dsimp only
      try k_fold
      k_steps
      rename_i n' hh' Fb Nb
      have Sb1 := Sb (listOf (vs ++ us).toArray n')
      refine (let qk9 : Value → Shared → Prop := _; (?_ : wpAny _ _ _ qk9 _ _))
      first | ((with_reducible show wpAny _ _ (eval _ _) _ _ _); first | refine self_call (by assumption) (by k_asm) (by first | assumption | exact PS.cons (by assumption) | exact PS.cons (PS.cons (by assumption))) (by assumption) (by first | exact rfl | assumption) (by first | exact rfl | assumption) rfl rfl ⟨by k_is, by k_is, by k_is, by k_is, rfl⟩ rfl rfl ?_ | refine glob_call (by assumption) (by assumption) (by assumption) (by first | exact rfl | assumption) (by k_is) rfl rfl (by k_is) rfl ?_) | skip
      refine Con.useV (Q := qk9) (expect_op_t Sb1 isW_eq) (by assumption) (by assumption) (by assumption) (by k_asm) (by assumption) (by first | exact rfl | assumption) rfl rfl ?_
      intro led9 h9 tk9 F9 N9 Sc Ec
      have mDc := Ec.oth _ _ List.mem_cons_self six.dx six.sdx six.al
      first | k_unfold | skip
      try clear qk9
      try dsimp only
      try k_fold
      k_steps
      refine WNext.mk (k := l.length) (by rw [hrem]; exact Nat.lt_succ_self _) (by assumption) (by assumption) ⟨done ++ [.ports g e], l, vs ++ us, _, by rw [hrem]; simp, rfl, mDc, ?_, PSL.mk e9 Sc, (Eb _).trans Ec⟩
      rw [dsD_app, ← List.append_assoc, dsD, dsD, List.append_nil]
      exact ((hVa.sub (sb _)).app (V1.sub (sb _))).sub Ec.frz
end
end
end
section
structure LS (led : Led) (sh rl : Addr) (T : List TK) : Prop where
  sheaf : ∃ (vs : List Value) (is : List Int) (n : Nat), (sh, listOf vs.toArray n) ∈ led ∧ IntsAre vs is ∧ (∀ i ∈ is, 0 ≤ i ∧ i < 97) ∧ vs.length ≤ 60
  row : ∃ (vs : List Value) (n : Nat), (rl, listOf vs.toArray n) ∈ led ∧ Toks led vs T
  ne : @Ne Nat sh rl
structure ExtL (sh rl : Addr) (led led' : Led) : Prop where
  frz : Sub led led'
  oth : ∀ q o, (q, o) ∈ led → @Ne Nat q sh → @Ne Nat q rl → (q, o) ∈ led'
section
variable {prog : Program} {w : World} {A : Around} {E : Value → Shared → Prop} {s : Shared} {h₀ : Heap} {L : Addr} {led : Led}
theorem ne_nil {a b : Addr} {v : Value} {vs : List Value} {i : Int} {is : List Int} {n k : Nat} {Q : Value → Shared → Prop} (N : News h₀ L s.heap led) (ha : (a, listOf (v :: vs).toArray n) ∈ led) (hi : IntsAre (v :: vs) (i :: is)) (hb : (b, listOf #[] k) ∈ led) (hu : A.units + 64 < cLine)
    (h : Q (.bool true) s) : wpAny (model prog w) A (compareOp .NotEq (.ref a) (.ref b)) Q E s := ne_intsK (us := []) (N.isList ha) hi (N.isList hb) .nil hu h
end
local macro_rules | `(tactic| walk_at "compareOp NotEq ref ref") => `(tactic| (k_here; (refine ne_nil (by k_asm) (by k_mem) (by with_reducible assumption) (by k_mem) (by first | units_room | k_room) ?_); k_whole))
theorem stalk_c {w : World} {led : Led} {sh rl : Addr} {T : List TK} {k : Int} {t : Tok} (hk : 0 < k) (h2 : k < 1000) (S : LS led sh rl T) :
    Con 900 8000 w 812 [.ref sh, .int k t] led (fun r led' => (∃ i t', r = .int i t' ∧ 0 ≤ i ∧ i < k) ∧ LS led' sh rl T ∧ ExtL sh rl led led') := by
  obtain ⟨⟨vs, is, n, hs, hi, hv, hl⟩, ⟨ws, n2, hr, hT⟩, hne⟩ := S
  cases hi with
  | nil =>
    try unfold Con
    intro zmean zmg zmb zgd zcn zcs za zccd zcl zouter zA zbase zh zL zm zs zQ zE zB zF X zN zT zhk hret
    revert X; k_fill; intro X
    refine wpAny_call ?_
    k_dflt (refine' code_def ?k1 ?k2 ?k3 ?k4 ?k5 ?kA ?kF ?kK ?k6 ?k7 ?k8 ?k9 ?kB ?_ ?c2 ?c3 ?c4 ?c5; (case kA => exact rfl); (case kF => exact rfl); (case kK => assumption); (case k1 => k_asm); (case k2 => k_asm); (case k3 => k_asm); (case k4 => k_asm); (case k5 => k_asm); (case k6 => k_is); (case k7 => k_is); (case k8 => k_room); (case k9 => first | exact BindsTo.of_eq rfl | exact binds_K (by k_in) rfl (by k_is) rfl rfl rfl); (case c5 => decide); (case kB => exact locs rfl); (case c2 => exact rfl); (case c3 => exact rfl); (case c4 => exact rfl); k_whole; intro g' L' h' FG' F' N' B' X' T'; (try dsimp only); (try k_fold))
    (replace F' : Fr g' L' h' (fun y => List.lookup y [("most", .int k t), ("nest", .ref sh)]) := F')
    (refine at_toks ?_; intro tk0)
    k_steps
    exact hret _ _ _ _ (by k_asm) (by k_asm) ⟨⟨0, _, rfl, Int.le_refl 0, hk⟩, ⟨⟨[], [], n, List.mem_cons_of_mem _ hs, .nil, hv, hl⟩, ⟨ws, n2, List.mem_cons_of_mem _ hr, hT.sub fun _ _ _ m => List.mem_cons_of_mem _ m⟩, hne⟩, ⟨fun _ _ _ m => List.mem_cons_of_mem _ m, fun _ _ m _ _ => List.mem_cons_of_mem _ m⟩⟩
  | cons i t1 hi' =>
    have hi9 := IntsAre.cons i t1 hi'
    have hl9 := Nat.le_trans (Nat.le_of_succ_le hl) (show 60 ≤ 1000 by decide)
    have hk0 : k ≠ 0 := by omega
    try unfold Con
    intro zmean zmg zmb zgd zcn zcs za zccd zcl zouter zA zbase zh zL zm zs zQ zE zB zF X zN zT zhk hret
    revert X; k_fill; intro X
    refine wpAny_call ?_
    k_dflt (refine' code_def ?k1 ?k2 ?k3 ?k4 ?k5 ?kA ?kF ?kK ?k6 ?k7 ?k8 ?k9 ?kB ?_ ?c2 ?c3 ?c4 ?c5; (case kA => exact rfl); (case kF => exact rfl); (case kK => assumption); (case k1 => k_asm); (case k2 => k_asm); (case k3 => k_asm); (case k4 => k_asm); (case k5 => k_asm); (case k6 => k_is); (case k7 => k_is); (case k8 => k_room); (case k9 => first | exact BindsTo.of_eq rfl | exact binds_K (by k_in) rfl (by k_is) rfl rfl rfl); (case c5 => decide); (case kB => exact locs rfl); (case c2 => exact rfl); (case c3 => exact rfl); (case c4 => exact rfl); k_whole; intro g' L' h' FG' F' N' B' X' T'; (try dsimp only); (try k_fold))
    (replace F' : Fr g' L' h' (fun y => List.lookup y [("most", .int k t), ("nest", .ref sh)]) := F')
    (refine at_toks ?_; intro tk0)
    k_steps
    have up : ∀ {q : Addr} {o o' : Obj} {p : Addr × Obj}, @Ne Nat q sh → (q, o) ∈ led → (q, o) ∈ (sh, o') :: off sh (p :: led) := fun e m => List.mem_cons_of_mem _ (mem_off (List.mem_cons_of_mem _ m) e)
    have fz : ∀ {q : Addr} {o : Obj}, Frz o → (q, o) ∈ led → @Ne Nat q sh := fun f m e => by cases e; exact frz_list (news_one zN m hs ▸ f)
    exact hret _ _ _ _ (by k_asm) (by k_asm) ⟨⟨_, _, rfl, Int.fmod_nonneg_of_pos _ hk, Int.fmod_lt_of_pos _ hk⟩, ⟨⟨_, _, _, List.mem_cons_self, hi', fun i h => hv i (List.mem_cons_of_mem _ h), Nat.le_of_succ_le hl⟩, ⟨ws, n2, up (fun e => hne e.symm) hr, hT.sub fun _ _ f m => up (fz f m) m⟩, hne⟩, ⟨fun _ _ f m => up (fz f m) m, fun _ _ m a _ => up a m⟩⟩
theorem Con.useTwig {dp un dp' un' : Nat} {w : World} {f : Addr} {args : List Value} {led : Led} {k : Int} {R1 R2 : Led → Prop}
    {mean : ExcName → Option Value} {mg mb : PySem.Str → Option Value} {gd : Option (List Code)} {cn : PySem.Str} {cs : Scope} {a : Addr} {ccd : Value} {cl : List (PySem.Str × Addr)} {outer : List Env} {A₀ : Around} {base h₀ hp : Heap} {L : Addr} {m : PySem.Str → Option Value} {gs : Array GenState} {dr : Drawn} {tk : Nat} {os : OsState} {Q E : Value → Shared → Prop}
    (C : Con dp un w f args led (fun r led' => (∃ i t', r = .int i t' ∧ 0 ≤ i ∧ i < k) ∧ R1 led' ∧ R2 led')) (B : Below A₀ base outer h₀) (F : Fr h₀ L hp m) (X : (headK w.params).In h₀) (N : News h₀ L hp led) (T : Top headV LO mean mg mb h₀) (hk : cs.kind = .function)
    (hd : Nat.ble dp' dp = true) (hu : Nat.ble un' un = true)
    (ret : ∀ i t led' h' tk', Fr h₀ L h' m → News h₀ L h' led' → 0 ≤ i → i < k → R1 led' → R2 led' → Q (.int i t) ⟨h', gs, dr, tk', os⟩) :
    wpAny (model PySem.Challenge.rw_pq0478_02.row.prog w) (ktrTop dp' un' gd cn cs L a ccd cl outer) (call (.ref f) args) Q E ⟨hp, gs, dr, tk, os⟩ :=
  Con.useS C B F X N T hk hd hu (fun _ l h tk F N x => by obtain ⟨⟨i, t, rfl, i0, i1⟩, x1, x2⟩ := x; exact ret i t l h tk F N i0 i1 x1 x2)
theorem Con.useTwigL {dp un : Nat} {w : World} {f : Addr} {args : List Value} {led : Led} {k : Int} {R1 R2 : Led → Prop} {cn : PySem.Str} {cs : Scope} {a : Addr} {ccd : Value} {base h₀ : Heap} {mean : ExcName → Option Value} {mg mb : PySem.Str → Option Value} {L : Addr} {m : PySem.Str → Option Value} {s : Shared} {Q E : Value → Shared → Prop}
    (C : Con dp un w f args led (fun r led' => (∃ i t', r = .int i t' ∧ 0 ≤ i ∧ i < k) ∧ R1 led' ∧ R2 led')) (B : Below callerA base [] h₀) (F : Fr h₀ L s.heap m) (X : (headK w.params).In h₀) (N : News h₀ L s.heap led) (T : Top headV LO mean mg mb h₀) (hk : cs.kind = .function)
    (hd : (callerA.deeper (envOf cn cs L a ccd)).depth ≤ dp) (hu : (callerA.deeper (envOf cn cs L a ccd)).units ≤ un)
    (ret : ∀ i t led' h' tk', Fr h₀ L h' m → News h₀ L h' led' → 0 ≤ i → i < k → R1 led' → R2 led' → Q (.int i t) { s with heap := h', toks := tk' }) :
    wpAny (model PySem.Challenge.rw_pq0478_02.row.prog w) (callerA.deeper (envOf cn cs L a ccd)) (call (.ref f) args) Q E s :=
  Con.use C B F X N T hk hd hu (fun _ l h tk F N x => by obtain ⟨⟨i, t, rfl, i0, i1⟩, x1, x2⟩ := x; exact ret i t l h tk F N i0 i1 x1 x2)
end
theorem touchd {M : Model} {A : Around} {env : Env} {Q : Flow → Shared → Prop} {E : Value → Shared → Prop} {s : Shared} (h : Q .next s) : wpAny M A (execs [] env) Q E s := by
  walk1
  exact h
section
theorem Toks.snoc {led : Led} {vs : List Value} {ts : List TK} {v : Value} {t : TK} (h : Toks led vs ts) (k : TokIn led v t) : Toks led (vs ++ [v]) (ts ++ [t]) := h.append (.cons k .nil)
theorem Toks.len {led : Led} {vs : List Value} {ts : List TK} (h : Toks led vs ts) : vs.length = ts.length := by
  induction h with
  | nil => rfl
  | cons _ _ ih => exact congrArg (· + 1) ih
section
variable {prog : Program} {w : World} {A : Around} {E : Value → Shared → Prop} {s : Shared} {h₀ : Heap} {L : Addr} {news : Led}
theorem item_last {value slice : PySem.Expr} {l : Addr} {vs : List Value} {n : Nat} {u : Tok} {v : Value} {Q : Value → Shared → Prop} (N : News h₀ L s.heap news) (hm : (l, listOf (vs ++ [v]).toArray n) ∈ news) (h : Q v s)
    (hs : subscripted slice false (.ref l) (.int (-1) u) = operate [.ref l, .int (-1) u] (getItem (.ref l) (.int (-1) u)) := by with_unfolding_all rfl) :
    wpAny (model prog w) A (subscriptTail value slice (.ref l) (.int (-1) u)) Q E s :=
  tail_any (N.isList hm).typeIs slot_list_getitem.lookup (wpAny_getItem_list_neg (N.isList hm) (by decide) (by simp; omega) (by decide) (by
    have e : (-1 + ((vs ++ [v]).toArray.size : Int)).toNat = vs.length := by simp; omega
    rw [e]; simp) h) hs
end
local macro_rules | `(tactic| walk_at "subscriptTail") => `(tactic| (k_here; (with_reducible show wpAny _ _ (subscriptTail _ _ (Value.ref _) (Value.int (-1) _)) _ _ _); k_dflt (refine item_last (by k_asm) (by k_mem) ?_ (by with_unfolding_all rfl)); k_whole))
theorem TokIn.mk {led : Led} {a d : Addr} {h0 h1 h2 : Int} {t0 t1 t2 u0 u1 u2 : Tok} {kind text : PySem.Str} {i j : Int} (e : i = j) (m1 : (a, instObj 71 d) ∈ led) (m2 : (d, dictOf [⟨h0, .str "kind" t0, .str kind u0⟩, ⟨h1, .str "value" t1, .str text u1⟩, ⟨h2, .str "at" t2, .int i u2⟩] 3) ∈ led) :
    TokIn led (.ref a) (.w kind text j) := by
  subst e
  exact TokIn.w (k := fun n => match n with | 0 => (h0, t0) | 1 => (h1, t1) | _ => (h2, t2)) m1 m2
theorem TokIn.mkN {led : Led} {a d q : Addr} {h0 h1 h2 : Int} {t0 t1 t2 u0 u2 u3 u4 u5 : Tok} {n' : Nat} {digits : PySem.Str} {i j : Int} (e : i = j) (m1 : (a, instObj 71 d) ∈ led) (m2 : (d, dictOf [⟨h0, .str "kind" t0, .str "num" u0⟩, ⟨h1, .str "value" t1, .ref q⟩, ⟨h2, .str "at" t2, .int i u2⟩] 3) ∈ led)
    (m3 : (q, tupObj [.str "" u3, .str "" u4, .bool true, .str digits u5] n') ∈ led) : TokIn led (.ref a) (.num digits j) := by
  subst e
  exact TokIn.num (k := fun n => match n with | 0 => (h0, t0) | 1 => (h1, t1) | _ => (h2, t2)) m1 m2 m3
theorem say_v {w : World} {led : Led} {sh rl : Addr} {T : List TK} {kind : PySem.Str} {v : Value} {t1 : Tok} (tk : TK) (hT : T.length ≤ 200) (S : LS led sh rl T)
    (mk : ∀ led' a d h0 h1 h2 t0 t1 t2 u0 u2 i, Sub led led' → i = 2 * (T.length : Int) + 5 → (a, instObj 71 d) ∈ led' → (d, dictOf [⟨h0, .str "kind" t0, .str kind u0⟩, ⟨h1, .str "value" t1, v⟩, ⟨h2, .str "at" t2, .int i u2⟩] 3) ∈ led' → TokIn led' (.ref a) tk) :
    Con 900 8000 w 819 [.ref rl, .str kind t1, v] led (fun r led' => (∃ t', r = .int (2 * T.length + 5) t') ∧ LS led' sh rl (T ++ [tk]) ∧ ExtL sh rl led led') := by
  obtain ⟨⟨vs, is, n, hs, hi, hv, hl⟩, ⟨ws, n2, hr, hTk⟩, hne⟩ := S
  have hlen := hTk.len
  have hsz : ws.length ≤ 1000 := by omega
  try unfold Con
  intro zmean zmg zmb zgd zcn zcs za zccd zcl zouter zA zbase zh zL zm zs zQ zE zB zF X zN zT zhk hret
  revert X; k_fill; intro X
  refine wpAny_call ?_
  k_dflt (refine' code_def ?k1 ?k2 ?k3 ?k4 ?k5 ?kA ?kF ?kK ?k6 ?k7 ?k8 ?k9 ?kB ?_ ?c2 ?c3 ?c4 ?c5; (case kA => exact rfl); (case kF => exact rfl); (case kK => assumption); (case k1 => k_asm); (case k2 => k_asm); (case k3 => k_asm); (case k4 => k_asm); (case k5 => k_asm); (case k6 => k_is); (case k7 => k_is); (case k8 => k_room); (case k9 => first | exact BindsTo.of_eq rfl | exact binds_K (by k_in) rfl (by k_is) rfl rfl rfl); (case c5 => decide); (case kB => exact locs rfl); (case c2 => exact rfl); (case c3 => exact rfl); (case c4 => exact rfl); k_whole; intro g' L' h' FG' F' N' B' X' T'; (try dsimp only); (try k_fold))
  (replace F' : Fr g' L' h' (fun y => List.lookup y [("words", v), ("kind", .str kind t1), ("row", .ref rl)]) := F')
  (refine at_toks ?_; intro tk0)
  k_steps
  (rename ∀ p ∈ led, p.1 < _ => l9)
  have r1 : rl ≠ _ := Nat.ne_of_lt (l9 _ hr)
  have r2 : sh ≠ _ := Nat.ne_of_lt (l9 _ hs)
  (rename _ < _ => l8)
  have r3 : rl ≠ _ := Nat.ne_of_lt (Nat.lt_trans (l9 _ hr) l8)
  have r4 : sh ≠ _ := Nat.ne_of_lt (Nat.lt_trans (l9 _ hs) l8)
  have r9 : _ ≠ _ := Nat.ne_of_gt l8
  have r5 := r1.symm
  have r6 := r3.symm
  have r7 := r2.symm
  have r8 := r4.symm
  k_steps
  have up : ∀ {q d x : Addr} {o o1 o2 o3 o4 : Obj}, q < d → @Ne Nat q rl → (q, o) ∈ led → (q, o) ∈ (rl, o1) :: off rl ((d, o2) :: off d ((x, o3) :: (d, o4) :: led)) := fun l e m =>
    List.mem_cons_of_mem _ (mem_off (List.mem_cons_of_mem _ (mem_off (List.mem_cons_of_mem _ (List.mem_cons_of_mem _ m)) (Nat.ne_of_lt l))) e)
  have fz : ∀ {q : Addr} {o : Obj}, Frz o → (q, o) ∈ led → @Ne Nat q rl := fun f m e => by cases e; exact frz_list (news_one zN m hr ▸ f)
  have e3 : (2 * (ws.length : Int) + 5) = 2 * (T.length : Int) + 5 := by rw [hlen]
  exact hret _ _ _ _ (by k_asm) (by k_asm) ⟨⟨_, congrArg (fun n => Value.int n _) e3⟩, ⟨⟨vs, is, n, up (l9 _ hs) hne hs, hi, hv, hl⟩, ⟨_, _, List.mem_cons_self, (hTk.sub fun _ _ f m => up (l9 _ m) (fz f m) m).snoc
    (mk _ _ _ _ _ _ _ _ _ _ _ _ (fun _ _ f m => up (l9 _ m) (fz f m) m) e3 (List.mem_cons_of_mem _ (mem_off (List.mem_cons_of_mem _ (mem_off List.mem_cons_self (by assumption))) (by assumption))) (List.mem_cons_of_mem _ (mem_off List.mem_cons_self (by assumption))))⟩, hne⟩,
    ⟨fun _ _ f m => up (l9 _ m) (fz f m) m, fun _ _ m _ b => up (l9 _ m) b m⟩⟩
theorem say_w {w : World} {led : Led} {sh rl : Addr} {T : List TK} {kind text : PySem.Str} {t1 t2 : Tok} (hT : T.length ≤ 200) (S : LS led sh rl T) :
    Con 900 8000 w 819 [.ref rl, .str kind t1, .str text t2] led (fun r led' => (∃ t', r = .int (2 * T.length + 5) t') ∧ LS led' sh rl (T ++ [.w kind text (2 * T.length + 5)]) ∧ ExtL sh rl led led') :=
  say_v _ hT S fun _ _ _ _ _ _ _ _ _ _ _ _ _ e m1 m2 => TokIn.mk e m1 m2
theorem say_n {w : World} {led : Led} {sh rl q : Addr} {T : List TK} {digits : PySem.Str} {n : Nat} {t1 u3 u4 u5 : Tok} (hT : T.length ≤ 200) (S : LS led sh rl T) (hq : (q, tupObj [.str "" u3, .str "" u4, .bool true, .str digits u5] n) ∈ led) :
    Con 900 8000 w 819 [.ref rl, .str "num" t1, .ref q] led (fun r led' => (∃ t', r = .int (2 * T.length + 5) t') ∧ LS led' sh rl (T ++ [.num digits (2 * T.length + 5)]) ∧ ExtL sh rl led led') :=
  say_v _ hT S fun _ _ _ _ _ _ _ _ _ _ _ _ s e m1 m2 => TokIn.mkN e m1 m2 (s _ _ (.tup _ _) hq)
theorem LS.cons {led : Led} {sh rl : Addr} {T : List TK} {p : Addr × Obj} (S : LS led sh rl T) : LS (p :: led) sh rl T := by
  obtain ⟨⟨vs, is, n, hs, hi⟩, ⟨ws, n2, hr, hTk⟩, hne⟩ := S
  exact ⟨⟨vs, is, n, List.mem_cons_of_mem _ hs, hi⟩, ⟨ws, n2, List.mem_cons_of_mem _ hr, hTk.sub fun _ _ _ m => List.mem_cons_of_mem _ m⟩, hne⟩
theorem LS.ups {led led' : Led} {sh rl : Addr} {T : List TK} (h : ∀ p ∈ led, p ∈ led') (S : LS led sh rl T) : LS led' sh rl T := by
  obtain ⟨⟨vs, is, n, hs, hi⟩, ⟨ws, n2, hr, hTk⟩, hne⟩ := S
  exact ⟨⟨vs, is, n, h _ hs, hi⟩, ⟨ws, n2, h _ hr, hTk.sub fun _ _ _ m => h _ m⟩, hne⟩
theorem ExtL.refl {sh rl : Addr} {led : Led} : ExtL sh rl led led := ⟨fun _ _ _ m => m, fun _ _ m _ _ => m⟩
theorem ExtL.trans {sh rl : Addr} {a b c : Led} (h : ExtL sh rl a b) (k : ExtL sh rl b c) : ExtL sh rl a c := ⟨h.frz.trans k.frz, fun q o m x y => k.oth q o (h.oth q o m x y) x y⟩
theorem ExtL.cons {sh rl : Addr} {led led' : Led} {p : Addr × Obj} (E : ExtL sh rl led led') : ExtL sh rl led (p :: led') := ⟨fun q o f m => List.mem_cons_of_mem _ (E.frz q o f m), fun q o m a b => List.mem_cons_of_mem _ (E.oth q o m a b)⟩
theorem ExtL.up {sh rl : Addr} {led led' : Led} (h : ∀ p ∈ led, p ∈ led') : ExtL sh rl led led' := ⟨fun _ _ _ m => h _ m, fun _ _ m _ _ => h _ m⟩
theorem ExtL.cons' {sh rl : Addr} {led led' : Led} {p : Addr × Obj} (E : ExtL sh rl (p :: led) led') : ExtL sh rl led led' := ⟨fun q o f m => E.frz q o f (List.mem_cons_of_mem _ m), fun q o m a b => E.oth q o (List.mem_cons_of_mem _ m) a b⟩
theorem LS.fresh {led : Led} {sh rl D : Addr} {T : List TK} (S : LS led sh rl T) (l : ∀ p ∈ led, p.1 < D) : @Ne Nat D sh ∧ @Ne Nat D rl := by
  obtain ⟨⟨vs, is, n, hs, hi⟩, ⟨ws, n2, hr, hTk⟩, hne⟩ := S
  exact ⟨Nat.ne_of_gt (l _ hs), Nat.ne_of_gt (l _ hr)⟩
noncomputable def TP (T : List TK) : Prop := ∀ (i : Nat) (t : TK), T[i]? = some t → t.pos = 2 * (i : Int) + 5
theorem TP.nil : TP [] := fun i t h => by cases h
theorem TP.snoc {T : List TK} {t : TK} (h : TP T) (e : t.pos = 2 * (T.length : Int) + 5) : TP (T ++ [t]) := fun i u hu => by
  rcases Nat.lt_trichotomy i T.length with hi | hi | hi
  · rw [List.getElem?_append_left hi] at hu; exact h i u hu
  · subst hi
    rw [List.getElem?_append_right (Nat.le_refl _), Nat.sub_self] at hu
    cases Option.some.inj hu; exact e
  · rw [List.getElem?_append_right (Nat.le_of_lt hi), List.getElem?_eq_none (by simp; omega)] at hu; cases hu
structure SayR (led : Led) (sh rl : Addr) (T T' : List TK) (tk : TK) (n : Nat) : Prop where
  S : LS led sh rl T'
  P : TP T'
  b : T'.length ≤ n + 1
  l : T'.length = T.length + 1
  e : T' = T ++ [tk]
  q : tk.pos = 2 * (T.length : Int) + 5
theorem SayR.of {led : Led} {sh rl : Addr} {T : List TK} {tk : TK} {n : Nat} (hT : T.length ≤ n) (hP : TP T) (S : LS led sh rl (T ++ [tk])) (q : tk.pos = 2 * (T.length : Int) + 5) : SayR led sh rl T (T ++ [tk]) tk n :=
  ⟨S, hP.snoc q, by rw [List.length_append]; exact Nat.succ_le_succ hT, by rw [List.length_append]; rfl, rfl, q⟩
theorem Con.useSay {dp un dp' un' : Nat} {w : World} {f : Addr} {args : List Value} {led : Led} {sh rl : Addr} {T₀ : List TK} {n : Nat} {tok : Int → TK}
    {mean : ExcName → Option Value} {mg mb : PySem.Str → Option Value} {gd : Option (List Code)} {cn : PySem.Str} {cs : Scope} {a : Addr} {ccd : Value} {cl : List (PySem.Str × Addr)} {outer : List Env} {A₀ : Around} {base h₀ hp : Heap} {L : Addr} {m : PySem.Str → Option Value} {gs : Array GenState} {dr : Drawn} {tk : Nat} {os : OsState} {Q E : Value → Shared → Prop}
    (C : Con dp un w f args led (fun r led' => ∃ p T', (∃ t', r = .int p t') ∧ SayR led' sh rl T₀ T' (tok p) n ∧ ExtL sh rl led led')) (B : Below A₀ base outer h₀) (F : Fr h₀ L hp m) (X : (headK w.params).In h₀) (N : News h₀ L hp led) (T : Top headV LO mean mg mb h₀) (hk : cs.kind = .function)
    (hd : Nat.ble dp' dp = true) (hu : Nat.ble un' un = true)
    (ret : ∀ p T' t led' h' tk', Fr h₀ L h' m → News h₀ L h' led' → LS led' sh rl T' → TP T' → T'.length ≤ n + 1 → T'.length = T₀.length + 1 → T' = T₀ ++ [tok p] → ExtL sh rl led led' → Q (.int p t) ⟨h', gs, dr, tk', os⟩) :
    wpAny (model PySem.Challenge.rw_pq0478_02.row.prog w) (ktrTop dp' un' gd cn cs L a ccd cl outer) (call (.ref f) args) Q E ⟨hp, gs, dr, tk, os⟩ :=
  Con.useS C B F X N T hk hd hu (fun _ l h tk F N x => by obtain ⟨p, T', ⟨t, rfl⟩, S, E⟩ := x; exact ret p T' t l h tk F N S.S S.P S.b S.l S.e E)
theorem Con.useSayL {dp un : Nat} {w : World} {f : Addr} {args : List Value} {led : Led} {sh rl : Addr} {T₀ : List TK} {n : Nat} {tok : Int → TK} {cn : PySem.Str} {cs : Scope} {a : Addr} {ccd : Value} {base h₀ : Heap} {mean : ExcName → Option Value} {mg mb : PySem.Str → Option Value} {L : Addr} {m : PySem.Str → Option Value} {s : Shared} {Q E : Value → Shared → Prop}
    (C : Con dp un w f args led (fun r led' => ∃ p T', (∃ t', r = .int p t') ∧ SayR led' sh rl T₀ T' (tok p) n ∧ ExtL sh rl led led')) (B : Below callerA base [] h₀) (F : Fr h₀ L s.heap m) (X : (headK w.params).In h₀) (N : News h₀ L s.heap led) (T : Top headV LO mean mg mb h₀) (hk : cs.kind = .function)
    (hd : (callerA.deeper (envOf cn cs L a ccd)).depth ≤ dp) (hu : (callerA.deeper (envOf cn cs L a ccd)).units ≤ un)
    (ret : ∀ p T' t led' h' tk', Fr h₀ L h' m → News h₀ L h' led' → LS led' sh rl T' → TP T' → T'.length ≤ n + 1 → T'.length = T₀.length + 1 → T' = T₀ ++ [tok p] → ExtL sh rl led led' → Q (.int p t) { s with heap := h', toks := tk' }) :
    wpAny (model PySem.Challenge.rw_pq0478_02.row.prog w) (callerA.deeper (envOf cn cs L a ccd)) (call (.ref f) args) Q E s :=
  Con.use C B F X N T hk hd hu (fun _ l h tk F N x => by obtain ⟨p, T', ⟨t, rfl⟩, S, E⟩ := x; exact ret p T' t l h tk F N S.S S.P S.b S.l S.e E)
theorem say_p {w : World} {led : Led} {sh rl : Addr} {T : List TK} {kind text : PySem.Str} {t1 t2 : Tok} (n : Nat) (hn : Nat.ble n 200 = true) (hT : T.length ≤ n) (hP : TP T) (S : LS led sh rl T) :
    Con 900 8000 w 819 [.ref rl, .str kind t1, .str text t2] led (fun r led' => ∃ p T', (∃ t', r = .int p t') ∧ SayR led' sh rl T T' (.w kind text p) n ∧ ExtL sh rl led led') :=
  (say_w (Nat.le_trans hT (Nat.le_of_ble_eq_true hn)) S).weaken fun _ _ h => ⟨_, _, h.1, .of hT hP h.2.1 rfl, h.2.2⟩
end
theorem touche {M : Model} {A : Around} {env : Env} {Q : Flow → Shared → Prop} {E : Value → Shared → Prop} {s : Shared} (h : Q .next s) : wpAny M A (execs [] env) Q E s := by
  walk1
  exact h
section
noncomputable def ConP (dp un : Nat) (w : World) (f : Addr) (args : List Value) (pre : Heap → Prop) (led : Led) (R : Value → Led → Prop) : Prop :=
  ∀ (mean : ExcName → Option Value) (mg mb : PySem.Str → Option Value) (gd : Option (List Code)) (cn : PySem.Str) (cs : Scope) (a : Addr) (ccd : Value) (cl : List (PySem.Str × Addr)) (outer : List Env) (A₀ : Around) (base h₀ : Heap) (L : Addr) (m : PySem.Str → Option Value) (s : Shared) (Q E : Value → Shared → Prop),
    pre h₀ → Below A₀ base outer h₀ → Fr h₀ L s.heap m → (headK w.params).In h₀ → News h₀ L s.heap led → Top headV LO mean mg mb h₀ → cs.kind = .function →
    (∀ r led' h' tk', Fr h₀ L h' m → News h₀ L h' led' → R r led' → Q r { s with heap := h', toks := tk' }) →
    wpAny (model PySem.Challenge.rw_pq0478_02.row.prog w) (ktrTop dp un gd cn cs L a ccd cl outer) (call (.ref f) args) Q E s
section
variable {prog : Program} {w : World} {A : Around} {E : Value → Shared → Prop} {s : Shared} {env : Env} {h₀ : Heap} {x : PySem.Str} {body : List Stmt} {Q : Flow → Shared → Prop}
noncomputable def DEnd (h₀ : Heap) (L D : Addr) (led : Led) (J : (PySem.Str → Option Value) → List Value → Prop) (s s' : Shared) : Prop :=
  ∃ h' tk' m' ws' k', s' = { s with heap := h', toks := tk' } ∧ Fr h₀ L h' m' ∧ News h₀ L h' ((D, listOf ws'.toArray k') :: off D led) ∧ J m' ws'
theorem for_core {I D : Addr} {fp : List Addr} {n k₀ : Nat} {P : Nat → Value → Prop} {St : Nat → Heap → Prop} {m₀ : PySem.Str → Option Value} {ws₀ : List Value} {base : Led} (J : Nat → (PySem.Str → Option Value) → List Value → Prop) (Z : (PySem.Str → Option Value) → List Value → Prop)
    (W : Walks prog w A I fp [I] n P St) (hLf : env.locals ∉ fp) (hI : h₀.get? I = none) (hDf : D ∉ fp) (hbI : ∀ p ∈ base, p.1 ≠ I) (hbD : ∀ p ∈ base, p.1 ≠ D) (st : St 0 s.heap) (F : Fr h₀ env.locals s.heap m₀)
    (N : News h₀ env.locals s.heap ((D, listOf ws₀.toArray k₀) :: base)) (h0 : J 0 m₀ ws₀)
    (turn : ∀ i v m₁ ws k h tk led, i < n → P i v → J i m₁ ws → Fr h₀ env.locals h (fun y => if y = x then some v else m₁ y) → News h₀ env.locals h led → (D, listOf ws.toArray k) ∈ led →
      wpAny (model prog w) A (execs body env) (fun f s' => match f with
        | .ret v => Q (.ret v) s'
        | .brk => DEnd h₀ env.locals D led Z { s with heap := h, toks := tk } s'
        | _ => DEnd h₀ env.locals D led (J (i + 1)) { s with heap := h, toks := tk } s') E { s with heap := h, toks := tk })
    (hZ : ∀ m ws, J n m ws → Z m ws)
    (out : ∀ m₁ ws k h tk, Z m₁ ws → Fr h₀ env.locals h m₁ → News h₀ env.locals h ((D, listOf ws.toArray k) :: base) → Q .next { s with heap := h, toks := tk }) :
    LoopAtV prog w A h₀ env x body Q E (.ref I) s := by
  have hID : D ≠ I := fun e => hDf (e ▸ W.sub I (List.mem_singleton.mpr rfl))
  refine ⟨I, fp, [I], n, P, St, m₀, _, fun i m led => ∃ ws k, led = (D, listOf ws.toArray k) :: base ∧ J i m ws, rfl, W, hLf, ?_, ?_, st, F, N, ⟨ws₀, k₀, rfl, h0⟩, ?_, ?_⟩
  · intro b hb; rw [List.mem_singleton.mp hb]; exact hI
  · intro p hp hm
    rcases List.mem_cons.mp hp with rfl | hp
    · exact hID (List.mem_singleton.mp hm)
    · exact hbI p hp (List.mem_singleton.mp hm)
  · rintro i v m₁ _ s₁ own ⟨h, tk, rfl⟩ hi hP ⟨ws, k, rfl, hJ⟩ _ hown _ _ _ F₁ N₁
    have rest : ∀ {h' : Heap} {ws' : List Value} {k' : Nat}, News h₀ env.locals h' ((D, listOf ws'.toArray k') :: off D (own ++ ((D, listOf ws.toArray k) :: base))) → News h₀ env.locals h' (own ++ ((D, listOf ws'.toArray k') :: base)) := fun N' p hp => by
      rcases List.mem_append.mp hp with hp | hp
      · exact N' p (List.mem_cons_of_mem _ (mem_off (List.mem_append_left _ hp) fun e => hDf (e ▸ hown p hp)))
      rcases List.mem_cons.mp hp with rfl | hp
      · exact N' _ List.mem_cons_self
      · exact N' p (List.mem_cons_of_mem _ (mem_off (List.mem_append_right _ (List.mem_cons_of_mem _ hp)) (hbD p hp)))
    refine wpAny_mono (turn i v m₁ ws k h tk _ hi hP hJ F₁ N₁ (List.mem_append_right _ List.mem_cons_self)) (fun f s₂ p => ?_) fun _ _ e => e
    have fin : ∀ {ws' : List Value} {k' : Nat}, ∀ p ∈ (D, listOf ws'.toArray k') :: base, p.1 ∉ [I] := fun p hp hm => by
      rcases List.mem_cons.mp hp with rfl | hp
      · exact hID (List.mem_singleton.mp hm)
      · exact hbI p hp (List.mem_singleton.mp hm)
    cases f with
    | ret v => exact .ret p
    | brk =>
      obtain ⟨h', tk', m', ws', k', rfl, F', N', z⟩ := p
      exact .brk (out m' ws' k' h' tk' z F' fun p hp => rest N' p (List.mem_append_right _ hp))
    | next =>
      obtain ⟨h', tk', m', ws', k', rfl, F', N', z⟩ := p
      exact .next ⟨rfl, h', tk', m', _, rfl, F', rest N', fin, ws', k', rfl, z⟩
    | cont =>
      obtain ⟨h', tk', m', ws', k', rfl, F', N', z⟩ := p
      exact .cont ⟨rfl, h', tk', m', _, rfl, F', rest N', fin, ws', k', rfl, z⟩
  · rintro h' tk m' _ F' N' _ ⟨ws, k, rfl, hJ⟩
    exact out m' ws k h' tk (hZ _ _ hJ) F' N'
theorem for_list {l D : Addr} {vs ws₀ : List Value} {n k₀ : Nat} {m₀ : PySem.Str → Option Value} {base : Led} (J : Nat → (PySem.Str → Option Value) → List Value → Prop) (Z : (PySem.Str → Option Value) → List Value → Prop)
    (hh : A.handled = none) (F : Fr h₀ env.locals s.heap m₀) (N : News h₀ env.locals s.heap ((D, listOf ws₀.toArray k₀) :: base)) (hl : (l, listOf vs.toArray n) ∈ base) (hbD : ∀ p ∈ base, p.1 ≠ D) (h0 : J 0 m₀ ws₀)
    (turn : ∀ i v m₁ ws k h tk led, vs[i]? = some v → J i m₁ ws → Fr h₀ env.locals h (fun y => if y = x then some v else m₁ y) → News h₀ env.locals h led → (D, listOf ws.toArray k) ∈ led →
      wpAny (model prog w) A (execs body env) (fun f s' => match f with
        | .ret v => Q (.ret v) s'
        | .brk => DEnd h₀ env.locals D led Z { s with heap := h, toks := tk } s'
        | _ => DEnd h₀ env.locals D led (J (i + 1)) { s with heap := h, toks := tk } s') E { s with heap := h, toks := tk })
    (hZ : ∀ m ws, J vs.length m ws → Z m ws)
    (out : ∀ m₁ ws k h tk, Z m₁ ws → Fr h₀ env.locals h m₁ → News h₀ env.locals h ((D, listOf ws.toArray k) :: base) → Q .next { s with heap := h, toks := tk }) :
    wpAny (model prog w) A (pyIter (.ref l)) (fun it s₂ => LoopAtV prog w A h₀ env x body Q E it s₂) E s := by
  have hls := N.isList (List.mem_cons_of_mem _ hl)
  have hlt : ∀ p ∈ (D, listOf ws₀.toArray k₀) :: base, p.1 < s.heap.objs.size := fun p hp => Heap.lt_size (N p hp).1
  have hne : l ≠ s.heap.objs.size := Nat.ne_of_lt (hlt _ (List.mem_cons_of_mem _ hl))
  refine wpAny_pyIter_list hls ?_
  have W := Walks.list (prog := prog) (w := w) hh s.heap.objs.size l hne vs.toArray
  have hsz : vs.toArray.size = vs.length := by simp
  rw [hsz] at W
  refine for_core (s := { s with heap := _ }) J Z W ?_ (next_is_new F) ?_ (fun p hp => Nat.ne_of_lt (hlt p (List.mem_cons_of_mem _ hp))) hbD ⟨⟨_, Heap.get?_push_size _ rfl, rfl, rfl⟩, hls.at fun o e => Heap.get?_push_of_some _ e⟩ (F.push _)
    (fun p hp => ⟨Heap.get?_push_of_some _ (N p hp).1, (N p hp).2⟩) h0 (fun i v m₁ ws k h tk led hi hP hJ F₁ N₁ hD => turn i v m₁ ws k h tk led (by simpa using hP) hJ F₁ N₁ hD) hZ out
  · intro hm
    rcases List.mem_cons.mp hm with e | hm
    · exact absurd F.ns.lt (e ▸ Nat.lt_irrefl _)
    · exact (N _ (List.mem_cons_of_mem _ hl)).2.1 (List.mem_singleton.mp hm).symm
  · intro hm
    rcases List.mem_cons.mp hm with e | hm
    · exact absurd (hlt _ List.mem_cons_self) (by show ¬ D < _; rw [e]; exact Nat.lt_irrefl _)
    · exact hbD _ hl (List.mem_singleton.mp hm).symm
theorem for_range {r D : Addr} {a₀ b₀ : Int} {t₀ u₀ v₀ : Tok} {ws₀ : List Value} {n k₀ : Nat} {m₀ : PySem.Str → Option Value} {base : Led} (J : Nat → (PySem.Str → Option Value) → List Value → Prop) (Z : (PySem.Str → Option Value) → List Value → Prop)
    (hh : A.handled = none) (hr : IsRange s.heap r a₀ b₀ 1 t₀ u₀ v₀) (hsmall : Builtin.Range.small a₀ b₀ 1 = true) (hn : Builtin.Range.rangeSize a₀ b₀ 1 = (n : Int)) (F : Fr h₀ env.locals s.heap m₀)
    (N : News h₀ env.locals s.heap ((D, listOf ws₀.toArray k₀) :: base)) (hbD : ∀ p ∈ base, p.1 ≠ D) (h0 : J 0 m₀ ws₀)
    (turn : ∀ i t m₁ ws k h tk led, i < n → J i m₁ ws → Fr h₀ env.locals h (fun y => if y = x then some (.int (a₀ + (i : Nat) * 1) t) else m₁ y) → News h₀ env.locals h led → (D, listOf ws.toArray k) ∈ led →
      wpAny (model prog w) A (execs body env) (fun f s' => match f with
        | .ret v => Q (.ret v) s'
        | .brk => DEnd h₀ env.locals D led Z { s with heap := h, toks := tk } s'
        | _ => DEnd h₀ env.locals D led (J (i + 1)) { s with heap := h, toks := tk } s') E { s with heap := h, toks := tk })
    (hZ : ∀ m ws, J n m ws → Z m ws)
    (out : ∀ m₁ ws k h tk, Z m₁ ws → Fr h₀ env.locals h m₁ → News h₀ env.locals h ((D, listOf ws.toArray k) :: base) → Q .next { s with heap := h, toks := tk }) :
    wpAny (model prog w) A (pyIter (.ref r)) (fun it s₂ => LoopAtV prog w A h₀ env x body Q E it s₂) E s := by
  have hlt : ∀ p ∈ (D, listOf ws₀.toArray k₀) :: base, p.1 < s.heap.objs.size := fun p hp => Heap.lt_size (N p hp).1
  refine wpAny_pyIter_range hr hsmall ?_
  have W : Walks prog w A s.heap.objs.size [s.heap.objs.size] [s.heap.objs.size] n (fun i v => i < n ∧ ∃ t, v = .int (a₀ + i * 1) t)
      (fun i h => IsRangeIter h s.heap.objs.size (a₀ + (i : Nat) * 1) ((n : Int) - (i : Nat)) 1) := (Walks.range hh _ a₀ 1 n).bound
  refine for_core (s := { s with heap := _ }) J Z W ?_ (next_is_new F) ?_ (fun p hp => Nat.ne_of_lt (hlt p (List.mem_cons_of_mem _ hp))) hbD (by show IsRangeIter _ _ _ _ _; rw [hn]; simpa using Heap.get?_push_size _ rfl) (F.push _)
    (fun p hp => ⟨Heap.get?_push_of_some _ (N p hp).1, (N p hp).2⟩) h0 (fun i v m₁ ws k h tk led hi hP hJ F₁ N₁ hD => by obtain ⟨_, t, rfl⟩ := hP; exact turn i t m₁ ws k h tk led hi hJ F₁ N₁ hD) hZ out
  · intro hm
    exact absurd F.ns.lt ((List.mem_singleton.mp hm) ▸ Nat.lt_irrefl _)
  · intro hm
    exact absurd (hlt _ List.mem_cons_self) (by show ¬ D < _; rw [List.mem_singleton.mp hm]; exact Nat.lt_irrefl _)
theorem For_V {h₀ : Heap} {m : PySem.Str → Option Value} {x : PySem.Str} {px pos : Pos} {iter : PySem.Expr} {body : List Stmt} (_ : Fr h₀ env.locals s.heap m)
    (h : wpAny (model prog w) A (eval iter env) (fun xv s₁ => wpAny (model prog w) A (pyIter xv) (fun it s₂ => LoopAtV prog w A h₀ env x body Q E it s₂) E s₁) E s)
    (hx : env.kindOf x = some .local := by rfl) (hp : (env.scope.kind == .class || (env.scope.kind == .module && env.locals != env.globals)) = false := by rfl)
    (hs : ∀ x, foldedSetIterable iter env x = pure x := by intro _; rfl) (hE : PassesOwn (model prog w) A env E := by passes_own) :
    wpAny (model prog w) A (exec (.For (.Name x px) iter body [] pos) env) Q E s := For_invV h₀ hx hp h hs hE
end
theorem mapC {α : Type} {m : PySem.Str → Option α} {nl nh no : PySem.Str} (e1 : m nl = none) (e2 : m nh = none) (e3 : m no = none) : m = fun y => if y = nl then none else if y = nh then none else if y = no then none else m y := by
  funext y
  by_cases h1 : y = nl
  · rw [if_pos h1, h1, e1]
  by_cases h2 : y = nh
  · rw [if_neg h1, if_pos h2, h2, e2]
  by_cases h3 : y = no
  · rw [if_neg h1, if_neg h2, if_pos h3, h3, e3]
  rw [if_neg h1, if_neg h2, if_neg h3]
theorem mapD {α : Type} {m : PySem.Str → α} {nl nh no : PySem.Str} {v oL oH oO : α} (h1 : nl ≠ no) (h2 : nh ≠ no) :
    (fun y => if y = no then v else if y = nl then oL else if y = nh then oH else if y = no then oO else m y) = fun y => if y = nl then oL else if y = nh then oH else if y = no then v else m y := by
  funext y
  by_cases h3 : y = no
  · rw [if_pos h3, if_neg (fun e => h1 (e.symm.trans h3)), if_neg (fun e => h2 (e.symm.trans h3)), if_pos h3]
  rw [if_neg h3]
  by_cases h4 : y = nl
  · rw [if_pos h4, if_pos h4]
  rw [if_neg h4, if_neg h4]
  by_cases h5 : y = nh
  · rw [if_pos h5, if_pos h5]
  rw [if_neg h5, if_neg h5, if_neg h3, if_neg h3]
theorem mapE {α : Type} {m : PySem.Str → α} {nl nh : PySem.Str} {l i oH : α} (h1 : nl ≠ nh) :
    (fun y => if y = nh then i else if y = nl then l else if y = nh then oH else m y) = fun y => if y = nl then l else if y = nh then i else m y := by
  funext y
  by_cases h3 : y = nh
  · rw [if_pos h3, if_neg (fun e => h1 (e.symm.trans h3)), if_pos h3]
  rw [if_neg h3]
  by_cases h4 : y = nl
  · rw [if_pos h4, if_pos h4]
  rw [if_neg h4, if_neg h4, if_neg h3, if_neg h3]
theorem mapF {α : Type} {m : PySem.Str → α} {n : PySem.Str} {a b : α} : (fun y => if y = n then a else if y = n then b else m y) = fun y => if y = n then a else m y := by
  funext y; by_cases h : y = n <;> simp [h]
section
variable {prog : Program} {w : World} {A : Around} {E : Value → Shared → Prop} {s : Shared} {env : Env} {h₀ : Heap} {body : List Stmt} {Q : Flow → Shared → Prop}
noncomputable def DEnd2 (h₀ : Heap) (L D : Addr) (led : Led) (nl nh : PySem.Str) (mB : PySem.Str → Option Value) (J : List Value → Prop) (s s' : Shared) : Prop :=
  ∃ h' tk' l u l' u' oH ws' k', s' = { s with heap := h', toks := tk' } ∧ Fr h₀ L h' (fun y => if y = nl then some (.int l' u') else if y = nl then some (.int l u) else if y = nh then oH else mB y) ∧ News h₀ L h' ((D, listOf ws'.toArray k') :: off D led) ∧ J ws'
theorem DEnd2.mk {L D : Addr} {led : Led} {nl nh : PySem.Str} {mB : PySem.Str → Option Value} {J : List Value → Prop} {s : Shared} {h' : Heap} {tk' : Tok} {l l' : Int} {u u' : Tok} {oH : Option Value} {ws' : List Value} {k' : Nat}
    (F : Fr h₀ L h' (fun y => if y = nl then some (.int l' u') else if y = nl then some (.int l u) else if y = nh then oH else mB y)) (N : News h₀ L h' ((D, listOf ws'.toArray k') :: off D led)) (j : J ws') :
    DEnd2 h₀ L D led nl nh mB J s { s with heap := h', toks := tk' } := ⟨h', tk', l, u, l', u', oH, ws', k', rfl, F, N, j⟩
theorem for_range2 {r D : Addr} {a₀ b₀ : Int} {t₀ u₀ v₀ : Tok} {ws₀ : List Value} {n k₀ : Nat} {nl nh : PySem.Str} {mB : PySem.Str → Option Value} {oL oH : Option Value} {l : Int} {t : Tok} {base : Led} (J : Nat → List Value → Prop) (Z : List Value → Prop) (hn1 : nl ≠ nh)
    (hh : A.handled = none) (hr : IsRange s.heap r a₀ b₀ 1 t₀ u₀ v₀) (hsmall : Builtin.Range.small a₀ b₀ 1 = true) (hn : Builtin.Range.rangeSize a₀ b₀ 1 = (n : Int))
    (F : Fr h₀ env.locals s.heap (fun y => if y = nl then some (.int l t) else if y = nl then oL else if y = nh then oH else mB y))
    (N : News h₀ env.locals s.heap ((D, listOf ws₀.toArray k₀) :: base)) (hbD : ∀ p ∈ base, p.1 ≠ D) (h0 : J 0 ws₀)
    (turn : ∀ i t l u ws k h tk led, i < n → J i ws → Fr h₀ env.locals h (fun y => if y = nl then some (.int l u) else if y = nh then some (.int (a₀ + (i : Nat) * 1) t) else mB y) → News h₀ env.locals h led → (D, listOf ws.toArray k) ∈ led →
      wpAny (model prog w) A (execs body env) (fun f s' => match f with
        | .ret v => Q (.ret v) s'
        | .brk => DEnd2 h₀ env.locals D led nl nh mB Z { s with heap := h, toks := tk } s'
        | _ => DEnd2 h₀ env.locals D led nl nh mB (J (i + 1)) { s with heap := h, toks := tk } s') E { s with heap := h, toks := tk })
    (hZ : ∀ ws, J n ws → Z ws)
    (out : ∀ l u oH ws k h tk, Z ws → Fr h₀ env.locals h (fun y => if y = nl then some (.int l u) else if y = nh then oH else mB y) → News h₀ env.locals h ((D, listOf ws.toArray k) :: base) → Q .next { s with heap := h, toks := tk }) :
    wpAny (model prog w) A (pyIter (.ref r)) (fun it s₂ => LoopAtV prog w A h₀ env nh body Q E it s₂) E s := by
  rw [mapF] at F
  refine for_range (fun i m ws => (∃ l u oH, m = fun y => if y = nl then some (Value.int l u) else if y = nh then oH else mB y) ∧ J i ws) (fun m ws => (∃ l u oH, m = fun y => if y = nl then some (Value.int l u) else if y = nh then oH else mB y) ∧ Z ws) hh hr hsmall hn F N hbD ⟨⟨_, _, _, rfl⟩, h0⟩ ?_ (fun m ws h => ⟨h.1, hZ _ h.2⟩) ?_
  · rintro i t m₁ ws k h tk led hi ⟨⟨l, u, oH, rfl⟩, j⟩ F₁ N₁ hD
    rw [mapE hn1] at F₁
    refine wpAny_mono (turn i t l u ws k h tk led hi j F₁ N₁ hD) (fun f s₂ p => ?_) fun _ _ e => e
    cases f with
    | ret v => exact p
    | brk => obtain ⟨h', tk', l, u, l', u', oH, ws', k', e, F', N', j'⟩ := p; rw [mapF] at F'; exact ⟨h', tk', _, ws', k', e, F', N', ⟨_, _, _, rfl⟩, j'⟩
    | next => obtain ⟨h', tk', l, u, l', u', oH, ws', k', e, F', N', j'⟩ := p; rw [mapF] at F'; exact ⟨h', tk', _, ws', k', e, F', N', ⟨_, _, _, rfl⟩, j'⟩
    | cont => obtain ⟨h', tk', l, u, l', u', oH, ws', k', e, F', N', j'⟩ := p; rw [mapF] at F'; exact ⟨h', tk', _, ws', k', e, F', N', ⟨_, _, _, rfl⟩, j'⟩
  · rintro m₁ ws k h tk ⟨⟨l, u, oH, rfl⟩, z⟩ F' N'
    exact out l u oH ws k h tk z F' N'
noncomputable def DEnd3 (h₀ : Heap) (L D : Addr) (led : Led) (nl nh no : PySem.Str) (mB : PySem.Str → Option Value) (J : List Value → Prop) (s s' : Shared) : Prop :=
  ∃ h' tk' oL oH oO ws' k', s' = { s with heap := h', toks := tk' } ∧ Fr h₀ L h' (fun y => if y = nl then oL else if y = nh then oH else if y = no then oO else mB y) ∧ News h₀ L h' ((D, listOf ws'.toArray k') :: off D led) ∧ J ws'
theorem DEnd3.mk {L D : Addr} {led : Led} {nl nh no : PySem.Str} {mB : PySem.Str → Option Value} {J : List Value → Prop} {s : Shared} {h' : Heap} {tk' : Tok} {oL oH oO : Option Value} {ws' : List Value} {k' : Nat}
    (F : Fr h₀ L h' (fun y => if y = nl then oL else if y = nh then oH else if y = no then oO else mB y)) (N : News h₀ L h' ((D, listOf ws'.toArray k') :: off D led)) (j : J ws') :
    DEnd3 h₀ L D led nl nh no mB J s { s with heap := h', toks := tk' } := ⟨h', tk', oL, oH, oO, ws', k', rfl, F, N, j⟩
theorem for_list3 {l D : Addr} {vs ws₀ : List Value} {n k₀ : Nat} {nl nh no : PySem.Str} {mB : PySem.Str → Option Value} {base : Led} (J : Nat → List Value → Prop) (h1 : nl ≠ no) (h2 : nh ≠ no)
    (hh : A.handled = none) (F : Fr h₀ env.locals s.heap mB) (e1 : mB nl = none) (e2 : mB nh = none) (e3 : mB no = none) (N : News h₀ env.locals s.heap ((D, listOf ws₀.toArray k₀) :: base)) (hl : (l, listOf vs.toArray n) ∈ base) (hbD : ∀ p ∈ base, p.1 ≠ D) (h0 : J 0 ws₀)
    (turn : ∀ i v oL oH ws k h tk led, vs[i]? = some v → J i ws → Fr h₀ env.locals h (fun y => if y = nl then oL else if y = nh then oH else if y = no then some v else mB y) → News h₀ env.locals h led → (D, listOf ws.toArray k) ∈ led →
      wpAny (model prog w) A (execs body env) (fun f s' => match f with
        | .ret v => Q (.ret v) s'
        | .brk => False
        | _ => DEnd3 h₀ env.locals D led nl nh no mB (J (i + 1)) { s with heap := h, toks := tk } s') E { s with heap := h, toks := tk })
    (out : ∀ oL oH oO ws k h tk, J vs.length ws → Fr h₀ env.locals h (fun y => if y = nl then oL else if y = nh then oH else if y = no then oO else mB y) → News h₀ env.locals h ((D, listOf ws.toArray k) :: base) → Q .next { s with heap := h, toks := tk }) :
    wpAny (model prog w) A (pyIter (.ref l)) (fun it s₂ => LoopAtV prog w A h₀ env no body Q E it s₂) E s := by
  rw [mapC e1 e2 e3] at F
  refine for_list (fun i m ws => (∃ oL oH oO, m = fun y => if y = nl then oL else if y = nh then oH else if y = no then oO else mB y) ∧ J i ws) (fun m ws => (∃ oL oH oO, m = fun y => if y = nl then oL else if y = nh then oH else if y = no then oO else mB y) ∧ J vs.length ws) hh F N hl hbD ⟨⟨_, _, _, rfl⟩, h0⟩ ?_ (fun m ws h => h) ?_
  · rintro i v m₁ ws k h tk led hv ⟨⟨oL, oH, oO, rfl⟩, j⟩ F₁ N₁ hD
    rw [mapD h1 h2] at F₁
    refine wpAny_mono (turn i v oL oH ws k h tk led hv j F₁ N₁ hD) (fun f s₂ p => ?_) fun _ _ e => e
    cases f with
    | ret v => exact p
    | brk => exact p.elim
    | next => obtain ⟨h', tk', oL, oH, oO, ws', k', e, F', N', j'⟩ := p; exact ⟨h', tk', _, ws', k', e, F', N', ⟨_, _, _, rfl⟩, j'⟩
    | cont => obtain ⟨h', tk', oL, oH, oO, ws', k', e, F', N', j'⟩ := p; exact ⟨h', tk', _, ws', k', e, F', N', ⟨_, _, _, rfl⟩, j'⟩
  · rintro m₁ ws k h tk ⟨⟨oL, oH, oO, rfl⟩, z⟩ F' N'
    exact out oL oH oO ws k h tk z F' N'
end
noncomputable def Stk (ws : List Value) (c : Nat) : Prop := ∃ ns, IntsAre ws ns ∧ (∀ i ∈ ns, 0 ≤ i ∧ i < 97) ∧ ws.length ≤ c
theorem IntsAre.snoc {vs : List Value} {ns : List Int} (h : IntsAre vs ns) (i : Int) (t : Tok) : IntsAre (vs ++ [.int i t]) (ns ++ [i]) := by
  induction h with
  | nil => exact .cons i t .nil
  | cons j u _ ih => exact .cons j u ih
theorem Stk.snoc {ws : List Value} {c : Nat} (h : Stk ws c) {l : Int} (t : Tok) : Stk (ws ++ [.int (Int.fmod l 97) t]) (c + 1) := by
  obtain ⟨ns, h1, h2, h3⟩ := h
  refine ⟨ns ++ [_], IntsAre.snoc h1 _ t, fun i hi => ?_, by rw [List.length_append, List.length_singleton]; omega⟩
  rcases List.mem_append.mp hi with hi | hi
  · exact h2 i hi
  · rw [List.mem_singleton.mp hi]
    exact ⟨Int.fmod_nonneg_of_pos _ (by decide), Int.fmod_lt_of_pos _ (by decide)⟩
local macro_rules | `(tactic| walk_at "exec For") => `(tactic| (k_here; (rename Fr _ _ _ _ => lF'); (with_unfolding_all refine' For_V lF' ?_; k_whole)))
theorem ConP.use {dp un dp' un' : Nat} {w : World} {f : Addr} {args : List Value} {pre : Heap → Prop} {led : Led} {R : Value → Led → Prop}
    {mean : ExcName → Option Value} {mg mb : PySem.Str → Option Value} {gd : Option (List Code)} {cn : PySem.Str} {cs : Scope} {a : Addr} {ccd : Value} {cl : List (PySem.Str × Addr)} {outer : List Env} {A₀ : Around} {base h₀ : Heap} {L : Addr} {m : PySem.Str → Option Value} {s : Shared} {Q E : Value → Shared → Prop}
    (C : ConP dp un w f args pre led R) (p : pre h₀) (B : Below A₀ base outer h₀) (F : Fr h₀ L s.heap m) (X : (headK w.params).In h₀) (N : News h₀ L s.heap led) (T : Top headV LO mean mg mb h₀) (hk : cs.kind = .function)
    (hd : dp' ≤ dp) (hu : un' ≤ un)
    (ret : ∀ r led' h' tk', Fr h₀ L h' m → News h₀ L h' led' → R r led' → Q r { s with heap := h', toks := tk' }) :
    wpAny (model PySem.Challenge.rw_pq0478_02.row.prog w) (ktrTop dp' un' gd cn cs L a ccd cl outer) (call (.ref f) args) Q E s :=
  wp_deeper hd hu (C _ _ _ _ _ _ _ _ _ _ _ _ _ _ _ _ _ _ p B F X N T hk ret)
theorem stalks_c {w : World} {led : Led} {sc : Addr} {vs : List Value} {is : List Int} {n : Nat} (hi : IntsAre vs is) (hl : vs.length ≤ 63) :
    ConP 900 8000 w 805 [.ref sc] (fun h => h.IsList sc vs.toArray) led (fun r led' => (∃ a us ns k, r = .ref a ∧ (a, listOf us.toArray k) ∈ led' ∧ IntsAre us ns ∧ (∀ i ∈ ns, 0 ≤ i ∧ i < 97) ∧ us.length ≤ 60) ∧ ∀ p ∈ led, p ∈ led') := by
  unfold ConP
  intro zmean zmg zmb zgd zcn zcs za zccd zcl zouter zA zbase zh zL zm zs zQ zE zpre zB zF X zN zT zhk hret
  revert X; k_fill; intro X
  refine wpAny_call ?_
  k_dflt (refine' code_def ?k1 ?k2 ?k3 ?k4 ?k5 ?kA ?kF ?kK ?k6 ?k7 ?k8 ?k9 ?kB ?_ ?c2 ?c3 ?c4 ?c5; (case kA => exact rfl); (case kF => exact rfl); (case kK => assumption); (case k1 => k_asm); (case k2 => k_asm); (case k3 => k_asm); (case k4 => k_asm); (case k5 => k_asm); (case k6 => k_is); (case k7 => k_is); (case k8 => k_room); (case k9 => first | exact BindsTo.of_eq rfl | exact binds_K (by k_in) rfl (by k_is) rfl rfl rfl); (case c5 => decide); (case kB => exact locs rfl); (case c2 => exact rfl); (case c3 => exact rfl); (case c4 => exact rfl); k_whole; intro g' L' h' FG' F' N' B' X' T'; (try dsimp only); (try k_fold))
  (replace F' : Fr g' L' h' (fun y => List.lookup y [("script", .ref sc)]) := F')
  (refine at_toks ?_; intro tk0)
  have hsl : g'.IsList sc vs.toArray := Heap.IsList.at zpre fun o e => FG'.keep sc o e
  clear zpre
  k_steps
  rename_i D hh1 lD hh2 T ws hh3 F2 N2 hI hC hL lT
  have hwl : ws.length ≤ 40 := by rw [hI.length, List.length_take]; omega
  have hTD : T ≠ D := Nat.ne_of_gt lT.1
  have hb2 : ∀ p ∈ (T, listOf ws.toArray 0) :: led, p.1 ≠ D := fun p hp => by
    rcases List.mem_cons.mp hp with rfl | hp
    · exact hTD
    · exact Nat.ne_of_lt (lD p hp)
  have N3 : News g' L' hh3 ((D, listOf ([] : List Value).toArray 0) :: (T, listOf ws.toArray 0) :: led) := news_sub N2 fun p hp => by
    rcases List.mem_cons.mp hp with rfl | hp
    · exact List.mem_cons_of_mem _ List.mem_cons_self
    rcases List.mem_cons.mp hp with rfl | hp
    · exact List.mem_cons_self
    · exact List.mem_cons_of_mem _ (List.mem_cons_of_mem _ hp)
  unfold Hold
  clear N2
  refine for_list3 (nl := "left") (nh := "hop") (no := "one") (fun i ws => Stk ws (9 * i)) (by decide) (by decide) rfl F2 rfl rfl rfl N3 List.mem_cons_self hb2 ⟨[], .nil, (fun _ h => nomatch h), Nat.zero_le _⟩ ?_ ?_
  · rintro i v oL oH us k h tk led₁ hv hS F₁ N₁ hD
    have hi9 : i < (List.take 40 is).length := by rw [← hI.length]; exact (List.getElem?_eq_some_iff.mp hv).1
    have hv' : ∃ a ta, v = .int a ta := by
      obtain ⟨ta, ht⟩ := hI.get i _ (List.getElem?_eq_getElem hi9)
      rw [hv] at ht
      exact ⟨_, _, Option.some.inj ht⟩
    rw [List.length_take] at hi9
    refine (let G9 : Prop := _; (?_ : G9))
    obtain ⟨a, ta, rfl⟩ := hv'
    clear F2 N3 hb2
    first | k_unfold | skip
    try clear G9
    k_steps
    all_goals (
      (rename IsRange _ _ _ _ _ _ _ _ => hR); (rename Fr _ _ _ _ => F3); (rename News _ _ _ _ => N3)
      unfold Hold
      refine for_range2 (n := 9) (nl := "left") (nh := "hop") (fun j ws => Stk ws (9 * i + j)) (fun ws => Stk ws (9 * (i + 1))) (by decide) rfl hR (by decide) (by decide) F3 (news_pull N3 hD) off_ne hS ?_ (fun ws h => by rw [show 9 * (i + 1) = 9 * i + 9 by omega]; exact h) ?_
      · clear F3 N3 hR hS hD
        rintro j t l u ws k h tk led₂ hj hS F₂ N₂ hD
        have hS' := hS
        refine (let G9 : Prop := _; (?_ : G9))
        obtain ⟨ns, h1, h2, h3⟩ := hS
        have hz : ws.length ≤ 1000 := by omega
        first | k_unfold | skip
        try clear G9
        k_steps
        · exact DEnd2.mk (by k_asm) (by k_asm) (by
            refine (let G9 : Prop := _; (?_ : G9))
            obtain ⟨ns, h1, h2, h3⟩ := hS'.snoc _
            first | k_unfold | skip
            try clear G9
            exact ⟨ns, h1, h2, by omega⟩)
        · exact DEnd2.mk (by k_asm) (by k_asm) (hS'.snoc _)
      · clear F3 N3 hR hS
        rintro l u oH ws k h tk hS F₂ N₂
        k_steps
        exact DEnd3.mk F₂ N₂ hS)
  · intro oL oH oO us k h tk hq9 F₁ N₁
    refine (let G9 : Prop := _; (?_ : G9))
    obtain ⟨ns, h1, h2, h3⟩ := hq9
    have hz : us.length ≤ 1000 := by omega
    clear F2 N3 hb2 hI
    first | k_unfold | skip
    try clear G9
    k_steps
    (rename IntsAre _ _ => hI9)
    exact hret _ _ _ _ (by k_asm) (by k_asm) ⟨⟨_, _, _, _, rfl, List.mem_cons_self, hI9, fun i hi => h2 i (List.mem_of_mem_take hi), by rw [hI9.length, List.length_take]; omega⟩, fun p hp => List.mem_cons_of_mem _ (List.mem_cons_of_mem _ (List.mem_cons_of_mem _ hp))⟩
end
theorem frz_cls {o : Obj} (f : Frz o) : o.cls ≠ .type "range_iterator" := by
  cases f with
  | tup vs n => intro e; injection e with e; revert e; decide
  | inst C d => intro e; cases e
  | tok h t v r n => intro e; injection e with e; revert e; decide
structure LSt (base : Led) (sh rl D : Addr) (led : Led) (T : List TK) (ds : List Dat) (vs : List Value) (fs : List Dat) : Prop where
  ls : LS led sh rl T
  tp : TP T
  ext : ExtL sh rl base led
  ld : LD D ds led
  vi : VIs led vs fs
  nD : ∀ p ∈ base, @Ne Nat p.1 D
  ns : @Ne Nat D sh
  nr : @Ne Nat D rl
theorem LD.up {D : Addr} {ds : List Dat} {led led' : Led} (h : LD D ds led) (s : ∀ p ∈ led, p ∈ led') : LD D ds led' := by
  obtain ⟨vs, k, m, v⟩ := h
  exact ⟨vs, k, s _ m, v.up s⟩
theorem LSt.up {base led led' : Led} {sh rl D : Addr} {T : List TK} {ds : List Dat} {vs : List Value} {fs : List Dat} (S : LSt base sh rl D led T ds vs fs) (s : ∀ p ∈ led, p ∈ led') : LSt base sh rl D led' T ds vs fs :=
  ⟨S.ls.ups s, S.tp, S.ext.trans (.up s), S.ld.up s, S.vi.up s, S.nD, S.ns, S.nr⟩
section
variable {prog : Program} {w : World} {A : Around} {E : Value → Shared → Prop} {s : Shared} {env : Env} {h₀ : Heap} {x : PySem.Str} {body : List Stmt} {Q : Flow → Shared → Prop}
theorem LSt.off {base led : Led} {sh rl D I : Addr} {oI : Obj} {T : List TK} {ds : List Dat} {vs : List Value} {fs : List Dat} {h : Heap} {L : Addr} (N : News h₀ L h led) (hI : (I, oI) ∈ led) (hc : oI.cls = .type "range_iterator") (hb : ∀ p ∈ base, @Ne Nat p.1 I) (nS : @Ne Nat I sh) (nR : @Ne Nat I rl) (nI : @Ne Nat I D)
    (S : LSt ((I, oI) :: base) sh rl D led T ds vs fs) : LSt base sh rl D (off I led) T ds vs fs := by
  have z : Sub led (Mine.off I led) := fun q o f m => mem_off m fun e => by
    subst e; exact frz_cls (news_one N hI m ▸ f) hc
  obtain ⟨⟨⟨us, is, n, hs, hi⟩, ⟨ws, n2, hr, hT⟩, hne⟩, tp, ⟨ef, eo⟩, ⟨ys, k, m, v⟩, vi, nD, ns, nr⟩ := S
  exact ⟨⟨⟨us, is, n, mem_off hs (fun e => nS e.symm), hi⟩, ⟨ws, n2, mem_off hr (fun e => nR e.symm), hT.sub z⟩, hne⟩, tp, ⟨fun q o f m => z _ _ f (ef q o f (List.mem_cons_of_mem _ m)), fun q o m a b => mem_off (eo q o (List.mem_cons_of_mem _ m) a b) (hb _ m)⟩,
    ⟨ys, k, mem_off m (fun e => nI e.symm), v.sub z⟩, vi.sub z, fun p hp => nD p (List.mem_cons_of_mem _ hp), ns, nr⟩
noncomputable def FEnd (h₀ : Heap) (L : Addr) (base : Led) (sh rl D : Addr) (φ : (PySem.Str → Option Value) → List TK → List Dat → List Value → List Dat → Prop) (s s' : Shared) : Prop :=
  ∃ h' tk' m' led' T ds vs fs, s' = { s with heap := h', toks := tk' } ∧ Fr h₀ L h' m' ∧ News h₀ L h' led' ∧ LSt base sh rl D led' T ds vs fs ∧ φ m' T ds vs fs
theorem FEnd.mk {L : Addr} {base : Led} {sh rl D : Addr} {φ : (PySem.Str → Option Value) → List TK → List Dat → List Value → List Dat → Prop} {h' : Heap} {tk' : Tok} {m' : PySem.Str → Option Value} {led' : Led} {T : List TK} {ds : List Dat} {vs : List Value} {fs : List Dat}
    (F : Fr h₀ L h' m') (N : News h₀ L h' led') (S : LSt base sh rl D led' T ds vs fs) (p : φ m' T ds vs fs) : FEnd h₀ L base sh rl D φ s { s with heap := h', toks := tk' } := ⟨h', tk', m', led', T, ds, vs, fs, rfl, F, N, S, p⟩
theorem for_law {r sh rl D : Addr} {a₀ b₀ : Int} {t₀ u₀ v₀ : Tok} {n : Nat} {m₀ : PySem.Str → Option Value} {base led : Led} {T : List TK} {ds : List Dat} {vs : List Value} {fs : List Dat}
    (φ : Nat → (PySem.Str → Option Value) → List TK → List Dat → List Value → List Dat → Prop)
    (hh : A.handled = none) (hr : IsRange s.heap r a₀ b₀ 1 t₀ u₀ v₀) (hsmall : Builtin.Range.small a₀ b₀ 1 = true) (hn : Builtin.Range.rangeSize a₀ b₀ 1 = (n : Int)) (F : Fr h₀ env.locals s.heap m₀)
    (N : News h₀ env.locals s.heap led) (S : LSt base sh rl D led T ds vs fs) (h0 : φ 0 m₀ T ds vs fs)
    (hb : ∀ p ∈ base, p ∈ led ∨ @LT.lt Nat _ p.1 s.heap.objs.size)
    (turn : ∀ i t m₁ T ds vs fs h tk I oI led₁, i < n → φ i m₁ T ds vs fs → LSt ((I, oI) :: base) sh rl D led₁ T ds vs fs → Fr h₀ env.locals h (fun y => if y = x then some (.int (a₀ + (i : Nat) * 1) t) else m₁ y) → News h₀ env.locals h led₁ →
      wpAny (model prog w) A (execs body env) (fun f s' => match f with
        | .ret v => Q (.ret v) s'
        | .brk => False
        | _ => FEnd h₀ env.locals ((I, oI) :: base) sh rl D (φ (i + 1)) { s with heap := h, toks := tk } s') E { s with heap := h, toks := tk })
    (out : ∀ m₁ T ds vs fs h tk led₁, φ n m₁ T ds vs fs → LSt base sh rl D led₁ T ds vs fs → Fr h₀ env.locals h m₁ → News h₀ env.locals h led₁ → Q .next { s with heap := h, toks := tk }) :
    wpAny (model prog w) A (pyIter (.ref r)) (fun it s₂ => LoopAtV prog w A h₀ env x body Q E it s₂) E s := by
  have hlt : ∀ p ∈ led, p.1 < s.heap.objs.size := fun p hp => Heap.lt_size (N p hp).1
  have hbl : ∀ p ∈ base, @LT.lt Nat _ p.1 s.heap.objs.size := fun p hp => (hb p hp).elim (fun h => hlt p h) id
  obtain ⟨⟨⟨us, is, n1, hs, hi⟩, ⟨ws, n2, hrr, hT⟩, hne⟩, -, -, ⟨ys, k, mD, v⟩, -, -, -, -⟩ := id S
  have lS : @LT.lt Nat _ sh s.heap.objs.size := hlt _ hs
  have lR : @LT.lt Nat _ rl s.heap.objs.size := hlt _ hrr
  have lD : @LT.lt Nat _ D s.heap.objs.size := hlt _ mD
  refine wpAny_pyIter_range hr hsmall ?_
  have W : Walks prog w A s.heap.objs.size [s.heap.objs.size] [s.heap.objs.size] n (fun i v => i < n ∧ ∃ t, v = .int (a₀ + i * 1) t)
      (fun i h => IsRangeIter h s.heap.objs.size (a₀ + (i : Nat) * 1) ((n : Int) - (i : Nat)) 1) := (Walks.range hh _ a₀ 1 n).bound
  refine ⟨_, _, _, n, _, _, m₀, led, fun i m led => (∃ T ds vs fs, LSt base sh rl D led T ds vs fs ∧ φ i m T ds vs fs), rfl, W, ?_, ?_, ?_, (by show IsRangeIter _ _ _ _ _; rw [hn]; simpa using Heap.get?_push_size _ rfl), F.push _, (fun p hp => ⟨Heap.get?_push_of_some _ (N p hp).1, (N p hp).2⟩), ⟨T, ds, vs, fs, S, h0⟩, ?_, ?_⟩
  · intro hm
    exact absurd F.ns.lt ((List.mem_singleton.mp hm) ▸ Nat.lt_irrefl _)
  · intro b hb; rw [List.mem_singleton.mp hb]; exact next_is_new F
  · intro p hp hm
    exact absurd (hlt p hp) (by rw [List.mem_singleton.mp hm]; exact Nat.lt_irrefl _)
  · rintro i v m₁ led₁ s₁ own ⟨h, tk, rfl⟩ hi' ⟨_, t, rfl⟩ ⟨T, ds, vs, fs, S₁, hφ⟩ hoff hown hget hall st F₁ N₁
    obtain ⟨oI, hIg, hcI⟩ : ∃ oI, h.get? s.heap.objs.size = some oI ∧ oI.cls = .type "range_iterator" := ⟨_, st, rfl⟩
    have hIo : (s.heap.objs.size, oI) ∈ own := hall s.heap.objs.size (List.mem_singleton.mpr rfl) (next_is_new F) _ hIg
    have S₂ : LSt ((s.heap.objs.size, oI) :: base) sh rl D (own ++ led₁) T ds vs fs := by
      have U := S₁.up (led' := own ++ led₁) fun p hp => List.mem_append_right _ hp
      exact ⟨U.ls, U.tp, ⟨fun q o f m => (List.mem_cons.mp m).elim (fun e => by cases e; exact List.mem_append_left _ hIo) (fun m => U.ext.frz q o f m), fun q o m a b => (List.mem_cons.mp m).elim (fun e => by cases e; exact List.mem_append_left _ hIo) (fun m => U.ext.oth q o m a b)⟩, U.ld, U.vi,
        (fun p hp => (List.mem_cons.mp hp).elim (fun e => by rw [e]; exact Nat.ne_of_gt lD) (fun m => U.nD p m)), U.ns, U.nr⟩
    have one : ∀ p ∈ own, p = (s.heap.objs.size, oI) := fun p hp => by
      have e1 := List.mem_singleton.mp (hown p hp)
      have e2 := hget p hp
      rw [e1] at e2
      exact Prod.ext e1 (Option.some.inj (e2.symm.trans hIg))
    refine wpAny_mono (turn i t m₁ T ds vs fs h tk _ _ _ hi' hφ S₂ F₁ N₁) (fun f s₂ p => ?_) fun _ _ e => e
    have fin : FEnd h₀ env.locals ((s.heap.objs.size, oI) :: base) sh rl D (φ (i + 1)) { s with heap := h, toks := tk } s₂ → LoopStepU h₀ env.locals [s.heap.objs.size] own (fun m led => (∃ T ds vs fs, LSt base sh rl D led T ds vs fs ∧ φ (i + 1) m T ds vs fs)) { s with heap := h, toks := tk } .next s₂ := by
      rintro ⟨h', tk', m', led', T', ds', vs', fs', rfl, F', N', S', p'⟩
      have hI' : (s.heap.objs.size, oI) ∈ led' := S'.ext.oth _ _ List.mem_cons_self (Nat.ne_of_gt lS) (Nat.ne_of_gt lR)
      refine ⟨rfl, h', tk', m', off s.heap.objs.size led', rfl, F', fun p hp => ?_, ?_, T', ds', vs', fs', LSt.off N' hI' hcI (fun p hp => Nat.ne_of_lt (hbl p hp)) (Nat.ne_of_gt lS) (Nat.ne_of_gt lR) (Nat.ne_of_gt lD) S', p'⟩
      · rcases List.mem_append.mp hp with hp | hp
        · rw [one p hp]; exact N' _ hI'
        · exact N' _ (of_off hp)
      · intro p hp hm
        exact off_ne p hp (List.mem_singleton.mp hm)
    cases f with
    | ret v => exact .ret p
    | brk => exact p.elim
    | next => exact .next (fin p)
    | cont => exact .cont (fin p)
  · rintro h' tk m' led' F' N' _ ⟨T', ds', vs', fs', S', p'⟩
    exact out m' T' ds' vs' fs' h' tk led' p' S' F' N'
end
theorem LSt.putN {base led pre : Led} {sh rl D : Addr} {T : List TK} {ds : List Dat} {d : Dat} {vs : List Value} {r : Value} {k' : Nat} {us : List Value} {fs : List Dat} (nF : ∀ q o, Frz o → (q, o) ∈ led → @Ne Nat q D)
    (S : LS led sh rl T) (tp : TP T) (E : ExtL sh rl base led) (V : VIs led vs ds) (vi : VIs led us fs) (nD : ∀ p ∈ base, @Ne Nat p.1 D) (ns : @Ne Nat D sh) (nr : @Ne Nat D rl) (hpre : ∀ p ∈ pre, @Ne Nat p.1 D)
    (v : ∀ fin, Sub led fin → (∀ p ∈ pre, p ∈ fin) → VI fin r d) :
    LSt base sh rl D ((D, listOf (vs ++ [r]).toArray k') :: Mine.off D (pre ++ led)) T (ds ++ [d]) us fs := by
  have up : ∀ {q : Addr} {o : Obj}, @Ne Nat q D → (q, o) ∈ led → (q, o) ∈ (D, listOf (vs ++ [r]).toArray k') :: Mine.off D (pre ++ led) := fun e m => List.mem_cons_of_mem _ (mem_off (List.mem_append_right _ m) e)
  have z : Sub led ((D, listOf (vs ++ [r]).toArray k') :: Mine.off D (pre ++ led)) := fun q o f m => up (nF q o f m) m
  have zp : ∀ p ∈ pre, p ∈ (D, listOf (vs ++ [r]).toArray k') :: Mine.off D (pre ++ led) := fun p hp => List.mem_cons_of_mem _ (mem_off (List.mem_append_left _ hp) (hpre p hp))
  obtain ⟨⟨xs, is, n, hs, hi⟩, ⟨ws, n2, hr, hT⟩, hne⟩ := S
  exact ⟨⟨⟨xs, is, n, up ns.symm hs, hi⟩, ⟨ws, n2, up nr.symm hr, hT.sub z⟩, hne⟩, tp, ⟨fun q o f m => z _ _ f (E.frz q o f m), fun q o m a b => up (nD _ m) (E.oth q o m a b)⟩,
    ⟨_, _, List.mem_cons_self, (V.sub z).snoc (v _ z zp)⟩, vi.sub z, nD, ns, nr⟩
theorem touchf {M : Model} {A : Around} {env : Env} {Q : Flow → Shared → Prop} {E : Value → Shared → Prop} {s : Shared} (h : Q .next s) : wpAny M A (execs [] env) Q E s := by
  walk1
  exact h
section
local macro_rules | `(tactic| walk_at "eval Name") => `(tactic| (k_here; k_dflt (refine nameX_L (by k_asm) (by assumption) ?_ rfl rfl); k_whole))
theorem number_c {w : World} {led : Led} {i m : Int} {t u : Tok} : Con 900 8000 w 826 [.int i t, .int m u] led (fun r led' => VI led' r (numD i m) ∧ Sup led led') := by
  try unfold Con
  intro zmean zmg zmb zgd zcn zcs za zccd zcl zouter zA zbase zh zL zm zs zQ zE zB zF X zN zT zhk hret
  revert X; k_fill; intro X
  refine wpAny_call ?_
  k_dflt (refine' code_def ?k1 ?k2 ?k3 ?k4 ?k5 ?kA ?kF ?kK ?k6 ?k7 ?k8 ?k9 ?kB ?_ ?c2 ?c3 ?c4 ?c5; (case kA => exact rfl); (case kF => exact rfl); (case kK => assumption); (case k1 => k_asm); (case k2 => k_asm); (case k3 => k_asm); (case k4 => k_asm); (case k5 => k_asm); (case k6 => k_is); (case k7 => k_is); (case k8 => k_room); (case k9 => first | exact BindsTo.of_eq rfl | exact binds_K (by k_in) rfl (by k_is) rfl rfl rfl); (case c5 => decide); (case kB => exact locs rfl); (case c2 => exact rfl); (case c3 => exact rfl); (case c4 => exact rfl); k_whole; intro g' L' h' FG' F' N' B' X' T'; (try dsimp only); (try k_fold))
  (replace F' : Fr g' L' h' (fun y => List.lookup y [("figure", .int m u), ("at", .int i t)]) := F')
  (refine at_toks ?_; intro tk0)
  (refine (let A9 : Around := _; let g9 : Array GenState := _; let d9 : Drawn := _; let o9 : OsState := _; (?_ : wpAny _ A9 _ _ _ ⟨_, g9, d9, _, o9⟩)))
  k_steps
  exact hret _ _ _ _ (by k_asm) (by k_asm) ⟨.tup (by k_mem) (.cons (.str _ _) (.cons (.int _ _) (.cons (.tup (by k_mem) (.cons (.int _ _) (.cons (.int _ _) (.cons (.int _ _) .nil)))) (.cons (.bool _) (.cons (.bool _) .nil))))), (by intro p9 hp9; repeat (first | exact hp9 | apply List.mem_cons_of_mem))⟩
theorem fig_str {i : Int} (h0 : 0 ≤ i) (h1 : i < 9) : PySem.Str.ofString (toString i) = ⟨#[i.toNat + 48]⟩ := int_all (P := fun i => PySem.Str.ofString (toString i) = ⟨#[i.toNat + 48]⟩) (n := 9) (by decide +kernel) h0 h1
theorem app3 {α : Type} {T : List α} {a b c : α} : T ++ [a] ++ [b] ++ [c] = T ++ [a, b, c] := by simp
theorem app5 {α : Type} {T : List α} {a b c d e : α} : T ++ [a] ++ [b] ++ [c] ++ [d] ++ [e] = T ++ [a, b, c, d, e] := by simp
theorem say_np {w : World} {led : Led} {sh rl q : Addr} {T : List TK} {digits : PySem.Str} {n' : Nat} {t1 u3 u4 u5 : Tok} (n : Nat) (hn : Nat.ble n 200 = true) (hT : T.length ≤ n) (hP : TP T) (S : LS led sh rl T) (hq : (q, tupObj [.str "" u3, .str "" u4, .bool true, .str digits u5] n') ∈ led) :
    Con 900 8000 w 819 [.ref rl, .str "num" t1, .ref q] led (fun r led' => ∃ p T', (∃ t', r = .int p t') ∧ SayR led' sh rl T T' (.num digits p) n ∧ ExtL sh rl led led') :=
  (say_n (Nat.le_trans hT (Nat.le_of_ble_eq_true hn)) S hq).weaken fun _ _ h => ⟨_, _, h.1, .of hT hP h.2.1 rfl, h.2.2⟩
theorem fig_num {i p : Int} (h : 0 ≤ i) : figD (i.toNat + 48) p = numD p i := by
  have e : ((i.toNat + 48 : Nat) : Int) - 48 = i := by omega
  show Dat.tuple [_, _, .tuple [_, .int (((i.toNat + 48 : Nat) : Int) - 48), _], _, _] = _
  rw [e]
theorem fig_zero {p : Int} : figD 48 p = numD p 0 := rfl
inductive KW : PySem.Str → Prop
  | e : KW ""
  | r : KW "reg"
  | i : KW "integer"
  | t : KW "time"
theorem KW.three {x : PySem.Str} (h : KW x) : x = "integer" ∨ x = "time" ∨ ((x = "" ∨ x = "reg") ∧ ([PySem.Str.ofString "integer", PySem.Str.ofString "time"].any fun y => y == x) = false) := by
  cases h with
  | e => exact .inr (.inr ⟨.inl rfl, by decide +kernel⟩)
  | r => exact .inr (.inr ⟨.inr rfl, by decide +kernel⟩)
  | i => exact .inl rfl
  | t => exact .inr (.inl rfl)
noncomputable def ShR (sh rl : Addr) (T : List TK) (b : Int) (led : Led) (r : Value) (led' : Led) : Prop :=
  ∃ s : SH, spF s.sp ∧ VI led' r (.tuple [.str s.k.word, .bool s.sg, s.ex b]) ∧ TP (T ++ s.toks) ∧ LS led' sh rl (T ++ s.toks) ∧ ExtL sh rl led led'
noncomputable def wkT : WK → List TK
  | .reg j => [.w "key" "reg" j]
  | _ => []
structure ExC (sh rl : Addr) (led : Led) (T : List TK) (x : PySem.Str) (sg : Bool) (m' : PySem.Str → Option Value) (led' : Led) : Prop where
  w : ∃ t, m' "word" = some (.str x t)
  s : m' "signed" = some (.bool sg)
  e : ∃ v sp, m' "extent" = some v ∧ spF sp ∧ VI led' v (spD sp) ∧ TP (T ++ spT sp) ∧ LS led' sh rl (T ++ spT sp)
  E : ExtL sh rl led led'
theorem law_shape_c {w : World} {led : Led} {sh rl kl : Addr} {T : List TK} {kv : List Value} {ys : List PySem.Str} {kn : Nat} {b : Int} {u : Tok} (hk : StrsAre kv ys) (hl : kv.length = 4) (hy : ∀ i : Nat, i < 4 → KW (ys.getD i Str.empty)) (hm : (kl, listOf kv.toArray kn) ∈ led) (h1 : @Ne Nat kl sh) (h2 : @Ne Nat kl rl) (hT : T.length ≤ 150) (hP : TP T) (S : LS led sh rl T) :
    Con 880 7800 w 833 [.ref sh, .ref rl, .int b u, .ref kl] led (ShR sh rl T b led) := by
  have hz : kv.length ≤ 1000 := by omega
  have hyl : ys.length = 4 := hk.length.symm.trans hl
  try unfold Con
  intro zmean zmg zmb zgd zcn zcs za zccd zcl zouter zA zbase zh zL zm zs zQ zE zB zF X zN zT zhk hret
  revert X; k_fill; intro X
  refine wpAny_call ?_
  k_dflt (refine' code_def ?k1 ?k2 ?k3 ?k4 ?k5 ?kA ?kF ?kK ?k6 ?k7 ?k8 ?k9 ?kB ?_ ?c2 ?c3 ?c4 ?c5; (case kA => exact rfl); (case kF => exact rfl); (case kK => assumption); (case k1 => k_asm); (case k2 => k_asm); (case k3 => k_asm); (case k4 => k_asm); (case k5 => k_asm); (case k6 => k_is); (case k7 => k_is); (case k8 => k_room); (case k9 => first | exact BindsTo.of_eq rfl | exact binds_K (by k_in) rfl (by k_is) rfl rfl rfl); (case c5 => decide); (case kB => exact locs rfl); (case c2 => exact rfl); (case c3 => exact rfl); (case c4 => exact rfl); k_whole; intro g' L' h' FG' F' N' B' X' T'; (try dsimp only); (try k_fold))
  (replace F' : Fr g' L' h' (fun y => List.lookup y [("kinds", .ref kl), ("first_at", .int b u), ("row", .ref rl), ("nest", .ref sh)]) := F')
  (refine at_toks ?_; intro tk0)
  (refine (let A9 : Around := _; let g9 : Array GenState := _; let d9 : Drawn := _; let o9 : OsState := _; (?_ : wpAny _ A9 _ _ _ ⟨_, g9, d9, _, o9⟩)))
  k_steps
  refine (let qk9 : Value → Shared → Prop := _; (?_ : wpAny _ _ _ qk9 _ _))
  first | ((with_reducible show wpAny _ _ (eval _ _) _ _ _); first | refine self_call (by assumption) (by k_asm) (by first | assumption | exact PS.cons (by assumption) | exact PS.cons (PS.cons (by assumption))) (by assumption) (by first | exact rfl | assumption) (by first | exact rfl | assumption) rfl rfl ⟨by k_is, by k_is, by k_is, by k_is, rfl⟩ rfl rfl ?_ | refine glob_call (by assumption) (by assumption) (by assumption) (by first | exact rfl | assumption) (by k_is) rfl rfl (by k_is) rfl ?_) | skip
  refine Con.useTwig (Q := qk9) (stalk_c (by omega) (by omega) S) (by assumption) (by assumption) (by assumption) (by k_asm) (by assumption) (by first | exact rfl | assumption) rfl rfl ?_
  intro i ti led9 h9 tk9 F9 N9 i0 i1 S1 E1
  first | k_unfold | skip
  try clear qk9
  try dsimp only
  try k_fold
  refine item_strsR (ys := ys) (N9.isList (E1.oth _ _ hm h1 h2)) hk i0 (by omega) (by omega) (fun t4 => ?_)
  have hx := hy i.toNat (by omega)
  generalize ys.getD i.toNat Str.empty = x at hx
  clear hm h1 h2 hk hy i0 i1 hz hyl hl
  refine (let G9 : Prop := _; (?_ : G9))
  rcases hx.three with rfl | rfl | ⟨hx, hin⟩ <;> (first | k_unfold | skip)
  · k_steps
    refine (let qk9 : Value → Shared → Prop := _; (?_ : wpAny _ _ _ qk9 _ _))
    first | ((with_reducible show wpAny _ _ (eval _ _) _ _ _); first | refine self_call (by assumption) (by k_asm) (by first | assumption | exact PS.cons (by assumption) | exact PS.cons (PS.cons (by assumption))) (by assumption) (by first | exact rfl | assumption) (by first | exact rfl | assumption) rfl rfl ⟨by k_is, by k_is, by k_is, by k_is, rfl⟩ rfl rfl ?_ | refine glob_call (by assumption) (by assumption) (by assumption) (by first | exact rfl | assumption) (by k_is) rfl rfl (by k_is) rfl ?_) | skip
    refine Con.useSay (Q := qk9) (say_p 150 rfl hT hP S1.cons) (by assumption) (by assumption) (by assumption) (by k_asm) (by assumption) (by first | exact rfl | assumption) rfl rfl ?_
    intro q2 T2 t2 led9 h9 tk9 F9 N9 S2 P2 b2 z96 e2 E2
    clear z96
    have E12 := E1.trans E2.cons'
    clear S1 E1 E2
    first | k_unfold | skip
    try clear qk9
    try dsimp only
    try k_fold
    k_steps
    refine (let qk9 : Value → Shared → Prop := _; (?_ : wpAny _ _ _ qk9 _ _))
    first | ((with_reducible show wpAny _ _ (eval _ _) _ _ _); first | refine self_call (by assumption) (by k_asm) (by first | assumption | exact PS.cons (by assumption) | exact PS.cons (PS.cons (by assumption))) (by assumption) (by first | exact rfl | assumption) (by first | exact rfl | assumption) rfl rfl ⟨by k_is, by k_is, by k_is, by k_is, rfl⟩ rfl rfl ?_ | refine glob_call (by assumption) (by assumption) (by assumption) (by first | exact rfl | assumption) (by k_is) rfl rfl (by k_is) rfl ?_) | skip
    refine Con.use2 (Q := qk9) (number_c) (by assumption) (by assumption) (by assumption) (by k_asm) (by assumption) (by first | exact rfl | assumption) rfl rfl ?_
    intro r9 led9 h9 tk9 F9 N9 V3 p3
    first | k_unfold | skip
    try clear qk9
    try dsimp only
    try k_fold
    k_steps
    refine (let qk9 : Value → Shared → Prop := _; (?_ : wpAny _ _ _ qk9 _ _))
    first | ((with_reducible show wpAny _ _ (eval _ _) _ _ _); first | refine self_call (by assumption) (by k_asm) (by first | assumption | exact PS.cons (by assumption) | exact PS.cons (PS.cons (by assumption))) (by assumption) (by first | exact rfl | assumption) (by first | exact rfl | assumption) rfl rfl ⟨by k_is, by k_is, by k_is, by k_is, rfl⟩ rfl rfl ?_ | refine glob_call (by assumption) (by assumption) (by assumption) (by first | exact rfl | assumption) (by k_is) rfl rfl (by k_is) rfl ?_) | skip
    refine Con.use2 (Q := qk9) (number_c) (by assumption) (by assumption) (by assumption) (by k_asm) (by assumption) (by first | exact rfl | assumption) rfl rfl ?_
    intro r9 led9 h9 tk9 F9 N9 V4 p4
    first | k_unfold | skip
    try clear qk9
    try dsimp only
    try k_fold
    k_steps
    rw [e2] at P2 S2
    exact hret _ _ _ _ (by k_asm) (by k_asm) ⟨⟨.int q2, none, none⟩, trivial, .tup List.mem_cons_self (.cons (.str _ _) (.cons (.bool _) (.cons (.tup (List.mem_cons_of_mem _ List.mem_cons_self) (.cons (((V3.up p4).up fun p hp => List.mem_cons_of_mem _ hp).up fun p hp => List.mem_cons_of_mem _ hp) (.cons ((V4.up fun p hp => List.mem_cons_of_mem _ hp).up fun p hp => List.mem_cons_of_mem _ hp) .nil))) .nil))),
      P2, ((S2.ups p3).ups p4).cons.cons, ((E12.trans (.up p3)).trans (.up p4)).cons.cons⟩
  · k_steps
    refine (let qk9 : Value → Shared → Prop := _; (?_ : wpAny _ _ _ qk9 _ _))
    first | ((with_reducible show wpAny _ _ (eval _ _) _ _ _); first | refine self_call (by assumption) (by k_asm) (by first | assumption | exact PS.cons (by assumption) | exact PS.cons (PS.cons (by assumption))) (by assumption) (by first | exact rfl | assumption) (by first | exact rfl | assumption) rfl rfl ⟨by k_is, by k_is, by k_is, by k_is, rfl⟩ rfl rfl ?_ | refine glob_call (by assumption) (by assumption) (by assumption) (by first | exact rfl | assumption) (by k_is) rfl rfl (by k_is) rfl ?_) | skip
    refine Con.useSay (Q := qk9) (say_p 150 rfl hT hP S1.cons) (by assumption) (by assumption) (by assumption) (by k_asm) (by assumption) (by first | exact rfl | assumption) rfl rfl ?_
    intro q2 T2 t2 led9 h9 tk9 F9 N9 S2 P2 b2 z96 e2 E2
    clear z96
    have E12 := E1.trans E2.cons'
    clear S1 E1 E2
    first | k_unfold | skip
    try clear qk9
    try dsimp only
    try k_fold
    k_steps
    refine (let qk9 : Value → Shared → Prop := _; (?_ : wpAny _ _ _ qk9 _ _))
    first | ((with_reducible show wpAny _ _ (eval _ _) _ _ _); first | refine self_call (by assumption) (by k_asm) (by first | assumption | exact PS.cons (by assumption) | exact PS.cons (PS.cons (by assumption))) (by assumption) (by first | exact rfl | assumption) (by first | exact rfl | assumption) rfl rfl ⟨by k_is, by k_is, by k_is, by k_is, rfl⟩ rfl rfl ?_ | refine glob_call (by assumption) (by assumption) (by assumption) (by first | exact rfl | assumption) (by k_is) rfl rfl (by k_is) rfl ?_) | skip
    refine Con.use2 (Q := qk9) (number_c) (by assumption) (by assumption) (by assumption) (by k_asm) (by assumption) (by first | exact rfl | assumption) rfl rfl ?_
    intro r9 led9 h9 tk9 F9 N9 V3 p3
    first | k_unfold | skip
    try clear qk9
    try dsimp only
    try k_fold
    k_steps
    refine (let qk9 : Value → Shared → Prop := _; (?_ : wpAny _ _ _ qk9 _ _))
    first | ((with_reducible show wpAny _ _ (eval _ _) _ _ _); first | refine self_call (by assumption) (by k_asm) (by first | assumption | exact PS.cons (by assumption) | exact PS.cons (PS.cons (by assumption))) (by assumption) (by first | exact rfl | assumption) (by first | exact rfl | assumption) rfl rfl ⟨by k_is, by k_is, by k_is, by k_is, rfl⟩ rfl rfl ?_ | refine glob_call (by assumption) (by assumption) (by assumption) (by first | exact rfl | assumption) (by k_is) rfl rfl (by k_is) rfl ?_) | skip
    refine Con.use2 (Q := qk9) (number_c) (by assumption) (by assumption) (by assumption) (by k_asm) (by assumption) (by first | exact rfl | assumption) rfl rfl ?_
    intro r9 led9 h9 tk9 F9 N9 V4 p4
    first | k_unfold | skip
    try clear qk9
    try dsimp only
    try k_fold
    k_steps
    rw [e2] at P2 S2
    exact hret _ _ _ _ (by k_asm) (by k_asm) ⟨⟨.time q2, none, none⟩, trivial, .tup List.mem_cons_self (.cons (.str _ _) (.cons (.bool _) (.cons (.tup (List.mem_cons_of_mem _ List.mem_cons_self) (.cons (((V3.up p4).up fun p hp => List.mem_cons_of_mem _ hp).up fun p hp => List.mem_cons_of_mem _ hp) (.cons ((V4.up fun p hp => List.mem_cons_of_mem _ hp).up fun p hp => List.mem_cons_of_mem _ hp) .nil))) .nil))),
      P2, ((S2.ups p3).ups p4).cons.cons, ((E12.trans (.up p3)).trans (.up p4)).cons.cons⟩
  · k_steps
    clear S
    unfold Hold
    refine cutL (by assumption) (fun led' => ∃ k : WK, k.word = x ∧ (∀ si sp b, (⟨k, si, sp⟩ : SH).toks = wkT k ++ (siT si ++ spT sp) ∧ (⟨k, si, sp⟩ : SH).sg = si.isSome ∧ (⟨k, si, sp⟩ : SH).ex b = spD sp) ∧ TP (T ++ wkT k) ∧ LS led' sh rl (T ++ wkT k) ∧ (T ++ wkT k).length ≤ 151 ∧ ExtL sh rl led led') ?_ ?_
    · rcases hx with rfl | rfl
      · k_steps
        exact CNext.mk (by k_asm) (by k_asm) ⟨⟨.none, rfl, fun _ _ _ => ⟨rfl, rfl, rfl⟩, by simpa [wkT] using hP, by simpa [wkT] using S1.cons, by simp [wkT]; omega, E1.cons⟩, rfl⟩
      · k_steps
        refine (let qk9 : Value → Shared → Prop := _; (?_ : wpAny _ _ _ qk9 _ _))
        first | ((with_reducible show wpAny _ _ (eval _ _) _ _ _); first | refine self_call (by assumption) (by k_asm) (by first | assumption | exact PS.cons (by assumption) | exact PS.cons (PS.cons (by assumption))) (by assumption) (by first | exact rfl | assumption) (by first | exact rfl | assumption) rfl rfl ⟨by k_is, by k_is, by k_is, by k_is, rfl⟩ rfl rfl ?_ | refine glob_call (by assumption) (by assumption) (by assumption) (by first | exact rfl | assumption) (by k_is) rfl rfl (by k_is) rfl ?_) | skip
        refine Con.useSay (Q := qk9) (say_p 150 rfl hT hP S1.cons) (by assumption) (by assumption) (by assumption) (by k_asm) (by assumption) (by first | exact rfl | assumption) rfl rfl ?_
        intro q2 T2 t2 led9 h9 tk9 F9 N9 S2 P2 b2 z96 e2 E2
        clear z96
        first | k_unfold | skip
        try clear qk9
        try dsimp only
        try k_fold
        k_steps
        rw [e2] at P2 S2 b2
        exact CNext.mk (by k_asm) (by k_asm) ⟨⟨.reg q2, rfl, fun _ _ _ => ⟨rfl, rfl, rfl⟩, P2, S2, b2, E1.trans E2.cons'⟩, rfl⟩
    clear hP hT S1 E1 hin
    intro h3 tk3 led3 hq9 F3 N3
    refine (let G9 : Prop := _; (?_ : G9))
    obtain ⟨k, hw, hk3, P3, S3, b3, E3⟩ := hq9
    obtain ⟨T3, eT3⟩ : ∃ T3, T3 = T ++ wkT k := ⟨_, rfl⟩
    rw [← eT3] at P3 S3 b3
    first | k_unfold | skip
    try clear G9
    first | k_unfold | skip
    try clear qk9
    try dsimp only
    k_steps
    unfold Hold
    refine cutN "signed" (by assumption) (fun v' led' => (∃ sg, v' = .bool sg) ∧ LS led' sh rl T3 ∧ ExtL sh rl led led') ?_ ?_
    · k_steps
      refine (let qk9 : Value → Shared → Prop := _; (?_ : wpAny _ _ _ qk9 _ _))
      first | ((with_reducible show wpAny _ _ (eval _ _) _ _ _); first | refine self_call (by assumption) (by k_asm) (by first | assumption | exact PS.cons (by assumption) | exact PS.cons (PS.cons (by assumption))) (by assumption) (by first | exact rfl | assumption) (by first | exact rfl | assumption) rfl rfl ⟨by k_is, by k_is, by k_is, by k_is, rfl⟩ rfl rfl ?_ | refine glob_call (by assumption) (by assumption) (by assumption) (by first | exact rfl | assumption) (by k_is) rfl rfl (by k_is) rfl ?_) | skip
      refine Con.useTwig (Q := qk9) (stalk_c (by decide) (by decide) S3) (by assumption) (by assumption) (by assumption) (by k_asm) (by assumption) (by first | exact rfl | assumption) rfl rfl ?_
      intro i ti led9 h9 tk9 F9 N9 i0 i1 S4 E4
      first | k_unfold | skip
      try clear qk9
      try dsimp only
      try k_fold
      k_steps
      exact CNext.mk (by k_asm) (by k_asm) ⟨_, ⟨⟨_, rfl⟩, S4, E3.trans E4⟩, rfl⟩
    clear S3 E3
    intro h4 tk4 v4 led4 hq9 F4 N4
    obtain ⟨⟨sg, rfl⟩, S4, E4⟩ := hq9
    first | k_unfold | skip
    try clear qk9
    try dsimp only
    k_steps
    unfold Hold
    refine cutL (by assumption) (fun led' => ∃ si : Option Int, si.isSome = sg ∧ TP (T3 ++ siT si) ∧ LS led' sh rl (T3 ++ siT si) ∧ (T3 ++ siT si).length ≤ 152 ∧ ExtL sh rl led led') ?_ ?_
    · cases sg with
      | true =>
        k_steps
        refine (let qk9 : Value → Shared → Prop := _; (?_ : wpAny _ _ _ qk9 _ _))
        first | ((with_reducible show wpAny _ _ (eval _ _) _ _ _); first | refine self_call (by assumption) (by k_asm) (by first | assumption | exact PS.cons (by assumption) | exact PS.cons (PS.cons (by assumption))) (by assumption) (by first | exact rfl | assumption) (by first | exact rfl | assumption) rfl rfl ⟨by k_is, by k_is, by k_is, by k_is, rfl⟩ rfl rfl ?_ | refine glob_call (by assumption) (by assumption) (by assumption) (by first | exact rfl | assumption) (by k_is) rfl rfl (by k_is) rfl ?_) | skip
        refine Con.useSay (Q := qk9) (say_p 151 rfl b3 P3 S4) (by assumption) (by assumption) (by assumption) (by k_asm) (by assumption) (by first | exact rfl | assumption) rfl rfl ?_
        intro q2 T2 t2 led9 h9 tk9 F9 N9 S2 P2 b2 z96 e2 E2
        clear z96
        first | k_unfold | skip
        try clear qk9
        try dsimp only
        try k_fold
        k_steps
        rw [e2] at P2 S2 b2
        exact CNext.mk (by k_asm) (by k_asm) ⟨⟨some q2, rfl, P2, S2, b2, E4.trans E2⟩, rfl⟩
      | false =>
        k_steps
        exact CNext.mk (by k_asm) (by k_asm) ⟨⟨none, rfl, by simpa [siT] using P3, by simpa [siT] using S4, by simp [siT]; omega, E4⟩, rfl⟩
    clear P3 S4 b3 E4
    intro h5 tk5 led5 hq9 F5 N5
    refine (let G9 : Prop := _; (?_ : G9))
    obtain ⟨si, hsi, P5, S5, b5, E5⟩ := hq9
    obtain ⟨T5, eT5⟩ : ∃ T5, T5 = T3 ++ siT si := ⟨_, rfl⟩
    rw [← eT5] at P5 S5 b5
    first | k_unfold | skip
    try clear G9
    first | k_unfold | skip
    try clear qk9
    try dsimp only
    k_steps
    unfold Hold
    refine cutV (by assumption) (fun _ => ExC sh rl led T5 x sg) ?_ ?_
    · k_steps
      refine (let qk9 : Value → Shared → Prop := _; (?_ : wpAny _ _ _ qk9 _ _))
      first | ((with_reducible show wpAny _ _ (eval _ _) _ _ _); first | refine self_call (by assumption) (by k_asm) (by first | assumption | exact PS.cons (by assumption) | exact PS.cons (PS.cons (by assumption))) (by assumption) (by first | exact rfl | assumption) (by first | exact rfl | assumption) rfl rfl ⟨by k_is, by k_is, by k_is, by k_is, rfl⟩ rfl rfl ?_ | refine glob_call (by assumption) (by assumption) (by assumption) (by first | exact rfl | assumption) (by k_is) rfl rfl (by k_is) rfl ?_) | skip
      refine Con.useTwig (Q := qk9) (stalk_c (by decide) (by decide) S5) (by assumption) (by assumption) (by assumption) (by k_asm) (by assumption) (by first | exact rfl | assumption) rfl rfl ?_
      intro i ti led9 h9 tk9 F9 N9 i0 i1 S6 E6
      have E56 := E5.trans E6
      clear S5 E5 E6
      first | k_unfold | skip
      try clear qk9
      try dsimp only
      try k_fold
      k_steps
      ·
        refine (let qk9 : Value → Shared → Prop := _; (?_ : wpAny _ _ _ qk9 _ _))
        first | ((with_reducible show wpAny _ _ (eval _ _) _ _ _); first | refine self_call (by assumption) (by k_asm) (by first | assumption | exact PS.cons (by assumption) | exact PS.cons (PS.cons (by assumption))) (by assumption) (by first | exact rfl | assumption) (by first | exact rfl | assumption) rfl rfl ⟨by k_is, by k_is, by k_is, by k_is, rfl⟩ rfl rfl ?_ | refine glob_call (by assumption) (by assumption) (by assumption) (by first | exact rfl | assumption) (by k_is) rfl rfl (by k_is) rfl ?_) | skip
        refine Con.useSay (Q := qk9) (say_p 152 rfl b5 P5 S6) (by assumption) (by assumption) (by assumption) (by k_asm) (by assumption) (by first | exact rfl | assumption) rfl rfl ?_
        intro q7 T7 t7 led9 h9 tk9 F9 N9 S7 P7 b7 z96 e7 E7
        clear z96
        first | k_unfold | skip
        try clear qk9
        try dsimp only
        try k_fold
        k_steps
        refine (let qk9 : Value → Shared → Prop := _; (?_ : wpAny _ _ _ qk9 _ _))
        first | ((with_reducible show wpAny _ _ (eval _ _) _ _ _); first | refine self_call (by assumption) (by k_asm) (by first | assumption | exact PS.cons (by assumption) | exact PS.cons (PS.cons (by assumption))) (by assumption) (by first | exact rfl | assumption) (by first | exact rfl | assumption) rfl rfl ⟨by k_is, by k_is, by k_is, by k_is, rfl⟩ rfl rfl ?_ | refine glob_call (by assumption) (by assumption) (by assumption) (by first | exact rfl | assumption) (by k_is) rfl rfl (by k_is) rfl ?_) | skip
        refine Con.useTwig (Q := qk9) (stalk_c (by decide) (by decide) S7) (by assumption) (by assumption) (by assumption) (by k_asm) (by assumption) (by first | exact rfl | assumption) rfl rfl ?_
        intro hi th led9 h9 tk9 F9 N9 hi0 hi1 S8 E8
        first | k_unfold | skip
        try clear qk9
        try dsimp only
        try k_fold
        k_steps
        refine (let qk9 : Value → Shared → Prop := _; (?_ : wpAny _ _ _ qk9 _ _))
        first | ((with_reducible show wpAny _ _ (eval _ _) _ _ _); first | refine self_call (by assumption) (by k_asm) (by first | assumption | exact PS.cons (by assumption) | exact PS.cons (PS.cons (by assumption))) (by assumption) (by first | exact rfl | assumption) (by first | exact rfl | assumption) rfl rfl ⟨by k_is, by k_is, by k_is, by k_is, rfl⟩ rfl rfl ?_ | refine glob_call (by assumption) (by assumption) (by assumption) (by first | exact rfl | assumption) (by k_is) rfl rfl (by k_is) rfl ?_) | skip
        refine Con.useSay (Q := qk9) (say_np 153 rfl b7 P7 S8.cons List.mem_cons_self) (by assumption) (by assumption) (by assumption) (by k_asm) (by assumption) (by first | exact rfl | assumption) rfl rfl ?_
        intro q9 T9 t9 led9 h9 tk9 F9 N9 S9 P9 b9 z96 e9 E9
        clear z96
        have E59 := ((E56.trans E7).trans E8).trans E9.cons'
        clear E56 E7 E8 E9 S6 S7 S8 P5 P7 b5 b7
        first | k_unfold | skip
        try clear qk9
        try dsimp only
        try k_fold
        k_steps
        refine (let qk9 : Value → Shared → Prop := _; (?_ : wpAny _ _ _ qk9 _ _))
        first | ((with_reducible show wpAny _ _ (eval _ _) _ _ _); first | refine self_call (by assumption) (by k_asm) (by first | assumption | exact PS.cons (by assumption) | exact PS.cons (PS.cons (by assumption))) (by assumption) (by first | exact rfl | assumption) (by first | exact rfl | assumption) rfl rfl ⟨by k_is, by k_is, by k_is, by k_is, rfl⟩ rfl rfl ?_ | refine glob_call (by assumption) (by assumption) (by assumption) (by first | exact rfl | assumption) (by k_is) rfl rfl (by k_is) rfl ?_) | skip
        refine Con.use2 (Q := qk9) (number_c) (by assumption) (by assumption) (by assumption) (by k_asm) (by assumption) (by first | exact rfl | assumption) rfl rfl ?_
        intro r9 led9 h9 tk9 F9 N9 Va pa
        first | k_unfold | skip
        try clear qk9
        try dsimp only
        try k_fold
        k_steps
        refine (let qk9 : Value → Shared → Prop := _; (?_ : wpAny _ _ _ qk9 _ _))
        first | ((with_reducible show wpAny _ _ (eval _ _) _ _ _); first | refine self_call (by assumption) (by k_asm) (by first | assumption | exact PS.cons (by assumption) | exact PS.cons (PS.cons (by assumption))) (by assumption) (by first | exact rfl | assumption) (by first | exact rfl | assumption) rfl rfl ⟨by k_is, by k_is, by k_is, by k_is, rfl⟩ rfl rfl ?_ | refine glob_call (by assumption) (by assumption) (by assumption) (by first | exact rfl | assumption) (by k_is) rfl rfl (by k_is) rfl ?_) | skip
        refine Con.useSay (Q := qk9) (say_p 154 rfl b9 P9 (S9.ups pa)) (by assumption) (by assumption) (by assumption) (by k_asm) (by assumption) (by first | exact rfl | assumption) rfl rfl ?_
        intro qb Tb tb led9 h9 tk9 F9 N9 Sb Pb bb z96 eb Eb
        clear z96
        first | k_unfold | skip
        try clear qk9
        try dsimp only
        try k_fold
        k_steps
        refine (let qk9 : Value → Shared → Prop := _; (?_ : wpAny _ _ _ qk9 _ _))
        first | ((with_reducible show wpAny _ _ (eval _ _) _ _ _); first | refine self_call (by assumption) (by k_asm) (by first | assumption | exact PS.cons (by assumption) | exact PS.cons (PS.cons (by assumption))) (by assumption) (by first | exact rfl | assumption) (by first | exact rfl | assumption) rfl rfl ⟨by k_is, by k_is, by k_is, by k_is, rfl⟩ rfl rfl ?_ | refine glob_call (by assumption) (by assumption) (by assumption) (by first | exact rfl | assumption) (by k_is) rfl rfl (by k_is) rfl ?_) | skip
        refine Con.useSay (Q := qk9) (say_np 155 rfl bb Pb Sb.cons List.mem_cons_self) (by assumption) (by assumption) (by assumption) (by k_asm) (by assumption) (by first | exact rfl | assumption) rfl rfl ?_
        intro qc Tc tc led9 h9 tk9 F9 N9 Sc Pc bc z96 ec Ec
        clear z96
        first | k_unfold | skip
        try clear qk9
        try dsimp only
        try k_fold
        k_steps
        refine (let qk9 : Value → Shared → Prop := _; (?_ : wpAny _ _ _ qk9 _ _))
        first | ((with_reducible show wpAny _ _ (eval _ _) _ _ _); first | refine self_call (by assumption) (by k_asm) (by first | assumption | exact PS.cons (by assumption) | exact PS.cons (PS.cons (by assumption))) (by assumption) (by first | exact rfl | assumption) (by first | exact rfl | assumption) rfl rfl ⟨by k_is, by k_is, by k_is, by k_is, rfl⟩ rfl rfl ?_ | refine glob_call (by assumption) (by assumption) (by assumption) (by first | exact rfl | assumption) (by k_is) rfl rfl (by k_is) rfl ?_) | skip
        refine Con.use2 (Q := qk9) (number_c) (by assumption) (by assumption) (by assumption) (by k_asm) (by assumption) (by first | exact rfl | assumption) rfl rfl ?_
        intro r9 led9 h9 tk9 F9 N9 Vd pd
        first | k_unfold | skip
        try clear qk9
        try dsimp only
        try k_fold
        k_steps
        refine (let qk9 : Value → Shared → Prop := _; (?_ : wpAny _ _ _ qk9 _ _))
        first | ((with_reducible show wpAny _ _ (eval _ _) _ _ _); first | refine self_call (by assumption) (by k_asm) (by first | assumption | exact PS.cons (by assumption) | exact PS.cons (PS.cons (by assumption))) (by assumption) (by first | exact rfl | assumption) (by first | exact rfl | assumption) rfl rfl ⟨by k_is, by k_is, by k_is, by k_is, rfl⟩ rfl rfl ?_ | refine glob_call (by assumption) (by assumption) (by assumption) (by first | exact rfl | assumption) (by k_is) rfl rfl (by k_is) rfl ?_) | skip
        refine Con.useSay (Q := qk9) (say_p 156 rfl bc Pc (Sc.ups pd)) (by assumption) (by assumption) (by assumption) (by k_asm) (by assumption) (by first | exact rfl | assumption) rfl rfl ?_
        intro qe Te te led9 h9 tk9 F9 N9 Se Pe be z96 ee Ee
        clear z96
        have Vx := (((Va.sub Eb.frz).sub Ec.cons'.frz).up pd).sub Ee.frz
        have Vy := Vd.sub Ee.frz
        have EE := ((((E59.trans (.up pa)).trans Eb).trans Ec.cons').trans (.up pd)).trans Ee
        first | k_unfold | skip
        try clear qk9
        try dsimp only
        try k_fold
        k_steps
        have hf : Fig (hi.toNat + 48) := ⟨by omega, by omega⟩
        have h48 : Fig 48 := ⟨by decide, by decide⟩
        have eT : Te = T5 ++ spT (some ⟨hi.toNat + 48, 48, q7, q9, qb, qc, qe⟩) := by rw [ee, ec, eb, e9, e7, fig_str hi0 hi1]; exact app5
        rw [eT] at Pe Se
        exact CNext.mk (by k_asm) (by k_asm) ⟨⟨_, rfl⟩, rfl, ⟨_, some ⟨hi.toNat + 48, 48, q7, q9, qb, qc, qe⟩, rfl, ⟨hf, h48⟩, .tup List.mem_cons_self (.cons (by rw [fig_num hi0]; exact Vx.up fun p hp => List.mem_cons_of_mem _ hp) (.cons (by rw [fig_zero]; exact Vy.up fun p hp => List.mem_cons_of_mem _ hp) .nil)), Pe, Se.cons⟩, EE.cons⟩
      · exact CNext.mk (by k_asm) (by k_asm) ⟨⟨_, rfl⟩, rfl, ⟨_, none, rfl, trivial, .none, by simpa [spT] using P5, by simpa [spT] using S6⟩, E56⟩
    clear P5 S5 b5 E5
    intro h6 tk6 m6 led6 hq9 F6 N6
    obtain ⟨⟨tw, m_w⟩, m_s, ⟨vx, sp, m_e, hsp, VX, P6, S6⟩, E6⟩ := hq9
    first | k_unfold | skip
    try clear qk9
    try dsimp only
    k_steps
    have hk4 := hk3 si sp b
    rw [eT5, eT3, List.append_assoc, List.append_assoc, ← hk4.1] at P6 S6
    exact hret _ _ _ _ (by k_asm) (by k_asm) ⟨⟨k, si, sp⟩, hsp, .tup List.mem_cons_self (.cons (.ofStr hw.symm) (.cons (.ofBool (by rw [hk4.2.1, hsi])) (.cons (by rw [hk4.2.2]; exact VX.up fun p hp => List.mem_cons_of_mem _ hp) .nil))), P6, S6.cons, E6.cons⟩
section
theorem moreP_app : ∀ (l : List (Int × PySem.Str × Int)) (a b : List TK), moreP l (a ++ b) = moreP l a ++ b
  | [], _, _ => rfl
  | (c, nm, j) :: l, a, b => by show _ :: _ :: moreP l (a ++ b) = (_ :: _ :: moreP l a) ++ b; rw [moreP_app l a b]; rfl
theorem moreP_snoc : ∀ (l : List (Int × PySem.Str × Int)) (c j : Int) (nm : PySem.Str) (r : List TK), moreP (l ++ [(c, nm, j)]) r = moreP l (.w "op" "," c :: .w "id" nm j :: r)
  | [], _, _, _, _ => rfl
  | (c, nm, j) :: l, c', j', nm', r => by show _ :: _ :: moreP (l ++ [(c', nm', j')]) r = _; rw [moreP_snoc l]; rfl
theorem PG.toks_app (g : PG) (a b : List TK) : g.toks (a ++ b) = g.toks a ++ b := by
  show _ :: (_ ++ _ :: moreP g.more (a ++ b)) = _
  rw [moreP_app]
  show _ = _ :: ((_ ++ _ :: moreP g.more a) ++ b)
  simp
noncomputable def PG.ok (g : PG) : Prop := PyData.strOk g.nm = true ∧ ∀ p ∈ g.more, PyData.strOk p.2.1 = true
noncomputable def PI (T0 : List TK) (f : PySem.Str → Dat) (i : Nat) (T : List TK) (ds : List Dat) : Prop :=
  (i = 0 ∧ T = T0 ∧ ds = []) ∨ ∃ nm j more, more.length + 1 = i ∧ PyData.strOk nm = true ∧ (∀ p ∈ more, PyData.strOk p.2.1 = true) ∧ T = T0 ++ (.w "id" nm j :: moreP more []) ∧ ds = f nm :: more.map fun p => f p.2.1
theorem PI.snoc {T0 T T1 T' : List TK} {f : PySem.Str → Dat} {i : Nat} {ds : List Dat} {nm : PySem.Str} {p : Int} (h : PI T0 f i T ds) (ok : PyData.strOk nm = true) (h0 : i = 0 → T1 = T) (h1 : i ≠ 0 → ∃ q, T1 = T ++ [.w "op" "," q]) (hT : T' = T1 ++ [.w "id" nm p]) : PI T0 f (i + 1) T' (ds ++ [f nm]) := by
  rcases h with ⟨rfl, rfl, rfl⟩ | ⟨nm0, j0, more, hl, h2, h3, eT, rfl⟩
  · exact .inr ⟨nm, p, [], rfl, ok, (fun p h => nomatch h), by rw [hT, h0 rfl]; rfl, rfl⟩
  · obtain ⟨q, e1⟩ := h1 (by omega)
    refine .inr ⟨nm0, j0, more ++ [(q, nm, p)], by simp; omega, h2, fun p hp => ?_, ?_, by simp⟩
    · rcases List.mem_append.mp hp with hp | hp
      · exact h3 p hp
      · rw [List.mem_singleton.mp hp]; exact ok
    · rw [hT, e1, eT, moreP_snoc, show ∀ {a b : TK}, ([a, b] : List TK) = [] ++ [a, b] from rfl, moreP_app]
      simp
theorem moreP_len (l : List (Int × PySem.Str × Int)) : (moreP l []).length = 2 * l.length := by
  induction l with
  | nil => rfl
  | cons p l ih => obtain ⟨c, nm, j⟩ := p; show (moreP l []).length + 1 + 1 = 2 * (l.length + 1); omega
theorem PI.len {T0 T : List TK} {f : PySem.Str → Dat} {i : Nat} {ds : List Dat} (h : PI T0 f i T ds) : T.length ≤ T0.length + 2 * i := by
  rcases h with ⟨rfl, rfl, rfl⟩ | ⟨nm, j, more, hl, -, -, eT, -⟩
  · omega
  · have := moreP_len more
    rw [eT, List.length_append, List.length_cons]; omega
theorem PI.dlen {T0 T : List TK} {f : PySem.Str → Dat} {i : Nat} {ds : List Dat} (h : PI T0 f i T ds) : ds.length = i := by
  rcases h with ⟨rfl, rfl, rfl⟩ | ⟨nm, j, more, hl, -, -, -, rfl⟩
  · rfl
  · rw [List.length_cons, List.length_map]; exact hl
theorem spT_len (o : Option SP) : (spT o).length ≤ 5 := by rcases o with _ | p <;> simp [spT]
theorem SH.toks_len (s : SH) : s.toks.length ≤ 7 := by
  obtain ⟨k, si, sp⟩ := s
  have a := spT_len sp
  have b : (siT si).length ≤ 1 := by rcases si with _ | j <;> simp [siT]
  cases k with
  | none => show (siT si ++ spT sp).length ≤ 7; rw [List.length_append]; omega
  | reg j => show (siT si ++ spT sp).length + 1 ≤ 7; rw [List.length_append]; omega
  | int j => exact Nat.le_of_ble_eq_true rfl
  | time j => exact Nat.le_of_ble_eq_true rfl
theorem dir_in {i : Int} (h0 : 0 ≤ i) (h1 : i < 3) : IsDir ((["input", "output", "inout"] : List PySem.Str).getD i.toNat PySem.Str.empty) := by
  have e : i = 0 ∨ i = 1 ∨ i = 2 := by omega
  rcases e with rfl | rfl | rfl
  · exact .inp
  · exact .out
  · exact .ino
theorem kw_all : ∀ i : Nat, i < 4 → KW ((["", "reg", "integer", "time"] : List PySem.Str).getD i Str.empty) := by
  intro i h
  have e : i = 0 ∨ i = 1 ∨ i = 2 ∨ i = 3 := by omega
  rcases e with rfl | rfl | rfl | rfl
  · exact .e
  · exact .r
  · exact .i
  · exact .t
theorem p_ok {k : Int} (h0 : 0 ≤ k) (h1 : k < 110) : PyData.strOk ("p" ++ PySem.Str.ofString (toString k)) = true := int_all (P := fun k => PyData.strOk ("p" ++ PySem.Str.ofString (toString k)) = true) (n := 110) (by decide +kernel) h0 h1
theorem map_ab {m mp : PySem.Str → Option Value} {a b : PySem.Str} {v : Option Value} (h : ∀ y : PySem.Str, y ≠ a → y ≠ b → m y = mp y) : (fun y => if y = a then v else m y) = fun y => if y = a then v else if y = b then m b else mp y := by
  funext y
  by_cases h1 : y = a
  · rw [if_pos h1, if_pos h1]
  rw [if_neg h1, if_neg h1]
  by_cases h2 : y = b
  · rw [if_pos h2, h2]
  rw [if_neg h2]; exact h y h1 h2
theorem fz_ne {h₀ h : Heap} {L q D : Addr} {o : Obj} {led : Led} {vs : List Value} {k : Nat} (N : News h₀ L h led) (m : (q, o) ∈ led) (mD : (D, listOf vs.toArray k) ∈ led) (f : Frz o) : @Ne Nat q D := fun e => by
  subst e; exact frz_list (news_one N m mD ▸ f)
theorem pre1 {D a : Addr} {o : Obj} (h : @Ne Nat a D) : ∀ p ∈ [(a, o)], @Ne Nat p.1 D := by
  intro p hp; rw [List.mem_singleton.mp hp]; exact h
noncomputable def PgR (sh rl : Addr) (T : List TK) (led : Led) (r : Value) (led' : Led) : Prop :=
  ∃ g : PG, g.wf ∧ g.ok ∧ (∃ D, r = .ref D ∧ LD D g.dats led') ∧ TP (T ++ g.toks []) ∧ LS led' sh rl (T ++ g.toks []) ∧ ExtL sh rl led led'
local macro_rules | `(tactic| walk_at "exec For") => `(tactic| (k_here; (rename Fr _ _ _ _ => lF'); (with_unfolding_all refine' For_V lF' ?_; k_whole)))
theorem law_ports_c {w : World} {led : Led} {sh rl : Addr} {T : List TK} {cnt : Int} {u : Tok} (c0 : 0 ≤ cnt) (c1 : cnt ≤ 100) (hT : T.length ≤ 120) (hP : TP T) (S : LS led sh rl T) :
    Con 870 7700 w 840 [.ref sh, .ref rl, .int cnt u] led (PgR sh rl T led) := by
  try unfold Con
  intro zmean zmg zmb zgd zcn zcs za zccd zcl zouter zA zbase zh zL zm zs zQ zE zB zF X zN zT zhk hret
  revert X; k_fill; intro X
  refine wpAny_call ?_
  k_dflt (refine' code_def ?k1 ?k2 ?k3 ?k4 ?k5 ?kA ?kF ?kK ?k6 ?k7 ?k8 ?k9 ?kB ?_ ?c2 ?c3 ?c4 ?c5; (case kA => exact rfl); (case kF => exact rfl); (case kK => assumption); (case k1 => k_asm); (case k2 => k_asm); (case k3 => k_asm); (case k4 => k_asm); (case k5 => k_asm); (case k6 => k_is); (case k7 => k_is); (case k8 => k_room); (case k9 => first | exact BindsTo.of_eq rfl | exact binds_K (by k_in) rfl (by k_is) rfl rfl rfl); (case c5 => decide); (case kB => exact locs rfl); (case c2 => exact rfl); (case c3 => exact rfl); (case c4 => exact rfl); k_whole; intro g' L' h' FG' F' N' B' X' T'; (try dsimp only); (try k_fold))
  (replace F' : Fr g' L' h' (fun y => List.lookup y [("count", .int cnt u), ("row", .ref rl), ("nest", .ref sh)]) := F')
  (refine at_toks ?_; intro tk0)
  (refine (let A9 : Around := _; let g9 : Array GenState := _; let d9 : Drawn := _; let o9 : OsState := _; (?_ : wpAny _ A9 _ _ _ ⟨_, g9, d9, _, o9⟩)))
  k_steps
  (rename ∀ p ∈ led, p.1 < _ => lD0)
  have nD0 := S.fresh lD0
  refine (let qk9 : Value → Shared → Prop := _; (?_ : wpAny _ _ _ qk9 _ _))
  first | ((with_reducible show wpAny _ _ (eval _ _) _ _ _); first | refine self_call (by assumption) (by k_asm) (by first | assumption | exact PS.cons (by assumption) | exact PS.cons (PS.cons (by assumption))) (by assumption) (by first | exact rfl | assumption) (by first | exact rfl | assumption) rfl rfl ⟨by k_is, by k_is, by k_is, by k_is, rfl⟩ rfl rfl ?_ | refine glob_call (by assumption) (by assumption) (by assumption) (by first | exact rfl | assumption) (by k_is) rfl rfl (by k_is) rfl ?_) | skip
  refine Con.useTwig (Q := qk9) (stalk_c (by decide) (by decide) S.cons) (by assumption) (by assumption) (by assumption) (by k_asm) (by assumption) (by first | exact rfl | assumption) rfl rfl ?_
  intro i ti led9 h9 tk9 F9 N9 i0 i1 S1 E1
  first | k_unfold | skip
  try clear qk9
  try dsimp only
  try k_fold
  refine item_strsR (ys := ["input", "output", "inout"]) (N9.isList (E1.oth _ _ List.mem_cons_self nD0.1 nD0.2)) (by repeat constructor) i0 i1 (by omega) (fun t4 => ?_)
  have hd := dir_in i0 i1
  generalize (["input", "output", "inout"] : List PySem.Str).getD i.toNat PySem.Str.empty = dir at hd
  clear i0 i1 S lD0 nD0
  k_steps
  refine (let qk9 : Value → Shared → Prop := _; (?_ : wpAny _ _ _ qk9 _ _))
  first | ((with_reducible show wpAny _ _ (eval _ _) _ _ _); first | refine self_call (by assumption) (by k_asm) (by first | assumption | exact PS.cons (by assumption) | exact PS.cons (PS.cons (by assumption))) (by assumption) (by first | exact rfl | assumption) (by first | exact rfl | assumption) rfl rfl ⟨by k_is, by k_is, by k_is, by k_is, rfl⟩ rfl rfl ?_ | refine glob_call (by assumption) (by assumption) (by assumption) (by first | exact rfl | assumption) (by k_is) rfl rfl (by k_is) rfl ?_) | skip
  refine Con.useSay (Q := qk9) (say_p 120 rfl hT hP S1) (by assumption) (by assumption) (by assumption) (by k_asm) (by assumption) (by first | exact rfl | assumption) rfl rfl ?_
  intro b T2 t2 led9 h9 tk9 F9 N9 S2 P2 b2 z96 e2 E2
  clear z96
  have E12 := E1.cons'.trans E2
  clear S1 E1 E2
  first | k_unfold | skip
  try clear qk9
  try dsimp only
  try k_fold
  k_steps
  (rename ∀ p ∈ led9, p.1 < _ => lD1)
  have nD1 := S2.fresh lD1
  refine (let qk9 : Value → Shared → Prop := _; (?_ : wpAny _ _ _ qk9 _ _))
  first | ((with_reducible show wpAny _ _ (eval _ _) _ _ _); first | refine self_call (by assumption) (by k_asm) (by first | assumption | exact PS.cons (by assumption) | exact PS.cons (PS.cons (by assumption))) (by assumption) (by first | exact rfl | assumption) (by first | exact rfl | assumption) rfl rfl ⟨by k_is, by k_is, by k_is, by k_is, rfl⟩ rfl rfl ?_ | refine glob_call (by assumption) (by assumption) (by assumption) (by first | exact rfl | assumption) (by k_is) rfl rfl (by k_is) rfl ?_) | skip
  refine Con.useS (Q := qk9) (law_shape_c (ys := ["", "reg", "integer", "time"]) (.cons _ _ (.cons _ _ (.cons _ _ (.cons _ _ .nil)))) rfl kw_all List.mem_cons_self nD1.1 nD1.2 (by omega) P2 S2.cons) (by assumption) (by assumption) (by assumption) (by k_asm) (by assumption) (by first | exact rfl | assumption) rfl rfl ?_
  rintro r9 led9 h9 tk9 F9 N9 ⟨s, hs, V3, P3, S3, E3⟩
  obtain ⟨a3, v1, v2, vx, n3, rfl, m3, g1, g2, VX⟩ := V3.inv3
  obtain ⟨u1, rfl⟩ := g1.inv_str
  first | k_unfold | skip
  try clear qk9
  try dsimp only
  try k_fold
  cases g2.inv_bool
  refine (let G9 : Prop := _; (?_ : G9))
  obtain ⟨T3, eT3⟩ : ∃ T3, T3 = T2 ++ s.toks := ⟨_, rfl⟩
  rw [← eT3] at P3 S3
  have hT3 : T3.length ≤ 128 := by rw [eT3, List.length_append]; have := s.toks_len; omega
  have E13 := E12.trans E3.cons'
  clear S2 P2 lD1 nD1 E12 E3 g1 V3
  first | k_unfold | skip
  try clear G9
  generalize s.k.word = wd at m3
  k_steps
  (rename List (Addr × Obj) => ledA)
  (rename ∀ p ∈ ledA, p.1 < _ => lD)
  have nD := S3.fresh lD
  refine (let qk9 : Value → Shared → Prop := _; (?_ : wpAny _ _ _ qk9 _ _))
  first | ((with_reducible show wpAny _ _ (eval _ _) _ _ _); first | refine self_call (by assumption) (by k_asm) (by first | assumption | exact PS.cons (by assumption) | exact PS.cons (PS.cons (by assumption))) (by assumption) (by first | exact rfl | assumption) (by first | exact rfl | assumption) rfl rfl ⟨by k_is, by k_is, by k_is, by k_is, rfl⟩ rfl rfl ?_ | refine glob_call (by assumption) (by assumption) (by assumption) (by first | exact rfl | assumption) (by k_is) rfl rfl (by k_is) rfl ?_) | skip
  refine Con.useTwig (Q := qk9) (stalk_c (by decide) (by decide) S3.cons) (by assumption) (by assumption) (by assumption) (by k_asm) (by assumption) (by first | exact rfl | assumption) rfl rfl ?_
  intro cn tc led9 h9 tk9 F9 N9 d0 d2 S4 E4
  have mD := E4.oth _ _ List.mem_cons_self nD.1 nD.2
  have hc : Hold (0 ≤ cn ∧ cn < 3) := ⟨d0, d2⟩
  clear d0 d2
  first | k_unfold | skip
  try clear qk9
  try dsimp only
  try k_fold
  k_steps
  unfold Hold at hc
  refine (let G9 : Prop := _; (?_ : G9))
  obtain ⟨d0, d2⟩ := hc
  (rename IsRange _ _ _ _ _ _ _ _ => hR); (rename Fr _ _ _ _ => Fl); (rename News _ _ _ _ => Nl)
  have hbb : ∀ p ∈ ledA, p ∈ led9 ∨ @LT.lt Nat _ p.1 _ := fun p hp => by
    by_cases h1 : p.1 = sh
    · obtain ⟨_, _, _, m, _⟩ := S4.sheaf
      rw [h1]; exact .inr (Heap.lt_size (Nl _ m).1)
    by_cases h2 : p.1 = rl
    · obtain ⟨_, _, m, _⟩ := S4.row
      rw [h2]; exact .inr (Heap.lt_size (Nl _ m).1)
    exact .inl (E4.cons'.oth _ _ hp h1 h2)
  first | k_unfold | skip
  try clear G9
  revert Fl
  refine (let mp : PySem.Str → Option Value := _; (?_ : Fr _ _ _ mp → _))
  intro Fl
  show Hold _
  unfold Hold
  refine for_law (base := ledA) (n := (1 + cn).toNat) (ds := []) (vs := [vx]) (fs := [s.ex b]) (fun i m T ds vs fs => (∀ y : PySem.Str, y ≠ "step" → y ≠ "name" → m y = mp y) ∧ vs = [vx] ∧ fs = [s.ex b] ∧ PI T3 (fun nm => .tuple [.str "port", .int b, .str dir, .bool s.sg, s.ex b, .str nm]) i T ds) rfl hR
    (int_all (P := fun c => Builtin.Range.small 0 (1 + c) 1 = true) (n := 3) (by decide) d0 d2) (int_all (P := fun c => Builtin.Range.rangeSize 0 (1 + c) 1 = ((1 + c).toNat : Int)) (n := 3) (by decide) d0 d2) Fl Nl
    ⟨S4, P3, E4.cons', ⟨[], _, mD, .nil⟩, .cons (VX.sub E4.cons'.frz) .nil, fun p hp => Nat.ne_of_lt (lD p hp), nD.1, nD.2⟩ ⟨fun _ _ _ => rfl, rfl, rfl, .inl ⟨rfl, rfl, rfl⟩⟩ hbb ?_ ?_
  · clear hret Fl Nl hbb hR S3 S4 E4 mD E13
    intro i t m₁ Tk ds vs fs h tk I oI led₁ hi hq9 S₁ F₁ N₁
    refine (let G9 : Prop := _; (?_ : G9))
    obtain ⟨hm, rfl, rfl, hI⟩ := hq9
    rw [map_ab hm] at F₁
    first | k_unfold | skip
    try clear G9
    generalize m₁ "name" = o9 at F₁
    clear hm
    have hTl := hI.len
    have hTk : Tk.length ≤ 136 := by omega
    refine cutL F₁ (fun led' => ∃ T1, TP T1 ∧ LS led' sh rl T1 ∧ ExtL sh rl led₁ led' ∧ (i = 0 → T1 = Tk) ∧ (i ≠ 0 → ∃ q, T1 = Tk ++ [.w "op" "," q]) ∧ T1.length ≤ 137) ?_ ?_
    · k_steps
      ·
        refine (let qk9 : Value → Shared → Prop := _; (?_ : wpAny _ _ _ qk9 _ _))
        first | ((with_reducible show wpAny _ _ (eval _ _) _ _ _); first | refine self_call (by assumption) (by k_asm) (by first | assumption | exact PS.cons (by assumption) | exact PS.cons (PS.cons (by assumption))) (by assumption) (by first | exact rfl | assumption) (by first | exact rfl | assumption) rfl rfl ⟨by k_is, by k_is, by k_is, by k_is, rfl⟩ rfl rfl ?_ | refine glob_call (by assumption) (by assumption) (by assumption) (by first | exact rfl | assumption) (by k_is) rfl rfl (by k_is) rfl ?_) | skip
        refine Con.useSay (Q := qk9) (say_p 136 rfl hTk S₁.tp S₁.ls) (by assumption) (by assumption) (by assumption) (by k_asm) (by assumption) (by first | exact rfl | assumption) rfl rfl ?_
        intro q5 T5 t5 led9 h9 tk9 F9 N9 S5 P5 b5 z96 e5 E5
        clear z96
        first | k_unfold | skip
        try clear qk9
        try dsimp only
        try k_fold
        k_steps
        exact CNext.mk (by k_asm) (by k_asm) ⟨⟨T5, P5, S5, E5, (fun e => by omega), fun _ => ⟨q5, e5⟩, b5⟩, rfl⟩
      · exact CNext.mk (by k_asm) (by k_asm) ⟨⟨Tk, S₁.tp, S₁.ls, ExtL.refl, fun _ => rfl, fun h => absurd (by omega) h, by omega⟩, rfl⟩
    clear F₁ N₁
    intro hA tkA ledB hq9 FA NA
    obtain ⟨T1, P1, S1, E1, e0, e1, lT1⟩ := hq9
    have hok := p_ok (k := cnt + (0 + (i : Int) * 1)) (by omega) (by omega)
    first | k_unfold | skip
    try clear qk9
    try dsimp only
    k_steps
    generalize ("p" ++ PySem.Str.ofString (toString (cnt + (0 + (i : Int) * 1))) : PySem.Str) = nm at *
    refine (let qk9 : Value → Shared → Prop := _; (?_ : wpAny _ _ _ qk9 _ _))
    first | ((with_reducible show wpAny _ _ (eval _ _) _ _ _); first | refine self_call (by assumption) (by k_asm) (by first | assumption | exact PS.cons (by assumption) | exact PS.cons (PS.cons (by assumption))) (by assumption) (by first | exact rfl | assumption) (by first | exact rfl | assumption) rfl rfl ⟨by k_is, by k_is, by k_is, by k_is, rfl⟩ rfl rfl ?_ | refine glob_call (by assumption) (by assumption) (by assumption) (by first | exact rfl | assumption) (by k_is) rfl rfl (by k_is) rfl ?_) | skip
    refine Con.useSay (Q := qk9) (say_p 137 rfl lT1 P1 S1) (by assumption) (by assumption) (by assumption) (by k_asm) (by assumption) (by first | exact rfl | assumption) rfl rfl ?_
    intro q7 T7 t7 led9 h9 tk9 F9 N9 S7 P7 b7 l7 e7 E7
    have EA := E1.trans E7
    obtain ⟨ys, kk, mD, VD⟩ := S₁.ld
    have mD7 := EA.oth _ _ mD S₁.ns S₁.nr
    have hz : ys.length ≤ 1000 := by rw [VD.length, hI.dlen]; omega
    have VX7 := S₁.vi.hd.sub EA.frz
    have nC := fun (q : Addr) (o : Obj) (f : Frz o) (m : (q, o) ∈ led9) => fz_ne N9 m mD7 f
    clear mD
    first | k_unfold | skip
    try clear qk9
    try dsimp only
    try k_fold
    k_steps
    rename_i D9 hh3 lD9 hh4 Ft Nt
    exact FEnd.mk Ft Nt (LSt.putN (pre := [_]) nC S7 P7 (S₁.ext.trans EA) (VD.sub EA.frz) (.cons VX7 .nil) S₁.nD S₁.ns S₁.nr (pre1 (Nat.ne_of_gt (lD9 _ mD7))) (fun fin z zp => .tup (zp _ List.mem_cons_self) (.cons (.str _ _) (.cons (.int _ _) (.cons (.str _ _) (.cons (.bool _) (.cons (VX7.sub z) (.cons (.str _ _) .nil))))))))
      ⟨fun y h1 h2 => (if_neg h2).trans ((if_neg h1).trans (if_neg h2)), rfl, rfl, hI.snoc hok e0 e1 e7⟩
  · clear hbb hR S4 E4 mD
    intro m₁ Tk ds vs fs h tk led₁ hq9 S₁ F₁ N₁
    refine (let G9 : Prop := _; (?_ : G9))
    obtain ⟨hm, rfl, rfl, hI⟩ := hq9
    have m_fo := (hm "found" (by decide) (by decide)).trans (show mp "found" = some (.ref _) from rfl)
    obtain ⟨nm, j, more, hl, ok1, ok2, eT, eds⟩ := hI.resolve_left (fun h => by omega)
    first | k_unfold | skip
    try clear G9
    k_steps
    have eT9 : Tk = T ++ (PG.toks ⟨dir, b, s, nm, j, more⟩ []) := by rw [eT, eT3, e2]; simp [PG.toks]
    refine (let G9 : Prop := _; (?_ : G9))
    obtain ⟨ls, tp, ext, ld, -, -, -, -⟩ := S₁
    rw [eT9] at ls tp
    rw [eds] at ld
    first | k_unfold | skip
    try clear G9
    exact hret _ _ _ _ (by k_asm) (by k_asm) ⟨⟨dir, b, s, nm, j, more⟩, ⟨hd, hs, by show more.length ≤ 2; omega⟩, ⟨ok1, ok2⟩, ⟨_, rfl, ld⟩, tp, ls, E13.trans ext⟩
end
end
end
end
end
noncomputable def law13 : List Stmt := by
  refine (?f : (x : List Stmt) → x = List.drop 13 (b847 : List Stmt) → List Stmt) _ (by (conv => rhs; whnf))
  exact fun x _ => x
noncomputable def law14 : List Stmt := by
  refine (?f : (x : List Stmt) → x = List.drop 14 (b847 : List Stmt) → List Stmt) _ (by (conv => rhs; whnf))
  exact fun x _ => x
noncomputable def law16 : List Stmt := by
  refine (?f : (x : List Stmt) → x = List.drop 16 (b847 : List Stmt) → List Stmt) _ (by (conv => rhs; whnf))
  exact fun x _ => x
noncomputable def law24 : List Stmt := by
  refine (?f : (x : List Stmt) → x = List.drop 24 (b847 : List Stmt) → List Stmt) _ (by (conv => rhs; whnf))
  exact fun x _ => x
structure LMap (m : PySem.Str → Option Value) (rl sh D : Addr) (fn a sg : Bool) (b : Int) (vx vf : Value) : Prop where
  row : m "row" = some (.ref rl)
  nest : m "nest" = some (.ref sh)
  due : m "due" = some (.ref D)
  sort : ∃ t, m "sort" = some (.str (sortW fn) t)
  begun : ∃ t, m "begun" = some (.int b t)
  aut : m "automatic" = some (.bool a)
  sig : m "signed" = some (.bool sg)
  ext : m "extent" = some vx
  flt : m "fault" = some vf
noncomputable def lNames : List PySem.Str := ["row", "nest", "due", "sort", "begun", "automatic", "signed", "extent", "fault"]
theorem ln_ne {n y : PySem.Str} (h : lNames.contains n = false) (k : lNames.contains y = true) : y ≠ n := fun e => by subst e; rw [h] at k; cases k
theorem LMap.set {m : PySem.Str → Option Value} {rl sh D : Addr} {fn a sg : Bool} {b : Int} {vx vf : Value} {n : PySem.Str} {o : Option Value} (M : LMap m rl sh D fn a sg b vx vf) (h : lNames.contains n = false) : LMap (fun y => if y = n then o else m y) rl sh D fn a sg b vx vf :=
  ⟨(if_neg (ln_ne h rfl)).trans M.row, (if_neg (ln_ne h rfl)).trans M.nest, (if_neg (ln_ne h rfl)).trans M.due, M.sort.imp fun _ e => (if_neg (ln_ne h rfl)).trans e, M.begun.imp fun _ e => (if_neg (ln_ne h rfl)).trans e,
    (if_neg (ln_ne h rfl)).trans M.aut, (if_neg (ln_ne h rfl)).trans M.sig, (if_neg (ln_ne h rfl)).trans M.ext, (if_neg (ln_ne h rfl)).trans M.flt⟩
theorem LMap.put {m : PySem.Str → Option Value} {rl sh D : Addr} {fn a sg : Bool} {b : Int} {vx vf vf' : Value} (M : LMap m rl sh D fn a sg b vx vf) : LMap (fun y => if y = "fault" then some vf' else m y) rl sh D fn a sg b vx vf' :=
  ⟨(if_neg (by decide)).trans M.row, (if_neg (by decide)).trans M.nest, (if_neg (by decide)).trans M.due, M.sort.imp fun _ e => (if_neg (by decide)).trans e, M.begun.imp fun _ e => (if_neg (by decide)).trans e,
    (if_neg (by decide)).trans M.aut, (if_neg (by decide)).trans M.sig, (if_neg (by decide)).trans M.ext, if_pos rfl⟩
theorem LMap.setD {m : PySem.Str → Option Value} {rl sh D : Addr} {fn a sg : Bool} {b : Int} {vx vf : Value} (M : LMap m rl sh D fn a sg b vx vf) : LMap (fun y => if y = "due" then some (.ref D) else m y) rl sh D fn a sg b vx vf :=
  ⟨(if_neg (by decide)).trans M.row, (if_neg (by decide)).trans M.nest, if_pos rfl, M.sort.imp fun _ e => (if_neg (by decide)).trans e, M.begun.imp fun _ e => (if_neg (by decide)).trans e,
    (if_neg (by decide)).trans M.aut, (if_neg (by decide)).trans M.sig, (if_neg (by decide)).trans M.ext, (if_neg (by decide)).trans M.flt⟩
theorem tlT_app : ∀ (l : List (Int × PG)) (a b : List TK), tlT l (a ++ b) = tlT l a ++ b
  | [], _, _ => rfl
  | (c, g) :: l, a, b => by show _ :: g.toks (tlT l (a ++ b)) = (_ :: g.toks (tlT l a)) ++ b; rw [tlT_app l, PG.toks_app]; rfl
theorem tlT_snoc : ∀ (l : List (Int × PG)) (c : Int) (g : PG) (r : List TK), tlT (l ++ [(c, g)]) r = tlT l (.w "op" "," c :: g.toks r)
  | [], _, _, _ => rfl
  | (c, g) :: l, c', g', r => by show _ :: g.toks (tlT (l ++ [(c', g')]) r) = _; rw [tlT_snoc l]; rfl
theorem hsT_app (l : List (Int × PG)) (a b : List TK) : hsT l (a ++ b) = hsT l a ++ b := by
  cases l with
  | nil => rfl
  | cons p l => obtain ⟨c, g⟩ := p; show g.toks (tlT l (a ++ b)) = g.toks (tlT l a) ++ b; rw [tlT_app, PG.toks_app]
theorem PG.toks_len {g : PG} (h : g.wf) : (g.toks []).length ≤ 13 := by
  have h1 := g.sh.toks_len
  have h2 := h.l
  have h3 := moreP_len g.more
  show (_ :: (g.sh.toks ++ _ :: moreP g.more [])).length ≤ 13
  rw [List.length_cons, List.length_append, List.length_cons]; omega
noncomputable def HI (T0 : List TK) (i : Nat) (T : List TK) (ds : List Dat) : Prop := ∃ l : List (Int × PG), l.length = i ∧ (∀ p ∈ l, p.2.wf ∧ p.2.ok) ∧ T = T0 ++ hsT l [] ∧ ds = psD l ∧ T.length ≤ T0.length + 14 * i ∧ ds.length ≤ 3 * i
theorem HI.snoc {T0 T T1 T' : List TK} {i : Nat} {ds : List Dat} {g : PG} (h : HI T0 i T ds) (hg : g.wf) (ok : g.ok) (h0 : i = 0 → T1 = T) (h1 : i ≠ 0 → ∃ q, T1 = T ++ [.w "op" "," q]) (hl : T1.length ≤ T.length + 1) (hT : T' = T1 ++ g.toks []) : HI T0 (i + 1) T' (ds ++ g.dats) := by
  obtain ⟨l, e1, hw, eT, rfl, hl1, hl2⟩ := h
  have n1 : T'.length ≤ T0.length + 14 * (i + 1) := by
    have := PG.toks_len hg
    rw [hT, List.length_append]; omega
  have n2 : (psD l ++ g.dats).length ≤ 3 * (i + 1) := by
    have := PG.dats_len hg
    rw [List.length_append]; omega
  have hw2 : ∀ c : Int, ∀ p ∈ l ++ [(c, g)], p.2.wf ∧ p.2.ok := fun c p hp => by
    rcases List.mem_append.mp hp with hp | hp
    · exact hw p hp
    · rw [List.mem_singleton.mp hp]; exact ⟨hg, ok⟩
  cases l with
  | nil =>
    refine ⟨[(0, g)], by rw [← e1]; rfl, hw2 0, ?_, by simp [psD], n1, n2⟩
    rw [hT, h0 e1.symm, eT, List.append_assoc]; rfl
  | cons p l =>
    obtain ⟨c0, g0⟩ := p
    rw [List.length_cons] at e1
    obtain ⟨q, e⟩ := h1 (by omega)
    refine ⟨(c0, g0) :: (l ++ [(q, g)]), by rw [List.length_cons, List.length_append, List.length_singleton]; omega, hw2 q, ?_, ?_, n1, n2⟩
    · rw [hT, e, eT]
      show _ = T0 ++ g0.toks (tlT (l ++ [(q, g)]) [])
      rw [tlT_snoc, show (TK.w "op" "," q :: g.toks []) = [] ++ (.w "op" "," q :: g.toks []) from rfl, tlT_app, PG.toks_app]
      show T0 ++ g0.toks (tlT l []) ++ _ ++ _ = _
      simp
    · show _ = g0.dats ++ psD (l ++ [(q, g)])
      rw [psD_app]; simp [psD]
noncomputable def DI.ok : DI → Prop
  | .ports g _ => g.ok
  | .int _ nm _ _ => PyData.strOk nm = true
theorem DI.toks_app (d : DI) (a b : List TK) : d.toks (a ++ b) = d.toks a ++ b := by
  cases d with
  | ports g e => show g.toks ((.w "op" ";" e :: a) ++ b) = _; rw [PG.toks_app]; rfl
  | int b nm j e => rfl
theorem dsT_app : ∀ (l : List DI) (a b : List TK), dsT l (a ++ b) = dsT l a ++ b
  | [], _, _ => rfl
  | d :: l, a, b => by show d.toks (dsT l (a ++ b)) = d.toks (dsT l a) ++ b; rw [dsT_app l, DI.toks_app]
theorem dsT_snoc : ∀ (l : List DI) (d : DI) (r : List TK), dsT (l ++ [d]) r = dsT l (d.toks r)
  | [], _, _ => rfl
  | d :: l, d', r => by show d.toks (dsT (l ++ [d']) r) = _; rw [dsT_snoc l]; rfl
theorem DI.toks_len {d : DI} (h : d.wf) : (d.toks []).length ≤ 14 := by
  cases d with
  | ports g e =>
    have := PG.toks_len (g := g) h
    show (g.toks ([] ++ [.w "op" ";" e])).length ≤ 14
    rw [PG.toks_app, List.length_append, List.length_singleton]; omega
  | int b nm j e => exact Nat.le_of_ble_eq_true rfl
noncomputable def DJ (T0 : List TK) (D0 : List Dat) (i : Nat) (T : List TK) (ds : List Dat) : Prop := ∃ l : List DI, l.length = i ∧ (∀ d ∈ l, d.wf ∧ d.ok) ∧ T = T0 ++ dsT l [] ∧ ds = D0 ++ dsD l ∧ T.length ≤ T0.length + 14 * i ∧ ds.length ≤ D0.length + 3 * i
theorem DJ.snoc {T0 T T' : List TK} {D0 : List Dat} {i : Nat} {ds : List Dat} {d : DI} (h : DJ T0 D0 i T ds) (hd : d.wf) (ok : d.ok) (hT : T' = T ++ d.toks []) : DJ T0 D0 (i + 1) T' (ds ++ d.dats) := by
  obtain ⟨l, e1, hw, eT, rfl, hl1, hl2⟩ := h
  refine ⟨l ++ [d], by rw [List.length_append, e1]; rfl, fun p hp => ?_, ?_, ?_, ?_, ?_⟩
  · rcases List.mem_append.mp hp with hp | hp
    · exact hw p hp
    · rw [List.mem_singleton.mp hp]; exact ⟨hd, ok⟩
  · rw [hT, eT, dsT_snoc, List.append_assoc, show d.toks [] = [] ++ d.toks [] from rfl, dsT_app]; rfl
  · rw [dsD_app, List.append_assoc]; simp [dsD]
  · have := DI.toks_len hd
    rw [hT, List.length_append]; omega
  · have := DI.dats_len hd
    rw [List.length_append]; omega
theorem LSt.grow {h₀ h : Heap} {L : Addr} {base led : Led} {sh rl D : Addr} {T : List TK} {ds es : List Dat} {vs us : List Value} {k k' : Nat} {xs : List Value} {fs : List Dat} (N : News h₀ L h led) (hD : (D, listOf vs.toArray k) ∈ led)
    (S : LS led sh rl T) (tp : TP T) (E : ExtL sh rl base led) (V : VIs led vs ds) (v : VIs led us es) (vi : VIs led xs fs) (nD : ∀ p ∈ base, @Ne Nat p.1 D) (ns : @Ne Nat D sh) (nr : @Ne Nat D rl) :
    LSt base sh rl D ((D, listOf (vs ++ us).toArray k') :: Mine.off D led) T (ds ++ es) xs fs := by
  have z : Sub led ((D, listOf (vs ++ us).toArray k') :: Mine.off D led) := sub_putD N hD
  obtain ⟨⟨ys, is, n, hs, hi⟩, ⟨ws, n2, hr, hT⟩, hne⟩ := S
  exact ⟨⟨⟨ys, is, n, List.mem_cons_of_mem _ (mem_off hs ns.symm), hi⟩, ⟨ws, n2, List.mem_cons_of_mem _ (mem_off hr nr.symm), hT.sub z⟩, hne⟩, tp, ⟨fun q o f m => z _ _ f (E.frz q o f m), fun q o m a b => List.mem_cons_of_mem _ (mem_off (E.oth q o m a b) (nD _ m))⟩,
    ⟨_, _, List.mem_cons_self, (V.sub z).app (v.sub z)⟩, vi.sub z, nD, ns, nr⟩
theorem LSt.ext' {base led led' : Led} {sh rl D : Addr} {T T' : List TK} {ds : List Dat} {vs : List Value} {fs : List Dat} (S : LSt base sh rl D led T ds vs fs) (E : ExtL sh rl led led') (ls : LS led' sh rl T') (tp : TP T') : LSt base sh rl D led' T' ds vs fs := by
  obtain ⟨ys, k, m, v⟩ := S.ld
  exact ⟨ls, tp, S.ext.trans E, ⟨ys, k, E.oth _ _ m S.ns S.nr, v.sub E.frz⟩, S.vi.sub E.frz, S.nD, S.ns, S.nr⟩
noncomputable def FV (v : Value) (o : Option Int) : Prop := match o with
  | none => v = .none
  | some p => ∃ t, v = .int p t
theorem Con.useL {dp un : Nat} {w : World} {f : Addr} {args : List Value} {led : Led} {R : Value → Led → Prop} {cn : PySem.Str} {cs : Scope} {a : Addr} {ccd : Value} {base h₀ : Heap} {mean : ExcName → Option Value} {mg mb : PySem.Str → Option Value} {L : Addr} {m : PySem.Str → Option Value} {s : Shared} {Q E : Value → Shared → Prop}
    (C : Con dp un w f args led R) (B : Below callerA base [] h₀) (F : Fr h₀ L s.heap m) (X : (headK w.params).In h₀) (N : News h₀ L s.heap led) (T : Top headV LO mean mg mb h₀) (hk : cs.kind = .function)
    (hd : (callerA.deeper (envOf cn cs L a ccd)).depth ≤ dp) (hu : (callerA.deeper (envOf cn cs L a ccd)).units ≤ un)
    (ret : ∀ r led' h' tk', Fr h₀ L h' m → News h₀ L h' led' → R r led' → Q r { s with heap := h', toks := tk' }) :
    wpAny (model PySem.Challenge.rw_pq0478_02.row.prog w) (callerA.deeper (envOf cn cs L a ccd)) (call (.ref f) args) Q E s :=
  Con.use C B F X N T hk hd hu ret
theorem row_c {w : World} {rl : Addr} {led : Led} : Con 890 8000 w 99 [.ref rl] led (fun r led' => ∃ sx sdx h0 h1 h2 t0 t1 t2 u, r = .ref sx ∧ (sx, instObj 99 sdx) ∈ led' ∧ (sdx, dictOf [⟨h0, .str "tokens" t0, .ref rl⟩, ⟨h1, .str "place" t1, .int 0 u⟩, ⟨h2, .str "parted" t2, .bool false⟩] 3) ∈ led' ∧
    (∀ p ∈ led, p ∈ led') ∧ (∀ p ∈ led, @LT.lt Nat _ p.1 sdx) ∧ @LT.lt Nat _ sdx sx) := by
  unfold Con
  intro zmean zmg zmb zgd zcn zcs za zccd zcl zouter zA zbase zh zL zm zs zQ zE zB zF X zN zT zhk hret
  revert X; k_fill; intro X
  k_dflt (refine' call_cls ?k1 ?k2 ?k3 ?k4 ?k5 ?k6 ?_; (case k1 => k_asm); (case k2 => k_asm); (case k3 => k_asm); (case k4 => k_is); (case k5 => k_is); (case k6 => k_is); k_whole; intro x' d' h' F' N' l1 l2)
  k_dflt (refine' code_def ?k1 ?k2 ?k3 ?k4 ?k5 ?kA ?kF ?kK ?k6 ?k7 ?k8 ?k9 ?kB ?_ ?c2 ?c3 ?c4 ?c5; (case kA => exact rfl); (case kF => exact rfl); (case kK => assumption); (case k1 => k_asm); (case k2 => k_asm); (case k3 => k_asm); (case k4 => k_asm); (case k5 => k_asm); (case k6 => k_is); (case k7 => k_is); (case k8 => k_room); (case k9 => first | exact BindsTo.of_eq rfl | exact binds_K (by k_in) rfl (by k_is) rfl rfl rfl); (case c5 => decide); (case kB => exact locs rfl); (case c2 => exact rfl); (case c3 => exact rfl); (case c4 => exact rfl); k_whole; intro g' L' h' FG' F' N' B' X' T'; (try dsimp only); (try k_fold))
  (replace F' : Fr g' L' _ (fun y => List.lookup y [("tokens", .ref rl), ("self", .ref x')]) := F')
  (refine at_toks ?_; intro tk0)
  k_steps
  exact hret _ _ _ _ (by k_asm) (by k_asm) ⟨x', d', _, _, _, _, _, _, _, rfl, List.mem_cons_of_mem _ (mem_off List.mem_cons_self (Nat.ne_of_gt l2)), List.mem_cons_self, fun p hp => List.mem_cons_of_mem _ (mem_off (List.mem_cons_of_mem _ (List.mem_cons_of_mem _ hp)) (Nat.ne_of_lt (l1 p hp))), l1, l2⟩
theorem pd_mk {P : PA} {a0 a1 a2 a3 a4 a5 a6 a7 i dep : Int} {s0 s1 s2 s3 s4 s5 s6 s7 u4 u5 : Tok} {hb wi ne : Bool} {tv : Addr} {led : Led} (m : (P.dx, dictOf [⟨a0, .str "source" s0, .ref P.sx⟩, ⟨a1, .str "ahead" s1, .ref P.al⟩, ⟨a2, .str "hashed" s2, .bool hb⟩, ⟨a3, .str "token" s3, .ref tv⟩, ⟨a4, .str "at" s4, .int i u4⟩, ⟨a5, .str "depth" s5, .int dep u5⟩, ⟨a6, .str "within" s6, .bool wi⟩, ⟨a7, .str "nested" s7, .bool ne⟩] 8) ∈ led) :
    ∃ k u4 u5 hb, (P.dx, pDict P k u4 u5 hb tv i dep wi ne) ∈ led := ⟨fun n => match n with | 0 => (a0, s0) | 1 => (a1, s1) | 2 => (a2, s2) | 3 => (a3, s3) | 4 => (a4, s4) | 5 => (a5, s5) | 6 => (a6, s6) | _ => (a7, s7), u4, u5, hb, m⟩
theorem parser_c {w : World} {rl sx sdx : Addr} {h0 h1 h2 : Int} {t0 t1 t2 u : Tok} {text : PySem.Str} {i2 : Int} {n4 : Nat} {vs : List Value} {ts : List TK} {led : Led}
    (hs : (sx, instObj 99 sdx) ∈ led) (hsd : (sdx, dictOf [⟨h0, .str "tokens" t0, .ref rl⟩, ⟨h1, .str "place" t1, .int 0 u⟩, ⟨h2, .str "parted" t2, .bool false⟩] 3) ∈ led) (hl : (rl, listOf vs.toArray n4) ∈ led) (hv : Toks led vs (.w "key" text i2 :: ts)) (hlen : vs.length ≤ 1000) :
    Con 860 7700 w 796 [.ref sx] led (fun r led' => ∃ P : PA, r = .ref P.x ∧ P.rl = rl ∧ P.sdx = sdx ∧ PS led' P (.w "key" text i2) ts 0 false false ∧ Sub led led' ∧ (∀ q o, (q, o) ∈ led → @Ne Nat q sdx → (q, o) ∈ led') ∧ (∀ p ∈ led, @LT.lt Nat _ p.1 P.dx ∧ @LT.lt Nat _ p.1 P.al)) := by
  cases hv with
  | @cons v vs' _ _ ht hr =>
  cases ht with
  | @w tb tbd kb ub0 ub1 ub2 _ _ _ htb htbd =>
  unfold Con
  intro zmean zmg zmb zgd zcn zcs za zccd zcl zouter zA zbase zh zL zm zs zQ zE zB zF X zN zT zhk hret
  have n1 : @Ne Nat sx sdx := news_ne zN hs hsd (fun e => by injection e with e1; injection e1)
  have n2 : @Ne Nat rl sdx := news_ne zN hl hsd (fun e => by injection e with e1; injection e1 with e1; revert e1; decide)
  have n3 : @Ne Nat tb sdx := news_ne zN htb hsd (fun e => by injection e with e1; injection e1)
  have fz : ∀ {q o}, Frz o → (q, o) ∈ led → @Ne Nat q sdx := fun f m => news_ne zN m hsd fun e => frz_dict (by decide) (e ▸ f)
  revert X; k_fill; intro X
  k_dflt (refine' call_cls ?k1 ?k2 ?k3 ?k4 ?k5 ?k6 ?_; (case k1 => k_asm); (case k2 => k_asm); (case k3 => k_asm); (case k4 => k_is); (case k5 => k_is); (case k6 => k_is); k_whole; intro x' d' h' F' N' l1 l2)
  have u : ∀ {q o}, @Ne Nat q sdx → (q, o) ∈ led → (q, o) ∈ Mine.off d' (Mine.off sdx ((x', instObj 796 d') :: (d', dictOf [] 0) :: led)) := fun n m => mem_off (mem_off (List.mem_cons_of_mem _ (List.mem_cons_of_mem _ m)) n) (Nat.ne_of_lt (l1 _ m))
  have hx : (x', instObj 796 d') ∈ Mine.off d' (Mine.off sdx ((x', instObj 796 d') :: (d', dictOf [] 0) :: led)) := mem_off (mem_off List.mem_cons_self (Nat.ne_of_gt (Nat.lt_trans (l1 _ hsd) l2))) (Nat.ne_of_gt l2)
  have C := Con.sub (led := (x', instObj 796 d') :: (d', dictOf [] 0) :: led) (fun p hp => by
    rcases List.mem_cons.mp hp with rfl | hp
    · exact List.mem_cons_of_mem _ List.mem_cons_self
    rcases List.mem_cons.mp hp with rfl | hp
    · exact List.mem_cons_of_mem _ (List.mem_cons_of_mem _ hsd)
    · exact of_off (of_off hp)) (cur_init (w := w) hx (u n1 hs) (u n2 hl) (kb := kb) rfl hlen (by simp only [List.length_cons]; omega) (u n3 htb) (u (fz (.tok _ _ _ _ _) htbd) htbd) (Nat.ne_of_gt (l1 _ hsd)) off_ne (fun p hp => off_ne p (of_off hp)))
  k_dflt (refine' code_def ?k1 ?k2 ?k3 ?k4 ?k5 ?kA ?kF ?kK ?k6 ?k7 ?k8 ?k9 ?kB ?_ ?c2 ?c3 ?c4 ?c5; (case kA => exact rfl); (case kF => exact rfl); (case kK => assumption); (case k1 => k_asm); (case k2 => k_asm); (case k3 => k_asm); (case k4 => k_asm); (case k5 => k_asm); (case k6 => k_is); (case k7 => k_is); (case k8 => k_room); (case k9 => first | exact BindsTo.of_eq rfl | exact binds_K (by k_in) rfl (by k_is) rfl rfl rfl); (case c5 => decide); (case kB => exact locs rfl); (case c2 => exact rfl); (case c3 => exact rfl); (case c4 => exact rfl); k_whole; intro g' L' h' FG' F' N' B' X' T'; (try dsimp only); (try k_fold))
  (replace F' : Fr g' L' _ (fun y => List.lookup y [("source", .ref sx), ("self", .ref x')]) := F')
  (refine at_toks ?_; intro tk0)
  k_steps
  refine (let qk9 : Value → Shared → Prop := _; (?_ : wpAny _ _ _ qk9 _ _))
  skip
  refine Con.useS (Q := qk9) (C) (by assumption) (by assumption) (by assumption) (by k_asm) (by assumption) (by first | exact rfl | assumption) rfl rfl ?_
  rintro r9 led9 h9 tk9 F9 N9 ⟨rfl, ⟨al, b0, b1, b2, p0, p1, p2, v, m1, m2, m3, m4, m5, m6, m7⟩⟩
  have m8 := m4 _ hx
  first | k_unfold | skip
  try clear qk9
  try dsimp only
  try k_fold
  k_steps
  have lal : @LT.lt Nat _ x' al := m5 _ hx
  have ld : @LT.lt Nat _ d' al := Nat.lt_trans l2 lal
  refine hret (.ref x') _ _ _ (by k_asm) (by k_asm) ⟨⟨x', d', sx, sdx, al, rl⟩, rfl, rfl, rfl, ?_⟩
  generalize eD : dictOf _ 8 = o8
  have up : ∀ {q o}, @Ne Nat q d' → (q, o) ∈ led9 → (q, o) ∈ (d', o8) :: Mine.off d' led9 := fun e m => List.mem_cons_of_mem _ (mem_off m e)
  have ul : ∀ {q o}, @Ne Nat q sdx → (q, o) ∈ led → (q, o) ∈ (d', o8) :: Mine.off d' led9 := fun e m => up (Nat.ne_of_lt (l1 _ m)) (m4 _ (u e m))
  have fr : Sub led ((d', o8) :: Mine.off d' led9) := fun q o f m => ul (fz f m) m
  refine ⟨⟨tb, 1, [], _, [], ts, ⟨up (Nat.ne_of_gt l2) m8, pd_mk (P := ⟨x', d', sx, sdx, al, rl⟩) (by rw [← eD]; exact List.mem_cons_self), ul n1 hs, ⟨fun n => match n with | 0 => (b0, p0) | 1 => (b1, p1) | _ => (b2, p2), v, false, up (Nat.ne_of_lt (l1 _ hsd)) m2⟩, ⟨0, up m6 m3⟩, ⟨n4, ul n2 hl⟩, Nat.ne_of_lt (m5 _ (u n2 hl)), hlen⟩,
    .w (ul n3 htb) (ul (fz (.tok _ _ _ _ _) htbd) htbd), .nil, hr.sub fr, rfl, Nat.zero_le _⟩, fr, fun q o m n => ul n m, fun p hp => ⟨l1 p hp, Nat.lt_trans (l1 p hp) ld⟩⟩
section
local macro_rules | `(tactic| walk_at "eval Name") => `(tactic| (k_here; k_dflt (refine nameX_L (by k_asm) (by assumption) ?_ rfl rfl); k_whole))
section
local macro_rules | `(tactic| walk_at "pyIter ref") => `(tactic| (k_here; refine of_hold ?_))
section
local macro_rules | `(tactic| walk_at "inplaceOp Add ref") => `(tactic| (k_here; k_dflt (refine iadd_mem (by k_asm) (by k_asm) (by k_mem) (by k_mem) (by lge_go) ?_); k_whole; intro n'; lge_steps))
section
local macro_rules | `(tactic| walk_at "exec For") => `(tactic| (k_here; (rename Fr _ _ _ _ => lF'); (rename PassesOwn _ _ _ _ => hE'); (with_unfolding_all refine' For_V lF' ?_ rfl rfl (fun _ => rfl) hE'; k_whole)))
local macro_rules | `(tactic| walk_at "loadName") => `(tactic| (k_here; k_dflt (refine wpAny_loadName_local rfl rfl (Fr.ns (by k_asm)) (by assumption) ?_); k_whole))
theorem hdr_c {w : World} {base h₀ : Heap} {mean : ExcName → Option Value} {mg mb : PySem.Str → Option Value} {L fa cd : Addr} {s : Shared} {Q : Flow → Shared → Prop} {E : Value → Shared → Prop}
    {mB : PySem.Str → Option Value} {rl sh D : Addr} {fn a sg : Bool} {b : Int} {vx vf : Value} {ex : Dat} {T0 : List TK} {bs led : Led}
    (B : Below callerA base [] h₀) (F : Fr h₀ L s.heap mB) (X : (headK w.params).In h₀) (N : News h₀ L s.heap led) (T : Top headV LO mean mg mb h₀)
    (hE : PassesOwn (model PySem.Challenge.rw_pq0478_02.row.prog w) (callerA.deeper (envOf "law" s847 L fa (.ref cd))) (envOf "law" s847 L fa (.ref cd)) E)
    (M : LMap mB rl sh D fn a sg b vx vf) (hT0 : T0.length ≤ 12)
    (S : LSt bs sh rl D led T0 [] [vx] [ex])
    (out : ∀ m' h' tk' led' hd, Fr h₀ L h' m' → News h₀ L h' led' → LMap m' rl sh D fn a sg b vx vf → (∀ o l c, hd = some (o, l, c) → (∀ p ∈ l, p.2.wf ∧ p.2.ok) ∧ l.length ≤ 2) → (T0 ++ hdT hd []).length ≤ 42 → (hdD hd).length ≤ 6 →
      LSt bs sh rl D led' (T0 ++ hdT hd []) (hdD hd) [vx] [ex] →
      wpAny (model PySem.Challenge.rw_pq0478_02.row.prog w) (callerA.deeper (envOf "law" s847 L fa (.ref cd))) (execs law14 (envOf "law" s847 L fa (.ref cd))) Q E { s with heap := h', toks := tk' }) :
    wpAny (model PySem.Challenge.rw_pq0478_02.row.prog w) (callerA.deeper (envOf "law" s847 L fa (.ref cd))) (execs law13 (envOf "law" s847 L fa (.ref cd))) Q E s := by
  revert X; k_fill; intro X
  have m_nest := M.nest
  have m_row := M.row
  refine hold_cut rfl ?_
  unfold Hold
  with_reducible refine' (cutV ?zF0 ?zR0 ?_ ?_)
  case zR0 => exact fun m0 m' led' => ∃ hd, LMap m' rl sh D fn a sg b vx vf ∧ (∀ o l c, hd = some (o, l, c) → (∀ p ∈ l, p.2.wf ∧ p.2.ok) ∧ l.length ≤ 2) ∧ (T0 ++ hdT hd []).length ≤ 42 ∧ (hdD hd).length ≤ 6 ∧ LSt bs sh rl D led' (T0 ++ hdT hd []) (hdD hd) [vx] [ex]
  case zF0 => assumption
  · clear out
    k_steps
    unfold Hold
    skip
    with_reducible refine' (let qk9 : Value → Shared → Prop := ?zq1; Con.useTwigL (Q := qk9) ?zC1 ?zB1 ?zF1 ?zX1 ?zN1 ?zT1 ?zk1 ?zd1 ?zu1 ?zr1)
    case zF1 => assumption
    case zN1 => k_asm
    case zC1 => exact stalk_c (by decide) (by decide) S.ls
    case zB1 => assumption
    case zX1 => assumption
    case zT1 => assumption
    case zk1 => exact rfl
    case zd1 => exact Nat.le_of_ble_eq_true rfl
    case zu1 => exact Nat.le_of_ble_eq_true rfl
    intro ci ti led9 h9 tk9 F9 N9 i0 i1 S1 E1
    have SA := S.ext' E1 S1 S.tp
    clear i0 i1 E1
    first | k_unfold | skip
    try clear qk9
    try dsimp only
    try k_fold
    k_steps
    · clear S S1
      unfold Hold
      skip
      with_reducible refine' (let qk9 : Value → Shared → Prop := ?zq2; Con.useSayL (Q := qk9) ?zC2 ?zB2 ?zF2 ?zX2 ?zN2 ?zT2 ?zk2 ?zd2 ?zu2 ?zr2)
      case zF2 => assumption
      case zN2 => k_asm
      case zC2 => exact say_p 12 rfl hT0 SA.tp SA.ls
      case zB2 => assumption
      case zX2 => assumption
      case zT2 => assumption
      case zk2 => exact rfl
      case zd2 => exact Nat.le_of_ble_eq_true rfl
      case zu2 => exact Nat.le_of_ble_eq_true rfl
      intro q2 T2 t2 led9 h9 tk9 F9 N9 S2 P2 b2 l2 e2 E2
      have SB := SA.ext' E2 S2 P2
      clear SA S2 P2 E2
      first | k_unfold | skip
      try clear qk9
      try dsimp only
      try k_fold
      k_steps
      unfold Hold
      skip
      with_reducible refine' (let qk9 : Value → Shared → Prop := ?zq3; Con.useTwigL (Q := qk9) ?zC3 ?zB3 ?zF3 ?zX3 ?zN3 ?zT3 ?zk3 ?zd3 ?zu3 ?zr3)
      case zF3 => assumption
      case zN3 => k_asm
      case zC3 => exact stalk_c (by decide) (by decide) SB.ls
      case zB3 => assumption
      case zX3 => assumption
      case zT3 => assumption
      case zk3 => exact rfl
      case zd3 => exact Nat.le_of_ble_eq_true rfl
      case zu3 => exact Nat.le_of_ble_eq_true rfl
      intro cn tc led9 h9 tk9 F9 N9 d0 d2 S3 E3
      have SC := SB.ext' E3 S3 SB.tp
      have hc : Hold (0 ≤ cn ∧ cn < 3) := ⟨d0, d2⟩
      clear d0 d2 SB S3 E3
      first | k_unfold | skip
      try clear qk9
      try dsimp only
      try k_fold
      k_steps
      unfold Hold at hc
      obtain ⟨d0, d2⟩ := hc
      (rename IsRange _ _ _ _ _ _ _ _ => hR); (rename Fr _ _ _ _ => Fl); (rename News _ _ _ _ => Nl)
      have hbb : ∀ p ∈ bs, p ∈ led9 ∨ @LT.lt Nat _ p.1 _ := fun p hp => by
        by_cases h1 : p.1 = sh
        · obtain ⟨_, _, _, m, _⟩ := SC.ls.sheaf
          rw [h1]; exact .inr (Heap.lt_size (Nl _ m).1)
        by_cases h2 : p.1 = rl
        · obtain ⟨_, _, m, _⟩ := SC.ls.row
          rw [h2]; exact .inr (Heap.lt_size (Nl _ m).1)
        exact .inl (SC.ext.oth _ _ hp h1 h2)
      unfold Hold
      refine for_law (base := bs) (n := cn.toNat) (fun i m T ds vs fs => LMap m rl sh D fn a sg b vx vf ∧ vs = [vx] ∧ fs = [ex] ∧ HI T2 i T ds) rfl hR
        (int_all (P := fun c => Builtin.Range.small 0 c 1 = true) (n := 3) (by decide) d0 d2) (int_all (P := fun c => Builtin.Range.rangeSize 0 c 1 = (c.toNat : Int)) (n := 3) (by decide) d0 d2) Fl Nl
        SC ⟨M, rfl, rfl, [], rfl, (fun _ h => nomatch h), by simp [hsT], rfl, Nat.le_refl _, Nat.le_refl _⟩ hbb ?_ ?_
      · clear Fl Nl hbb hR SC F N
        rintro i t m₁ Tk ds vs fs h tk I oI led₁ hi ⟨M₁, rfl, rfl, hI⟩ S₁ F₁ N₁
        have m_nest := M₁.nest
        have m_row := M₁.row
        have m_due := M₁.due
        obtain ⟨l, hl, hw, eT, eds, hTl, hdl⟩ := id hI
        have hTk : Tk.length ≤ 50 := by omega
        refine of_hold ?_
        unfold Hold
        with_reducible refine' (cutL ?zF4 ?zR4 ?_ ?_)
        case zR4 => exact fun led' => ∃ T1, TP T1 ∧ LS led' sh rl T1 ∧ ExtL sh rl led₁ led' ∧ (i = 0 → T1 = Tk) ∧ (i ≠ 0 → ∃ q, T1 = Tk ++ [.w "op" "," q]) ∧ T1.length ≤ Tk.length + 1
        case zF4 => assumption
        · k_steps
          ·
            unfold Hold
            skip
            with_reducible refine' (let qk9 : Value → Shared → Prop := ?zq5; Con.useSayL (Q := qk9) ?zC5 ?zB5 ?zF5 ?zX5 ?zN5 ?zT5 ?zk5 ?zd5 ?zu5 ?zr5)
            case zF5 => assumption
            case zN5 => k_asm
            case zC5 => exact say_p 50 rfl hTk S₁.tp S₁.ls
            case zB5 => assumption
            case zX5 => assumption
            case zT5 => assumption
            case zk5 => exact rfl
            case zd5 => exact Nat.le_of_ble_eq_true rfl
            case zu5 => exact Nat.le_of_ble_eq_true rfl
            intro q5 T5 t5 led9 h9 tk9 F9 N9 S5 P5 b5 l5 e5 E5
            first | k_unfold | skip
            try clear qk9
            try dsimp only
            try k_fold
            k_steps
            exact CNext.mk (by k_asm) (by k_asm) ⟨⟨T5, P5, S5, E5, (fun e => by omega), fun _ => ⟨q5, e5⟩, Nat.le_of_eq l5⟩, rfl⟩
          · exact CNext.mk (by k_asm) (by k_asm) ⟨⟨Tk, S₁.tp, S₁.ls, ExtL.refl, fun _ => rfl, fun h => absurd (by omega) h, Nat.le_succ _⟩, rfl⟩
        clear F₁ N₁
        rintro hA tkA ledB ⟨T1, P1, S1, E1, e0, e1, lT1⟩ FA NA
        obtain ⟨ys, kk, mD, VD⟩ := S₁.ld
        have mD1 := E1.oth _ _ mD S₁.ns S₁.nr
        have hyl := VD.length
        have hz : ys.length ≤ 1000 := by omega
        first | k_unfold | skip
        try clear qk9
        try dsimp only
        k_steps
        unfold Hold
        skip
        with_reducible refine' (let qk9 : Value → Shared → Prop := ?zq6; Con.useL (Q := qk9) ?zC6 ?zB6 ?zF6 ?zX6 ?zN6 ?zT6 ?zk6 ?zd6 ?zu6 ?zr6)
        case zF6 => assumption
        case zN6 => k_asm
        case zC6 => exact law_ports_c (by omega) (by omega) (by omega) P1 S1
        case zB6 => assumption
        case zX6 => assumption
        case zT6 => assumption
        case zk6 => exact rfl
        case zd6 => exact Nat.le_of_ble_eq_true rfl
        case zu6 => exact Nat.le_of_ble_eq_true rfl
        rintro r9 led9 h9 tk9 F9 N9 ⟨g, hg, hok, ⟨D1, rfl, us, k1, m1, V1⟩, P7, S7, E7⟩
        have EA := E1.trans E7
        have mD7 := E7.oth _ _ mD1 S₁.ns S₁.nr
        have hul := V1.length
        have hgl := PG.dats_len hg
        have hz2 : ys.length + us.length ≤ 1000 := by omega
        have SG := fun k' => LSt.grow (k' := k') N9 mD7 S7 P7 (S₁.ext.trans EA) (VD.sub EA.frz) V1 (S₁.vi.sub EA.frz) S₁.nD S₁.ns S₁.nr
        have hI2 := hI.snoc hg hok e0 e1 lT1 rfl
        clear mD mD1 S1 E1 E7 EA S7 P7 V1 VD hul hgl
        first | k_unfold | skip
        try clear qk9
        try dsimp only
        try k_fold
        k_steps
        exact FEnd.mk (by assumption) (by assumption) (SG _) ⟨(M₁.set (by decide +kernel)).setD, rfl, rfl, hI2⟩
      · clear Fl Nl hbb hR F N
        rintro m₁ Tk ds vs fs h tk led₁ ⟨M₁, rfl, rfl, l, hl, hw, eT, rfl, hTl, hdl⟩ S₁ F₁ N₁
        have m_row := M₁.row
        k_steps
        unfold Hold
        skip
        with_reducible refine' (let qk9 : Value → Shared → Prop := ?zq7; Con.useSayL (Q := qk9) ?zC7 ?zB7 ?zF7 ?zX7 ?zN7 ?zT7 ?zk7 ?zd7 ?zu7 ?zr7)
        case zF7 => assumption
        case zN7 => k_asm
        case zC7 => exact say_p 60 rfl (by omega) S₁.tp S₁.ls
        case zB7 => assumption
        case zX7 => assumption
        case zT7 => assumption
        case zk7 => exact rfl
        case zd7 => exact Nat.le_of_ble_eq_true rfl
        case zu7 => exact Nat.le_of_ble_eq_true rfl
        intro q5 T5 t5 led9 h9 tk9 F9 N9 S5 P5 b5 l5 e5 E5
        have SD := S₁.ext' E5 S5 P5
        first | k_unfold | skip
        try clear qk9
        try dsimp only
        try k_fold
        k_steps
        have e9 : T5 = T0 ++ hdT (some (q2, l, q5)) [] := by
          rw [e5, eT, e2, hdT, show ([.w "op" ")" q5] : List TK) = [] ++ [.w "op" ")" q5] from rfl, hsT_app]; simp
        rw [e9] at SD l5
        exact CNext.mk (by k_asm) (by k_asm) ⟨some (q2, l, q5), M₁, (fun o l' c e => by cases e; exact ⟨hw, by omega⟩), by omega, by show (psD l).length ≤ 6; omega, SD⟩
    · exact CNext.mk (by k_asm) (by k_asm) ⟨none, M, (fun o l c e => nomatch e), by show (T0 ++ []).length ≤ 42; rw [List.append_nil]; omega, Nat.zero_le _, by show LSt bs sh rl D _ (T0 ++ []) [] _ _; rw [List.append_nil]; exact SA⟩
  clear S F N M
  rintro h1 tk1 m1 led1 ⟨hd, M1, hw, hl, hdl, S1⟩ F1 N1
  exact out _ _ _ _ _ F1 N1 M1 hw hl hdl S1
structure DCut (rl sh D : Addr) (fn a sg : Bool) (b : Int) (vx vf : Value) (ex : Dat) (bs : Led) (Tk : List TK) (ds : List Dat) (m' : PySem.Str → Option Value) (led' : Led) (mk : Int → DI) (T1 : List TK) : Prop where
  M : LMap m' rl sh D fn a sg b vx vf
  w : ∀ e, (mk e).wf ∧ (mk e).ok
  d : ∀ e, (mk e).dats = (mk 0).dats
  t : ∀ e, Tk ++ (mk e).toks [] = T1 ++ [.w "op" ";" e]
  S : LSt bs sh rl D led' T1 (ds ++ (mk 0).dats) [vx] [ex]
  l : T1.length ≤ 70
theorem pre2 {D a b : Addr} {o u : Obj} (h : @LT.lt Nat _ D a) (k : @LT.lt Nat _ D b) : ∀ p ∈ [(a, o), (b, u)], @Ne Nat p.1 D := by
  intro p hp
  rcases List.mem_cons.mp hp with rfl | hp
  · exact Nat.ne_of_gt h
  · rw [List.mem_singleton.mp hp]; exact Nat.ne_of_gt k
theorem k_ok {i : Nat} (h : i < 3) : PyData.strOk ("k" ++ PySem.Str.ofString (toString (0 + (i : Int) * 1))) = true := by
  have k : ∀ k : Nat, k < 3 → PyData.strOk ("k" ++ PySem.Str.ofString (toString (0 + (k : Int) * 1))) = true := by decide +kernel
  exact k i h
theorem decl_c {w : World} {base h₀ : Heap} {mean : ExcName → Option Value} {mg mb : PySem.Str → Option Value} {L fa cd : Addr} {s : Shared} {Q : Flow → Shared → Prop} {E : Value → Shared → Prop}
    {mB : PySem.Str → Option Value} {rl sh D : Addr} {fn a sg : Bool} {b : Int} {vx vf : Value} {ex : Dat} {T0 : List TK} {D0 : List Dat} {bs led : Led}
    (B : Below callerA base [] h₀) (F : Fr h₀ L s.heap mB) (X : (headK w.params).In h₀) (N : News h₀ L s.heap led) (T : Top headV LO mean mg mb h₀)
    (hE : PassesOwn (model PySem.Challenge.rw_pq0478_02.row.prog w) (callerA.deeper (envOf "law" s847 L fa (.ref cd))) (envOf "law" s847 L fa (.ref cd)) E)
    (M : LMap mB rl sh D fn a sg b vx vf) (hT0 : T0.length ≤ 42) (hD0 : D0.length ≤ 6)
    (S : LSt bs sh rl D led T0 D0 [vx] [ex])
    (out : ∀ m' h' tk' led' se ds, Fr h₀ L h' m' → News h₀ L h' led' → LMap m' rl sh D fn a sg b vx vf → (∀ d ∈ ds, d.wf ∧ d.ok) → ds.length ≤ 2 → ((T0 ++ [TK.w "op" ";" se]) ++ dsT ds []).length ≤ 71 → (D0 ++ dsD ds).length ≤ 12 →
      LSt bs sh rl D led' ((T0 ++ [TK.w "op" ";" se]) ++ dsT ds []) (D0 ++ dsD ds) [vx] [ex] →
      wpAny (model PySem.Challenge.rw_pq0478_02.row.prog w) (callerA.deeper (envOf "law" s847 L fa (.ref cd))) (execs law16 (envOf "law" s847 L fa (.ref cd))) Q E { s with heap := h', toks := tk' }) :
    wpAny (model PySem.Challenge.rw_pq0478_02.row.prog w) (callerA.deeper (envOf "law" s847 L fa (.ref cd))) (execs law14 (envOf "law" s847 L fa (.ref cd))) Q E s := by
  revert X; k_fill; intro X
  have m_nest := M.nest
  have m_row := M.row
  k_steps
  unfold Hold
  skip
  with_reducible refine' (let qk9 : Value → Shared → Prop := ?zq0; Con.useSayL (Q := qk9) ?zC0 ?zB0 ?zF0 ?zX0 ?zN0 ?zT0 ?zk0 ?zd0 ?zu0 ?zr0)
  case zF0 => assumption
  case zN0 => k_asm
  case zC0 => exact say_p 42 rfl hT0 S.tp S.ls
  case zB0 => assumption
  case zX0 => assumption
  case zT0 => assumption
  case zk0 => exact rfl
  case zd0 => exact Nat.le_of_ble_eq_true rfl
  case zu0 => exact Nat.le_of_ble_eq_true rfl
  intro q2 T2 t2 led9 h9 tk9 F9 N9 S2 P2 b2 l2 e2 E2
  have SB := S.ext' E2 S2 P2
  clear S S2 P2 E2
  first | k_unfold | skip
  try clear qk9
  try dsimp only
  try k_fold
  k_steps
  unfold Hold
  skip
  with_reducible refine' (let qk9 : Value → Shared → Prop := ?zq1; Con.useTwigL (Q := qk9) ?zC1 ?zB1 ?zF1 ?zX1 ?zN1 ?zT1 ?zk1 ?zd1 ?zu1 ?zr1)
  case zF1 => assumption
  case zN1 => k_asm
  case zC1 => exact stalk_c (by decide) (by decide) SB.ls
  case zB1 => assumption
  case zX1 => assumption
  case zT1 => assumption
  case zk1 => exact rfl
  case zd1 => exact Nat.le_of_ble_eq_true rfl
  case zu1 => exact Nat.le_of_ble_eq_true rfl
  intro cn tc led9 h9 tk9 F9 N9 d0 d2 S3 E3
  have SC := SB.ext' E3 S3 SB.tp
  have hc : Hold (0 ≤ cn ∧ cn < 3) := ⟨d0, d2⟩
  clear d0 d2 SB S3 E3
  first | k_unfold | skip
  try clear qk9
  try dsimp only
  try k_fold
  k_steps
  unfold Hold at hc
  obtain ⟨d0, d2⟩ := hc
  (rename IsRange _ _ _ _ _ _ _ _ => hR); (rename Fr _ _ _ _ => Fl); (rename News _ _ _ _ => Nl)
  have hbb : ∀ p ∈ bs, p ∈ led9 ∨ @LT.lt Nat _ p.1 _ := fun p hp => by
    by_cases h1 : p.1 = sh
    · obtain ⟨_, _, _, m, _⟩ := SC.ls.sheaf
      rw [h1]; exact .inr (Heap.lt_size (Nl _ m).1)
    by_cases h2 : p.1 = rl
    · obtain ⟨_, _, m, _⟩ := SC.ls.row
      rw [h2]; exact .inr (Heap.lt_size (Nl _ m).1)
    exact .inl (SC.ext.oth _ _ hp h1 h2)
  unfold Hold
  refine for_law (base := bs) (n := cn.toNat) (fun i m T ds vs fs => LMap m rl sh D fn a sg b vx vf ∧ vs = [vx] ∧ fs = [ex] ∧ DJ T2 D0 i T ds) rfl hR
    (int_all (P := fun c => Builtin.Range.small 0 c 1 = true) (n := 3) (by decide) d0 d2) (int_all (P := fun c => Builtin.Range.rangeSize 0 c 1 = (c.toNat : Int)) (n := 3) (by decide) d0 d2) Fl Nl
    SC ⟨M, rfl, rfl, [], rfl, (fun _ h => nomatch h), by simp [dsT], by simp [dsD], Nat.le_refl _, Nat.le_refl _⟩ hbb ?_ ?_
  · clear Fl Nl hbb hR SC F N out
    rintro i t m₁ Tk ds vs fs h tk I oI led₁ hi ⟨M₁, rfl, rfl, hI⟩ S₁ F₁ N₁
    have m_nest := M₁.nest
    have m_row := M₁.row
    have m_due := M₁.due
    obtain ⟨l, hl, hw, eT, eds, hTl, hdl⟩ := id hI
    have hTk : Tk.length ≤ 57 := by omega
    have hi3 : i < 3 := by omega
    have hdl' : ds.length ≤ 12 := by omega
    clear hTl hdl hl hw eT eds M
    refine of_hold ?_
    unfold Hold
    with_reducible refine' (cutV ?zF2 ?zR2 ?_ ?_)
    case zR2 => exact fun m0 m' led' => ∃ mk T1, DCut rl sh D fn a sg b vx vf ex ((I, oI) :: bs) Tk ds m' led' mk T1
    case zF2 => assumption
    · k_steps
      unfold Hold
      skip
      with_reducible refine' (let qk9 : Value → Shared → Prop := ?zq3; Con.useTwigL (Q := qk9) ?zC3 ?zB3 ?zF3 ?zX3 ?zN3 ?zT3 ?zk3 ?zd3 ?zu3 ?zr3)
      case zF3 => assumption
      case zN3 => k_asm
      case zC3 => exact stalk_c (by decide) (by decide) S₁.ls
      case zB3 => assumption
      case zX3 => assumption
      case zT3 => assumption
      case zk3 => exact rfl
      case zd3 => exact Nat.le_of_ble_eq_true rfl
      case zu3 => exact Nat.le_of_ble_eq_true rfl
      intro ci ti led9 h9 tk9 F9 N9 i0 i1 S3 E3
      have SA := S₁.ext' E3 S3 S₁.tp
      clear S3 E3 S₁ i0 i1 N₁ F₁
      obtain ⟨ys, kk, mD, VD⟩ := SA.ld
      have hyl := VD.length
      have hz : ys.length ≤ 1000 := by omega
      first | k_unfold | skip
      try clear qk9
      try dsimp only
      try k_fold
      k_steps
      ·
        unfold Hold
        skip
        with_reducible refine' (let qk9 : Value → Shared → Prop := ?zq4; Con.useL (Q := qk9) ?zC4 ?zB4 ?zF4 ?zX4 ?zN4 ?zT4 ?zk4 ?zd4 ?zu4 ?zr4)
        case zF4 => assumption
        case zN4 => k_asm
        case zC4 => exact law_ports_c (by omega) (by omega) (by omega) SA.tp SA.ls
        case zB4 => assumption
        case zX4 => assumption
        case zT4 => assumption
        case zk4 => exact rfl
        case zd4 => exact Nat.le_of_ble_eq_true rfl
        case zu4 => exact Nat.le_of_ble_eq_true rfl
        rintro r9 led9 h9 tk9 F9 N9 ⟨g, hg, hok, ⟨D1, rfl, us, k1, m1, V1⟩, P7, S7, E7⟩
        have mD7 := E7.oth _ _ mD SA.ns SA.nr
        have hul := V1.length
        have hgl := PG.dats_len hg
        have htl := PG.toks_len hg
        have hz2 : ys.length + us.length ≤ 1000 := by omega
        have SG := fun k' => LSt.grow (k' := k') N9 mD7 S7 P7 (SA.ext.trans E7) (VD.sub E7.frz) V1 (SA.vi.sub E7.frz) SA.nD SA.ns SA.nr
        clear mD SA E7 S7 P7 V1 VD hul hgl
        first | k_unfold | skip
        try clear qk9
        try dsimp only
        try k_fold
        k_steps
        exact CNext.mk (by k_asm) (by k_asm) ⟨fun e => .ports g e, Tk ++ g.toks [], (M₁.set (by decide +kernel)).setD, fun e => ⟨hg, hok⟩, fun _ => rfl, fun e => by show Tk ++ g.toks ([] ++ [.w "op" ";" e]) = _; rw [PG.toks_app]; simp, SG _, by rw [List.length_append]; omega⟩
      ·
        unfold Hold
        skip
        with_reducible refine' (let qk9 : Value → Shared → Prop := ?zq5; Con.useSayL (Q := qk9) ?zC5 ?zB5 ?zF5 ?zX5 ?zN5 ?zT5 ?zk5 ?zd5 ?zu5 ?zr5)
        case zF5 => assumption
        case zN5 => k_asm
        case zC5 => exact say_p 57 rfl hTk SA.tp SA.ls
        case zB5 => assumption
        case zX5 => assumption
        case zT5 => assumption
        case zk5 => exact rfl
        case zd5 => exact Nat.le_of_ble_eq_true rfl
        case zu5 => exact Nat.le_of_ble_eq_true rfl
        intro q5 T5 t5 led9 h9 tk9 F9 N9 S5 P5 b5 l5 e5 E5
        first | k_unfold | skip
        try clear qk9
        try dsimp only
        try k_fold
        k_steps
        unfold Hold
        skip
        with_reducible refine' (let qk9 : Value → Shared → Prop := ?zq6; Con.useSayL (Q := qk9) ?zC6 ?zB6 ?zF6 ?zX6 ?zN6 ?zT6 ?zk6 ?zd6 ?zu6 ?zr6)
        case zF6 => assumption
        case zN6 => k_asm
        case zC6 => exact say_p 58 rfl b5 P5 S5
        case zB6 => assumption
        case zX6 => assumption
        case zT6 => assumption
        case zk6 => exact rfl
        case zd6 => exact Nat.le_of_ble_eq_true rfl
        case zu6 => exact Nat.le_of_ble_eq_true rfl
        intro q6 T6 t6 led9 h9 tk9 F9 N9 S6 P6 b6 l6 e6 E6
        have EA := E5.trans E6
        have mD7 := EA.oth _ _ mD SA.ns SA.nr
        have nC := fun (q : Addr) (o : Obj) (f : Frz o) (m : (q, o) ∈ led9) => fz_ne N9 m mD7 f
        have VD7 := VD.sub EA.frz
        clear mD E5 E6 VD S5 P5
        have VX7 := SA.vi.sub EA.frz
        first | k_unfold | skip
        try clear qk9
        try dsimp only
        try k_fold
        k_steps
        rename_i Da ha lDa Db hb2 lDb hc2 Ft Nt
        have lD0 : @LT.lt Nat _ D Da := lDa _ mD7
        have lD1 : @LT.lt Nat _ D Db := Nat.lt_trans lD0 lDb.1
        exact CNext.mk Ft Nt ⟨fun e => .int q5 _ q6 e, T6, (M₁.set (by decide +kernel)).set (by decide +kernel), fun e => ⟨trivial, k_ok hi3⟩, fun _ => rfl, fun e => by rw [e6, e5]; simp [DI.toks],
          LSt.putN (pre := [_, _]) nC S6 P6 (SA.ext.trans EA) VD7 VX7 SA.nD SA.ns SA.nr (pre2 lD1 lD0) (fun fin z zp => .tup (zp _ List.mem_cons_self) (.cons (.str _ _) (.cons (.int _ _) (.cons (.str _ _) (.cons (.bool _) (.cons .none (.cons (.str _ _) (.cons (.tup (zp _ (List.mem_cons_of_mem _ List.mem_cons_self)) .nil) (.cons .none .nil))))))))), by omega⟩
    clear F₁ N₁ S₁
    rintro hX tkX mX ledX ⟨mk, T1, C⟩ FX NX
    have m_row2 := C.M.row
    first | k_unfold | skip
    try clear qk9
    try dsimp only
    k_steps
    unfold Hold
    skip
    with_reducible refine' (let qk9 : Value → Shared → Prop := ?zq7; Con.useSayL (Q := qk9) ?zC7 ?zB7 ?zF7 ?zX7 ?zN7 ?zT7 ?zk7 ?zd7 ?zu7 ?zr7)
    case zF7 => assumption
    case zN7 => k_asm
    case zC7 => exact say_p 70 rfl C.l C.S.tp C.S.ls
    case zB7 => assumption
    case zX7 => assumption
    case zT7 => assumption
    case zk7 => exact rfl
    case zd7 => exact Nat.le_of_ble_eq_true rfl
    case zu7 => exact Nat.le_of_ble_eq_true rfl
    intro q9 T9 t9 led9 h9 tk9 F9 N9 S9 P9 b9 l9 e9 E9
    have SZ := C.S.ext' E9 S9 P9
    rw [← C.d q9] at SZ
    first | k_unfold | skip
    try clear qk9
    try dsimp only
    try k_fold
    k_steps
    exact FEnd.mk (by assumption) (by assumption) SZ ⟨C.M, rfl, rfl, hI.snoc (C.w q9).1 (C.w q9).2 (by rw [e9, C.t])⟩
  · clear Fl Nl hbb hR SC F N
    rintro m₁ Tk ds vs fs h tk led₁ ⟨M₁, rfl, rfl, l, hl, hw, eT, eds, hTl, hdl⟩ S₁ F₁ N₁
    rw [e2] at eT
    have n1 : Tk.length ≤ 71 := by omega
    have n2 : ds.length ≤ 12 := by omega
    rw [eT] at n1
    rw [eds] at n2
    rw [eT, eds] at S₁
    exact out _ _ _ _ q2 l F₁ N₁ M₁ hw (by omega) n1 n2 S₁
end
end
section
local macro_rules | `(tactic| walk_at "binaryOp Add str str") => `(tactic| (refine PyProof.Rows.add_str (fun _ _ => ?_) (by assumption)))
theorem wiT_app (o : Option (Int × Int × Int)) (a b : List TK) : wiT o (a ++ b) = wiT o a ++ b := by
  rcases o with _ | ⟨x, y, z⟩ <;> rfl
theorem BD.toks_app (d : BD) (a b : List TK) : d.toks (a ++ b) = d.toks a ++ b := by cases d <;> rfl
noncomputable def wiF (f0 : Option Int) (wi : Option (Int × Int × Int)) : Option Int := match f0 with
  | some p => some p
  | none => match wi with
    | some (_, _, c) => some c
    | none => none
noncomputable def enF (f1 : Option Int) (ok : Bool) (ei : Int) : Option Int := match f1 with
  | some p => some p
  | none => bif ok then none else some ei
theorem okD_trig {a j : Int} : okD 3 (trigD a j "go") = true := by
  simp only [trigD, idD, okD, List.all_cons, List.all_nil, Bool.and_true, Bool.true_and]
  decide +kernel
structure EndC (rl sh D : Addr) (fn a sg : Bool) (b : Int) (vx : Value) (ex : Dat) (bs : Led) (T0 : List TK) (ds : List Dat) (f0 : Option Int) (m' : PySem.Str → Option Value) (led' : Led) (vf vb : Value) (wi : Option (Int × Int × Int)) (bd : BD) (ok : Bool) (ei bh : Int) : Prop where
  M : LMap m' rl sh D fn a sg b vx vf
  bod : m' "body" = some vb
  beh : ∃ t, m' "behind" = some (.int bh t)
  F : FV vf (enF (wiF f0 wi) ok ei)
  k : okD 3 bd.dat = true
  S : LSt bs sh rl D led' (T0 ++ wiT wi (bd.toks [.w "key" (bif ok then endW fn else "endmodule") ei, .w "op" ";" bh])) ds [vb, vx] [bd.dat, ex]
  l : (T0 ++ wiT wi (bd.toks [.w "key" (bif ok then endW fn else "endmodule") ei, .w "op" ";" bh])).length ≤ 79
theorem mid_c {w : World} {base h₀ : Heap} {mean : ExcName → Option Value} {mg mb : PySem.Str → Option Value} {L fa cd : Addr} {s : Shared} {Q : Flow → Shared → Prop} {E : Value → Shared → Prop}
    {mB : PySem.Str → Option Value} {rl sh D : Addr} {fn a sg : Bool} {b : Int} {vx vf : Value} {ex : Dat} {T0 : List TK} {ds : List Dat} {bs led : Led} {f0 : Option Int}
    (B : Below callerA base [] h₀) (F : Fr h₀ L s.heap mB) (X : (headK w.params).In h₀) (N : News h₀ L s.heap led) (T : Top headV LO mean mg mb h₀)
    (M : LMap mB rl sh D fn a sg b vx vf) (hf : FV vf f0) (hT0 : T0.length ≤ 71)
    (S : LSt bs sh rl D led T0 ds [vx] [ex])
    (out : ∀ m' h' tk' led' vf vb wi bd ok ei bh, Fr h₀ L h' m' → News h₀ L h' led' → EndC rl sh D fn a sg b vx ex bs T0 ds f0 m' led' vf vb wi bd ok ei bh →
      wpAny (model PySem.Challenge.rw_pq0478_02.row.prog w) (callerA.deeper (envOf "law" s847 L fa (.ref cd))) (execs law24 (envOf "law" s847 L fa (.ref cd))) Q E { s with heap := h', toks := tk' }) :
    wpAny (model PySem.Challenge.rw_pq0478_02.row.prog w) (callerA.deeper (envOf "law" s847 L fa (.ref cd))) (execs law16 (envOf "law" s847 L fa (.ref cd))) Q E s := by
  revert X; k_fill; intro X
  refine hold_cut rfl ?_
  unfold Hold
  with_reducible refine' (cutV ?zF0 ?zR0 ?_ ?_)
  case zR0 => exact fun m0 m' led' => ∃ vf1 wi, LMap m' rl sh D fn a sg b vx vf1 ∧ FV vf1 (wiF f0 wi) ∧ (T0 ++ wiT wi []).length ≤ 74 ∧ LSt bs sh rl D led' (T0 ++ wiT wi []) ds [vx] [ex]
  case zF0 => assumption
  · clear out
    have m_nest := M.nest
    have m_row := M.row
    have m_flt := M.flt
    rcases f0 with _ | p
    · cases (show vf = .none from hf)
      k_steps
      unfold Hold
      skip
      with_reducible refine' (let qk9 : Value → Shared → Prop := ?zq1; Con.useTwigL (Q := qk9) ?zC1 ?zB1 ?zF1 ?zX1 ?zN1 ?zT1 ?zk1 ?zd1 ?zu1 ?zr1)
      case zF1 => assumption
      case zN1 => k_asm
      case zC1 => exact stalk_c (by decide) (by decide) S.ls
      case zB1 => assumption
      case zX1 => assumption
      case zT1 => assumption
      case zk1 => exact rfl
      case zd1 => exact Nat.le_of_ble_eq_true rfl
      case zu1 => exact Nat.le_of_ble_eq_true rfl
      intro ci ti led9 h9 tk9 F9 N9 i0 i1 S1 E1
      have SA := S.ext' E1 S1 S.tp
      clear S S1 E1 i0 i1
      first | k_unfold | skip
      try clear qk9
      try dsimp only
      try k_fold
      k_steps
      ·
        unfold Hold
        skip
        with_reducible refine' (let qk9 : Value → Shared → Prop := ?zq2; Con.useSayL (Q := qk9) ?zC2 ?zB2 ?zF2 ?zX2 ?zN2 ?zT2 ?zk2 ?zd2 ?zu2 ?zr2)
        case zF2 => assumption
        case zN2 => k_asm
        case zC2 => exact say_p 71 rfl hT0 SA.tp SA.ls
        case zB2 => assumption
        case zX2 => assumption
        case zT2 => assumption
        case zk2 => exact rfl
        case zd2 => exact Nat.le_of_ble_eq_true rfl
        case zu2 => exact Nat.le_of_ble_eq_true rfl
        intro q5 T5 t5 led9 h9 tk9 F9 N9 S5 P5 b5 l5 e5 E5
        first | k_unfold | skip
        try clear qk9
        try dsimp only
        try k_fold
        k_steps
        unfold Hold
        skip
        with_reducible refine' (let qk9 : Value → Shared → Prop := ?zq3; Con.useSayL (Q := qk9) ?zC3 ?zB3 ?zF3 ?zX3 ?zN3 ?zT3 ?zk3 ?zd3 ?zu3 ?zr3)
        case zF3 => assumption
        case zN3 => k_asm
        case zC3 => exact say_p 72 rfl b5 P5 S5
        case zB3 => assumption
        case zX3 => assumption
        case zT3 => assumption
        case zk3 => exact rfl
        case zd3 => exact Nat.le_of_ble_eq_true rfl
        case zu3 => exact Nat.le_of_ble_eq_true rfl
        intro q6 T6 t6 led9 h9 tk9 F9 N9 S6 P6 b6 l6 e6 E6
        first | k_unfold | skip
        try clear qk9
        try dsimp only
        try k_fold
        k_steps
        unfold Hold
        skip
        with_reducible refine' (let qk9 : Value → Shared → Prop := ?zq4; Con.useSayL (Q := qk9) ?zC4 ?zB4 ?zF4 ?zX4 ?zN4 ?zT4 ?zk4 ?zd4 ?zu4 ?zr4)
        case zF4 => assumption
        case zN4 => k_asm
        case zC4 => exact say_p 73 rfl b6 P6 S6
        case zB4 => assumption
        case zX4 => assumption
        case zT4 => assumption
        case zk4 => exact rfl
        case zd4 => exact Nat.le_of_ble_eq_true rfl
        case zu4 => exact Nat.le_of_ble_eq_true rfl
        intro q7 T7 t7 led9 h9 tk9 F9 N9 S7 P7 b7 l7 e7 E7
        have SB := SA.ext' ((E5.trans E6).trans E7) S7 P7
        rw [show T7 = T0 ++ wiT (some (q5, q6, q7)) [] from by rw [e7, e6, e5]; exact app3] at SB b7
        first | k_unfold | skip
        try clear qk9
        try dsimp only
        try k_fold
        k_steps
        exact CNext.mk (by k_asm) (by k_asm) ⟨_, some (q5, q6, q7), M.put, ⟨_, rfl⟩, b7, SB⟩
      · exact CNext.mk (by k_asm) (by k_asm) ⟨_, none, M, rfl, by show (T0 ++ []).length ≤ 74; rw [List.append_nil]; omega, by show LSt bs sh rl D _ (T0 ++ []) ds _ _; rw [List.append_nil]; exact SA⟩
    · obtain ⟨tp, rfl⟩ := (show ∃ t, vf = .int p t from hf)
      k_steps
      exact CNext.mk (by k_asm) (by k_asm) ⟨_, none, M, ⟨tp, rfl⟩, by show (T0 ++ []).length ≤ 74; rw [List.append_nil]; omega, by show LSt bs sh rl D _ (T0 ++ []) ds _ _; rw [List.append_nil]; exact S⟩
  clear S F N M hf hT0
  rintro h1 tk1 m1 led1 ⟨vf1, wi, M1, hf1, hT1, S1⟩ F1 N1
  obtain ⟨T1, eT1⟩ : ∃ T1, T1 = T0 ++ wiT wi [] := ⟨_, rfl⟩
  rw [← eT1] at hT1 S1
  obtain ⟨f1, ef1⟩ : ∃ f1, f1 = wiF f0 wi := ⟨_, rfl⟩
  rw [← ef1] at hf1
  have m_nest := M1.nest
  have m_row := M1.row
  first | k_unfold | skip
  try clear qk9
  try dsimp only
  k_steps
  unfold Hold
  skip
  with_reducible refine' (let qk9 : Value → Shared → Prop := ?zq5; Con.useTwigL (Q := qk9) ?zC5 ?zB5 ?zF5 ?zX5 ?zN5 ?zT5 ?zk5 ?zd5 ?zu5 ?zr5)
  case zF5 => assumption
  case zN5 => k_asm
  case zC5 => exact stalk_c (by decide) (by decide) S1.ls
  case zB5 => assumption
  case zX5 => assumption
  case zT5 => assumption
  case zk5 => exact rfl
  case zd5 => exact Nat.le_of_ble_eq_true rfl
  case zu5 => exact Nat.le_of_ble_eq_true rfl
  intro ci ti led9 h9 tk9 F9 N9 i0 i1 S2 E2
  have SA := S1.ext' E2 S2 S1.tp
  clear S1 S2 E2 i0 i1
  first | k_unfold | skip
  try clear qk9
  try dsimp only
  try k_fold
  k_steps
  unfold Hold
  with_reducible refine' (cutV ?zF6 ?zR6 ?_ ?_)
  case zR6 => exact fun m0 m' led' => ∃ (vb : Value) (bd : BD), LMap m' rl sh D fn a sg b vx vf1 ∧ m' "body" = some vb ∧ okD 3 bd.dat = true ∧ (T1 ++ bd.toks []).length ≤ 77 ∧ LSt bs sh rl D led' (T1 ++ bd.toks []) ds [vb, vx] [bd.dat, ex]
  case zF6 => assumption
  · clear out
    have M9 := (M1.set (n := "body") (o := some .none) (by decide +kernel)).set (n := "shape_of_body") (o := some (.int ci ti)) (by decide +kernel)
    k_steps
    ·
      unfold Hold
      skip
      with_reducible refine' (let qk9 : Value → Shared → Prop := ?zq7; Con.useSayL (Q := qk9) ?zC7 ?zB7 ?zF7 ?zX7 ?zN7 ?zT7 ?zk7 ?zd7 ?zu7 ?zr7)
      case zF7 => assumption
      case zN7 => k_asm
      case zC7 => exact say_p 74 rfl hT1 SA.tp SA.ls
      case zB7 => assumption
      case zX7 => assumption
      case zT7 => assumption
      case zk7 => exact rfl
      case zd7 => exact Nat.le_of_ble_eq_true rfl
      case zu7 => exact Nat.le_of_ble_eq_true rfl
      intro q5 T5 t5 led9 h9 tk9 F9 N9 S5 P5 b5 l5 e5 E5
      have SB := SA.ext' E5 S5 P5
      rw [e5] at SB
      first | k_unfold | skip
      try clear qk9
      try dsimp only
      try k_fold
      k_steps
      exact CNext.mk (by k_asm) (by k_asm) ⟨.none, .semi q5, M9, rfl, rfl, by show (T1 ++ [TK.w "op" ";" q5]).length ≤ 77; rw [← e5]; omega, ⟨SB.ls, SB.tp, SB.ext, SB.ld, .cons .none SB.vi, SB.nD, SB.ns, SB.nr⟩⟩
    ·
      unfold Hold
      skip
      with_reducible refine' (let qk9 : Value → Shared → Prop := ?zq8; Con.useSayL (Q := qk9) ?zC8 ?zB8 ?zF8 ?zX8 ?zN8 ?zT8 ?zk8 ?zd8 ?zu8 ?zr8)
      case zF8 => assumption
      case zN8 => k_asm
      case zC8 => exact say_p 74 rfl hT1 SA.tp SA.ls
      case zB8 => assumption
      case zX8 => assumption
      case zT8 => assumption
      case zk8 => exact rfl
      case zd8 => exact Nat.le_of_ble_eq_true rfl
      case zu8 => exact Nat.le_of_ble_eq_true rfl
      intro q5 T5 t5 led9 h9 tk9 F9 N9 S5 P5 b5 l5 e5 E5
      first | k_unfold | skip
      try clear qk9
      try dsimp only
      try k_fold
      k_steps
      unfold Hold
      skip
      with_reducible refine' (let qk9 : Value → Shared → Prop := ?zq9; Con.useSayL (Q := qk9) ?zC9 ?zB9 ?zF9 ?zX9 ?zN9 ?zT9 ?zk9 ?zd9 ?zu9 ?zr9)
      case zF9 => assumption
      case zN9 => k_asm
      case zC9 => exact say_p 75 rfl b5 P5 S5
      case zB9 => assumption
      case zX9 => assumption
      case zT9 => assumption
      case zk9 => exact rfl
      case zd9 => exact Nat.le_of_ble_eq_true rfl
      case zu9 => exact Nat.le_of_ble_eq_true rfl
      intro q6 T6 t6 led9 h9 tk9 F9 N9 S6 P6 b6 l6 e6 E6
      have SB := SA.ext' (E5.trans E6) S6 P6
      clear S5 P5 E5 E6 S6 P6
      first | k_unfold | skip
      try clear qk9
      try dsimp only
      try k_fold
      k_steps
      unfold Hold
      skip
      with_reducible refine' (let qk9 : Value → Shared → Prop := ?zq10; Con.useSayL (Q := qk9) ?zC10 ?zB10 ?zF10 ?zX10 ?zN10 ?zT10 ?zk10 ?zd10 ?zu10 ?zr10)
      case zF10 => assumption
      case zN10 => k_asm
      case zC10 => exact say_p 76 rfl b6 SB.tp SB.ls.cons.cons
      case zB10 => assumption
      case zX10 => assumption
      case zT10 => assumption
      case zk10 => exact rfl
      case zd10 => exact Nat.le_of_ble_eq_true rfl
      case zu10 => exact Nat.le_of_ble_eq_true rfl
      intro q7 T7 t7 led9 h9 tk9 F9 N9 S7 P7 b7 l7 e7 E7
      have SC := SB.ext' E7.cons'.cons' S7 P7
      have mA := E7.frz _ _ (.tup _ _) List.mem_cons_self
      have mB2 := E7.frz _ _ (.tup _ _) (List.mem_cons_of_mem _ List.mem_cons_self)
      have e9 : T7 = T1 ++ (BD.trig q5 "go" q6 q7).toks [] := by rw [e7, e6, e5]; exact app3
      rw [e9] at SC b7
      first | k_unfold | skip
      try clear qk9
      try dsimp only
      try k_fold
      k_steps
      exact CNext.mk (by k_asm) (by k_asm) ⟨_, .trig q5 "go" q6 q7, (M9.set (by decide +kernel)).set (by decide +kernel), rfl, okD_trig, b7, ⟨SC.ls, SC.tp, SC.ext, SC.ld, .cons (.tup mA (.cons (.str _ _) (.cons (.int _ _) (.cons (.tup mB2 (.cons (.str _ _) (.cons (.int _ _) (.cons (.str _ _) .nil)))) .nil)))) SC.vi, SC.nD, SC.ns, SC.nr⟩⟩
    · exact CNext.mk (by k_asm) (by k_asm) ⟨.none, .none, M9, rfl, rfl, by show (T1 ++ []).length ≤ 77; rw [List.append_nil]; omega, by
        show LSt bs sh rl D _ (T1 ++ []) ds _ _
        rw [List.append_nil]
        exact ⟨SA.ls, SA.tp, SA.ext, SA.ld, .cons .none SA.vi, SA.nD, SA.ns, SA.nr⟩⟩
  clear SA M1
  rintro h2 tk2 m2 led2 ⟨vb, bd, M2, m_bod, hk, hT2, S2⟩ F2 N2
  obtain ⟨T2, eT2⟩ : ∃ T2, T2 = T1 ++ bd.toks [] := ⟨_, rfl⟩
  rw [← eT2] at hT2 S2
  first | k_unfold | skip
  try clear qk9
  try dsimp only
  refine of_hold ?_
  unfold Hold
  with_reducible refine' (cutN "wrong_end" ?zF11 ?zR11 ?_ ?_)
  case zR11 => exact fun v' led' => ∃ ok : Bool, v' = .bool (!ok) ∧ (ok = false → f1 = none) ∧ LSt bs sh rl D led' T2 ds [vb, vx] [bd.dat, ex]
  case zF11 => assumption
  · clear out
    have m_nest2 := M2.nest
    have m_flt2 := M2.flt
    rcases f1 with _ | p
    · cases (show vf1 = .none from hf1)
      k_steps
      unfold Hold
      skip
      with_reducible refine' (let qk9 : Value → Shared → Prop := ?zq12; Con.useTwigL (Q := qk9) ?zC12 ?zB12 ?zF12 ?zX12 ?zN12 ?zT12 ?zk12 ?zd12 ?zu12 ?zr12)
      case zF12 => assumption
      case zN12 => k_asm
      case zC12 => exact stalk_c (by decide) (by decide) S2.ls
      case zB12 => assumption
      case zX12 => assumption
      case zT12 => assumption
      case zk12 => exact rfl
      case zd12 => exact Nat.le_of_ble_eq_true rfl
      case zu12 => exact Nat.le_of_ble_eq_true rfl
      intro ci ti led9 h9 tk9 F9 N9 i0 i1 S3 E3
      have SA := S2.ext' E3 S3 S2.tp
      first | k_unfold | skip
      try clear qk9
      try dsimp only
      try k_fold
      k_steps
      exact CNext.mk (by k_asm) (by k_asm) ⟨_, ⟨!(ci == 5), by rw [Bool.not_not], (by intros; trivial), SA⟩, rfl⟩
    · obtain ⟨tp, rfl⟩ := (show ∃ t, vf1 = .int p t from hf1)
      k_steps
      exact CNext.mk (by k_asm) (by k_asm) ⟨_, ⟨true, rfl, (fun h => nomatch h), S2⟩, rfl⟩
  clear S2 F2 N2
  rintro h3 tk3 v3 led3 ⟨ok, rfl, hok, S3⟩ F3 N3
  first | k_unfold | skip
  try clear qk9
  try dsimp only
  refine of_hold ?_
  unfold Hold
  with_reducible refine' (cutN "end_at" ?zF13 ?zR13 ?_ ?_)
  case zR13 => exact fun v' led' => ∃ ei T3, (∃ t, v' = .int ei t) ∧ T3 = T2 ++ [.w "key" (bif ok then endW fn else "endmodule") ei] ∧ T3.length ≤ 78 ∧ LSt bs sh rl D led' T3 ds [vb, vx] [bd.dat, ex]
  case zF13 => assumption
  · clear out
    have m_row3 := M2.row
    obtain ⟨ts, m_sort3⟩ := M2.sort
    cases ok with
    | true =>
      have hlen := end_len fn
      k_steps
      rw [end_sort]
      unfold Hold
      skip
      with_reducible refine' (let qk9 : Value → Shared → Prop := ?zq14; Con.useSayL (Q := qk9) ?zC14 ?zB14 ?zF14 ?zX14 ?zN14 ?zT14 ?zk14 ?zd14 ?zu14 ?zr14)
      case zF14 => assumption
      case zN14 => k_asm
      case zC14 => exact say_p 77 rfl hT2 S3.tp S3.ls
      case zB14 => assumption
      case zX14 => assumption
      case zT14 => assumption
      case zk14 => exact rfl
      case zd14 => exact Nat.le_of_ble_eq_true rfl
      case zu14 => exact Nat.le_of_ble_eq_true rfl
      intro q7 T7 t7 led9 h9 tk9 F9 N9 S7 P7 b7 l7 e7 E7
      have SC := S3.ext' E7 S7 P7
      first | k_unfold | skip
      try clear qk9
      try dsimp only
      try k_fold
      k_steps
      exact CNext.mk (by k_asm) (by k_asm) ⟨_, ⟨q7, T7, ⟨_, rfl⟩, e7, b7, SC⟩, rfl⟩
    | false =>
      k_steps
      unfold Hold
      skip
      with_reducible refine' (let qk9 : Value → Shared → Prop := ?zq15; Con.useSayL (Q := qk9) ?zC15 ?zB15 ?zF15 ?zX15 ?zN15 ?zT15 ?zk15 ?zd15 ?zu15 ?zr15)
      case zF15 => assumption
      case zN15 => k_asm
      case zC15 => exact say_p 77 rfl hT2 S3.tp S3.ls
      case zB15 => assumption
      case zX15 => assumption
      case zT15 => assumption
      case zk15 => exact rfl
      case zd15 => exact Nat.le_of_ble_eq_true rfl
      case zu15 => exact Nat.le_of_ble_eq_true rfl
      intro q7 T7 t7 led9 h9 tk9 F9 N9 S7 P7 b7 l7 e7 E7
      have SC := S3.ext' E7 S7 P7
      first | k_unfold | skip
      try clear qk9
      try dsimp only
      try k_fold
      k_steps
      exact CNext.mk (by k_asm) (by k_asm) ⟨_, ⟨q7, T7, ⟨_, rfl⟩, e7, b7, SC⟩, rfl⟩
  clear S3 F3 N3
  rintro h4 tk4 v4 led4 ⟨ei, T3, ⟨t9, rfl⟩, eT3, hT3, S4⟩ F4 N4
  have m_row4 := M2.row
  first | k_unfold | skip
  try clear qk9
  try dsimp only
  k_steps
  unfold Hold
  skip
  with_reducible refine' (let qk9 : Value → Shared → Prop := ?zq16; Con.useSayL (Q := qk9) ?zC16 ?zB16 ?zF16 ?zX16 ?zN16 ?zT16 ?zk16 ?zd16 ?zu16 ?zr16)
  case zF16 => assumption
  case zN16 => k_asm
  case zC16 => exact say_p 78 rfl hT3 S4.tp S4.ls
  case zB16 => assumption
  case zX16 => assumption
  case zT16 => assumption
  case zk16 => exact rfl
  case zd16 => exact Nat.le_of_ble_eq_true rfl
  case zu16 => exact Nat.le_of_ble_eq_true rfl
  intro bh T4 tb led9 h9 tk9 F9 N9 S5 P5 b5 l5 e5 E5
  have SE := S4.ext' E5 S5 P5
  clear S4 S5 P5 E5
  first | k_unfold | skip
  try clear qk9
  try dsimp only
  try k_fold
  k_steps
  unfold Hold
  with_reducible refine' (cutN "fault" ?zF17 ?zR17 ?_ ?_)
  case zR17 => exact fun v' led' => FV v' (enF f1 ok ei) ∧ led' = led9
  case zF17 => assumption
  · clear out
    have m_flt4 := M2.flt
    cases ok with
    | true =>
      k_steps
      refine CNext.mk (by k_asm) (by k_asm) ⟨vf1, ⟨?_, rfl⟩, ?_⟩
      · rcases f1 with _ | p
        · exact hf1
        · exact hf1
      · exact map_same m_flt4
    | false =>
      cases hok rfl
      k_steps
      exact CNext.mk (by k_asm) (by k_asm) ⟨_, ⟨⟨_, rfl⟩, rfl⟩, rfl⟩
  rintro h5 tk5 v5 led5 ⟨hF5, rfl⟩ F5 N5
  have eT : T4 = T0 ++ wiT wi (bd.toks [.w "key" (bif ok then endW fn else "endmodule") ei, .w "op" ";" bh]) := by
    rw [e5, eT3, eT2, eT1, List.append_assoc, List.append_assoc, List.append_assoc, ← wiT_app, List.nil_append, ← BD.toks_app]; rfl
  rw [eT] at SE b5
  rw [ef1] at hF5
  exact out _ _ _ _ _ _ wi bd ok ei bh F5 N5 ⟨(((M2.set (by decide +kernel)).set (by decide +kernel)).set (by decide +kernel)).put, m_bod, ⟨_, rfl⟩, hF5, hk, SE, b5⟩
end
section
local macro_rules | `(tactic| walk_at "compareOp Eq ref ref") => `(tactic| (k_here; refine of_hold ?_))
section
variable {w : World} {A : Around} {E : Value → Shared → Prop} {s : Shared} {L D e : Addr} {h₀ : Heap} {m : PySem.Str → Option Value} {led : Led} {name : PySem.Str} {v : Value} {oe od : Obj}
theorem src_get {expr : Bool} {Q : Value → Shared → Prop} (X₀ : (headK w.params).In h₀) (F : Fr h₀ L s.heap m) (N : News h₀ L s.heap led) (he : (e, oe) ∈ led) (hc : oe.cls = .ref 52) (hd : oe.dict = some D) (hn : notCls oe = true) (hD : (D, od) ∈ led)
    (hf : findObj (headK w.params) 52 (some od) name = some (.value v)) (hh : handedIn v = true) (h : Q v { s with toks := s.toks + 1 }) :
    wpAny (model PySem.Challenge.rw_pq0478_02.row.prog w) A (getAttr (.ref e) name expr) Q E s := by
  revert X₀; k_fill; intro X₀
  exact get_x (X₀.keeps F.keep) ⟨(N _ he).1, hc, hn, by rw [hd]; exact (N _ hD).1⟩ (by k_is) (by decide) (by decide) (by k_is) (by k_is) hf hh h
end
local macro_rules | `(tactic| walk_at "getAttr ref") => `(tactic| (k_here; k_dflt (refine src_get (by k_asm) (by k_asm) (by k_asm) (by k_mem) (by assumption) (by assumption) (by assumption) (by k_mem) (by exact rfl) (by exact rfl) ?_); k_whole))
theorem okD_num {i m : Int} {n : Nat} : okD (n + 2) (numD i m) = true := by
  simp only [numD, okD, List.all_cons, List.all_nil, Bool.and_true]
  decide +kernel
theorem okD_fig {c : Nat} {p : Int} {n : Nat} : okD (n + 2) (figD c p) = true := by
  simp only [figD, okD, List.all_cons, List.all_nil, Bool.and_true]
  decide +kernel
theorem okD_ex {s : SH} {b : Int} {n : Nat} : okD (n + 3) (s.ex b) = true := by
  have two : ∀ {x y : Dat}, okD (n + 2) x = true → okD (n + 2) y = true → okD (n + 3) (.tuple [x, y]) = true := fun h k => by
    show List.all [_, _] (okD (n + 2)) = true
    simp only [List.all_cons, List.all_nil, h, k, Bool.and_true]
  have sp : ∀ o : Option SP, okD (n + 3) (spD o) = true := fun o => by
    rcases o with _ | p
    · rfl
    · exact two okD_fig okD_fig
  obtain ⟨k, si, sp'⟩ := s
  cases k with
  | none => exact sp sp'
  | reg j => exact sp sp'
  | int j => exact two okD_num okD_num
  | time j => exact two okD_num okD_num
theorem okD_port {g : PG} {nm : PySem.Str} {n : Nat} (hd : IsDir g.dir) (h : PyData.strOk nm = true) : okD (n + 4) (portD g nm) = true := by
  have hx : ∀ x : PySem.Str, IsDir x → PyData.strOk x = true := fun x h => by cases h <;> decide +kernel
  have hdir := hx _ hd
  show List.all [.str "port", .int g.b, .str g.dir, .bool g.sh.sg, g.sh.ex g.b, .str nm] (okD (n + 3)) = true
  simp only [List.all_cons, List.all_nil, okD_ex, Bool.and_true, okD, h, hdir, Bool.true_and]
  decide +kernel
theorem okD_pg {g : PG} {n : Nat} (hg : g.wf) (ok : g.ok) : ∀ d ∈ g.dats, okD (n + 4) d = true := by
  intro d hd
  rcases List.mem_cons.mp hd with rfl | hd
  · exact okD_port hg.d ok.1
  · obtain ⟨p, hp, rfl⟩ := List.mem_map.mp hd
    exact okD_port hg.d (ok.2 p hp)
theorem okD_ps {l : List (Int × PG)} {n : Nat} (h : ∀ p ∈ l, p.2.wf ∧ p.2.ok) : ∀ d ∈ psD l, okD (n + 4) d = true := by
  induction l with
  | nil => intro d hd; cases hd
  | cons p l ih =>
    obtain ⟨c, g⟩ := p
    intro d hd
    rcases List.mem_append.mp hd with hd | hd
    · exact okD_pg (h _ List.mem_cons_self).1 (h _ List.mem_cons_self).2 d hd
    · exact ih (fun q hq => h q (List.mem_cons_of_mem _ hq)) d hd
theorem okD_var {b : Int} {nm : PySem.Str} {n : Nat} (h : PyData.strOk nm = true) : okD (n + 4) (varD b nm) = true := by
  simp only [varD, okD, List.all_cons, List.all_nil, h, Bool.and_true, Bool.true_and]
  decide +kernel
theorem okD_ds {l : List DI} {n : Nat} (h : ∀ d ∈ l, d.wf ∧ d.ok) : ∀ d ∈ dsD l, okD (n + 4) d = true := by
  induction l with
  | nil => intro d hd; cases hd
  | cons p l ih =>
    intro d hd
    rcases List.mem_append.mp hd with hd | hd
    · have h1 := h _ List.mem_cons_self
      cases p with
      | ports g e => exact okD_pg h1.1 h1.2 d hd
      | int b nm j e => rw [List.mem_singleton.mp hd]; exact okD_var h1.2
    · exact ih (fun q hq => h q (List.mem_cons_of_mem _ hq)) d hd
theorem okD_hd {hd : Option (Int × List (Int × PG) × Int)} {n : Nat} (h : ∀ o l c, hd = some (o, l, c) → (∀ p ∈ l, p.2.wf ∧ p.2.ok) ∧ l.length ≤ 2) : ∀ d ∈ hdD hd, okD (n + 4) d = true := by
  rcases hd with _ | ⟨o, l, c⟩
  · intro d hd; cases hd
  · exact okD_ps (h _ _ _ rfl).1
theorem okD_bd {bd : BD} {n : Nat} (h : okD 3 bd.dat = true) : okD (n + 3) bd.dat = true := by
  cases bd with
  | none => rfl
  | semi e => rfl
  | trig a nm j e =>
    simp only [BD.dat, trigD, idD, okD, List.all_cons, List.all_nil, Bool.and_true, Bool.true_and] at h ⊢
    exact h
theorem okD_unx {i : Int} : okD 8 (.tuple [.str "unexpected_token", .int i]) = true := by
  show List.all [.str "unexpected_token", .int i] (okD 7) = true
  simp only [List.all_cons, List.all_nil, okD, Bool.and_true]
  decide +kernel
theorem okD_rt {fn a sg : Bool} {b : Int} {s : SH} {hd : Option (Int × List (Int × PG) × Int)} {ds : List DI} {bd : BD} (h1 : ∀ o l c, hd = some (o, l, c) → (∀ p ∈ l, p.2.wf ∧ p.2.ok) ∧ l.length ≤ 2) (h2 : ∀ d ∈ ds, d.wf ∧ d.ok) (h3 : okD 3 bd.dat = true) :
    okD 8 (.tuple [.str "routine", .int b, .str (sortW fn), .bool a, .bool sg, shE fn s b, .str "work", .tuple (hdD hd ++ dsD ds), bd.dat]) = true := by
  have e1 : okD 7 (shE fn s b) = true := by
    cases fn with
    | false => rfl
    | true => exact okD_ex (n := 4)
  have e2 : okD 7 (.tuple (hdD hd ++ dsD ds)) = true := by
    show List.all _ (okD 6) = true
    refine List.all_eq_true.mpr fun d hd' => ?_
    rcases List.mem_append.mp hd' with hd' | hd'
    · exact okD_hd (n := 2) h1 d hd'
    · exact okD_ds (n := 2) h2 d hd'
  have e3 : okD 7 bd.dat = true := okD_bd (n := 4) h3
  have e4 : PyData.strOk (sortW fn) = true := by cases fn <;> decide +kernel
  show List.all [.str "routine", .int b, .str (sortW fn), .bool a, .bool sg, shE fn s b, .str "work", .tuple (hdD hd ++ dsD ds), bd.dat] (okD 7) = true
  simp only [List.all_cons, List.all_nil, e1, e2, e3, Bool.and_true, Bool.true_and]
  show (PyData.strOk "routine" && (true && (PyData.strOk (sortW fn) && (true && (true && PyData.strOk "work"))))) = true
  rw [e4]; decide +kernel
theorem rtF_eq {fn ok : Bool} {wd : PySem.Str} {j ei : Int} {wi : Option (Int × Int × Int)} {f0 : Option Int} (h : f0 = bif fn && wd == "reg" then some j else none) : enF (wiF f0 wi) ok ei = rtF fn wd j wi ok ei := by
  subst h
  unfold rtF
  cases fn && wd == "reg" with
  | true => rfl
  | false =>
    rcases wi with _ | ⟨a, b, c⟩
    · rfl
    · rfl
noncomputable def rtT (fn : Bool) (b : Int) (au : Option Int) (s : SH) (j : Int) (hd : Option (Int × List (Int × PG) × Int)) (se : Int) (ds : List DI) : List TK :=
  ([TK.w "key" (sortW fn) b] ++ auT au ++ shT fn s ++ [.w "id" "work" j] ++ hdT hd []) ++ [TK.w "op" ";" se] ++ dsT ds []
theorem hdT_app (o : Option (Int × List (Int × PG) × Int)) (a b : List TK) : hdT o (a ++ b) = hdT o a ++ b := by
  rcases o with _ | ⟨x, l, y⟩
  · rfl
  · show _ :: hsT l ((.w "op" ")" y :: a) ++ b) = _
    rw [hsT_app]; rfl
theorem rtT_all {fn : Bool} {b : Int} {au : Option Int} {s : SH} {j : Int} {hd : Option (Int × List (Int × PG) × Int)} {se : Int} {ds : List DI} {wi : Option (Int × Int × Int)} {R1 : List TK} :
    rtT fn b au s j hd se ds ++ wiT wi R1 = .w "key" (sortW fn) b :: (auT au ++ (shT fn s ++ .w "id" "work" j :: hdT hd (.w "op" ";" se :: dsT ds (wiT wi R1)))) := by
  rw [show wiT wi R1 = [] ++ wiT wi R1 from rfl, dsT_app, show (TK.w "op" ";" se :: (dsT ds [] ++ wiT wi R1)) = [] ++ (TK.w "op" ";" se :: (dsT ds [] ++ wiT wi R1)) from rfl, hdT_app]
  simp [rtT]
theorem end_c {w : World} {h₀ : Heap} {mean : ExcName → Option Value} {mg mb : PySem.Str → Option Value} {L fa cd : Addr} {sh' : Shared} {Q : Flow → Shared → Prop} {E : Value → Shared → Prop}
    {mB : PySem.Str → Option Value} {rl sh D : Addr} {fn ok : Bool} {b j se ei bh : Int} {vx vf vb : Value} {bs led : Led} {au : Option Int} {s : SH} {hd : Option (Int × List (Int × PG) × Int)} {ds : List DI} {wi : Option (Int × Int × Int)} {bd : BD} {f0 : Option Int}
    (B : Below callerA h₀ [] h₀) (F : Fr h₀ L sh'.heap mB) (X : (headK w.params).In h₀) (N : News h₀ L sh'.heap led) (T : Top headV LO mean mg mb h₀)
    (hs : spF s.sp) (hhd : ∀ o l c, hd = some (o, l, c) → (∀ p ∈ l, p.2.wf ∧ p.2.ok) ∧ l.length ≤ 2) (hds : ∀ d ∈ ds, d.wf ∧ d.ok) (hdn : ds.length ≤ 2) (hf0 : f0 = bif fn && s.k.word == "reg" then some j else none) (hdl : (hdD hd ++ dsD ds).length ≤ 12) (hT : (rtT fn b au s j hd se ds).length ≤ 71)
    (C : EndC rl sh D fn au.isSome (fn && s.sg) b vx (shE fn s b) bs (rtT fn b au s j hd se ds) (hdD hd ++ dsD ds) f0 mB led vf vb wi bd ok ei bh)
    (hret : ∀ h' tk' m' led', Fr h₀ L h' m' → News h₀ L h' led' → Q (.ret (.bool true)) { sh' with heap := h', toks := tk' }) :
    wpAny (model PySem.Challenge.rw_pq0478_02.row.prog w) (callerA.deeper (envOf "law" s847 L fa (.ref cd))) (execs law24 (envOf "law" s847 L fa (.ref cd))) Q E sh' := by
  revert X; k_fill; intro X
  obtain ⟨M, m_bod, ⟨tbh, m_beh⟩, hF, hk, S, hTl⟩ := C
  rw [rtF_eq hf0] at hF
  have m_row := M.row
  have m_due := M.due
  have m_flt := M.flt
  have m_aut := M.aut
  have m_sig := M.sig
  have m_ext := M.ext
  obtain ⟨tso, m_sort⟩ := M.sort
  obtain ⟨tbe, m_beg⟩ := M.begun
  obtain ⟨ws, n2, mr, hTk⟩ := S.ls.row
  have hws := hTk.len
  have hwl : ws.length ≤ 1000 := by rw [hws]; exact Nat.le_trans hTl (Nat.le_of_ble_eq_true rfl)
  rw [rtT_all] at hTk
  k_steps
  unfold Hold
  skip
  with_reducible refine' (let qk9 : Value → Shared → Prop := ?zq0; Con.useL (Q := qk9) ?zC0 ?zB0 ?zF0 ?zX0 ?zN0 ?zT0 ?zk0 ?zd0 ?zu0 ?zr0)
  case zF0 => assumption
  case zN0 => k_asm
  case zC0 => exact row_c
  case zB0 => assumption
  case zX0 => assumption
  case zT0 => assumption
  case zk0 => exact rfl
  case zd0 => exact Nat.le_of_ble_eq_true rfl
  case zu0 => exact Nat.le_of_ble_eq_true rfl
  rintro r9 led9 h9 tk9 F9 N9 ⟨sx, sdx, q0, q1, q2, q3, q4, q5, q6, rfl, m1, m2, m3, m4, m5⟩
  first | k_unfold | skip
  try clear qk9
  try dsimp only
  try k_fold
  k_steps
  unfold Hold
  skip
  with_reducible refine' (let qk9 : Value → Shared → Prop := ?zq1; Con.useL (Q := qk9) ?zC1 ?zB1 ?zF1 ?zX1 ?zN1 ?zT1 ?zk1 ?zd1 ?zu1 ?zr1)
  case zF1 => assumption
  case zN1 => k_asm
  case zC1 => exact parser_c m1 m2 (m3 _ mr) (hTk.sub (Sub.of m3)) hwl
  case zB1 => assumption
  case zX1 => assumption
  case zT1 => assumption
  case zk1 => exact rfl
  case zd1 => exact Nat.le_of_ble_eq_true rfl
  case zu1 => exact Nat.le_of_ble_eq_true rfl
  rintro r9 led9 h9 tk9 F9 N9 ⟨P, rfl, e1, e2, SP, mf, m6, m7⟩
  first | k_unfold | skip
  try clear qk9
  try dsimp only
  try k_fold
  k_steps
  refine PS.openedK SP (fun tv1 td1 k1 u41 u51 hb1 kt1 u01 u21 val1 hx1 hd1 ht1 htd1 => ?_)
  k_steps
  have CE := routine_item_c (w := w) (wi := wi) (bd := bd) (ok := ok) (au := au) hs (fun o l c e => ⟨fun p hp => ((hhd o l c e).1 p hp).1, (hhd o l c e).2⟩) (fun d hd => (hds d hd).1) hdn rfl rfl rfl rfl SP
  clear hx1 hd1 ht1 htd1
  obtain ⟨ys, kk, mD, VD⟩ := S.ld
  have mDr := m3 _ mD
  have mDp := m6 _ _ mDr (Nat.ne_of_lt (m4 _ mD))
  have ZZ := (Sub.of m3).trans mf
  have VB := S.vi.hd.sub ZZ
  have VX := S.vi.tl.hd.sub ZZ
  unfold Hold
  with_reducible refine' ConE.useL ?zK2 CE ?zkp ?zB2 ?zF2 ?zX2 ?zN2 ?zT2 ?zk2 ?zd2 ?zu2 ?zr2 ?zq2
  case zK2 => exact []
  case zkp => exact fun _ h => nomatch h
  case zF2 => assumption
  case zN2 => k_asm
  case zB2 => assumption
  case zX2 => assumption
  case zT2 => assumption
  case zk2 => exact rfl
  case zd2 => exact Nat.le_of_ble_eq_true rfl
  case zu2 => exact Nat.le_of_ble_eq_true rfl
  case zq2 =>
    rintro kind i ⟨rfl, hi⟩ e D k u0 u1 dv g h' tk' Fg Ug RX
    rw [hi] at hF
    obtain ⟨tf, rfl⟩ := (show ∃ t, vf = .int i t from hF)
    refine caught_x B Fg Ug RX X (topRead_of T) (by k_is) (X _ _ rfl) rfl (fun h3 oe tk3 hc hd hnc F3 N3 => ?_)
    k_steps
    unfold Hold
    refine eq_datD (by k_asm) (.tup (List.mem_cons_of_mem _ List.mem_cons_self) (.cons (.str _ _) (.cons (.int _ _) .nil))) (.tup List.mem_cons_self (.cons (.str _ _) (.cons (.int _ _) .nil))) okD_unx (by first | units_room | k_room) ?_
    k_steps
    exact hret _ _ _ _ (by k_asm) (by k_asm)
  case zr2 =>
    rintro r9 led9 h9 tk9 F9 N9 ⟨hok, VT, SQ, EQ⟩
    rw [hok] at hF
    cases (show vf = .none from hF)
    have mD9 := EQ.oth _ _ mDp (Nat.ne_of_lt (m7 _ mDr).1) (by rw [e2]; exact Nat.ne_of_lt (m4 _ mD)) (Nat.ne_of_lt (m7 _ mDr).2)
    have VD9 := (VD.sub ZZ).sub EQ.frz
    have hyz : ys.length ≤ 1000 := by rw [VD.length]; exact Nat.le_trans hdl (Nat.le_of_ble_eq_true rfl)
    have VB9 := VB.sub EQ.frz
    have VX9 := VX.sub EQ.frz
    obtain ⟨at9, vt9, nt9, rfl, mt9, rt9⟩ := VT.inv_tup
    refine PS.openedK SQ (fun tv2 td2 k2 u42 u52 hb2 kt2 u02 u22 val2 hx2 hd2 ht2 htd2 => ?_)
    try clear hx1 hd1 ht1 htd1
    k_steps
    unfold Hold
    have u2 : ∀ {p q : Addr × Obj}, ∀ x ∈ led9, x ∈ p :: q :: led9 := fun _ h => List.mem_cons_of_mem _ (List.mem_cons_of_mem _ h)
    refine eq_datD (by k_asm) ((VI.tup mt9 rt9).up u2) (.tup List.mem_cons_self (.cons (.str _ _) (.cons (.int _ _) (.cons (.str _ _) (.cons (.bool _) (.cons (.bool _) (.cons (VX9.up u2) (.cons (.str _ _) (.cons (.tup (List.mem_cons_of_mem _ List.mem_cons_self) (VD9.up u2)) (.cons (VB9.up u2) .nil)))))))))) (okD_rt hhd hds hk) (by first | units_room | k_room) ?_
    k_steps
    rw [show ((TK.w "op" ";" bh).pos == bh) = true from beq_self_eq_true bh]
    exact hret _ _ _ _ (by k_asm) (by k_asm)
end
section
local macro_rules | `(tactic| walk_at "subscriptTail") => `(tactic| (k_here; (with_reducible show wpAny _ _ (subscriptTail _ _ (Value.ref _) (Value.int _ _)) _ _ _); refine of_hold ?_))
theorem LS.start {led : Led} {sh rl : Addr} {us : List Value} {ns : List Int} {k0 : Nat} (m0 : (sh, listOf us.toArray k0) ∈ led) (h1 : IntsAre us ns) (h2 : ∀ i ∈ ns, 0 ≤ i ∧ i < 97) (h3 : us.length ≤ 60) (l : ∀ p ∈ led, p.1 < rl) : LS ((rl, listOf #[] 0) :: led) sh rl [] :=
  ⟨⟨us, ns, k0, List.mem_cons_of_mem _ m0, h1, h2, h3⟩, ⟨[], 0, List.mem_cons_self, .nil⟩, Nat.ne_of_lt (l _ m0)⟩
theorem sort_in {i : Int} (h0 : 0 ≤ i) (h1 : i < 2) : ∃ fn, (["task", "function"] : List PySem.Str).getD i.toNat PySem.Str.empty = sortW fn := by
  have e : i = 0 ∨ i = 1 := by omega
  rcases e with rfl | rfl
  · exact ⟨false, rfl⟩
  · exact ⟨true, rfl⟩
theorem kw_all2 : ∀ i : Nat, i < 4 → KW ((["", "integer", "time", "reg"] : List PySem.Str).getD i Str.empty) := by
  intro i h
  have e : i = 0 ∨ i = 1 ∨ i = 2 ∨ i = 3 := by omega
  rcases e with rfl | rfl | rfl | rfl
  · exact .e
  · exact .i
  · exact .t
  · exact .r
structure HeC (sh rl : Addr) (fn : Bool) (T : List TK) (b : Int) (led : Led) (m0 m' : PySem.Str → Option Value) (led' : Led) (s : SH) (vx : Value) : Prop where
  w : fn = true → ∃ t, m' "word" = some (.str s.k.word t)
  sg : m' "signed" = some (.bool (fn && s.sg))
  ex : m' "extent" = some vx
  V : VI led' vx (shE fn s b)
  oth : ∀ y : PySem.Str, y ≠ "word" → y ≠ "signed" → y ≠ "extent" → m' y = m0 y
  hs : spF s.sp
  tp : TP (T ++ shT fn s)
  ls : LS led' sh rl (T ++ shT fn s)
theorem body_c {w : World} {h₀ : Heap} {mean : ExcName → Option Value} {mg mb : PySem.Str → Option Value} {L l fa cd : Addr} {vs : List Value} {is : List Int} {s : Shared} {Q : Flow → Shared → Prop} {E : Value → Shared → Prop}
    (B : Below callerA h₀ [] h₀) (F : Fr h₀ L s.heap (fun x => List.lookup x [("script", Value.ref l)])) (X : (headK w.params).In h₀) (N : News h₀ L s.heap []) (T : Top headV LO mean mg mb h₀) (hI : IntsAre vs is) (hsl : h₀.IsList l vs.toArray) (hl63 : vs.length ≤ 63)
    (hPO : PassesOwn (model PySem.Challenge.rw_pq0478_02.row.prog w) (callerA.deeper (envOf "law" s847 L fa (.ref cd))) (envOf "law" s847 L fa (.ref cd)) E)
    (hret : ∀ h' tk' m' led', Fr h₀ L h' m' → News h₀ L h' led' → Q (.ret (.bool true)) { s with heap := h', toks := tk' }) :
    wpAny (model PySem.Challenge.rw_pq0478_02.row.prog w) (callerA.deeper (envOf "law" s847 L fa (Value.ref cd))) (execs b847 (envOf "law" s847 L fa (Value.ref cd))) Q E s := by
  revert X; k_fill; intro X
  k_steps
  unfold Hold
  skip
  refine ConP.use (stalks_c (n := 0) hI hl63) (hsl) (by assumption) (by assumption) (by assumption) (by k_asm) (by assumption) (by first | exact rfl | assumption) (Nat.le_of_ble_eq_true rfl) (Nat.le_of_ble_eq_true rfl) ?_
  rintro r9 led9 h9 tk9 F9 N9 ⟨⟨sh, us, ns, k0, rfl, m0, h1, h2, h3⟩, e0⟩
  try dsimp only
  try k_fold
  clear hl63 hsl hI
  k_steps
  rename_i rl hq1 lD hq2 F0 N0
  have S0 := LS.start m0 h1 h2 h3 lD
  refine of_hold ?_
  unfold Hold
  with_reducible refine' (cutN "sort" ?zF0 ?zR0 ?_ ?_)
  case zR0 => exact fun v' led' => (∃ fn sort t, v' = .str sort t ∧ sort = sortW fn) ∧ LS led' sh rl []
  case zF0 => assumption
  · clear hret
    k_steps
    (rename _ ∧ AllLt _ _ => lE)
    have nD := S0.fresh (allLt_get (l := (rl, listOf #[] 0) :: led9) lE)
    unfold Hold
    skip
    with_reducible refine' (let qk9 : Value → Shared → Prop := ?zq1; Con.useTwigL (Q := qk9) ?zC1 ?zB1 ?zF1 ?zX1 ?zN1 ?zT1 ?zk1 ?zd1 ?zu1 ?zr1)
    case zF1 => assumption
    case zN1 => k_asm
    case zC1 => exact stalk_c (by decide) (by decide) S0.cons
    case zB1 => assumption
    case zX1 => assumption
    case zT1 => assumption
    case zk1 => exact rfl
    case zd1 => exact Nat.le_of_ble_eq_true rfl
    case zu1 => exact Nat.le_of_ble_eq_true rfl
    intro i ti led9 h9 tk9 F9 N9 i0 i1 S1 E1
    first | k_unfold | skip
    try clear qk9
    try dsimp only
    try k_fold
    refine item_strsR (ys := ["task", "function"]) (N9.isList (E1.oth _ _ List.mem_cons_self nD.1 nD.2)) (by repeat constructor) i0 i1 (by omega) (fun t4 => ?_)
    obtain ⟨fn, hfn⟩ := sort_in i0 i1
    rw [hfn]
    k_steps
    exact CNext.mk (by k_asm) (by k_asm) ⟨_, ⟨⟨fn, _, _, rfl, rfl⟩, S1⟩, rfl⟩
  clear S0 F0 N0 lD m0 h1 h2 h3 e0
  rintro hA tkA vA ledA ⟨⟨fn, sort, ts, rfl, hsort⟩, SA⟩ FA NA
  first | k_unfold | skip
  try clear qk9
  try dsimp only
  k_steps
  unfold Hold
  skip
  with_reducible refine' (let qk9 : Value → Shared → Prop := ?zq2; Con.useSayL (Q := qk9) ?zC2 ?zB2 ?zF2 ?zX2 ?zN2 ?zT2 ?zk2 ?zd2 ?zu2 ?zr2)
  case zF2 => assumption
  case zN2 => k_asm
  case zC2 => exact say_p 0 rfl (Nat.le_refl _) TP.nil SA
  case zB2 => assumption
  case zX2 => assumption
  case zT2 => assumption
  case zk2 => exact rfl
  case zd2 => exact Nat.le_of_ble_eq_true rfl
  case zu2 => exact Nat.le_of_ble_eq_true rfl
  intro b T1 tb led9 h9 tk9 F9 N9 S1 P1 b1 z96 e1 E1
  clear z96
  clear SA E1
  first | k_unfold | skip
  try clear qk9
  try dsimp only
  try k_fold
  k_steps
  unfold Hold
  with_reducible refine' (cutN "automatic" ?zF3 ?zR3 ?_ ?_)
  case zR3 => exact fun v' led' => (∃ a, v' = .bool a) ∧ LS led' sh rl T1
  case zF3 => assumption
  · clear hret
    k_steps
    unfold Hold
    skip
    with_reducible refine' (let qk9 : Value → Shared → Prop := ?zq4; Con.useTwigL (Q := qk9) ?zC4 ?zB4 ?zF4 ?zX4 ?zN4 ?zT4 ?zk4 ?zd4 ?zu4 ?zr4)
    case zF4 => assumption
    case zN4 => k_asm
    case zC4 => exact stalk_c (by decide) (by decide) S1
    case zB4 => assumption
    case zX4 => assumption
    case zT4 => assumption
    case zk4 => exact rfl
    case zd4 => exact Nat.le_of_ble_eq_true rfl
    case zu4 => exact Nat.le_of_ble_eq_true rfl
    intro i ti led9 h9 tk9 F9 N9 i0 i1 S2 E2
    first | k_unfold | skip
    try clear qk9
    try dsimp only
    try k_fold
    k_steps
    exact CNext.mk (by k_asm) (by k_asm) ⟨_, ⟨⟨_, rfl⟩, S2⟩, rfl⟩
  clear S1
  rintro hB tkB vB ledB ⟨⟨a, rfl⟩, S2⟩ FB NB
  first | k_unfold | skip
  try clear qk9
  try dsimp only
  refine of_hold ?_
  unfold Hold
  with_reducible refine' (cutL ?zF5 ?zR5 ?_ ?_)
  case zR5 => exact fun led' => ∃ au : Option Int, au.isSome = a ∧ TP (T1 ++ auT au) ∧ LS led' sh rl (T1 ++ auT au) ∧ (T1 ++ auT au).length ≤ 2
  case zF5 => assumption
  · clear hret
    cases a with
    | true =>
      k_steps
      unfold Hold
      skip
      with_reducible refine' (let qk9 : Value → Shared → Prop := ?zq6; Con.useSayL (Q := qk9) ?zC6 ?zB6 ?zF6 ?zX6 ?zN6 ?zT6 ?zk6 ?zd6 ?zu6 ?zr6)
      case zF6 => assumption
      case zN6 => k_asm
      case zC6 => exact say_p 1 rfl b1 P1 S2
      case zB6 => assumption
      case zX6 => assumption
      case zT6 => assumption
      case zk6 => exact rfl
      case zd6 => exact Nat.le_of_ble_eq_true rfl
      case zu6 => exact Nat.le_of_ble_eq_true rfl
      intro q3 T3 t3 led9 h9 tk9 F9 N9 S3 P3 b3 z96 e3 E3
      clear z96
      first | k_unfold | skip
      try clear qk9
      try dsimp only
      try k_fold
      k_steps
      rw [e3] at P3 S3 b3
      exact CNext.mk (by k_asm) (by k_asm) ⟨⟨some q3, rfl, P3, S3, b3⟩, rfl⟩
    | false =>
      k_steps
      exact CNext.mk (by k_asm) (by k_asm) ⟨⟨none, rfl, by simpa [auT] using P1, by simpa [auT] using S2, by show (T1 ++ []).length ≤ 2; rw [List.append_nil]; omega⟩, rfl⟩
  clear S2 P1 b1
  rintro hC tkC ledC ⟨au, hau, P3, S3, b3⟩ FC NC
  rw [← hau] at FC
  clear hau
  obtain ⟨T3, eT3⟩ : ∃ T3, T3 = T1 ++ auT au := ⟨_, rfl⟩
  rw [← eT3] at P3 S3 b3
  first | k_unfold | skip
  try clear qk9
  try dsimp only
  k_steps
  unfold Hold
  with_reducible refine' (cutV ?zF7 ?zR7 ?_ ?_)
  case zR7 => exact fun m0 m' led' => ∃ s vx, HeC sh rl fn T3 b led9 m0 m' led' s vx
  case zF7 => assumption
  · clear hret
    cases fn with
    | false =>
      have es : sort = "task" := hsort
      subst es
      k_steps
      exact CNext.mk (by k_asm) (by k_asm) ⟨⟨.none, none, none⟩, .none, (fun h => nomatch h), rfl, rfl, .none, fun _ _ _ _ => rfl, trivial, by show TP (T3 ++ []); rw [List.append_nil]; exact P3, by show LS _ sh rl (T3 ++ []); rw [List.append_nil]; exact S3⟩
    | true =>
      have es : sort = "function" := hsort
      subst es
      k_steps
      (rename ∀ p ∈ ledC, p.1 < _ => lD1)
      have nD1 := S3.fresh lD1
      unfold Hold
      skip
      with_reducible refine' (let qk9 : Value → Shared → Prop := ?zq8; Con.useL (Q := qk9) ?zC8 ?zB8 ?zF8 ?zX8 ?zN8 ?zT8 ?zk8 ?zd8 ?zu8 ?zr8)
      case zF8 => assumption
      case zN8 => k_asm
      case zC8 => exact law_shape_c (ys := ["", "integer", "time", "reg"]) (.cons _ _ (.cons _ _ (.cons _ _ (.cons _ _ .nil)))) rfl kw_all2 List.mem_cons_self nD1.1 nD1.2 (by omega) P3 S3.cons
      case zB8 => assumption
      case zX8 => assumption
      case zT8 => assumption
      case zk8 => exact rfl
      case zd8 => exact Nat.le_of_ble_eq_true rfl
      case zu8 => exact Nat.le_of_ble_eq_true rfl
      rintro r9 led9 h9 tk9 F9 N9 ⟨s', hs, V4, P4, S4, E4⟩
      obtain ⟨a3, v1, v2, vx, n3, rfl, m3, g1, g2, VX⟩ := V4.inv3
      obtain ⟨u1, rfl⟩ := g1.inv_str
      first | k_unfold | skip
      try clear qk9
      try dsimp only
      try k_fold
      cases g2.inv_bool
      k_steps
      exact CNext.mk (by k_asm) (by k_asm) ⟨s', vx, fun _ => ⟨_, rfl⟩, rfl, rfl, VX, fun y h1 h2 h3 => by rw [if_neg h3, if_neg h2, if_neg h1], hs, P4, S4⟩
  clear S3 P3
  rintro hD tkD mD ledD ⟨s', vx, C⟩ FD ND
  have c_row : mD "row" = some (.ref rl) := (C.oth "row" (by decide) (by decide) (by decide)).trans rfl
  have c_nest : mD "nest" = some (.ref sh) := (C.oth "nest" (by decide) (by decide) (by decide)).trans rfl
  have c_sort : mD "sort" = some (.str sort ts) := (C.oth "sort" (by decide) (by decide) (by decide)).trans rfl
  have c_beg : mD "begun" = some (.int b tb) := (C.oth "begun" (by decide) (by decide) (by decide)).trans rfl
  have c_aut : mD "automatic" = some (.bool au.isSome) := (C.oth "automatic" (by decide) (by decide) (by decide)).trans rfl
  have c_flt : mD "fault" = some .none := (C.oth "fault" (by decide) (by decide) (by decide)).trans rfl
  have hT5 : (T3 ++ shT fn s').length ≤ 9 := by
    have := s'.toks_len
    rw [List.length_append]
    cases fn with
    | false => show T3.length + 0 ≤ 9; omega
    | true => show T3.length + s'.toks.length ≤ 9; omega
  first | k_unfold | skip
  try clear qk9
  try dsimp only
  k_steps
  unfold Hold
  skip
  with_reducible refine' (let qk9 : Value → Shared → Prop := ?zq9; Con.useSayL (Q := qk9) ?zC9 ?zB9 ?zF9 ?zX9 ?zN9 ?zT9 ?zk9 ?zd9 ?zu9 ?zr9)
  case zF9 => assumption
  case zN9 => k_asm
  case zC9 => exact say_p 9 rfl hT5 C.tp C.ls
  case zB9 => assumption
  case zX9 => assumption
  case zT9 => assumption
  case zk9 => exact rfl
  case zd9 => exact Nat.le_of_ble_eq_true rfl
  case zu9 => exact Nat.le_of_ble_eq_true rfl
  intro j T6 tj led9 h9 tk9 F9 N9 S6 P6 b6 z96 e6 E6
  clear z96
  first | k_unfold | skip
  try clear qk9
  try dsimp only
  try k_fold
  k_steps
  unfold Hold
  with_reducible refine' (cutN "fault" ?zF10 ?zR10 ?_ ?_)
  case zR10 => exact fun v' led' => FV v' (bif fn && s'.k.word == "reg" then some j else none) ∧ led' = led9
  case zF10 => assumption
  · clear hret
    cases fn with
    | false =>
      have es : sort = "task" := hsort
      subst es
      k_steps
      exact CNext.mk (by k_asm) (by k_asm) ⟨.none, ⟨rfl, rfl⟩, map_same ((if_neg (by decide)).trans c_flt)⟩
    | true =>
      have es : sort = "function" := hsort
      subst es
      obtain ⟨tw, c_w⟩ := C.w rfl
      generalize s'.k.word = x at c_w ⊢
      rcases hx : (x == PySem.Str.ofString "reg") with _ | _
      · k_steps
        exact CNext.mk (by k_asm) (by k_asm) ⟨.none, ⟨rfl, rfl⟩, map_same ((if_neg (by decide)).trans c_flt)⟩
      · k_steps
        exact CNext.mk (by k_asm) (by k_asm) ⟨_, ⟨⟨_, rfl⟩, rfl⟩, rfl⟩
  rintro hE tkE vf ledE ⟨hf, eL⟩ FE NE
  rw [eL] at NE
  clear eL
  first | k_unfold | skip
  try clear qk9
  try dsimp only
  k_steps
  (rename ∀ p ∈ led9, p.1 < _ => lDD)
  have nD := S6.fresh lDD
  have SF : LSt led9 sh rl _ (_ :: led9) T6 [] [vx] [shE fn s' b] := ⟨S6.cons, P6, ExtL.refl.cons, ⟨[], 0, List.mem_cons_self, .nil⟩, .cons ((C.V.sub E6.frz).up fun _ h => List.mem_cons_of_mem _ h) .nil, fun p hp => Nat.ne_of_lt (lDD p hp), nD.1, nD.2⟩
  have hT6 : T6.length ≤ 12 := Nat.le_trans b6 (Nat.le_of_ble_eq_true rfl)
  unfold Hold
  show wpAny _ _ (execs law13 _) _ _ _
  (rename Fr _ _ _ _ => Fz); (rename News _ _ _ _ => Nz)
  refine hdr_c B Fz X Nz T hPO ⟨c_row, c_nest, rfl, ⟨ts, by rw [← hsort]; exact c_sort⟩, ⟨tb, c_beg⟩, c_aut, C.sg, C.ex, rfl⟩ hT6 SF ?_
  intro m1 h1 tk1 led1 hd F1 N1 M1 hhd hl1 hl2 S1
  refine decl_c B F1 X N1 T hPO M1 hl1 hl2 S1 ?_
  intro m2 h2 tk2 led2 se dl F2 N2 M2 hds hdn hl3 hl4 S2
  refine mid_c B F2 X N2 T M2 hf hl3 S2 ?_
  intro m3 h3 tk3 led3 vf3 vb wi bd ok ei bh F3 N3 C3
  have eT : ((T6 ++ hdT hd []) ++ [TK.w "op" ";" se]) ++ dsT dl [] = rtT fn b au s' j hd se dl := by
    rw [e6, eT3, e1, hsort]; rfl
  rw [eT] at C3 hl3
  exact end_c B F3 X N3 T C.hs hhd hds hdn rfl hl4 hl3 C3 hret
end
end
end
theorem ints_len {vs : List Value} {is : List Int} (h : IntsAre vs is) : vs.length = is.length := by
  induction h with
  | nil => rfl
  | cons i t _ ih => rw [List.length_cons, List.length_cons, ih]
theorem fin_c : PySem.Challenge.rw_pq0478_02.Holds := by
  refine hd ?_
  w_on
  k_fill
  intro w s₀ s₁ mg mb G Y fa o pm cd doc dV kV ho hd hcd hD hmg hg args vals as hpre hlay hrd hwl hlo
  have KX := kIn_of Y
  have X := (Ground.X G).1
  have V := (Ground.X G).2
  refine Ground.open G ?_
  intro T B D TE TW
  try (refine guard_noD D (by decide +kernel) ?_; clear D)
  obtain ⟨_, _, M⟩ := bmod_of_top T
  have TA := at_of_top T
  try (obtain ⟨_, _, he, B0⟩ := based_of_top T rfl hmg ho hd; have he' : cd = _ := he; subst he'; clear he)
  clear hmg
  wrow_args hpre hlay hrd hwl hlo
  refine enter_call ?_
  w_top on
  try refine codeAny_mono ?_ (fun _ _ g => GoodW.toG g)
  have K0 := below_caller (Top.heap T)
  w_call any ho hd hcd hD T F
  clear hd TA
  k_drop
  show wpAny _ _ (execs b847 (envOf "law" s847 _ _ _)) _ _ _
  (rename IntsAre _ _ => hI)
  have h63 := ints_len hI
  refine body_c (by assumption) (by assumption) (by assumption) (by assumption) (by assumption) hI (by assumption) (by omega) (by passes_own) ?_
  intro h' tk' m' led' F' N'
  k_steps
end Mine
set_option maxRecDepth 100000 in
theorem PySem.Challenge.cw_pq0478_02_holds : PySem.Challenge.rw_pq0478_02.Holds := by
  exact Mine.fin_c
