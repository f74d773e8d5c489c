import PyProof.Rows.All
import Wide.All
import OpenK.AllK
import Wide.FinOn
import Lean
import PySem.Challenge.RW_nn0221_01
open PySem PySem.W PyProof.Rows PyProof.Rows.LCg PySem.Spec PySem.Calls
set_option Elab.async false
set_option linter.all false
set_option compiler.extract_closed false
set_option rowWalk.seconds 0
namespace Mine
section
noncomputable def Two (n : Nat) : Prop := n = n
theorem two_of (h : PySem.Challenge.rw_nn0221_01.Holds) : Two 0 = True := eq_true rfl
theorem foo0.tw17166832978769807858 : True := trivial
theorem foo0.tw12907588007717754026 : True := trivial
section
local macro_rules | `(tactic| first | $_:tacticSeq | fail $_:str) => `(tactic| skip)
set_option Elab.async true in
set_option maxRecDepth 100000 in
set_option maxHeartbeats 0 in
theorem foo0 : Two 0 ∧ 1 + 0 = 1 := by
  simp (discharger := (k_dflt (w_on; o_law; k_head))) only [two_of, Nat.add_zero]
  exact ⟨rfl, trivial⟩
end
end
section
theorem ex_1_0.{u0} {C : Prop} {α0 : Sort u0} {p0 : α0 → Prop} (h : ∃ x0, p0 x0) (k : ∀ x0, p0 x0 → C) : C := h.elim fun x0 h => k x0 h
theorem ex_1_1.{u0} {C : Prop} {α0 : Sort u0} {p0 : α0 → Prop} {p1 : α0 → Prop} (h : ∃ x0, p0 x0 ∧ p1 x0) (k : ∀ x0, p0 x0 → p1 x0 → C) : C := h.elim fun x0 h => k x0 h.1 h.2
theorem ex_1_2.{u0} {C : Prop} {α0 : Sort u0} {p0 : α0 → Prop} {p1 : α0 → Prop} {p2 : α0 → Prop} (h : ∃ x0, p0 x0 ∧ p1 x0 ∧ p2 x0) (k : ∀ x0, p0 x0 → p1 x0 → p2 x0 → C) : C := h.elim fun x0 h => k x0 h.1 h.2.1 h.2.2
theorem ex_2_0.{u0, u1} {C : Prop} {α0 : Sort u0} {α1 : Sort u1} {p0 : α0 → α1 → Prop} (h : ∃ x0, ∃ x1, p0 x0 x1) (k : ∀ x0 x1, p0 x0 x1 → C) : C := h.elim fun x0 h => h.elim fun x1 h => k x0 x1 h
theorem ex_2_1.{u0, u1} {C : Prop} {α0 : Sort u0} {α1 : Sort u1} {p0 : α0 → α1 → Prop} {p1 : α0 → α1 → Prop} (h : ∃ x0, ∃ x1, p0 x0 x1 ∧ p1 x0 x1) (k : ∀ x0 x1, p0 x0 x1 → p1 x0 x1 → C) : C := h.elim fun x0 h => h.elim fun x1 h => k x0 x1 h.1 h.2
theorem ex_2_2.{u0, u1} {C : Prop} {α0 : Sort u0} {α1 : Sort u1} {p0 : α0 → α1 → Prop} {p1 : α0 → α1 → Prop} {p2 : α0 → α1 → Prop} (h : ∃ x0, ∃ x1, p0 x0 x1 ∧ p1 x0 x1 ∧ p2 x0 x1) (k : ∀ x0 x1, p0 x0 x1 → p1 x0 x1 → p2 x0 x1 → C) : C := h.elim fun x0 h => h.elim fun x1 h => k x0 x1 h.1 h.2.1 h.2.2
theorem ex_2_3.{u0, u1} {C : Prop} {α0 : Sort u0} {α1 : Sort u1} {p0 : α0 → α1 → Prop} {p1 : α0 → α1 → Prop} {p2 : α0 → α1 → Prop} {p3 : α0 → α1 → Prop} (h : ∃ x0, ∃ x1, p0 x0 x1 ∧ p1 x0 x1 ∧ p2 x0 x1 ∧ p3 x0 x1) (k : ∀ x0 x1, p0 x0 x1 → p1 x0 x1 → p2 x0 x1 → p3 x0 x1 → C) : C := h.elim fun x0 h => h.elim fun x1 h => k x0 x1 h.1 h.2.1 h.2.2.1 h.2.2.2
theorem ex_3_0.{u0, u1, u2} {C : Prop} {α0 : Sort u0} {α1 : Sort u1} {α2 : Sort u2} {p0 : α0 → α1 → α2 → Prop} (h : ∃ x0, ∃ x1, ∃ x2, p0 x0 x1 x2) (k : ∀ x0 x1 x2, p0 x0 x1 x2 → C) : C := h.elim fun x0 h => h.elim fun x1 h => h.elim fun x2 h => k x0 x1 x2 h
theorem ex_3_1.{u0, u1, u2} {C : Prop} {α0 : Sort u0} {α1 : Sort u1} {α2 : Sort u2} {p0 : α0 → α1 → α2 → Prop} {p1 : α0 → α1 → α2 → Prop} (h : ∃ x0, ∃ x1, ∃ x2, p0 x0 x1 x2 ∧ p1 x0 x1 x2) (k : ∀ x0 x1 x2, p0 x0 x1 x2 → p1 x0 x1 x2 → C) : C := h.elim fun x0 h => h.elim fun x1 h => h.elim fun x2 h => k x0 x1 x2 h.1 h.2
theorem ex_3_2.{u0, u1, u2} {C : Prop} {α0 : Sort u0} {α1 : Sort u1} {α2 : Sort u2} {p0 : α0 → α1 → α2 → Prop} {p1 : α0 → α1 → α2 → Prop} {p2 : α0 → α1 → α2 → Prop} (h : ∃ x0, ∃ x1, ∃ x2, p0 x0 x1 x2 ∧ p1 x0 x1 x2 ∧ p2 x0 x1 x2) (k : ∀ x0 x1 x2, p0 x0 x1 x2 → p1 x0 x1 x2 → p2 x0 x1 x2 → C) : C := h.elim fun x0 h => h.elim fun x1 h => h.elim fun x2 h => k x0 x1 x2 h.1 h.2.1 h.2.2
theorem ex_4_4.{u0, u1, u2, u3} {C : Prop} {α0 : Sort u0} {α1 : Sort u1} {α2 : Sort u2} {α3 : Sort u3} {p0 : α0 → α1 → α2 → α3 → Prop} {p1 : α0 → α1 → α2 → α3 → Prop} {p2 : α0 → α1 → α2 → α3 → Prop} {p3 : α0 → α1 → α2 → α3 → Prop} {p4 : α0 → α1 → α2 → α3 → Prop} (h : ∃ x0, ∃ x1, ∃ x2, ∃ x3, p0 x0 x1 x2 x3 ∧ p1 x0 x1 x2 x3 ∧ p2 x0 x1 x2 x3 ∧ p3 x0 x1 x2 x3 ∧ p4 x0 x1 x2 x3) (k : ∀ x0 x1 x2 x3, p0 x0 x1 x2 x3 → p1 x0 x1 x2 x3 → p2 x0 x1 x2 x3 → p3 x0 x1 x2 x3 → p4 x0 x1 x2 x3 → C) : C := h.elim fun x0 h => h.elim fun x1 h => h.elim fun x2 h => h.elim fun x3 h => k x0 x1 x2 x3 h.1 h.2.1 h.2.2.1 h.2.2.2.1 h.2.2.2.2
theorem ex_4_7.{u0, u1, u2, u3} {C : Prop} {α0 : Sort u0} {α1 : Sort u1} {α2 : Sort u2} {α3 : Sort u3} {p0 : α0 → α1 → α2 → α3 → Prop} {p1 : α0 → α1 → α2 → α3 → Prop} {p2 : α0 → α1 → α2 → α3 → Prop} {p3 : α0 → α1 → α2 → α3 → Prop} {p4 : α0 → α1 → α2 → α3 → Prop} {p5 : α0 → α1 → α2 → α3 → Prop} {p6 : α0 → α1 → α2 → α3 → Prop} {p7 : α0 → α1 → α2 → α3 → Prop} (h : ∃ x0, ∃ x1, ∃ x2, ∃ x3, p0 x0 x1 x2 x3 ∧ p1 x0 x1 x2 x3 ∧ p2 x0 x1 x2 x3 ∧ p3 x0 x1 x2 x3 ∧ p4 x0 x1 x2 x3 ∧ p5 x0 x1 x2 x3 ∧ p6 x0 x1 x2 x3 ∧ p7 x0 x1 x2 x3) (k : ∀ x0 x1 x2 x3, p0 x0 x1 x2 x3 → p1 x0 x1 x2 x3 → p2 x0 x1 x2 x3 → p3 x0 x1 x2 x3 → p4 x0 x1 x2 x3 → p5 x0 x1 x2 x3 → p6 x0 x1 x2 x3 → p7 x0 x1 x2 x3 → C) : C := h.elim fun x0 h => h.elim fun x1 h => h.elim fun x2 h => h.elim fun x3 h => k x0 x1 x2 x3 h.1 h.2.1 h.2.2.1 h.2.2.2.1 h.2.2.2.2.1 h.2.2.2.2.2.1 h.2.2.2.2.2.2.1 h.2.2.2.2.2.2.2
theorem ex_6_2.{u0, u1, u2, u3, u4, u5} {C : Prop} {α0 : Sort u0} {α1 : Sort u1} {α2 : Sort u2} {α3 : Sort u3} {α4 : Sort u4} {α5 : Sort u5} {p0 : α0 → α1 → α2 → α3 → α4 → α5 → Prop} {p1 : α0 → α1 → α2 → α3 → α4 → α5 → Prop} {p2 : α0 → α1 → α2 → α3 → α4 → α5 → Prop} (h : ∃ x0, ∃ x1, ∃ x2, ∃ x3, ∃ x4, ∃ x5, p0 x0 x1 x2 x3 x4 x5 ∧ p1 x0 x1 x2 x3 x4 x5 ∧ p2 x0 x1 x2 x3 x4 x5) (k : ∀ x0 x1 x2 x3 x4 x5, p0 x0 x1 x2 x3 x4 x5 → p1 x0 x1 x2 x3 x4 x5 → p2 x0 x1 x2 x3 x4 x5 → C) : C := h.elim fun x0 h => h.elim fun x1 h => h.elim fun x2 h => h.elim fun x3 h => h.elim fun x4 h => h.elim fun x5 h => k x0 x1 x2 x3 x4 x5 h.1 h.2.1 h.2.2
theorem ex_11_3.{u0, u1, u2, u3, u4, u5, u6, u7, u8, u9, u10} {C : Prop} {α0 : Sort u0} {α1 : Sort u1} {α2 : Sort u2} {α3 : Sort u3} {α4 : Sort u4} {α5 : Sort u5} {α6 : Sort u6} {α7 : Sort u7} {α8 : Sort u8} {α9 : Sort u9} {α10 : Sort u10} {p0 : α0 → α1 → α2 → α3 → α4 → α5 → α6 → α7 → α8 → α9 → α10 → Prop} {p1 : α0 → α1 → α2 → α3 → α4 → α5 → α6 → α7 → α8 → α9 → α10 → Prop} {p2 : α0 → α1 → α2 → α3 → α4 → α5 → α6 → α7 → α8 → α9 → α10 → Prop} {p3 : α0 → α1 → α2 → α3 → α4 → α5 → α6 → α7 → α8 → α9 → α10 → Prop} (h : ∃ x0, ∃ x1, ∃ x2, ∃ x3, ∃ x4, ∃ x5, ∃ x6, ∃ x7, ∃ x8, ∃ x9, ∃ x10, p0 x0 x1 x2 x3 x4 x5 x6 x7 x8 x9 x10 ∧ p1 x0 x1 x2 x3 x4 x5 x6 x7 x8 x9 x10 ∧ p2 x0 x1 x2 x3 x4 x5 x6 x7 x8 x9 x10 ∧ p3 x0 x1 x2 x3 x4 x5 x6 x7 x8 x9 x10) (k : ∀ x0 x1 x2 x3 x4 x5 x6 x7 x8 x9 x10, p0 x0 x1 x2 x3 x4 x5 x6 x7 x8 x9 x10 → p1 x0 x1 x2 x3 x4 x5 x6 x7 x8 x9 x10 → p2 x0 x1 x2 x3 x4 x5 x6 x7 x8 x9 x10 → p3 x0 x1 x2 x3 x4 x5 x6 x7 x8 x9 x10 → C) : C := h.elim fun x0 h => h.elim fun x1 h => h.elim fun x2 h => h.elim fun x3 h => h.elim fun x4 h => h.elim fun x5 h => h.elim fun x6 h => h.elim fun x7 h => h.elim fun x8 h => h.elim fun x9 h => h.elim fun x10 h => k x0 x1 x2 x3 x4 x5 x6 x7 x8 x9 x10 h.1 h.2.1 h.2.2.1 h.2.2.2
theorem ex_11_6.{u0, u1, u2, u3, u4, u5, u6, u7, u8, u9, u10} {C : Prop} {α0 : Sort u0} {α1 : Sort u1} {α2 : Sort u2} {α3 : Sort u3} {α4 : Sort u4} {α5 : Sort u5} {α6 : Sort u6} {α7 : Sort u7} {α8 : Sort u8} {α9 : Sort u9} {α10 : Sort u10} {p0 : α0 → α1 → α2 → α3 → α4 → α5 → α6 → α7 → α8 → α9 → α10 → Prop} {p1 : α0 → α1 → α2 → α3 → α4 → α5 → α6 → α7 → α8 → α9 → α10 → Prop} {p2 : α0 → α1 → α2 → α3 → α4 → α5 → α6 → α7 → α8 → α9 → α10 → Prop} {p3 : α0 → α1 → α2 → α3 → α4 → α5 → α6 → α7 → α8 → α9 → α10 → Prop} {p4 : α0 → α1 → α2 → α3 → α4 → α5 → α6 → α7 → α8 → α9 → α10 → Prop} {p5 : α0 → α1 → α2 → α3 → α4 → α5 → α6 → α7 → α8 → α9 → α10 → Prop} {p6 : α0 → α1 → α2 → α3 → α4 → α5 → α6 → α7 → α8 → α9 → α10 → Prop} (h : ∃ x0, ∃ x1, ∃ x2, ∃ x3, ∃ x4, ∃ x5, ∃ x6, ∃ x7, ∃ x8, ∃ x9, ∃ x10, p0 x0 x1 x2 x3 x4 x5 x6 x7 x8 x9 x10 ∧ p1 x0 x1 x2 x3 x4 x5 x6 x7 x8 x9 x10 ∧ p2 x0 x1 x2 x3 x4 x5 x6 x7 x8 x9 x10 ∧ p3 x0 x1 x2 x3 x4 x5 x6 x7 x8 x9 x10 ∧ p4 x0 x1 x2 x3 x4 x5 x6 x7 x8 x9 x10 ∧ p5 x0 x1 x2 x3 x4 x5 x6 x7 x8 x9 x10 ∧ p6 x0 x1 x2 x3 x4 x5 x6 x7 x8 x9 x10) (k : ∀ x0 x1 x2 x3 x4 x5 x6 x7 x8 x9 x10, p0 x0 x1 x2 x3 x4 x5 x6 x7 x8 x9 x10 → p1 x0 x1 x2 x3 x4 x5 x6 x7 x8 x9 x10 → p2 x0 x1 x2 x3 x4 x5 x6 x7 x8 x9 x10 → p3 x0 x1 x2 x3 x4 x5 x6 x7 x8 x9 x10 → p4 x0 x1 x2 x3 x4 x5 x6 x7 x8 x9 x10 → p5 x0 x1 x2 x3 x4 x5 x6 x7 x8 x9 x10 → p6 x0 x1 x2 x3 x4 x5 x6 x7 x8 x9 x10 → C) : C := h.elim fun x0 h => h.elim fun x1 h => h.elim fun x2 h => h.elim fun x3 h => h.elim fun x4 h => h.elim fun x5 h => h.elim fun x6 h => h.elim fun x7 h => h.elim fun x8 h => h.elim fun x9 h => h.elim fun x10 h => k x0 x1 x2 x3 x4 x5 x6 x7 x8 x9 x10 h.1 h.2.1 h.2.2.1 h.2.2.2.1 h.2.2.2.2.1 h.2.2.2.2.2.1 h.2.2.2.2.2.2
end
theorem resetC0 : True := by w_top off; trivial
section
set_option maxRecDepth 100000
set_option maxHeartbeats 2000000
section
variable {prog : Program} {w : World} {A : Around} {E : Value → Shared → Prop} {s : Shared} {h₀ : Heap} {L : Addr} {m : Str → Option Value} {env : Env}
theorem cmp_loop {elt target iter : Expr} {ifs : List Expr} {scope : Scope} {pos : Pos} {it acc : Value} {env : Env} {R : Result → Shared → Prop} (I : Nat → Shared → Prop)
    (turn : ∀ n s, I n s → wpAny (model prog w) A (pyNext it) (fun r s₁ => match r with
      | none => R (.ok .next) s₁
      | some v => wpAny (model prog w) A (letOwnedTupleGo target it v) (fun _ s₀ => wpAny (model prog w) A (assign target env v) (fun _ s₂ =>
          wpAny (model prog w) A (forIn ifs true fun c r => if r = true then do let ok ← isTrue c env (eval c env); pure (ForInStep.yield ok) else pure (ForInStep.yield r)) (fun ok s₃ =>
            if ok = true then wpAny (model prog w) A (eval elt env) (fun x s₄ =>
              wpAny (model prog w) A (call (.builtin "list.append") [acc, x]) (fun _ s₅ => ∃ m, m < n ∧ I m s₅) (notedBy (model prog w) A env fun e s' => R (.error e) s') s₄) (notedBy (model prog w) A env fun e s' => R (.error e) s') s₃
            else ∃ m, m < n ∧ I m s₃) (notedBy (model prog w) A env fun e s' => R (.error e) s') s₂)
          (notedBy (model prog w) A env fun e s' => R (.error e) s') s₀) (notedBy (model prog w) A env fun e s' => R (.error e) s') s₁) (notedBy (model prog w) A env fun e s' => R (.error e) s') s)
    (n : Nat) (h : I n s) : codeAny (model prog w) A (.compLoop (.ListComp elt [⟨target, iter, ifs, 0⟩] scope pos) 0 it acc env) R s := by
  refine codeAny_loop rfl I (fun n s hI => ?_) n h
  show wpAny _ A ((compTurn (.ListComp elt [⟨target, iter, ifs, 0⟩] scope pos) 0 it acc env).onRaise (fun x => do noteFrame x env; theTreesLotGoes x)) _ _ s
  refine wpAny_noted ?_
  rw [compTurn_list]
  refine wpAny_bind (wpAny_standAt (wpAny_bind (wpAny_mono (turn n s hI) (fun r s₁ h₁ => ?_) fun _ _ h' => h')))
  cases r with
  | none => exact wpAny_pure h₁
  | some v =>
    refine wpAny_bind (wpAny_mono h₁ (fun _ s₀ h₀' => ?_) fun _ _ h' => h')
    refine wpAny_bind (wpAny_mono h₀' (fun _ s₂ h₂ => wpAny_bind (wpAny_mono h₂ (fun ok s₃ h₃ => ?_) fun _ _ h' => h')) fun _ _ h' => h')
    cases ok with
    | false => exact wpAny_pure ⟨rfl, h₃⟩
    | true =>
      exact wpAny_bind (wpAny_bind (wpAny_mono h₃ (fun x s₄ h₄ => wpAny_bind (wpAny_mono h₄ (fun _ s₅ h₅ => wpAny_pure (wpAny_pure ⟨rfl, h₅⟩)) fun _ _ h' => h')) fun _ _ h' => h'))
/-- a turn's end: the ledger of others stands, the own one may have grown -/
inductive CEnd (h₀ : Heap) (L : Addr) (m : Str → Option Value) (ext : List (Addr × Obj)) (av : List Addr) (s : Shared) (K : List (Addr × Obj) → Prop) (s' : Shared) : Prop where
  | mk h' tk' lg' : s' = { s with heap := h', toks := tk' } → Fr h₀ L h' m → News h₀ L h' (ext ++ lg') → (∀ p ∈ lg', p.1 ∉ av) → K lg' → CEnd h₀ L m ext av s K s'
theorem CEnd.intro {ext : List (Addr × Obj)} {av : List Addr} {K : List (Addr × Obj) → Prop} {h' : Heap} {tk' : Nat} (lg' : List (Addr × Obj)) (F : Fr h₀ L h' m) (N : News h₀ L h' (ext ++ lg')) (ha : ∀ p ∈ lg', p.1 ∉ av) (k : K lg') :
    CEnd h₀ L m ext av s K { s with heap := h', toks := tk' } := ⟨h', tk', lg', rfl, F, N, ha, k⟩
structure CTurn (prog : Program) (w : World) (A : Around) (fx : List Addr) (h₀ : Heap) (L : Addr) (m : Str → Option Value) (env : Env) (scope : Scope) (cl : List (Str × Addr)) (ifs : List Expr) (elt : Expr) (n : Nat) (Bnd : Nat → (Str → Option Value) → Prop)
    (J : Nat → List Value → List (Addr × Obj) → Prop) (s : Shared) : Prop where
  go : ∀ (i : Nat) (ys : List Value) (lg : List (Addr × Obj)) (C : Addr) (oC : Obj) (m₂ : Str → Option Value) (ext : List (Addr × Obj)) (av : List Addr) (h : Heap) (tk : Nat) (E' : Value → Shared → Prop),
    i < n → Bnd i m₂ → NsObj oC m₂ → (C, oC) ∈ ext → J i ys lg → Fr h₀ L h m → News h₀ L h (ext ++ lg) → (∀ p ∈ lg, p.1 ∉ av) → (∀ a ∈ av, ∃ o, (a, o) ∈ ext) → (∀ p ∈ ext, p.1 ∈ av ∨ p.1 ∈ fx) →
    wpAny (model prog w) A (forIn ifs true fun c r => if r = true then do let ok ← isTrue c (compEnvC scope cl C env) (eval c (compEnvC scope cl C env)); pure (ForInStep.yield ok) else pure (ForInStep.yield r)) (fun ok s' =>
      if ok = true then wpAny (model prog w) A (eval elt (compEnvC scope cl C env)) (fun y s'' => CEnd h₀ L m ext av { s with heap := h, toks := tk } (J (i + 1) (ys ++ [y])) s'') E' s'
      else CEnd h₀ L m ext av { s with heap := h, toks := tk } (J (i + 1) ys) s') E' { s with heap := h, toks := tk }
noncomputable def Binds (prog : Program) (w : World) (A : Around) (env : Env) (scope : Scope) (cl : List (Str × Addr)) (target : Expr) (P : Nat → Value → Heap → Prop) (G : Nat → Heap → Prop) (Bnd : Nat → (Str → Option Value) → Prop) : Prop :=
  ∀ (i : Nat) (v : Value) (C : Addr) (s : Shared) (m₁ : Str → Option Value) (Q : Unit → Shared → Prop) (E' : Value → Shared → Prop), P i v s.heap → G i s.heap → s.heap.Ns C m₁ →
    (∀ h' tk m₂, h'.Ns C m₂ → Bnd i m₂ → (∀ c o, c ≠ C → s.heap.get? c = some o → h'.get? c = some o) → Q () { s with heap := h', toks := tk }) →
    wpAny (model prog w) A (assign target (compEnvC scope cl C env) v) Q E' s
theorem binds_name {scope : Scope} {cl : List (Str × Addr)} {x : Str} {px : Pos} {P : Nat → Value → Heap → Prop} {G : Nat → Heap → Prop} {P' : Nat → Value → Prop} (hx : scope.names.lookup x = some .local) (hkind : scope.kind = .function) (hP : ∀ i v h, P i v h → P' i v) :
    Binds prog w A env scope cl (.Name x px) P G (fun i m => ∃ v, P' i v ∧ m x = some v) := by
  intro i v C s m₁ Q E' hp _ hn hQ
  refine wpAny_assign_Name (wpAny_storeName_local (lookup_relabel_local hx) hn (fun h₃ hn₃ hs₃ => ?_) (by simp [compEnvC, relabel, hkind]))
  exact hQ h₃ _ _ hn₃ ⟨v, hP _ _ _ hp, by simp⟩ fun c o hc e => hs₃.extBut c o hc e
theorem binds_pair {scope : Scope} {cl : List (Str × Addr)} {x y : Str} {px py pt : Pos} {k : Nat} {P : Nat → Value → Heap → Prop} {G : Nat → Heap → Prop} {P' : Nat → Value → Value → Prop} (hh : A.handled = none) (hx : scope.names.lookup x = some .local) (hy : scope.names.lookup y = some .local) (hxy : x ≠ y) (hkind : scope.kind = .function)
    (hP : ∀ i v h, P i v h → G i h → ∃ T a b, v = .ref T ∧ h.IsTuple T #[a, b] ∧ P' i a b) :
    Binds prog w A env scope cl (.Tuple [.Name x px, .Name y py] k pt) P G (fun i m => ∃ a b, P' i a b ∧ m x = some a ∧ m y = some b) := by
  intro i v C s m₁ Q E' hp hg hn hQ
  (first | (refine' ex_3_2 (hP _ _ _ hp hg) ?_; intro T a b ob9; subst ob9; intro hT hab) | (refine' ex_2_3 (hP _ _ _ hp hg) ?_; intro T a b ob9; subst ob9; intro hT hab) | (obtain ⟨T, a, b, rfl, hT, hab⟩ := hP _ _ _ hp hg))
  refine kcp_assign (env := compEnvC scope cl C env) hh hT (lookup_relabel_local hx) (lookup_relabel_local hy) (by simp [compEnvC, relabel, hkind]) hn fun h' tk hn' hk => ?_
  exact hQ h' tk _ hn' ⟨a, b, hab, by simp [hxy], by simp⟩ hk
theorem own_fp {fp : List Addr} {h : Heap} {p : Addr × Obj} (hp : p ∈ PyProof.Rows.ownOf h₀ fp h) : p.1 ∈ fp := by
  unfold PyProof.Rows.ownOf at hp
  (first | (refine' ex_2_0 (List.mem_filterMap.mp hp) ?_; intro b hb e) | (refine' ex_1_1 (List.mem_filterMap.mp hp) ?_; intro b hb e) | (obtain ⟨b, hb, e⟩ := List.mem_filterMap.mp hp))
  split at e
  · (first | (refine' ex_2_0 (Option.map_eq_some_iff.mp e) ?_; intro o _ e) | (refine' ex_1_1 (Option.map_eq_some_iff.mp e) ?_; intro o _ e) | (obtain ⟨o, _, e⟩ := Option.map_eq_some_iff.mp e))
    rw [← e]; exact hb
  · cases e
inductive BInv (h₀ : Heap) (L : Addr) (m : Str → Option Value) (s₂ : Shared) (n : Nat) (C D : Addr) (wr : List Addr) (St : Nat → Heap → Prop) (J : Nat → List Value → List (Addr × Obj) → Prop) (k : Nat) (s' : Shared) : Prop where
  | mk (h' : Heap) (tk i : Nat) (ys : List Value) (m' : Str → Option Value) (lg : List (Addr × Obj)) : s' = { s₂ with heap := h', toks := tk } → i ≤ n → k = n + 1 - i → ys.length ≤ i → St i h' → Fr h₀ L h' m → h'.Ns C m' → News h₀ L h' ((D, lst ys) :: lg) → (∀ p ∈ lg, p.1 ∉ C :: D :: wr) → J i ys lg → BInv h₀ L m s₂ n C D wr St J k s'
theorem cmp_block {elt target iter : Expr} {ifs : List Expr} {scope : Scope} {cl : List (Str × Addr)} {pos : Pos} {s₂ : Shared} {I : Addr} {fp wr fx : List Addr} {n : Nat} {P Md : Nat → Value → Heap → Prop} {St : Nat → Heap → Prop} {news : List (Addr × Obj)}
    {Bnd : Nat → (Str → Option Value) → Prop} {J : Nat → List Value → List (Addr × Obj) → Prop} {RR : Value → Addr → Result → Shared → Prop}
    (W : KTurns prog w A target I fp wr n P Md St) (hself : ∀ (s : Shared) (Q : Value → Shared → Prop) (E : Value → Shared → Prop), St 0 s.heap → Q (.ref I) s → wpAny (model prog w) A (pyIter (.ref I)) Q E s)
    (hsz : n ≤ sizeLine) (hwx : ∀ i h, St i h → ∀ b ∈ wr, ∃ o, h.get? b = some o)
    (hb : Binds prog w A env scope cl target P (fun i h => ∃ ys lg, J i ys lg ∧ News h₀ L h lg) Bnd)
    (hcell : ∀ y ∈ scope.names, y.2 ≠ .cell) (hkind : scope.kind = .function) (hst : St 0 s₂.heap) (hfp : ∀ b ∈ fp, b < s₂.heap.objs.size) (hLf : L ∉ fp) (hwr : ∀ b ∈ wr, h₀.get? b = none)
    (F : Fr h₀ L s₂.heap m) (N : News h₀ L s₂.heap news) (hnw : ∀ p ∈ news, p.1 ∉ wr) (h0 : J 0 [] news)
    (T : CTurn prog w A fx h₀ L m env scope cl ifs elt n Bnd J s₂) (hfx : ∀ b ∈ fp, b ∈ wr ∨ b ∈ fx)
    (hRR : ∀ D C h tk m' ys lg, Fr h₀ L h m → News h₀ L h ((D, lst ys) :: lg) → (∀ p ∈ lg, p.1 ≠ D) → h.Ns C m' → h₀.get? C = none → h₀.get? D = none → C ≠ L → D ≠ L → C ≠ D → (∀ p ∈ lg, p.1 ≠ C) → J n ys lg → RR (.ref D) C (.ok .next) { s₂ with heap := h, toks := tk }) :
    wpAny (model prog w) A (newList []) (fun acc s₃ => wpAny (model prog w) A (newFunctionEnv scope env.globals cl [] env.qual none .none (some env)) (fun cenv s₄ =>
      codeAny (model prog w) A (.compStart (.ListComp elt [⟨target, iter, ifs, 0⟩] scope pos) 0 (.ref I) acc { cenv with scope := relabel scope env }) (RR acc cenv.locals) s₄) E s₃) E s₂ := by
  refine wpAny_newObj_type (wpAny_newFunctionEnv hcell (by intro y hy; simp at hy) (fun h₁ hns₁ hsb₁ => ?_) hkind)
  dsimp only at hns₁ hsb₁ ⊢
  generalize hH2 : s₂.heap.push { cls := .type "list", dict := none, data := .seq ([] : List Value).toArray } = H2 at hns₁ hsb₁ ⊢
  have hC : H2.objs.size = s₂.heap.objs.size + 1 := by rw [← hH2, Heap.size_push]
  have hDC : s₂.heap.objs.size ≠ H2.objs.size := by rw [hC]; exact Nat.ne_of_lt (Nat.lt_succ_self _)
  have below : ∀ b, b < s₂.heap.objs.size → b ≠ H2.objs.size ∧ b ≠ s₂.heap.objs.size := fun b hb => ⟨by rw [hC]; exact Nat.ne_of_lt (Nat.lt_succ_of_lt hb), Nat.ne_of_lt hb⟩
  have hDf : s₂.heap.objs.size ∉ fp := fun hm => Nat.lt_irrefl _ (hfp _ hm)
  have hCf : H2.objs.size ∉ fp := fun hm => by have := hfp _ hm; rw [hC] at this; exact Nat.lt_irrefl _ (Nat.lt_of_succ_lt this)
  have hDw : s₂.heap.objs.size ∉ wr := fun hm => hDf (W.sub _ hm)
  have hCw : H2.objs.size ∉ wr := fun hm => hCf (W.sub _ hm)
  have hLw : L ∉ wr := fun hm => hLf (W.sub _ hm)
  have old : ∀ b o, s₂.heap.get? b = some o → h₁.get? b = some o := fun b o e => hsb₁.extBut b o (below b (Heap.lt_size e)).1 (Heap.get?_push_of_some _ (hH2 ▸ Heap.get?_push_of_some _ e))
  have hacc : h₁.get? s₂.heap.objs.size = some (lst []) := hsb₁.extBut _ _ hDC (Heap.get?_push_of_some _ (hH2 ▸ Heap.get?_push_size _ rfl))
  have hst₁ : St 0 h₁ := W.frame _ _ _ hst fun b _ o e => old b o e
  have fresh : ∀ a, s₂.heap.objs.size ≤ a → s₂.heap.get? a = none := fun a ha => by
    cases e : s₂.heap.get? a with
    | none => rfl
    | some o' => exact absurd (Heap.lt_size e) (Nat.not_lt.mpr ha)
  have fresh₀ : ∀ a, s₂.heap.objs.size ≤ a → h₀.get? a = none := fun a ha => by
    cases e : h₀.get? a with
    | none => rfl
    | some o' => have := F.keep a o' e; rw [fresh a ha] at this; cases this
  have hD₀ : h₀.get? s₂.heap.objs.size = none := fresh₀ _ (Nat.le_refl _)
  have hC₀ : h₀.get? H2.objs.size = none := fresh₀ _ (by rw [hC]; exact Nat.le_succ _)
  have hLlt : L < s₂.heap.objs.size := F.ns.lt
  have hDL : s₂.heap.objs.size ≠ L := Ne.symm (below L hLlt).2
  have hCL : H2.objs.size ≠ L := Ne.symm (below L hLlt).1
  have loop : ∀ s₃ : Shared, s₃ = { s₂ with heap := h₁, toks := s₂.toks + ([] : List (Str × Value)).length } →
      codeAny (model prog w) A (.compLoop (.ListComp elt [⟨target, iter, ifs, 0⟩] scope pos) 0 (.ref I) (.ref s₂.heap.objs.size) (compEnvC scope cl H2.objs.size env))
        (RR (.ref s₂.heap.objs.size) H2.objs.size) s₃ := by
    rintro s₃ rfl
    refine cmp_loop
      (BInv h₀ L m s₂ n H2.objs.size s₂.heap.objs.size wr St J) ?_ (n + 1)
      ⟨h₁, _, 0, [], _, news, rfl, Nat.zero_le _, rfl, Nat.le_refl _, hst₁, F.keeps old, hns₁, fun p hp => ?_, fun p hp hm => ?_, h0⟩
    · rintro k s' ⟨h', tk, i, ys, m', lg, rfl, hi, rfl, hyl, hst', F', hn', N', off', hJ⟩
      have offw : ∀ p ∈ lg, p.1 ∉ wr := fun p hp hm => off' p hp (List.mem_cons_of_mem _ (List.mem_cons_of_mem _ hm))
      by_cases hlt : i < n
      · refine W.item i _ _ _ hlt hst' fun v h₂ tk₂ hMd hk₂ => ?_
        refine W.go i v _ _ _ hMd fun h₃ hP hst₃ hk₃ => ?_
        have up₃ : ∀ c o, c ∉ wr → h'.get? c = some o → h₃.get? c = some o := fun c o hc e => hk₃ c o hc (hk₂ c o hc e)
        refine hb i v H2.objs.size _ m' _ _ hP ⟨ys, lg, hJ, fun p hp => ⟨up₃ _ _ (offw p hp) (N' p (List.mem_cons_of_mem _ hp)).1, (N' p (List.mem_cons_of_mem _ hp)).2⟩⟩ (hn'.at' fun o e => up₃ _ o hCw e) fun h₄ tk₄ m₄ hn₄ hB hs₄ => ?_
        have up : ∀ c o, c ∉ wr → c ≠ H2.objs.size → h'.get? c = some o → h₄.get? c = some o := fun c o h1 h2 e => hs₄ c o h2 (up₃ c o h1 e)
        have hst₄ : St (i + 1) h₄ := W.frame _ _ _ hst₃ fun b hb o e => hs₄ b o (fun q => hCf (q ▸ hb)) e
        (first | (refine' ex_2_0 (ns_obj hn₄) ?_; intro oC heC hoC) | (refine' ex_1_1 (ns_obj hn₄) ?_; intro oC heC hoC) | (obtain ⟨oC, heC, hoC⟩ := ns_obj hn₄))
        have F₄ : Fr h₀ L h₄ m := ⟨F'.ns.at' fun o e => up _ o hLw (Ne.symm hCL) e, fun c o e => up c o (fun q => by rw [hwr c q] at e; cases e) (fun q => by rw [q, hC₀] at e; cases e) (F'.keep c o e), F'.above⟩
        have Nown : News h₀ L h₄ (PyProof.Rows.ownOf h₀ fp h₄) := news_ownOf hLf
        have N₄ : News h₀ L h₄ (((H2.objs.size, oC) :: (s₂.heap.objs.size, lst ys) :: PyProof.Rows.ownOf h₀ fp h₄) ++ lg) := fun p hp => by
          rcases List.mem_append.mp hp with hp | hp
          · rcases List.mem_cons.mp hp with rfl | hp
            · exact ⟨heC, hCL, hC₀⟩
            · rcases List.mem_cons.mp hp with rfl | hp
              · exact ⟨up _ _ hDw hDC (N' _ (.head _)).1, hDL, hD₀⟩
              · exact Nown p hp
          · have z := N' p (List.mem_cons_of_mem _ hp)
            exact ⟨up _ _ (offw p hp) (fun q => off' p hp (by rw [q]; exact .head _)) z.1, z.2⟩
        refine wpAny_mono (T.go i ys lg H2.objs.size oC m₄ _ (H2.objs.size :: s₂.heap.objs.size :: wr) h₄ tk₄ _ hlt hB hoC (.head _) hJ F₄ N₄ off' ?_ ?_) (fun ok s₄ h₄' => ?_) fun _ _ e => e
        · intro a ha
          rcases List.mem_cons.mp ha with rfl | ha
          · exact ⟨oC, .head _⟩
          · rcases List.mem_cons.mp ha with rfl | ha
            · exact ⟨_, .tail _ (.head _)⟩
            · (first | (refine' ex_1_0 (hwx _ _ hst₄ a ha) ?_; intro o ho) | (obtain ⟨o, ho⟩ := hwx _ _ hst₄ a ha))
              exact ⟨o, .tail _ (.tail _ (mem_ownOf (W.sub _ ha) (hwr _ ha) ho))⟩
        · intro p hp
          rcases List.mem_cons.mp hp with rfl | hp
          · exact .inl (.head _)
          · rcases List.mem_cons.mp hp with rfl | hp
            · exact .inl (.tail _ (.head _))
            · rcases hfx _ (own_fp hp) with h | h
              · exact .inl (.tail _ (.tail _ h))
              · exact .inr h
        · have fin : ∀ (ys' : List Value) (h₅ : Heap) (lg' : List (Addr × Obj)), Fr h₀ L h₅ m → News h₀ L h₅ (((H2.objs.size, oC) :: (s₂.heap.objs.size, lst ys) :: PyProof.Rows.ownOf h₀ fp h₄) ++ lg') → St (i + 1) h₅ ∧ h₅.Ns H2.objs.size m₄ := fun ys' h₅ lg' F₅ N₅ => by
            refine ⟨W.frame _ _ _ hst₄ fun b hb o e => ?_, hoC.ns (N₅ _ (.head _)).1⟩
            cases hn : h₀.get? b with
            | some o₀ =>
              have : o₀ = o := by have q := F₄.keep b o₀ hn; rw [e] at q; exact (Option.some.inj q).symm
              exact this ▸ F₅.keep b o₀ hn
            | none => exact (N₅ _ (List.mem_append_left _ (.tail _ (.tail _ (mem_ownOf hb hn e))))).1
          cases ok with
          | true =>
            simp only [if_true] at h₄' ⊢
            refine wpAny_mono h₄' (fun y s₅ h₅' => ?_) fun _ _ e => e
            obtain ⟨h₅, tk₅, lg', rfl, F₅, N₅, off₅, hJ₅⟩ := h₅'
            (first | (refine' ex_1_0 (fin ys h₅ lg' F₅ N₅) ?_; intro hst₅ hn₅) | (obtain ⟨hst₅, hn₅⟩ := fin ys h₅ lg' F₅ N₅))
            have zD := (N₅ (s₂.heap.objs.size, lst ys) (List.mem_append_left _ (.tail _ (.head _)))).1
            refine append_at (hsz := by show ys.toArray.size ≤ sizeLine; rw [List.size_toArray]; exact Nat.le_trans (Nat.le_trans hyl hi) hsz) zD fun h₆ hs₆ hD₆ => ?_
            refine ⟨n + 1 - (i + 1), by omega, h₆, tk₅, i + 1, ys ++ [y], _, lg', rfl, hlt, rfl, by rw [List.length_append, List.length_singleton]; exact Nat.succ_le_succ hyl, W.frame _ _ _ hst₅ fun b hb o e => hs₆.extBut b o (fun q => hDf (q ▸ hb)) e, F₅.change hs₆ hDL hD₀,
              hn₅.sameBut hs₆ (Ne.symm hDC), fun p hp => ?_, off₅, hJ₅⟩
            rcases List.mem_cons.mp hp with rfl | hp
            · exact ⟨hD₆.trans (congrArg some (lst_snoc ys y)), hDL, hD₀⟩
            · have z := N₅ p (List.mem_append_right _ hp)
              exact ⟨hs₆.extBut _ _ (fun q => off₅ p hp (by rw [q]; exact .tail _ (.head _))) z.1, z.2⟩
          | false =>
            simp only [Bool.false_eq_true, if_false] at h₄' ⊢
            obtain ⟨h₅, tk₅, lg', rfl, F₅, N₅, off₅, hJ₅⟩ := h₄'
            (first | (refine' ex_1_0 (fin ys h₅ lg' F₅ N₅) ?_; intro hst₅ hn₅) | (obtain ⟨hst₅, hn₅⟩ := fin ys h₅ lg' F₅ N₅))
            refine ⟨n + 1 - (i + 1), by omega, h₅, tk₅, i + 1, ys, _, lg', rfl, hlt, rfl, Nat.le_succ_of_le hyl, hst₅, F₅, hn₅, fun p hp => ?_, off₅, hJ₅⟩
            rcases List.mem_cons.mp hp with rfl | hp
            · exact N₅ _ (List.mem_append_left _ (.tail _ (.head _)))
            · exact N₅ p (List.mem_append_right _ hp)
      · obtain rfl : i = n := Nat.le_antisymm hi (Nat.not_lt.mp hlt)
        refine W.done _ _ _ hst' fun h₂ tk₂ hk₂ => ?_
        have F₂ : Fr h₀ L h₂ m := ⟨F'.ns.at' fun o e => hk₂ _ o hLw e, fun c o e => hk₂ c o (fun q => by rw [hwr c q] at e; cases e) (F'.keep c o e), F'.above⟩
        refine hRR _ _ h₂ tk₂ _ ys lg F₂ (fun p hp => ?_) (fun p hp q => off' p hp (by rw [q]; exact .tail _ (.head _))) (hn'.at' fun o e => hk₂ _ o hCw e) hC₀ hD₀ hCL hDL (Ne.symm hDC) (fun p hp q => off' p hp (by rw [q]; exact .head _)) hJ
        rcases List.mem_cons.mp hp with rfl | hp
        · exact ⟨hk₂ _ _ hDw (N' _ (.head _)).1, hDL, hD₀⟩
        · have z := N' p (List.mem_cons_of_mem _ hp)
          exact ⟨hk₂ _ _ (offw p hp) z.1, z.2⟩
    · rcases List.mem_cons.mp hp with rfl | hp
      · exact ⟨hacc, hDL, hD₀⟩
      · exact ⟨old _ _ (N p hp).1, (N p hp).2⟩
    · have hl := Heap.lt_size (N p hp).1
      rcases List.mem_cons.mp hm with e | hm
      · exact (below _ hl).1 e
      · rcases List.mem_cons.mp hm with e | hm
        · exact (below _ hl).2 e
        · exact hnw p hp hm
  exact codeAny_compStart_list (loop _ rfl) (hself _ _ _ hst₁ (loop _ rfl))
/-- what the iterator must be for a comprehension by turns -/
inductive CmpAt (prog : Program) (w : World) (A : Around) (h₀ : Heap) (L : Addr) (m : Str → Option Value) (env : Env) (scope : Scope) (cl : List (Str × Addr)) (target : Expr) (ifs : List Expr) (elt : Expr) (Fin : Shared → List Value → List (Addr × Obj) → Prop) (it : Value) (s₂ : Shared) : Prop where
  | mk (I : Addr) (fp wr fx : List Addr) (n : Nat) (P Md : Nat → Value → Heap → Prop) (St : Nat → Heap → Prop) (news : List (Addr × Obj)) (Bnd : Nat → (Str → Option Value) → Prop) (J : Nat → List Value → List (Addr × Obj) → Prop) : it = .ref I → KTurns prog w A target I fp wr n P Md St → (∀ (s : Shared) (Q : Value → Shared → Prop) (E : Value → Shared → Prop), St 0 s.heap → Q (.ref I) s → wpAny (model prog w) A (pyIter (.ref I)) Q E s) → n ≤ sizeLine → (∀ i h, St i h → ∀ b ∈ wr, ∃ o, h.get? b = some o) → Binds prog w A env scope cl target P (fun i h => ∃ ys lg, J i ys lg ∧ News h₀ L h lg) Bnd → St 0 s₂.heap → (∀ b ∈ fp, b < s₂.heap.objs.size) → L ∉ fp → (∀ b ∈ wr, h₀.get? b = none) → Fr h₀ L s₂.heap m → News h₀ L s₂.heap news → (∀ p ∈ news, p.1 ∉ wr) → J 0 [] news → CTurn prog w A fx h₀ L m env scope cl ifs elt n Bnd J s₂ → (∀ b ∈ fp, b ∈ wr ∨ b ∈ fx) → (∀ ys lg, J n ys lg → Fin s₂ ys lg) → CmpAt prog w A h₀ L m env scope cl target ifs elt Fin it s₂
noncomputable def FinE2 (h₀ : Heap) (L : Addr) (m : Str → Option Value) (Q : Value → Shared → Prop) (s : Shared) (ys : List Value) (lg : List (Addr × Obj)) : Prop :=
  ∀ D h tk, Fr h₀ L h m → News h₀ L h ((D, lst ys) :: lg) → (∀ p ∈ lg, p.1 ≠ D) → Q (.ref D) { s with heap := h, toks := tk }
noncomputable def FinA2 (h₀ : Heap) (L : Addr) (m : Str → Option Value) (y : Str) (Q : Flow → Shared → Prop) (s : Shared) (ys : List Value) (lg : List (Addr × Obj)) : Prop :=
  ∀ D h tk, Fr h₀ L h (fun z => if z = y then some (.ref D) else m z) → News h₀ L h ((D, lst ys) :: lg) → (∀ p ∈ lg, p.1 ≠ D) → Q .next { s with heap := h, toks := tk }
theorem cmp_E {elt target iter : Expr} {ifs : List Expr} {scope : Scope} {cl : List (Str × Addr)} {pos : Pos} {Q : Value → Shared → Prop}
    (hclos : closureFor scope env = pure cl) (hcell : ∀ y ∈ scope.names, y.2 ≠ .cell) (hkind : scope.kind = .function)
    (hnames : ∀ y ∈ scope.names, y.2 = .local → scope.names.lookup y.1 = some .local)
    (h : wpAny (model prog w) A (eval iter env) (fun xv s₁ => wpAny (model prog w) A (pyIter xv) (CmpAt prog w A h₀ L m env scope cl target ifs elt (FinE2 h₀ L m Q)) E s₁) E s)
    (hs : ∀ x, foldedSetIterable iter env x = pure x) :
    wpAny (model prog w) A (eval (.ListComp elt [⟨target, iter, ifs, 0⟩] scope pos) env) Q E s := by
  rw [eval_ListComp]
  refine wpAny_comprehension_free (use := none) rfl hs hclos hkind hnames (wpAny_mono h (fun xv s₁ h₁ => wpAny_mono h₁ (fun it s₂ h₂ => ?_) fun _ _ e => e) fun _ _ e => e)
  obtain ⟨I, fp, wr, fx, n, P, Md, St, news, Bnd, J, rfl, W, hself, hsz, hwx, hb, hst, hfp, hLf, hwr, F, N, hnw, h0, T, hfx, fin⟩ := h₂
  refine cmp_block W hself hsz hwx hb hcell hkind hst hfp hLf hwr F N hnw h0 T hfx ?_
  intro D C h tk m' ys lg F' N' o1 hn hC₀ hD₀ hCL hDL hCD offC hJ
  refine ⟨m', hn, fun h'' hs'' => fin ys lg hJ D h'' tk (F'.change hs'' hCL hC₀) (fun p hp => ?_) o1⟩
  refine ⟨hs''.extBut _ _ ?_ (N' p hp).1, (N' p hp).2⟩
  rcases List.mem_cons.mp hp with rfl | hp
  · exact Ne.symm hCD
  · exact offC p hp
theorem cmp_A {elt target iter : Expr} {ifs : List Expr} {scope : Scope} {cl : List (Str × Addr)} {pos spos py : Pos} {y : Str} {Q : Flow → Shared → Prop} (hLe : env.locals = L)
    (hsw : swapsWith (.ListComp elt [⟨target, iter, ifs, 0⟩] scope pos) (some (.Name y py)) spos.line env = pure true)
    (hclos : closureFor scope env = pure cl) (hcell : ∀ y ∈ scope.names, y.2 ≠ .cell) (hkind : scope.kind = .function)
    (hnames : ∀ y ∈ scope.names, y.2 = .local → scope.names.lookup y.1 = some .local)
    (hy : env.kindOf y = some .local) (hp : (env.scope.kind == .class || (env.scope.kind == .module && env.locals != env.globals)) = false)
    (h : wpAny (model prog w) A (eval iter env) (fun xv s₁ => wpAny (model prog w) A (pyIter xv) (CmpAt prog w A h₀ L m env scope cl target ifs elt (FinA2 h₀ L m y Q)) E s₁) E s)
    (hs : ∀ x, foldedSetIterable iter env x = pure x) :
    wpAny (model prog w) A (exec (.Assign [.Name y py] (.ListComp elt [⟨target, iter, ifs, 0⟩] scope pos) spos) env) Q E s := by
  subst hLe
  rw [exec_Assign_Name_used _ _ _ _ hsw]
  refine wpAny_bind (wpAny_standAt (wpAny_bind ?_))
  show wpAny _ A (do let _ ← comprehension (.ListComp elt [⟨target, iter, ifs, 0⟩] scope pos) scope env _ (newList []) false (eval iter env) (some (assign (.Name y py) env))) _ _ s
  refine wpAny_bind (wpAny_mono (wpAny_comprehension_free (use := some (assign (.Name y py) env)) (Q := fun _ s' => Q .next s') rfl hs hclos hkind hnames
    (wpAny_mono h (fun xv s₁ h₁ => wpAny_mono h₁ (fun it s₂ h₂ => ?_) fun _ _ e => e) fun _ _ e => e)) (fun _ s' hq => wpAny_pure (wpAny_pure hq)) fun _ _ e => e)
  obtain ⟨I, fp, wr, fx, n, P, Md, St, news, Bnd, J, rfl, W, hself, hsz, hwx, hb, hst, hfp, hLf, hwr, F, N, hnw, h0, T, hfx, fin⟩ := h₂
  refine cmp_block W hself hsz hwx hb hcell hkind hst hfp hLf hwr F N hnw h0 T hfx ?_
  intro D C h' tk m' ys lg F' N' o1 hn hC₀ hD₀ hCL hDL hCD offC hJ
  show wpAny _ A (assign (.Name y py) env (.ref D)) _ _ _
  refine wpAny_assign_Name (wpAny_storeName_local hy F'.ns (fun h₂ hn₂ hs₂ => ?_) hp)
  have hL₀ : h₀.get? env.locals = none := Heap.get?_none_of_le F'.above
  have F₂ : Fr h₀ env.locals h₂ (fun z => if z = y then some (.ref D) else m z) := ⟨hn₂, fun b o e => hs₂.extBut b o (fun q => by rw [q, hL₀] at e; cases e) (F'.keep b o e), F'.above⟩
  refine ⟨m', hn.sameBut hs₂ hCL, fun h'' hs'' => fin ys lg hJ D h'' _ (F₂.change hs'' hCL hC₀) (fun p hp => ?_) o1⟩
  have z : h₂.get? p.1 = some p.2 := hs₂.extBut _ _ (N' p hp).2.1 (N' p hp).1
  refine ⟨hs''.extBut _ _ ?_ z, (N' p hp).2⟩
  rcases List.mem_cons.mp hp with rfl | hp
  · exact Ne.symm hCD
  · exact offC p hp
end
end
theorem resetC1 : True := by w_top off; trivial
section
set_option maxRecDepth 100000
set_option maxHeartbeats 2000000
section
variable {prog : Program} {w : World} {A : Around} {E : Value → Shared → Prop} {s : Shared} {h₀ : Heap} {L : Addr} {m : Str → Option Value} {env : Env}
theorem go_iter {target : Expr} {I t : Addr} {v : Value} {i : Nat} {n : String} {o : Obj} {Q : Unit → Shared → Prop} (ho : s.heap.get? I = some o) (hc : o.cls = .type n) (hd : o.data = .fields #[.ref t, .int i 0])
    (hn : ["enumerate", "zip", "dict_itemiterator", "dict_reverseitemiterator", "odict_iterator", "itertools.zip_longest", "itertools.pairwise"].contains n = false) (hQ : Q () s) :
    wpAny (model prog w) A (letOwnedTupleGo target (.ref I) v) Q E s := by
  have go : ∀ a, wpAny (model prog w) A (do
      let o ← load I
      match o.cls, o.data with
      | .type n, .fields vs =>
        if ["enumerate", "zip", "dict_itemiterator", "dict_reverseitemiterator", "odict_iterator", "itertools.zip_longest", "itertools.pairwise"].contains n && vs[0]? == some (rawInt a) then
          rule "for.unpacks-the-owned-tuple"
          updateField I 0 .none
      | _, _ => pure ()) Q E s := by
    intro a
    refine wpAny_bind (wpAny_load ho ?_)
    rw [hc, hd]
    show wpAny _ A (if (["enumerate", "zip", "dict_itemiterator", "dict_reverseitemiterator", "odict_iterator", "itertools.zip_longest", "itertools.pairwise"].contains n &&
      (#[.ref t, .int i 0] : Array Value)[0]? == some (rawInt a)) = true then _ else _) Q E s
    rw [hn, Bool.false_and]
    exact wpAny_pure hQ
  cases target with
  | Tuple _ _ _ => cases v with
    | ref a => exact go a
    | _ => exact wpAny_pure hQ
  | List _ _ => cases v with
    | ref a => exact go a
    | _ => exact wpAny_pure hQ
  | _ => exact wpAny_pure hQ
theorem go_tupleiter {target : Expr} {I t : Addr} {v : Value} {i : Nat} {Q : Unit → Shared → Prop} (hit : s.heap.IsTupleIter I t i) (hQ : Q () s) :
    wpAny (model prog w) A (letOwnedTupleGo target (.ref I) v) Q E s :=
  Exists.elim hit fun _ h => go_iter h.1 h.2.1 h.2.2 (by decide) hQ
theorem go_listiter {target : Expr} {I t : Addr} {v : Value} {i : Nat} {Q : Unit → Shared → Prop} (hit : s.heap.IsListIter I t i) (hQ : Q () s) :
    wpAny (model prog w) A (letOwnedTupleGo target (.ref I) v) Q E s :=
  Exists.elim hit fun _ h => go_iter h.1 h.2.1 h.2.2 (by decide) hQ
/-- the iterable of a for: its turns are still to be told -/
noncomputable def ForSrc (prog : Program) (w : World) (A : Around) (h₀ : Heap) (env : Env) (target : Expr) (body : List Stmt) (Q : Flow → Shared → Prop) (E : Value → Shared → Prop) (xv : Value) (s₁ : Shared) : Prop :=
  wpAny (model prog w) A (pyIter xv) (fun it s₂ => TurnsAt prog w A h₀ env target body Q E it s₂) E s₁
theorem for_src {target iter : Expr} {body : List Stmt} {pos : Pos} {Q : Flow → Shared → Prop} (F : Fr h₀ env.locals s.heap m)
    (h : wpAny (model prog w) A (eval iter env) (ForSrc prog w A h₀ env target body Q E) E s)
    (hs : ∀ x, foldedSetIterable iter env x = pure x)
    (hE : PassesOwn (model prog w) A env E) :
    wpAny (model prog w) A (exec (.For target iter body [] pos) env) Q E s := For_turns F h hs hE
/-- the iterable of a comprehension -/
noncomputable def CmpSrc (prog : Program) (w : World) (A : Around) (h₀ : Heap) (L : Addr) (m : Str → Option Value) (env : Env) (scope : Scope) (cl : List (Str × Addr)) (target : Expr) (ifs : List Expr) (elt : Expr)
    (Fin : Shared → List Value → List (Addr × Obj) → Prop) (E : Value → Shared → Prop) (xv : Value) (s₁ : Shared) : Prop :=
  wpAny (model prog w) A (pyIter xv) (CmpAt prog w A h₀ L m env scope cl target ifs elt Fin) E s₁
/-- a turn's end in a for -/
noncomputable def FEnd (h₀ : Heap) (L : Addr) (ext : List (Addr × Obj)) (av : List Addr) (s : Shared) (K : (Str → Option Value) → List (Addr × Obj) → Prop) (s' : Shared) : Prop :=
  ∃ h' tk' m' lg', s' = { s with heap := h', toks := tk' } ∧ Fr h₀ L h' m' ∧ News h₀ L h' (ext ++ lg') ∧ (∀ p ∈ lg', p.1 ∉ av) ∧ K m' lg'
theorem FEnd.intro {ext : List (Addr × Obj)} {av : List Addr} {K : (Str → Option Value) → List (Addr × Obj) → Prop} {h' : Heap} {tk' : Nat} {m' : Str → Option Value} (lg' : List (Addr × Obj)) (F : Fr h₀ L h' m') (N : News h₀ L h' (ext ++ lg')) (ha : ∀ p ∈ lg', p.1 ∉ av) (k : K m' lg') :
    FEnd h₀ L ext av s K { s with heap := h', toks := tk' } := ⟨h', tk', m', lg', rfl, F, N, ha, k⟩
noncomputable def FPost (h₀ : Heap) (L : Addr) (ext : List (Addr × Obj)) (av : List Addr) (s : Shared) (K : (Str → Option Value) → List (Addr × Obj) → Prop) (Q : Flow → Shared → Prop) (f : Flow) (s' : Shared) : Prop :=
  match f with
  | .ret v => Q (.ret v) s'
  | .brk => Q .next s'
  | _ => FEnd h₀ L ext av s K s'
theorem for_walk {target : Expr} {body : List Stmt} {Q : Flow → Shared → Prop} {I : Addr} {fp wr : List Addr} {n : Nat} {P : Nat → Value → Prop} {St : Nat → Heap → Prop} {news : List (Addr × Obj)} {s₂ : Shared}
    (J : Nat → (Str → Option Value) → List (Addr × Obj) → Prop)
    (W : Walks prog w A I fp wr n P St) (hgo : ∀ i v (s : Shared) (Q : Unit → Shared → Prop) (E : Value → Shared → Prop), St i s.heap → Q () s → wpAny (model prog w) A (letOwnedTupleGo target (.ref I) v) Q E s)
    (hwx : ∀ i h, St i h → ∀ b ∈ wr, ∃ o, h.get? b = some o) (hst : St 0 s₂.heap) (hLf : env.locals ∉ fp) (hwr : ∀ b ∈ wr, h₀.get? b = none)
    (F : Fr h₀ env.locals s₂.heap m) (N : News h₀ env.locals s₂.heap news) (hnw : ∀ p ∈ news, p.1 ∉ wr) (h0 : J 0 m news)
    (turn : ∀ (i : Nat) (v : Value) (m₁ : Str → Option Value) (lg ext : List (Addr × Obj)) (av : List Addr) (h : Heap) (tk : Nat), i < n → P i v → J i m₁ lg → Fr h₀ env.locals h m₁ → News h₀ env.locals h (ext ++ lg) → (∀ p ∈ lg, p.1 ∉ av) → (∀ a ∈ av, ∃ o, (a, o) ∈ ext) → (∀ p ∈ ext, p.1 ∈ fp) → av = wr →
      wpAny (model prog w) A (assign target env v) (fun _ s₃ => wpAny (model prog w) A (execs body env) (FPost h₀ env.locals ext av { s₂ with heap := h, toks := tk } (J (i + 1)) Q) E s₃) E { s₂ with heap := h, toks := tk })
    (done : ∀ h' tk m' lg, Fr h₀ env.locals h' m' → News h₀ env.locals h' lg → J n m' lg → Q .next { s₂ with heap := h', toks := tk }) :
    TurnsAt prog w A h₀ env target body Q E (.ref I) s₂ := by
  refine ⟨I, fp, wr, n, _, _, St, m, news, J, rfl, KTurns.ofWalks W hgo, hLf, hwr, hnw, hst, F, N, h0, ?_, fun h' tk m' lg F' N' _ hJ => done h' tk m' lg F' N' hJ⟩
  intro i v m₁ lg h₁ tk₁ own hi hP hJ hnw' hown hown2 hfp hst' F₁ N₁
  refine wpAny_mono (turn i v m₁ lg own wr h₁ tk₁ hi hP hJ F₁ N₁ hnw' ?_ hown rfl) (fun _ s₃ h₃ => wpAny_mono h₃ (fun f s₄ h₄ => ?_) fun _ _ e => e) fun _ _ e => e
  · intro a ha
    (first | (refine' ex_1_0 (hwx _ _ hst' a ha) ?_; intro o ho) | (obtain ⟨o, ho⟩ := hwx _ _ hst' a ha))
    exact ⟨o, hfp a (W.sub _ ha) (hwr _ ha) o ho⟩
  · cases f with
    | ret v => exact h₄
    | brk => exact h₄
    | next => (first | (refine' ex_6_2 h₄ ?_; (try clear h₄); intro h' tk' m' lg' e F' N' ha k) | (refine' ex_4_4 h₄ ?_; (try clear h₄); intro h' tk' m' lg' e F' N' ha k) | (obtain ⟨h', tk', m', lg', e, F', N', ha, k⟩ := h₄)); exact ⟨rfl, h', tk', m', lg', e, F', N', ha, k⟩
    | cont => (first | (refine' ex_6_2 h₄ ?_; (try clear h₄); intro h' tk' m' lg' e F' N' ha k) | (refine' ex_4_4 h₄ ?_; (try clear h₄); intro h' tk' m' lg' e F' N' ha k) | (obtain ⟨h', tk', m', lg', e, F', N', ha, k⟩ := h₄)); exact ⟨rfl, h', tk', m', lg', e, F', N', ha, k⟩
theorem ne_of_data {h : Heap} {L a : Addr} {o : Obj} (hn : h.Ns L m) (ho : h.get? a = some o) (hd : ∀ es n, o.data ≠ .dict es n) : a ≠ L := by
  rintro rfl
  (first | (refine' ex_3_2 hn ?_; (try clear hn); intro o' es ep ho' hd' _) | (refine' ex_2_3 hn ?_; (try clear hn); intro o' es ep ho' hd' _) | (obtain ⟨o', es, ep, ho', hd', _⟩ := hn))
  rw [ho] at ho'
  cases ho'
  exact hd _ _ hd'
theorem cmp_walk {scope : Scope} {cl : List (Str × Addr)} {target : Expr} {ifs : List Expr} {elt : Expr} {Fin : Shared → List Value → List (Addr × Obj) → Prop} {I : Addr} {fp wr : List Addr} {n : Nat} {P : Nat → Value → Prop} {St : Nat → Heap → Prop} {news : List (Addr × Obj)} {s₂ : Shared} {fx : List Addr}
    {Bnd : Nat → (Str → Option Value) → Prop} (J : Nat → List Value → List (Addr × Obj) → Prop)
    (W : Walks prog w A I fp wr n P St) (hgo : ∀ i v (s : Shared) (Q : Unit → Shared → Prop) (E : Value → Shared → Prop), St i s.heap → Q () s → wpAny (model prog w) A (letOwnedTupleGo target (.ref I) v) Q E s)
    (hwx : ∀ i h, St i h → ∀ b ∈ wr, ∃ o, h.get? b = some o) (hst : St 0 s₂.heap) (hLf : L ∉ fp) (hwr : ∀ b ∈ wr, h₀.get? b = none) (hfp : ∀ b ∈ fp, b < s₂.heap.objs.size) (hsz : n ≤ sizeLine)
    (hb : Binds prog w A env scope cl target (fun i v _ => P i v) (fun i h => ∃ ys lg, J i ys lg ∧ News h₀ L h lg) Bnd)
    (F : Fr h₀ L s₂.heap m) (N : News h₀ L s₂.heap news) (hnw : ∀ p ∈ news, p.1 ∉ wr) (h0 : J 0 [] news)
    (T : CTurn prog w A fx h₀ L m env scope cl ifs elt n Bnd J s₂) (hfx : ∀ b ∈ fp, b ∈ wr ∨ b ∈ fx) (fin : ∀ ys lg, J n ys lg → Fin s₂ ys lg) :
    CmpAt prog w A h₀ L m env scope cl target ifs elt Fin (.ref I) s₂ :=
  ⟨I, fp, wr, fx, n, _, _, St, news, Bnd, J, rfl, KTurns.ofWalks W hgo, fun s Q E st hQ => W.self 0 s Q E st hQ, hsz, hwx, hb, hst, hfp, hLf, hwr, F, N, hnw, h0, T, hfx, fin⟩
theorem new_ne {h : Heap} {news : List (Addr × Obj)} (N : News h₀ L h news) : ∀ p ∈ news, p.1 ∉ [h.objs.size] := fun p hp hm => by
  have := Heap.lt_size (N p hp).1
  rw [List.mem_singleton.mp hm] at this
  exact Nat.lt_irrefl _ this
section
variable {target : Expr} {body : List Stmt} {Q : Flow → Shared → Prop} {news : List (Addr × Obj)}
theorem for_list {ax : Addr} {its : Array Value} (J : Nat → (Str → Option Value) → List (Addr × Obj) → Prop) (hh : A.handled = none) (hl : s.heap.IsList ax its)
    (F : Fr h₀ env.locals s.heap m) (N : News h₀ env.locals s.heap news) (h0 : J 0 m news)
    (turn : ∀ g (i : Nat) (v : Value) (m₁ : Str → Option Value) (lg ext : List (Addr × Obj)) (av : List Addr) (h : Heap) (tk : Nat), its[i]? = some v → J i m₁ lg → Fr h₀ env.locals h m₁ → News h₀ env.locals h (ext ++ lg) → (∀ p ∈ lg, p.1 ∉ av) → (∀ a ∈ av, ∃ o, (a, o) ∈ ext) → (∀ p ∈ ext, p.1 ∈ av ∨ p.1 ∈ [ax]) →
      wpAny (model prog w) A (assign target env v) (fun _ s₃ => wpAny (model prog w) A (execs body env) (FPost h₀ env.locals ext av { s with heap := g, toks := tk } (J (i + 1)) Q) E s₃) E { s with heap := h, toks := tk })
    (done : ∀ h' tk m' lg, Fr h₀ env.locals h' m' → News h₀ env.locals h' lg → J its.size m' lg → Q .next { s with heap := h', toks := tk }) :
    ForSrc prog w A h₀ env target body Q E (.ref ax) s := by
  (first | (refine' ex_3_1 (id hl) ?_; intro o ho hc nn hd) | (refine' ex_2_2 (id hl) ?_; intro o ho hc nn hd) | (obtain ⟨o, ho, hc, nn, hd⟩ := id hl))
  have hlt : ax < s.heap.objs.size := Heap.lt_size ho
  have hL : ax ≠ env.locals := ne_of_data F.ns ho (fun es n => by rw [hd]; intro e; cases e)
  refine wpAny_pyIter_list hl (for_walk J (Walks.list hh s.heap.objs.size ax (Nat.ne_of_lt hlt) its) (fun i v s Q E st hQ => go_listiter st.1 hQ) ?_ ⟨⟨_, Heap.get?_push_size _ rfl, rfl, rfl⟩, hl.push _⟩ ?_ ?_ (F.push _) (fun p hp => ⟨Heap.get?_push_of_some _ (N p hp).1, (N p hp).2⟩) (new_ne N) h0 ?_ done)
  · intro i h st b hb
    rw [List.mem_singleton.mp hb]
    (first | (refine' ex_2_0 (st.1) ?_; intro o e _) | (refine' ex_1_1 (st.1) ?_; intro o e _) | (obtain ⟨o, e, _⟩ := st.1)); exact ⟨o, e⟩
  · intro hm
    rcases List.mem_cons.mp hm with e | hm
    · exact absurd F.ns.lt (by rw [e]; exact Nat.lt_irrefl _)
    · exact hL (List.mem_singleton.mp hm).symm
  · intro b hb
    rw [List.mem_singleton.mp hb]
    exact next_is_new F
  · intro i v m₁ lg ext av h tk hi hP hJ F₁ N₁ h1 h2 h3 h4
    subst h4
    exact turn h i v m₁ lg ext _ h tk hP hJ F₁ N₁ h1 h2 (fun p hp => by
      rcases List.mem_cons.mp (h3 p hp) with e | e
      · exact .inl (List.mem_singleton.mpr e)
      · exact .inr e)
theorem for_tuple {ax : Addr} {its : Array Value} (J : Nat → (Str → Option Value) → List (Addr × Obj) → Prop) (hh : A.handled = none) (hl : s.heap.IsTuple ax its)
    (F : Fr h₀ env.locals s.heap m) (N : News h₀ env.locals s.heap news) (h0 : J 0 m news)
    (turn : ∀ g (i : Nat) (v : Value) (m₁ : Str → Option Value) (lg ext : List (Addr × Obj)) (av : List Addr) (h : Heap) (tk : Nat), its[i]? = some v → J i m₁ lg → Fr h₀ env.locals h m₁ → News h₀ env.locals h (ext ++ lg) → (∀ p ∈ lg, p.1 ∉ av) → (∀ a ∈ av, ∃ o, (a, o) ∈ ext) → (∀ p ∈ ext, p.1 ∈ av ∨ p.1 ∈ [ax]) →
      wpAny (model prog w) A (assign target env v) (fun _ s₃ => wpAny (model prog w) A (execs body env) (FPost h₀ env.locals ext av { s with heap := g, toks := tk } (J (i + 1)) Q) E s₃) E { s with heap := h, toks := tk })
    (done : ∀ h' tk m' lg, Fr h₀ env.locals h' m' → News h₀ env.locals h' lg → J its.size m' lg → Q .next { s with heap := h', toks := tk }) :
    ForSrc prog w A h₀ env target body Q E (.ref ax) s := by
  (first | (refine' ex_3_1 (id hl) ?_; intro o ho hc nn hd) | (refine' ex_2_2 (id hl) ?_; intro o ho hc nn hd) | (obtain ⟨o, ho, hc, nn, hd⟩ := id hl))
  have hlt : ax < s.heap.objs.size := Heap.lt_size ho
  have hL : ax ≠ env.locals := ne_of_data F.ns ho (fun es n => by rw [hd]; intro e; cases e)
  refine wpAny_pyIter_tuple hl (for_walk J (Walks.tuple hh s.heap.objs.size ax (Nat.ne_of_lt hlt) its) (fun i v s Q E st hQ => go_tupleiter st.1 hQ) ?_ ⟨⟨_, Heap.get?_push_size _ rfl, rfl, rfl⟩, hl.push _⟩ ?_ ?_ (F.push _) (fun p hp => ⟨Heap.get?_push_of_some _ (N p hp).1, (N p hp).2⟩) (new_ne N) h0 ?_ done)
  · intro i h st b hb
    rw [List.mem_singleton.mp hb]
    (first | (refine' ex_2_0 (st.1) ?_; intro o e _) | (refine' ex_1_1 (st.1) ?_; intro o e _) | (obtain ⟨o, e, _⟩ := st.1)); exact ⟨o, e⟩
  · intro hm
    rcases List.mem_cons.mp hm with e | hm
    · exact absurd F.ns.lt (by rw [e]; exact Nat.lt_irrefl _)
    · exact hL (List.mem_singleton.mp hm).symm
  · intro b hb
    rw [List.mem_singleton.mp hb]
    exact next_is_new F
  · intro i v m₁ lg ext av h tk hi hP hJ F₁ N₁ h1 h2 h3 h4
    subst h4
    exact turn h i v m₁ lg ext _ h tk hP hJ F₁ N₁ h1 h2 (fun p hp => by
      rcases List.mem_cons.mp (h3 p hp) with e | e
      · exact .inl (List.mem_singleton.mpr e)
      · exact .inr e)
theorem for_range {r : Addr} {a b c : Int} {t u v : Tok} {n : Nat} {x : Str} {px : Pos} (J : Nat → (Str → Option Value) → List (Addr × Obj) → Prop) (hh : A.handled = none) (hr : IsRange s.heap r a b c t u v) (hsm : Builtin.Range.small a b c = true) (hn : Builtin.Range.rangeSize a b c = ((n : Nat) : Int))
    (F : Fr h₀ env.locals s.heap m) (N : News h₀ env.locals s.heap news) (h0 : J 0 m news)
    (turn : ∀ g (i : Nat) (t : Tok) (m₁ : Str → Option Value) (lg ext : List (Addr × Obj)) (av : List Addr) (h : Heap) (tk : Nat), i < n → J i m₁ lg → Fr h₀ env.locals h m₁ → News h₀ env.locals h (ext ++ lg) → (∀ p ∈ lg, p.1 ∉ av) → (∀ a ∈ av, ∃ o, (a, o) ∈ ext) → (∀ p ∈ ext, p.1 ∈ av ∨ p.1 ∈ ([] : List Addr)) →
      wpAny (model prog w) A (assign (.Name x px) env (.int (a + i * c) t)) (fun _ s₃ => wpAny (model prog w) A (execs body env) (FPost h₀ env.locals ext av { s with heap := g, toks := tk } (J (i + 1)) Q) E s₃) E { s with heap := h, toks := tk })
    (done : ∀ h' tk m' lg, Fr h₀ env.locals h' m' → News h₀ env.locals h' lg → J n m' lg → Q .next { s with heap := h', toks := tk }) :
    ForSrc prog w A h₀ env (.Name x px) body Q E (.ref r) s := by
  refine wpAny_pyIter_range hr hsm (for_walk J (Walks.range hh s.heap.objs.size a c n) (fun i v s Q E st hQ => wpAny_pure hQ) ?_ ?_ ?_ ?_ (F.push _) (fun p hp => ⟨Heap.get?_push_of_some _ (N p hp).1, (N p hp).2⟩) (new_ne N) h0 ?_ done)
  · intro i h st b hb
    rw [List.mem_singleton.mp hb]
    exact ⟨_, st⟩
  · show IsRangeIter _ _ _ _ _
    rw [hn]
    simpa using Heap.get?_push_size _ rfl
  · intro hm
    exact absurd F.ns.lt (by rw [List.mem_singleton.mp hm]; exact Nat.lt_irrefl _)
  · intro b hb
    rw [List.mem_singleton.mp hb]
    exact next_is_new F
  · rintro i v m₁ lg ext av h tk hi ⟨t', rfl⟩ hJ F₁ N₁ h1 h2 h3 rfl
    exact turn h i t' m₁ lg ext _ h tk hi hJ F₁ N₁ h1 h2 (fun p hp => .inl (h3 p hp))
end
section
variable {scope : Scope} {cl : List (Str × Addr)} {target : Expr} {ifs : List Expr} {elt : Expr} {Fin : Shared → List Value → List (Addr × Obj) → Prop} {news : List (Addr × Obj)} {Bnd : Nat → (Str → Option Value) → Prop}
theorem cmp_list {ax : Addr} {its : Array Value} (J : Nat → List Value → List (Addr × Obj) → Prop) (hh : A.handled = none) (hl : s.heap.IsList ax its) (hsz : its.size ≤ sizeLine)
    (hb : Binds prog w A env scope cl target (fun i v _ => its[i]? = some v) (fun i h => ∃ ys lg, J i ys lg ∧ News h₀ L h lg) Bnd)
    (F : Fr h₀ L s.heap m) (N : News h₀ L s.heap news) (h0 : J 0 [] news)
    (T : ∀ g, CTurn prog w A [ax] h₀ L m env scope cl ifs elt its.size Bnd J { s with heap := g }) (fin : ∀ g ys lg, J its.size ys lg → Fin { s with heap := g } ys lg) :
    CmpSrc prog w A h₀ L m env scope cl target ifs elt Fin E (.ref ax) s := by
  (first | (refine' ex_3_1 (id hl) ?_; intro o ho hc nn hd) | (refine' ex_2_2 (id hl) ?_; intro o ho hc nn hd) | (obtain ⟨o, ho, hc, nn, hd⟩ := id hl))
  have hlt : ax < s.heap.objs.size := Heap.lt_size ho
  have hL : ax ≠ L := ne_of_data F.ns ho (fun es n => by rw [hd]; intro e; cases e)
  refine wpAny_pyIter_list hl (cmp_walk J (Walks.list hh s.heap.objs.size ax (Nat.ne_of_lt hlt) its) (fun i v s Q E st hQ => go_listiter st.1 hQ) ?_ ⟨⟨_, Heap.get?_push_size _ rfl, rfl, rfl⟩, hl.push _⟩ ?_ ?_ ?_ hsz hb (F.push _) (fun p hp => ⟨Heap.get?_push_of_some _ (N p hp).1, (N p hp).2⟩) (new_ne N) h0 (T _) (fun b hb => by rcases List.mem_cons.mp hb with e | e; exact .inl (List.mem_singleton.mpr e); exact .inr e) (fin _))
  · intro i h st b hb
    rw [List.mem_singleton.mp hb]
    (first | (refine' ex_2_0 (st.1) ?_; intro o e _) | (refine' ex_1_1 (st.1) ?_; intro o e _) | (obtain ⟨o, e, _⟩ := st.1)); exact ⟨o, e⟩
  · intro hm
    rcases List.mem_cons.mp hm with e | hm
    · exact absurd F.ns.lt (by rw [e]; exact Nat.lt_irrefl _)
    · exact hL (List.mem_singleton.mp hm).symm
  · intro b hb
    rw [List.mem_singleton.mp hb]
    exact next_is_new F
  · intro b hb
    show b < (s.heap.push _).objs.size
    rw [Heap.size_push]
    rcases List.mem_cons.mp hb with rfl | hb
    · exact Nat.lt_succ_self _
    · rw [List.mem_singleton.mp hb]; exact Nat.lt_succ_of_lt hlt
theorem cmp_tuple {ax : Addr} {its : Array Value} (J : Nat → List Value → List (Addr × Obj) → Prop) (hh : A.handled = none) (hl : s.heap.IsTuple ax its) (hsz : its.size ≤ sizeLine)
    (hb : Binds prog w A env scope cl target (fun i v _ => its[i]? = some v) (fun i h => ∃ ys lg, J i ys lg ∧ News h₀ L h lg) Bnd)
    (F : Fr h₀ L s.heap m) (N : News h₀ L s.heap news) (h0 : J 0 [] news)
    (T : ∀ g, CTurn prog w A [ax] h₀ L m env scope cl ifs elt its.size Bnd J { s with heap := g }) (fin : ∀ g ys lg, J its.size ys lg → Fin { s with heap := g } ys lg) :
    CmpSrc prog w A h₀ L m env scope cl target ifs elt Fin E (.ref ax) s := by
  (first | (refine' ex_3_1 (id hl) ?_; intro o ho hc nn hd) | (refine' ex_2_2 (id hl) ?_; intro o ho hc nn hd) | (obtain ⟨o, ho, hc, nn, hd⟩ := id hl))
  have hlt : ax < s.heap.objs.size := Heap.lt_size ho
  have hL : ax ≠ L := ne_of_data F.ns ho (fun es n => by rw [hd]; intro e; cases e)
  refine wpAny_pyIter_tuple hl (cmp_walk J (Walks.tuple hh s.heap.objs.size ax (Nat.ne_of_lt hlt) its) (fun i v s Q E st hQ => go_tupleiter st.1 hQ) ?_ ⟨⟨_, Heap.get?_push_size _ rfl, rfl, rfl⟩, hl.push _⟩ ?_ ?_ ?_ hsz hb (F.push _) (fun p hp => ⟨Heap.get?_push_of_some _ (N p hp).1, (N p hp).2⟩) (new_ne N) h0 (T _) (fun b hb => by rcases List.mem_cons.mp hb with e | e; exact .inl (List.mem_singleton.mpr e); exact .inr e) (fin _))
  · intro i h st b hb
    rw [List.mem_singleton.mp hb]
    (first | (refine' ex_2_0 (st.1) ?_; intro o e _) | (refine' ex_1_1 (st.1) ?_; intro o e _) | (obtain ⟨o, e, _⟩ := st.1)); exact ⟨o, e⟩
  · intro hm
    rcases List.mem_cons.mp hm with e | hm
    · exact absurd F.ns.lt (by rw [e]; exact Nat.lt_irrefl _)
    · exact hL (List.mem_singleton.mp hm).symm
  · intro b hb
    rw [List.mem_singleton.mp hb]
    exact next_is_new F
  · intro b hb
    show b < (s.heap.push _).objs.size
    rw [Heap.size_push]
    rcases List.mem_cons.mp hb with rfl | hb
    · exact Nat.lt_succ_self _
    · rw [List.mem_singleton.mp hb]; exact Nat.lt_succ_of_lt hlt
theorem cmp_range {r : Addr} {a b c : Int} {t u v : Tok} {n : Nat} {x : Str} {px : Pos} (J : Nat → List Value → List (Addr × Obj) → Prop) (hh : A.handled = none) (hr : IsRange s.heap r a b c t u v) (hsm : Builtin.Range.small a b c = true) (hn : Builtin.Range.rangeSize a b c = ((n : Nat) : Int)) (hsz : n ≤ sizeLine)
    (hb : Binds prog w A env scope cl (.Name x px) (fun i v _ => ∃ t, v = .int (a + i * c) t) (fun i h => ∃ ys lg, J i ys lg ∧ News h₀ L h lg) Bnd)
    (F : Fr h₀ L s.heap m) (N : News h₀ L s.heap news) (h0 : J 0 [] news)
    (T : ∀ g, CTurn prog w A [] h₀ L m env scope cl ifs elt n Bnd J { s with heap := g }) (fin : ∀ g ys lg, J n ys lg → Fin { s with heap := g } ys lg) :
    CmpSrc prog w A h₀ L m env scope cl (.Name x px) ifs elt Fin E (.ref r) s := by
  refine wpAny_pyIter_range hr hsm (cmp_walk J (Walks.range hh s.heap.objs.size a c n) (fun i v s Q E st hQ => wpAny_pure hQ) ?_ ?_ ?_ ?_ ?_ hsz hb (F.push _) (fun p hp => ⟨Heap.get?_push_of_some _ (N p hp).1, (N p hp).2⟩) (new_ne N) h0 (T _) (fun b hb => .inl hb) (fin _))
  · intro i h st b hb
    rw [List.mem_singleton.mp hb]
    exact ⟨_, st⟩
  · show IsRangeIter _ _ _ _ _
    rw [hn]
    simpa using Heap.get?_push_size _ rfl
  · intro hm
    exact absurd F.ns.lt (by rw [List.mem_singleton.mp hm]; exact Nat.lt_irrefl _)
  · intro b hb
    rw [List.mem_singleton.mp hb]
    exact next_is_new F
  · intro b hb
    show b < (s.heap.push _).objs.size
    rw [Heap.size_push, List.mem_singleton.mp hb]
    exact Nat.lt_succ_self _
end
end
end
theorem resetC2 : True := by w_top off; trivial
section
set_option maxRecDepth 100000
set_option maxHeartbeats 2000000
noncomputable def Off (av : List Addr) (lg : List (Addr × Obj)) : Prop := ∀ p ∈ lg, p.1 ∉ av
noncomputable def HasAv (ext : List (Addr × Obj)) (av : List Addr) : Prop := ∀ a ∈ av, ∃ o, (a, o) ∈ ext
noncomputable def ExtIn (ext : List (Addr × Obj)) (av fx : List Addr) : Prop := ∀ p ∈ ext, p.1 ∈ av ∨ p.1 ∈ fx
theorem off_nil {av : List Addr} : Off av [] := fun _ h => nomatch h
theorem off_cons {av : List Addr} {a : Addr} {o : Obj} {lg : List (Addr × Obj)} (h : a ∉ av) (r : Off av lg) : Off av ((a, o) :: lg) := by
  intro p hp
  rcases List.mem_cons.mp hp with rfl | hp
  · exact h
  · exact r p hp
theorem off_app {av : List Addr} {tl lg : List (Addr × Obj)} (h : Off av tl) (r : Off av lg) : Off av (tl ++ lg) := by
  intro p hp
  rcases List.mem_append.mp hp with hp | hp
  · exact h p hp
  · exact r p hp
theorem off_new {av : List Addr} {D : Addr} {X ext : List (Addr × Obj)} (l : ∀ p ∈ X, p.1 < D) (hav : HasAv ext av) (hs : ∀ q ∈ ext, q ∈ X) : D ∉ av := by
  intro hm
  (first | (refine' ex_1_0 (hav D hm) ?_; intro o ho) | (obtain ⟨o, ho⟩ := hav D hm))
  exact Nat.lt_irrefl _ (l _ (hs _ ho))
theorem off_new1 {av : List Addr} {D D2 : Addr} {X ext : List (Addr × Obj)} (l : ∀ p ∈ X, p.1 < D2) (l2 : D2 < D) (hav : HasAv ext av) (hs : ∀ q ∈ ext, q ∈ X) : D ∉ av := by
  intro hm
  (first | (refine' ex_1_0 (hav D hm) ?_; intro o ho) | (obtain ⟨o, ho⟩ := hav D hm))
  exact Nat.lt_irrefl _ (Nat.lt_trans (l _ (hs _ ho)) l2)
theorem off_tl {av : List Addr} {tl X ext : List (Addr × Obj)} (l : ∀ q ∈ X, ∀ p ∈ tl, p.1 ≠ q.1) (hav : HasAv ext av) (hs : ∀ q ∈ ext, q ∈ X) : Off av tl := by
  intro p hp hm
  (first | (refine' ex_1_0 (hav _ hm) ?_; intro o ho) | (obtain ⟨o, ho⟩ := hav _ hm))
  exact l _ (hs _ ho) p hp rfl
theorem off_sub {av : List Addr} {lg lg' : List (Addr × Obj)} (h : Off av lg) (s : ∀ p ∈ lg', p ∈ lg) : Off av lg' := fun p hp => h p (s p hp)
theorem off_hd {av : List Addr} {a : Addr} {o : Obj} {lg : List (Addr × Obj)} (h : Off av ((a, o) :: lg)) : a ∉ av := h _ (.head _)
theorem off_rest {av : List Addr} {q : Addr × Obj} {lg : List (Addr × Obj)} (h : Off av (q :: lg)) : Off av lg := fun p hp => h p (.tail _ hp)
theorem drop_cons {α : Type} {l : List α} {i : Nat} {v : α} (h : l[i]? = some v) : l.drop i = v :: l.drop (i + 1) := by
  (first | (refine' ex_1_0 (List.getElem?_eq_some_iff.mp h) ?_; intro hi e) | (obtain ⟨hi, e⟩ := List.getElem?_eq_some_iff.mp h))
  rw [List.drop_eq_getElem_cons hi, e]
section
variable {prog : Program} {w : World} {A : Around} {E : Value → Shared → Prop} {s : Shared} {h₀ : Heap} {L : Addr} {m : Str → Option Value} {env : Env} {target : Expr} {body : List Stmt} {Q : Flow → Shared → Prop} {news : List (Addr × Obj)}
/-- a for, turn by turn -/
noncomputable def FRest (prog : Program) (w : World) (A : Around) (fx : List Addr) (h₀ : Heap) (env : Env) (target : Expr) (body : List Stmt) (Q : Flow → Shared → Prop) (E : Value → Shared → Prop) (s : Shared) : List Value → (Str → Option Value) → List (Addr × Obj) → Prop
  | [], m, lg => ∀ h tk, Fr h₀ env.locals h m → News h₀ env.locals h lg → Q .next { s with heap := h, toks := tk }
  | v :: r, m, lg => ∀ ext av h tk, Fr h₀ env.locals h m → News h₀ env.locals h (ext ++ lg) → Off av lg → HasAv ext av → ExtIn ext av fx →
      wpAny (model prog w) A (assign target env v) (fun _ s₃ => wpAny (model prog w) A (execs body env) (FPost h₀ env.locals ext av { s with heap := h, toks := tk } (FRest prog w A fx h₀ env target body Q E s r) Q) E s₃) E { s with heap := h, toks := tk }
theorem for_tuple_rest {ax : Addr} {vs : List Value} (hh : A.handled = none) (hl : s.heap.IsTuple ax vs.toArray) (F : Fr h₀ env.locals s.heap m) (N : News h₀ env.locals s.heap news) (R : FRest prog w A [ax] h₀ env target body Q E s vs m news) :
    ForSrc prog w A h₀ env target body Q E (.ref ax) s := by
  refine for_tuple (fun i m lg => FRest prog w A [ax] h₀ env target body Q E s (vs.drop i) m lg) hh hl F N (by simpa using R) ?_ ?_
  · intro g i v m₁ lg ext av h tk hv hJ F₁ N₁ h1 h2 h3
    have hv' : vs[i]? = some v := by simpa using hv
    rw [drop_cons hv'] at hJ
    exact hJ ext av h tk F₁ N₁ h1 h2 h3
  · intro h' tk m' lg F' N' hJ
    have hJ' : FRest prog w A [ax] h₀ env target body Q E s (vs.drop vs.length) m' lg := by simpa using hJ
    rw [List.drop_length] at hJ'
    exact hJ' h' tk F' N'
theorem for_list_rest {ax : Addr} {vs : List Value} (hh : A.handled = none) (hl : s.heap.IsList ax vs.toArray) (F : Fr h₀ env.locals s.heap m) (N : News h₀ env.locals s.heap news) (R : FRest prog w A [ax] h₀ env target body Q E s vs m news) :
    ForSrc prog w A h₀ env target body Q E (.ref ax) s := by
  refine for_list (fun i m lg => FRest prog w A [ax] h₀ env target body Q E s (vs.drop i) m lg) hh hl F N (by simpa using R) ?_ ?_
  · intro g i v m₁ lg ext av h tk hv hJ F₁ N₁ h1 h2 h3
    have hv' : vs[i]? = some v := by simpa using hv
    rw [drop_cons hv'] at hJ
    exact hJ ext av h tk F₁ N₁ h1 h2 h3
  · intro h' tk m' lg F' N' hJ
    have hJ' : FRest prog w A [ax] h₀ env target body Q E s (vs.drop vs.length) m' lg := by simpa using hJ
    rw [List.drop_length] at hJ'
    exact hJ' h' tk F' N'
end
section
variable {prog : Program} {w : World} {A : Around} {E : Value → Shared → Prop} {s : Shared} {h₀ : Heap} {L : Addr} {m : Str → Option Value} {env : Env} {news : List (Addr × Obj)} {scope : Scope} {cl : List (Str × Addr)} {elt ct : Expr} {x y : Str} {px py pt : Pos} {k : Nat} {Fin : Shared → List Value → List (Addr × Obj) → Prop}
noncomputable def CRest (prog : Program) (w : World) (A : Around) (fx : List Addr) (h₀ : Heap) (L : Addr) (m : Str → Option Value) (env : Env) (scope : Scope) (cl : List (Str × Addr)) (x : Str) (elt : Expr) (Fin : Shared → List Value → List (Addr × Obj) → Prop) (s : Shared) : List Value → List Value → List (Addr × Obj) → Prop
  | [], ys, lg => ∀ g, Fin { s with heap := g } ys lg
  | v :: r, ys, lg => ∀ C oC m₂ ext av h tk E', NsObj oC m₂ → m₂ x = some v → (C, oC) ∈ ext → Fr h₀ L h m → News h₀ L h (ext ++ lg) → Off av lg → HasAv ext av → ExtIn ext av fx →
      wpAny (model prog w) A (eval elt (compEnvC scope cl C env)) (fun y s'' => CEnd h₀ L m ext av { s with heap := h, toks := tk } (CRest prog w A fx h₀ L m env scope cl x elt Fin s r (ys ++ [y])) s'') E' { s with heap := h, toks := tk }
noncomputable def CRestT (prog : Program) (w : World) (A : Around) (fx : List Addr) (h₀ : Heap) (L : Addr) (m : Str → Option Value) (env : Env) (scope : Scope) (cl : List (Str × Addr)) (x : Str) (ct elt : Expr) (Fin : Shared → List Value → List (Addr × Obj) → Prop) (s : Shared) : List Value → List Value → List (Addr × Obj) → Prop
  | [], ys, lg => ∀ g, Fin { s with heap := g } ys lg
  | v :: r, ys, lg => ∀ C oC m₂ ext av h tk E', NsObj oC m₂ → m₂ x = some v → (C, oC) ∈ ext → Fr h₀ L h m → News h₀ L h (ext ++ lg) → Off av lg → HasAv ext av → ExtIn ext av fx →
      wpAny (model prog w) A (isTrue ct (compEnvC scope cl C env) (eval ct (compEnvC scope cl C env))) (fun ok s' => if ok = true then
        wpAny (model prog w) A (eval elt (compEnvC scope cl C env)) (fun y s'' => CEnd h₀ L m ext av { s with heap := h, toks := tk } (CRestT prog w A fx h₀ L m env scope cl x ct elt Fin s r (ys ++ [y])) s'') E' s'
        else CEnd h₀ L m ext av { s with heap := h, toks := tk } (CRestT prog w A fx h₀ L m env scope cl x ct elt Fin s r ys) s') E' { s with heap := h, toks := tk }
noncomputable def CRestP (prog : Program) (w : World) (A : Around) (fx : List Addr) (h₀ : Heap) (L : Addr) (m : Str → Option Value) (env : Env) (scope : Scope) (cl : List (Str × Addr)) (x y : Str) (elt : Expr) (Fin : Shared → List Value → List (Addr × Obj) → Prop) (s : Shared) : List (Addr × Value × Value) → List Value → List (Addr × Obj) → Prop
  | [], ys, lg => ∀ g, Fin { s with heap := g } ys lg
  | v :: r, ys, lg => (∃ k, (v.1, ({ cls := .type "tuple", data := .seq [v.2.1, v.2.2].toArray k } : Obj)) ∈ lg) ∧ ∀ C oC m₂ ext av h tk E', NsObj oC m₂ → m₂ x = some v.2.1 → m₂ y = some v.2.2 → (C, oC) ∈ ext → Fr h₀ L h m → News h₀ L h (ext ++ lg) → Off av lg → HasAv ext av → ExtIn ext av fx →
      wpAny (model prog w) A (eval elt (compEnvC scope cl C env)) (fun z s'' => CEnd h₀ L m ext av { s with heap := h, toks := tk } (CRestP prog w A fx h₀ L m env scope cl x y elt Fin s r (ys ++ [z])) s'') E' { s with heap := h, toks := tk }
theorem cturn_rest {fx : List Addr} {vs : List Value} : CTurn prog w A fx h₀ L m env scope cl [] elt vs.toArray.size (fun i m => ∃ v, vs[i]? = some v ∧ m x = some v) (fun i ys lg => CRest prog w A fx h₀ L m env scope cl x elt Fin s (vs.drop i) ys lg) s := by
  constructor
  intro i ys lg C oC m₂ ext av h tk E' _ hB hoC hCe hJ F N h1 h2 h3
  (first | (refine' ex_2_0 hB ?_; (try clear hB); intro v hv hx) | (refine' ex_1_1 hB ?_; (try clear hB); intro v hv hx) | (obtain ⟨v, hv, hx⟩ := hB))
  rw [drop_cons hv] at hJ
  refine wpAny_tests_nil ?_
  simp only [if_true]
  exact hJ C oC m₂ ext av h tk E' hoC hx hCe F N h1 h2 h3
theorem cturn_restT {fx : List Addr} {vs : List Value} : CTurn prog w A fx h₀ L m env scope cl [ct] elt vs.toArray.size (fun i m => ∃ v, vs[i]? = some v ∧ m x = some v) (fun i ys lg => CRestT prog w A fx h₀ L m env scope cl x ct elt Fin s (vs.drop i) ys lg) s := by
  constructor
  intro i ys lg C oC m₂ ext av h tk E' _ hB hoC hCe hJ F N h1 h2 h3
  (first | (refine' ex_2_0 hB ?_; (try clear hB); intro v hv hx) | (refine' ex_1_1 hB ?_; (try clear hB); intro v hv hx) | (obtain ⟨v, hv, hx⟩ := hB))
  rw [drop_cons hv] at hJ
  exact wpAny_tests_one (hJ C oC m₂ ext av h tk E' hoC hx hCe F N h1 h2 h3)
theorem cmp_tuple_rest {ax : Addr} {vs : List Value} (hh : A.handled = none) (hl : s.heap.IsTuple ax vs.toArray) (hsz : vs.length ≤ sizeLine) (hx : scope.names.lookup x = some .local) (hkind : scope.kind = .function) (F : Fr h₀ L s.heap m) (N : News h₀ L s.heap news)
    (R : CRest prog w A [ax] h₀ L m env scope cl x elt Fin s vs [] news) : CmpSrc prog w A h₀ L m env scope cl (.Name x px) [] elt Fin E (.ref ax) s := by
  refine cmp_tuple (fun i ys lg => CRest prog w A [ax] h₀ L m env scope cl x elt Fin s (vs.drop i) ys lg) hh hl (by simpa using hsz) (binds_name (P' := fun i v => vs[i]? = some v) hx hkind (fun i v h hp => by simpa using hp)) F N (by simpa using R) (fun g => ⟨(cturn_rest (s := s)).go⟩) ?_
  intro g ys lg hJ
  have hJ' : CRest prog w A [ax] h₀ L m env scope cl x elt Fin s (vs.drop vs.length) ys lg := by simpa using hJ
  rw [List.drop_length] at hJ'
  exact hJ' g
theorem cmp_list_rest {ax : Addr} {vs : List Value} (hh : A.handled = none) (hl : s.heap.IsList ax vs.toArray) (hsz : vs.length ≤ sizeLine) (hx : scope.names.lookup x = some .local) (hkind : scope.kind = .function) (F : Fr h₀ L s.heap m) (N : News h₀ L s.heap news)
    (R : CRest prog w A [ax] h₀ L m env scope cl x elt Fin s vs [] news) : CmpSrc prog w A h₀ L m env scope cl (.Name x px) [] elt Fin E (.ref ax) s := by
  refine cmp_list (fun i ys lg => CRest prog w A [ax] h₀ L m env scope cl x elt Fin s (vs.drop i) ys lg) hh hl (by simpa using hsz) (binds_name (P' := fun i v => vs[i]? = some v) hx hkind (fun i v h hp => by simpa using hp)) F N (by simpa using R) (fun g => ⟨(cturn_rest (s := s)).go⟩) ?_
  intro g ys lg hJ
  have hJ' : CRest prog w A [ax] h₀ L m env scope cl x elt Fin s (vs.drop vs.length) ys lg := by simpa using hJ
  rw [List.drop_length] at hJ'
  exact hJ' g
theorem cmp_tuple_restT {ax : Addr} {vs : List Value} (hh : A.handled = none) (hl : s.heap.IsTuple ax vs.toArray) (hsz : vs.length ≤ sizeLine) (hx : scope.names.lookup x = some .local) (hkind : scope.kind = .function) (F : Fr h₀ L s.heap m) (N : News h₀ L s.heap news)
    (R : CRestT prog w A [ax] h₀ L m env scope cl x ct elt Fin s vs [] news) : CmpSrc prog w A h₀ L m env scope cl (.Name x px) [ct] elt Fin E (.ref ax) s := by
  refine cmp_tuple (fun i ys lg => CRestT prog w A [ax] h₀ L m env scope cl x ct elt Fin s (vs.drop i) ys lg) hh hl (by simpa using hsz) (binds_name (P' := fun i v => vs[i]? = some v) hx hkind (fun i v h hp => by simpa using hp)) F N (by simpa using R) (fun g => ⟨(cturn_restT (s := s)).go⟩) ?_
  intro g ys lg hJ
  have hJ' : CRestT prog w A [ax] h₀ L m env scope cl x ct elt Fin s (vs.drop vs.length) ys lg := by simpa using hJ
  rw [List.drop_length] at hJ'
  exact hJ' g
theorem cmp_list_restT {ax : Addr} {vs : List Value} (hh : A.handled = none) (hl : s.heap.IsList ax vs.toArray) (hsz : vs.length ≤ sizeLine) (hx : scope.names.lookup x = some .local) (hkind : scope.kind = .function) (F : Fr h₀ L s.heap m) (N : News h₀ L s.heap news)
    (R : CRestT prog w A [ax] h₀ L m env scope cl x ct elt Fin s vs [] news) : CmpSrc prog w A h₀ L m env scope cl (.Name x px) [ct] elt Fin E (.ref ax) s := by
  refine cmp_list (fun i ys lg => CRestT prog w A [ax] h₀ L m env scope cl x ct elt Fin s (vs.drop i) ys lg) hh hl (by simpa using hsz) (binds_name (P' := fun i v => vs[i]? = some v) hx hkind (fun i v h hp => by simpa using hp)) F N (by simpa using R) (fun g => ⟨(cturn_restT (s := s)).go⟩) ?_
  intro g ys lg hJ
  have hJ' : CRestT prog w A [ax] h₀ L m env scope cl x ct elt Fin s (vs.drop vs.length) ys lg := by simpa using hJ
  rw [List.drop_length] at hJ'
  exact hJ' g
theorem cmp_list_restP {ax : Addr} {ps : List (Addr × Value × Value)} (hh : A.handled = none) (hl : s.heap.IsList ax (ps.map fun p => Value.ref p.1).toArray) (hsz : ps.length ≤ sizeLine) (hx : scope.names.lookup x = some .local) (hy : scope.names.lookup y = some .local) (hxy : x ≠ y) (hkind : scope.kind = .function) (F : Fr h₀ L s.heap m) (N : News h₀ L s.heap news)
    (R : CRestP prog w A [ax] h₀ L m env scope cl x y elt Fin s ps [] news) : CmpSrc prog w A h₀ L m env scope cl (.Tuple [.Name x px, .Name y py] k pt) [] elt Fin E (.ref ax) s := by
  have hsz' : (ps.map fun p => Value.ref p.1).toArray.size = ps.length := by simp
  refine cmp_list (fun i ys lg => CRestP prog w A [ax] h₀ L m env scope cl x y elt Fin s (ps.drop i) ys lg) hh hl (by rw [hsz']; exact hsz) (binds_pair (P' := fun i a b => ∃ T, ps[i]? = some (T, a, b)) hh hx hy hxy hkind ?_) F N (by simpa using R) ?_ ?_
  · rintro i v h hp ⟨ys, lg, hJ, N'⟩
    have hp' : (ps[i]?).map (fun p => Value.ref p.1) = some v := by simpa using hp
    (first | (refine' ex_2_0 (Option.map_eq_some_iff.mp hp') ?_; intro p hpi ob9; subst ob9) | (refine' ex_1_1 (Option.map_eq_some_iff.mp hp') ?_; intro p hpi ob9; subst ob9) | (obtain ⟨p, hpi, rfl⟩ := Option.map_eq_some_iff.mp hp'))
    rw [drop_cons hpi] at hJ
    obtain ⟨⟨k, hk⟩, _⟩ := hJ
    exact ⟨p.1, p.2.1, p.2.2, rfl, ⟨_, (N' _ hk).1, rfl, _, rfl⟩, p.1, hpi⟩
  · intro g
    constructor
    rintro i ys lg C oC m₂ ext av h tk E' _ ⟨a, b, ⟨T, hpi⟩, hxa, hyb⟩ hoC hCe hJ F N h1 h2 h3
    rw [drop_cons hpi] at hJ
    refine wpAny_tests_nil ?_
    simp only [if_true]
    exact hJ.2 C oC m₂ ext av h tk E' hoC hxa hyb hCe F N h1 h2 h3
  · intro g ys lg hJ
    have hJ' : CRestP prog w A [ax] h₀ L m env scope cl x y elt Fin s (ps.drop ps.length) ys lg := by simpa using hJ
    rw [List.drop_length] at hJ'
    exact hJ' g
end
end
theorem resetC3 : True := by w_top off; trivial
section
set_option maxRecDepth 100000
set_option maxHeartbeats 2000000
noncomputable def Rem (ext X lg : List (Addr × Obj)) : Prop := ∀ p ∈ ext ++ lg, p ∈ X
theorem rem_base {ext lg : List (Addr × Obj)} : Rem ext (ext ++ lg) lg := fun _ h => h
theorem rem_cons {ext X lg : List (Addr × Obj)} {e : Addr × Obj} (h : Rem ext X lg) : Rem ext (e :: X) (e :: lg) := by
  intro p hp
  rcases List.mem_append.mp hp with hp | hp
  · exact .tail _ (h p (List.mem_append_left _ hp))
  · rcases List.mem_cons.mp hp with rfl | hp
    · exact .head _
    · exact .tail _ (h p (List.mem_append_right _ hp))
theorem rem_app {ext X lg tl : List (Addr × Obj)} (h : Rem ext X lg) : Rem ext (tl ++ X) (tl ++ lg) := by
  intro p hp
  rcases List.mem_append.mp hp with hp | hp
  · exact List.mem_append_right _ (h p (List.mem_append_left _ hp))
  · rcases List.mem_append.mp hp with hp | hp
    · exact List.mem_append_left _ hp
    · exact List.mem_append_right _ (h p (List.mem_append_right _ hp))
theorem off_new2 {av : List Addr} {D D2 : Addr} {X ext : List (Addr × Obj)} (l2 : D2 < D) (l : ∀ p ∈ X, p.1 < D2) (hav : HasAv ext av) (hs : ∀ q ∈ ext, q ∈ X) : D ∉ av := off_new1 l l2 hav hs
section
variable {prog : Program} {w : World} {A : Around} {E : Value → Shared → Prop} {s : Shared} {h₀ h' : Heap} {L : Addr} {m m' : Str → Option Value} {env : Env} {ext X lg' : List (Addr × Obj)} {av : List Addr}
theorem fend_intro {K : (Str → Option Value) → List (Addr × Obj) → Prop} {tk' : Nat} (F : Fr h₀ L h' m') (N : News h₀ L h' X) (R : Rem ext X lg') (O : Off av lg') (k : K m' lg') :
    FEnd h₀ L ext av s K { s with heap := h', toks := tk' } := FEnd.intro lg' F (fun p hp => N p (R p hp)) O k
theorem cend_intro {K : List (Addr × Obj) → Prop} {tk' : Nat} (F : Fr h₀ L h' m) (N : News h₀ L h' X) (R : Rem ext X lg') (O : Off av lg') (k : K lg') :
    CEnd h₀ L m ext av s K { s with heap := h', toks := tk' } := CEnd.intro lg' F (fun p hp => N p (R p hp)) O k
theorem cmp_e {elt target iter : Expr} {ifs : List Expr} {scope : Scope} {cl : List (Str × Addr)} {pos : Pos} {Q : Value → Shared → Prop} (_F₀ : Fr h₀ L s.heap m)
    (hclos : closureFor scope env = pure cl) (hcell : ∀ y ∈ scope.names, y.2 ≠ .cell) (hkind : scope.kind = .function)
    (hnames : ∀ y ∈ scope.names, y.2 = .local → scope.names.lookup y.1 = some .local)
    (hs : ∀ x, foldedSetIterable iter env x = pure x)
    (h : wpAny (model prog w) A (eval iter env) (CmpSrc prog w A h₀ L m env scope cl target ifs elt (FinE2 h₀ L m Q) E) E s) :
    wpAny (model prog w) A (eval (.ListComp elt [⟨target, iter, ifs, 0⟩] scope pos) env) Q E s := cmp_E hclos hcell hkind hnames h hs
theorem cmp_a {elt target iter : Expr} {ifs : List Expr} {scope : Scope} {cl : List (Str × Addr)} {pos spos py : Pos} {y : Str} {Q : Flow → Shared → Prop} (_F₀ : Fr h₀ L s.heap m) (hLe : env.locals = L)
    (hsw : swapsWith (.ListComp elt [⟨target, iter, ifs, 0⟩] scope pos) (some (.Name y py)) spos.line env = pure true)
    (hclos : closureFor scope env = pure cl) (hcell : ∀ y ∈ scope.names, y.2 ≠ .cell) (hkind : scope.kind = .function)
    (hnames : ∀ y ∈ scope.names, y.2 = .local → scope.names.lookup y.1 = some .local)
    (hy : env.kindOf y = some .local) (hp : (env.scope.kind == .class || (env.scope.kind == .module && env.locals != env.globals)) = false)
    (hs : ∀ x, foldedSetIterable iter env x = pure x)
    (h : wpAny (model prog w) A (eval iter env) (CmpSrc prog w A h₀ L m env scope cl target ifs elt (FinA2 h₀ L m y Q) E) E s) :
    wpAny (model prog w) A (exec (.Assign [.Name y py] (.ListComp elt [⟨target, iter, ifs, 0⟩] scope pos) spos) env) Q E s := cmp_A hLe hsw hclos hcell hkind hnames hy hp h hs
end
end
theorem resetC4 : True := by w_top off; trivial
section
set_option maxRecDepth 100000
set_option maxHeartbeats 2000000
section
variable {prog : Program} {w : World} {A : Around} {E : Value → Shared → Prop} {s : Shared} {h₀ : Heap} {L : Addr} {m : Str → Option Value} {news : List (Addr × Obj)}
theorem sliceApplied_init1 {sl : Addr} {u : Tok} {Q : Int × Int × Nat → Shared → Prop} (hs : s.heap.IsSliceOf sl .none (.int (-1) u) .none) (h : Q (0, 1, 0) s) :
    wpAny (model prog w) A (Builtin.Slice.sliceApplied (.ref sl) (pure ((1 : Nat) : Int))) Q E s := by
  (first | (refine' ex_3_0 (id hs) ?_; intro os hos hcs hds) | (refine' ex_2_1 (id hs) ?_; intro os hos hcs hds) | (refine' ex_1_2 (id hs) ?_; intro os hos hcs hds) | (obtain ⟨os, hos, hcs, hds⟩ := id hs))
  unfold Builtin.Slice.sliceApplied Builtin.Slice.sliceFields
  refine wpAny_bind (wpAny_bind (wpAny_field hos hds (x := .none) rfl (wpAny_bind (wpAny_field hos hds (x := .int (-1) u) rfl (wpAny_bind (wpAny_field hos hds (x := .none) rfl (wpAny_pure ?_)))))))
  refine wpAny_bind (slicePart_none ?_)
  show wpAny _ _ (if ((1 : Int) == 0) = true then _ else _) _ _ s
  rw [if_neg (by decide)]
  refine wpAny_bind (slicePart_none (wpAny_bind (slicePart_int (wpAny_bind (wpAny_pure ?_)))))
  exact wpAny_pure h
theorem getItem_tuple_init1 {t sl : Addr} {v : Value} {u : Tok} {Q : Value → Shared → Prop} (ht : IsTup s.heap t #[v]) (hs : s.heap.IsSliceOf sl .none (.int (-1) u) .none)
    (h : Q (.ref s.heap.objs.size) { s with heap := s.heap.push { cls := .type "tuple", data := .seq #[] } }) : wpAny (model prog w) A (getItem (.ref t) (.ref sl)) Q E s := by
  have hdrop : sizeOk (.seq (#[] : Array Value)) := Nat.zero_le _
  (first | (refine' ex_3_0 (id hs) ?_; intro os hos hcs hds) | (refine' ex_2_1 (id hs) ?_; intro os hos hcs hds) | (refine' ex_1_2 (id hs) ?_; intro os hos hcs hds) | (obtain ⟨os, hos, hcs, hds⟩ := id hs))
  have hTs : s.TypeIs (.ref sl) "slice" := ⟨os, hos, hcs⟩
  unfold getItem
  try with_reducible refine wpAny_holding ?_
  first | refine wpAny_bind (wpAny_pure ?_) | skip
  refine wpAny_bind (wpAny_sequenceKey ht.typeIs (by decide) ?_)
  refine wpAny_bind (wpAny_callSpecial?_slot (name := Str.ofString "__getitem__") ht.typeIs slot_tuple_getitem
    (wpAny_call_entry slot_tuple_getitem ht.typeIs entry_tuple_getitem ?_ (args_tuple_getitem _ _)))
  show wpAny _ _ (Builtin.Tuple.tupleItemsOf (.ref t) >>= _) _ _ s
  refine wpAny_bind (tupleItemsOf_ ht ?_)
  refine wpAny_bind (wpAny_typeOf hTs ?_)
  rw [if_pos (by decide)]
  refine wpAny_bind (sliceApplied_init1 hs ?_)
  show wpAny _ _ (if ((0 : Int) == 0 && (1 : Int) == 1 && (0 : Nat) == 1) = true then _ else _) _ _ s
  rw [if_neg (by decide)]
  show wpAny _ _ (do let y ← (Builtin.Tuple.tupleExact #[]); _) _ _ s
  first
    | exact wpAny_bind (m := Builtin.Tuple.tupleExact _) (wpAny_newObj_type (wpAny_pure ⟨_, rfl, wpAny_pure h⟩) hdrop)
    | exact wpAny_bind (m := Builtin.Tuple.tupleExact _) (wpAny_newObj_type (wpAny_bind (wpAny_pure (wpAny_pure ⟨_, rfl, wpAny_pure h⟩))) hdrop)
    | exact wpAny_bind (wpAny_bind (m := Builtin.Tuple.tupleExact _) (wpAny_newObj_type (wpAny_pure (wpAny_pure ⟨_, rfl, wpAny_pure h⟩)) hdrop))
    | exact wpAny_bind (wpAny_bind (m := Builtin.Tuple.tupleExact _) (wpAny_newObj_type (wpAny_pure ⟨_, rfl, wpAny_pure h⟩) hdrop))
theorem slice_tup_init1 {value slice : Expr} {t : Addr} {v : Value} {u : Tok} {Q : Value → Shared → Prop}
    (F : Fr h₀ L s.heap m) (N : News h₀ L s.heap news) (ht : s.heap.IsTuple t [v].toArray)
    (h : ∀ D h', Fr h₀ L h' m → News h₀ L h' ((D, { cls := .type "tuple", data := .seq ([] : List Value).toArray }) :: news) → (∀ p ∈ news, p.1 < D) → Q (.ref D) { s with heap := h' })
    (hs : subscripted slice false (.ref t) (.ref s.heap.objs.size) = operate [.ref s.heap.objs.size, .ref t] (getItem (.ref t) (.ref s.heap.objs.size)))
    (hg : ∀ r, letTemporaryGo value (.ref t) r = pure ()) :
    wpAny (model prog w) A (subscriptTail value slice (.ref t) (.ref s.heap.objs.size)) Q E { s with heap := s.heap.push { cls := .type "slice", data := .fields #[.none, .int (-1) u, .none] } } := by
  have ht' : IsTup (s.heap.push { cls := .type "slice", data := .fields #[.none, .int (-1) u, .none] }) t #[v] := IsTup.keeps ht fun _ _ e => Heap.get?_push_of_some _ e
  refine subscriptTail_ops (s := { s with heap := s.heap.push { cls := .type "slice", data := .fields #[.none, .int (-1) u, .none] } }) ht'.typeIs slot_tuple_getitem.lookup
    (getItem_tuple_init1 ht' (Heap.IsSliceOf.new ..) ?_) hs hg
  have N1 := News.push (F.push { cls := .type "slice", data := .fields #[.none, .int (-1) u, .none] }) (N.grown fun _ _ e => Heap.get?_push_of_some _ e) { cls := .type "tuple", data := .seq #[] }
  rw [Heap.size_push] at N1
  show Q (.ref (s.heap.push _).objs.size) _
  rw [Heap.size_push]
  exact h _ _ ((F.push _).push _) N1 fun p hp => Nat.lt_succ_of_lt (Heap.lt_size (N p hp).1)
theorem slice_tup_tail {value slice : Expr} {t : Addr} {vs : List Value} {u : Tok} {Q : Value → Shared → Prop}
    (F : Fr h₀ L s.heap m) (N : News h₀ L s.heap news) (ht : s.heap.IsTuple t vs.toArray) (hn : 1 ≤ vs.length) (hz : vs.length ≤ sizeLine)
    (h : ∀ D h', Fr h₀ L h' m → News h₀ L h' ((D, { cls := .type "tuple", data := .seq (vs.drop 1).toArray }) :: news) → (∀ p ∈ news, p.1 < D) → Q (.ref D) { s with heap := h' })
    (hs : subscripted slice false (.ref t) (.ref s.heap.objs.size) = operate [.ref s.heap.objs.size, .ref t] (getItem (.ref t) (.ref s.heap.objs.size)))
    (hg : ∀ r, letTemporaryGo value (.ref t) r = pure ()) :
    wpAny (model prog w) A (subscriptTail value slice (.ref t) (.ref s.heap.objs.size)) Q E { s with heap := s.heap.push { cls := .type "slice", data := .fields #[.int 1 u, .none, .none] } } := by
  refine slice_tuple_from (a := 1) F N ht (Nat.le_refl _) (by simpa using hn) (fun h' F' N' => ?_) hs hg (by simpa using hz)
  exact h _ h' F' N' fun p hp => Nat.lt_succ_of_lt (Heap.lt_size (N p hp).1)
section
variable {hp : Heap} {gs : Array GenState} {dr : Drawn} {tk : Nat} {os : OsState}
theorem slice_init {value slice : Expr} {t : Addr} {v : Value} {u : Tok} {Q : Value → Shared → Prop}
    (F : Fr h₀ L hp m) (N : News h₀ L hp news) (ht : hp.IsTuple t [v].toArray)
    (hs : subscripted slice false (.ref t) (.ref hp.objs.size) = operate [.ref hp.objs.size, .ref t] (getItem (.ref t) (.ref hp.objs.size)))
    (hg : ∀ r, letTemporaryGo value (.ref t) r = pure ())
    (h : ∀ D h', Fr h₀ L h' m → News h₀ L h' ((D, { cls := .type "tuple", data := .seq ([] : List Value).toArray }) :: news) → (∀ p ∈ news, p.1 < D) → Q (.ref D) ⟨h', gs, dr, tk, os⟩) :
    wpAny (model prog w) A (subscriptTail value slice (.ref t) (.ref hp.objs.size)) Q E ⟨hp.push { cls := .type "slice", data := .fields #[.none, .int (-1) u, .none] }, gs, dr, tk, os⟩ :=
  slice_tup_init1 (s := ⟨hp, gs, dr, tk, os⟩) F N ht h hs hg
theorem slice_tail {value slice : Expr} {t : Addr} {vs : List Value} {u : Tok} {Q : Value → Shared → Prop}
    (F : Fr h₀ L hp m) (N : News h₀ L hp news) (ht : hp.IsTuple t vs.toArray) (hn : 1 ≤ vs.length) (hz : vs.length ≤ sizeLine)
    (hs : subscripted slice false (.ref t) (.ref hp.objs.size) = operate [.ref hp.objs.size, .ref t] (getItem (.ref t) (.ref hp.objs.size)))
    (hg : ∀ r, letTemporaryGo value (.ref t) r = pure ())
    (h : ∀ D h', Fr h₀ L h' m → News h₀ L h' ((D, { cls := .type "tuple", data := .seq (vs.drop 1).toArray }) :: news) → (∀ p ∈ news, p.1 < D) → Q (.ref D) ⟨h', gs, dr, tk, os⟩) :
    wpAny (model prog w) A (subscriptTail value slice (.ref t) (.ref hp.objs.size)) Q E ⟨hp.push { cls := .type "slice", data := .fields #[.int 1 u, .none, .none] }, gs, dr, tk, os⟩ :=
  slice_tup_tail (s := ⟨hp, gs, dr, tk, os⟩) F N ht hn hz h hs hg
end
end
end
theorem resetB0 : True := by w_top off; trivial
section
set_option maxRecDepth 100000
set_option maxHeartbeats 2000000
/-- a contract: called on arguments of Pre (over imm, a part of the ledger), f hands back a value of Post; what it made lies apart; all else stands -/
noncomputable def Sp (w : World) (f : Addr) (D U : Nat) (Pre : List (Addr × Obj) → List Value → Prop) (Post : List (Addr × Obj) → Value → Prop) : Prop :=
  ∀ (dp un : Nat) (gd : Option (List Code)) (cn : Str) (cs : Scope) (a : Addr) (ccd : Value) (cl : List (Str × Addr)) (outer : List Env) (A₀ : Around) (base h₀ : Heap) (L : Addr) (m : Str → Option Value) (news imm : List (Addr × Obj)) (s : Shared) (vs : List Value) (p : Program) (loose : List Str) (mean : ExcName → Option Value) (mg mb : Str → Option Value)
    (Q E : Value → Shared → Prop),
    Below A₀ base outer h₀ → Fr h₀ L s.heap m → (foo0.heap_1_39 w.params).In h₀ → News h₀ L s.heap news → Top p loose mean mg mb h₀ → cs.kind = .function → (∀ q ∈ imm, q ∈ news) → Pre imm vs → dp + D < recursionLimit → un + U < cLine →
    (∀ r tl h' tk', Fr h₀ L h' m → News h₀ L h' (tl ++ news) → (∀ q ∈ news, ∀ p ∈ tl, p.1 ≠ q.1) → Post (tl ++ imm) r → Q r { s with heap := h', toks := tk' }) →
    wpAny (model PySem.Challenge.rw_nn0221_01.row.prog w) (ktrTop dp un gd cn cs L a ccd cl outer) (call (.ref f) vs) Q E s
theorem Sp.use {w : World} {f : Addr} {D U : Nat} {Pre : List (Addr × Obj) → List Value → Prop} {Post : List (Addr × Obj) → Value → Prop} {dp un : Nat} {gd : Option (List Code)} {cn : Str} {cs : Scope} {a : Addr} {ccd : Value} {cl : List (Str × Addr)} {outer : List Env} {A₀ : Around} {base h₀ : Heap} {L : Addr} {m : Str → Option Value} {news : List (Addr × Obj)} {s : Shared} {vs : List Value} {p : Program} {loose : List Str} {mean : ExcName → Option Value} {mg mb : Str → Option Value}
    {Q E : Value → Shared → Prop} (S : Sp w f D U Pre Post) (B : Below A₀ base outer h₀) (F : Fr h₀ L s.heap m) (X : (foo0.heap_1_39 w.params).In h₀) (N : News h₀ L s.heap news) (T : Top p loose mean mg mb h₀) (hk : cs.kind = .function) (imm : List (Addr × Obj)) (hsub : ∀ q ∈ imm, q ∈ news) (hpre : Pre imm vs) (hd : dp + D < recursionLimit) (hu : un + U < cLine)
    (ret : ∀ r tl h' tk', Fr h₀ L h' m → News h₀ L h' (tl ++ news) → (∀ q ∈ news, ∀ p ∈ tl, p.1 ≠ q.1) → Post (tl ++ imm) r → Q r { s with heap := h', toks := tk' }) :
    wpAny (model PySem.Challenge.rw_nn0221_01.row.prog w) (ktrTop dp un gd cn cs L a ccd cl outer) (call (.ref f) vs) Q E s :=
  S _ _ _ _ _ _ _ _ _ _ _ _ _ _ _ imm _ _ _ _ _ _ _ _ _ B F X N T hk hsub hpre hd hu ret
section
variable {prog : Program} {w : World} {A₀ A : Around} {E : Value → Shared → Prop} {s : Shared} {base h₀ g h' : Heap} {outer : List Env} {L L' : Addr} {m m' : Str → Option Value} {env : Env} {news imm fl : List (Addr × Obj)}
theorem news_sub (N : News h₀ L s.heap news) (hsub : ∀ q ∈ imm, q ∈ news) : News h₀ L s.heap imm := fun p hp => N p (hsub p hp)
open Classical in
/-- what the callee's ground kept is kept for the caller; what is new lies apart -/
theorem back_to (kG : GSub s.heap g (imm.map (·.1))) (N : News h₀ L s.heap news) (hsub : ∀ q ∈ imm, q ∈ news) (F' : Fr g L' h' m') (kN : News h₀ L h' fl) (N' : News g L' h' fl) (hi : ∀ q ∈ imm, q ∈ fl) :
    ∃ tl, News h₀ L h' (tl ++ news) ∧ (∀ q ∈ news, ∀ p ∈ tl, p.1 ≠ q.1) ∧ ∀ q ∈ fl, q ∈ tl ++ imm := by
  refine ⟨fl.filter fun p => (s.heap.get? p.1).isNone, ?_, ?_, ?_⟩
  · intro p hp
    rcases List.mem_append.mp hp with hp | hp
    · exact kN p ((List.mem_filter.mp hp).1)
    · refine ⟨?_, (N p hp).2⟩
      by_cases hb : p.1 ∈ imm.map (·.1)
      · (first | (refine' ex_2_0 (List.mem_map.mp hb) ?_; intro q hq e) | (refine' ex_1_1 (List.mem_map.mp hb) ?_; intro q hq e) | (obtain ⟨q, hq, e⟩ := List.mem_map.mp hb))
        have h1 := (N q (hsub q hq)).1
        have h2 := (N p hp).1
        have h3 := (kN q (hi q hq)).1
        rw [e, h2] at h1
        rw [e] at h3
        exact h3.trans h1.symm
      · exact F'.keep _ _ (kG _ _ (N p hp).1 hb)
  · intro q hq p hp e
    have h1 := (List.mem_filter.mp hp).2
    rw [e, (N q hq).1] at h1
    cases h1
  · intro q hq
    cases e : s.heap.get? q.1 with
    | none => exact List.mem_append_left _ (List.mem_filter.mpr ⟨hq, by rw [e]; rfl⟩)
    | some o =>
      refine List.mem_append_right _ ?_
      by_cases hb : q.1 ∈ imm.map (·.1)
      · (first | (refine' ex_2_0 (List.mem_map.mp hb) ?_; intro p hp ep) | (refine' ex_1_1 (List.mem_map.mp hb) ?_; intro p hp ep) | (obtain ⟨p, hp, ep⟩ := List.mem_map.mp hb))
        have h1 := (kN p (hi p hp)).1
        have h2 := (kN q hq).1
        rw [ep, h2] at h1
        have : p = q := Prod.ext ep (Option.some.inj h1).symm
        exact this ▸ hp
      · have h1 := kG _ _ e hb
        have h2 := (N' q hq).2.2
        rw [h1] at h2; cases h2
theorem Sp.fin {Post : List (Addr × Obj) → Value → Prop} {r : Value} {Q : Value → Shared → Prop} {tk' : Nat} (kG : GSub s.heap g (imm.map (·.1))) (N : News h₀ L s.heap news) (hsub : ∀ q ∈ imm, q ∈ news) (F' : Fr g L' h' m') (N' : News g L' h' fl) (kF : Fr h₀ L h' m) (kN : News h₀ L h' fl) (hi : ∀ q ∈ imm, q ∈ fl)
    (post : ∀ l, (∀ q ∈ fl, q ∈ l) → Post l r)
    (ret : ∀ r tl h' tk', Fr h₀ L h' m → News h₀ L h' (tl ++ news) → (∀ q ∈ news, ∀ p ∈ tl, p.1 ≠ q.1) → Post (tl ++ imm) r → Q r { s with heap := h', toks := tk' }) :
    Q r { s with heap := h', toks := tk' } := by
  (first | (refine' ex_3_0 (back_to kG N hsub F' kN N' hi) ?_; intro tl h1 h2 h3) | (refine' ex_2_1 (back_to kG N hsub F' kN N' hi) ?_; intro tl h1 h2 h3) | (refine' ex_1_2 (back_to kG N hsub F' kN N' hi) ?_; intro tl h1 h2 h3) | (obtain ⟨tl, h1, h2, h3⟩ := back_to kG N hsub F' kN N' hi))
  exact ret r tl h' tk' kF h1 h2 (post _ h3)
end
section
variable {prog : Program} {w : World} {A₀ A : Around} {s : Shared} {base h₀ : Heap} {outer : List Env} {L : Addr} {m : Str → Option Value} {env : Env} {news : List (Addr × Obj)} {K : Frag} {p : Program} {loose : List Str} {mean : ExcName → Option Value} {mg mb : Str → Option Value}
  {R : Result → Shared → Prop} {name qual : Str} {params : Arguments} {body : List Stmt} {scope : Scope} {dV kV doc pm cdv ct oc : Value} {an od : Option Addr} {osl : Array (Option Value)} {f : Addr} {args : Args} {binds : List (Str × Value)}
/-- a def with cells is entered; the ground keeps all but the ledger -/
theorem code_defCG (B : Below A₀ base outer h₀) (F : Fr h₀ L s.heap m) (X₀ : K.In h₀) (N : News h₀ L s.heap news) (T : Top p loose mean mg mb h₀) (hA : A.frames = some (env :: outer)) (hf : env.frame = some L) (hke : env.scope.kind = .function)
    (ho : K.lookup f = some ⟨oc, od, .func (fnOf name qual params body scope dV kV doc pm an cdv ct), osl⟩) (hcd : codeIn K cdv qual = true) (hroom : A.depth < recursionLimit)
    (hbind : BindsTo s (fnOf name qual params body scope dV kV doc pm an cdv ct) args binds) (hkind : (binds.all fun y => scope.names.lookup y.1 == some .local || scope.names.lookup y.1 == some .cell) = true)
    (hnd : ((cellsFrom 0 scope.names []).map (·.1)).Nodup)
    (h : ∀ g L' h₁ tk cells, Fr h₀ L g m → Fr g L' h₁ (bindL (envOfC qual scope L' f cdv).kindOf binds fun _ => none) → News g L' h₁ (cells ++ news) →
      CellsAre (bindC (envOfC qual scope L' f cdv).kindOf binds fun _ => none) (cellsFrom (L' + 1) scope.names []) cells → Below A base (env :: outer) g → K.In g → Top p loose mean mg mb g → (∀ p ∈ news, p.1 < L') → GSub s.heap g (news.map (·.1)) →
      wpAny (model prog w) (A.deeper (envOfC qual scope L' f cdv)) (execs body (envOfC qual scope L' f cdv))
        (fun fl s' => LeaveK h₀ L m g R (match fl with | .ret v => v | _ => .none) s')
        (fun e s' => wpAny (model prog w) (A.deeper (envOfC qual scope L' f cdv)) (leaving (envOfC qual scope L' f cdv) e) (fun _ s'' => R (.error e) s'') (fun e' s'' => R (.error e') s'') s')
        { s with heap := h₁, toks := tk })
    (hco : scope.isCoroutine = false) (hgen : scope.isGenerator = false) (hk : scope.kind = .function) : codeAny (model prog w) A (.call (.ref f) args) R s := by
  (first | (refine' ex_3_0 (groundX (R := R) B F N hA hf hke) ?_; intro FG BG st lv) | (refine' ex_2_1 (groundX (R := R) B F N hA hf hke) ?_; intro FG BG st lv) | (refine' ex_1_2 (groundX (R := R) B F N hA hf hke) ?_; intro FG BG st lv) | (obtain ⟨FG, BG, st, lv⟩ := groundX (R := R) B F N hA hf hke))
  refine codeAny_call_function hroom ((X₀.keeps F.keep) _ _ ho) rfl hco hgen rfl (codeRec_of (X₀.keeps F.keep) hcd) (hbind _ _ _ _ ?_)
  refine wpAny_newFunctionEnv_cells hk (kindsX hkind _) fun env' he s' x => ?_
  subst he
  refine ⟨(T.nolimit.keeps F.keep).keeps x.toInCall.keep, codeAny_func ?_⟩
  (first | (refine' ex_3_0 (x.done) ?_; intro h₁ tk ob9; subst ob9; intro _) | (refine' ex_2_1 (x.done) ?_; intro h₁ tk ob9; subst ob9; intro _) | (refine' ex_1_2 (x.done) ?_; intro h₁ tk ob9; subst ob9; intro _) | (obtain ⟨h₁, tk, rfl, _⟩ := x.done))
  have hk₁ := x.toInCall.keep
  (first | (refine' ex_2_0 (Cl.news (h₀ := s.heap) (Nat.le_refl _) fun n c hm => ⟨x.cell n c (lookup_of_mem_nodup (cellsFrom_names scope.names 0 (s.heap.objs.size + 1) [] [] rfl ▸ hnd) hm), x.above n c hm⟩) ?_; intro cells NC Y) | (refine' ex_1_1 (Cl.news (h₀ := s.heap) (Nat.le_refl _) fun n c hm => ⟨x.cell n c (lookup_of_mem_nodup (cellsFrom_names scope.names 0 (s.heap.objs.size + 1) [] [] rfl ▸ hnd) hm), x.above n c hm⟩) ?_; intro cells NC Y) | (obtain ⟨cells, NC, Y⟩ := Cl.news (h₀ := s.heap) (Nat.le_refl _) fun n c hm => ⟨x.cell n c (lookup_of_mem_nodup (cellsFrom_names scope.names 0 (s.heap.objs.size + 1) [] [] rfl ▸ hnd) hm), x.above n c hm⟩))
  refine wpAny_mono (h _ s.heap.objs.size h₁ tk cells FG ⟨x.toInCall.ns, fun b o e => hk₁ b o (of_hideAll _ e), Nat.le_of_eq (hideAll_size _ _)⟩ (fun p hp => ?_) Y BG (X₀.keeps st) (T.keeps st) (fun p hp => Heap.lt_size (N p hp).1) (fun b o e n => hideAll_get _ e n)) (fun fl s' hl => lv _ _ hl) fun _ _ y => y
  rcases List.mem_append.mp hp with hp | hp
  · refine ⟨(NC p hp).1, (NC p hp).2.1, ?_⟩
    cases q : (hideAll s.heap (news.map (·.1))).get? p.1 with
    | none => rfl
    | some o => have := of_hideAll _ q; rw [(NC p hp).2.2] at this; cases this
  · exact ⟨hk₁ _ _ (N p hp).1, Nat.ne_of_lt (Heap.lt_size (N p hp).1), hideAll_none _ (List.mem_map_of_mem hp)⟩
end
theorem lt_ne {news tl : List (Addr × Obj)} (h : ∀ q ∈ news, ∀ p ∈ tl, q.1 < p.1) : ∀ q ∈ news, ∀ p ∈ tl, p.1 ≠ q.1 := fun q hq p hp => Nat.ne_of_gt (h q hq p hp)
theorem ne2 {news : List (Addr × Obj)} {a d : Addr} {oa od : Obj} (l1 : ∀ p ∈ news, p.1 < d) (l2 : d < a) : ∀ q ∈ news, ∀ p ∈ [(a, oa), (d, od)], p.1 ≠ q.1 := by
  intro q hq p hp
  have h := l1 q hq
  rcases List.mem_cons.mp hp with rfl | hp
  · exact Nat.ne_of_gt (Nat.lt_trans h l2)
  · rw [List.mem_singleton.mp hp]; exact Nat.ne_of_gt h
noncomputable abbrev decO (P : Params) (n p : Int) (t1 t2 t3 t4 : Tok) : Obj := dictOf [⟨PyData.keyHash P (Str.ofString "top"), .str (Str.ofString "top") t1, .int n t2⟩, ⟨PyData.keyHash P (Str.ofString "places"), .str (Str.ofString "places") t3, .int p t4⟩] 2
noncomputable abbrev tupO (vs : List Value) (k : Nat) : Obj := { cls := .type "tuple", data := .seq vs.toArray k }
noncomputable abbrev lstO (vs : List Value) (k : Nat) : Obj := { cls := .type "list", data := .seq vs.toArray k }
section
variable {prog : Program} {w : World} {A : Around} {E : Value → Shared → Prop} {s : Shared} {h₀ : Heap} {L : Addr} {news : List (Addr × Obj)}
theorem item_lst {value slice : Expr} {a : Addr} {vs : List Value} {k0 : Nat} {k : Int} {u : Tok} {x : Value} {Q : Value → Shared → Prop} (N : News h₀ L s.heap news) (hm : (a, lstO vs k0) ∈ news)
    (h0 : 0 ≤ k) (hfit : k < 2 ^ 63) (hx : vs[k.toNat]? = some x) (h : Q x s)
    (hs : subscripted slice false (.ref a) (.int k u) = operate [.ref a, .int k u] (getItem (.ref a) (.int k u))) (hg : ∀ r, letTemporaryGo value (.ref a) r = pure ()) :
    wpAny (model prog w) A (subscriptTail value slice (.ref a) (.int k u)) Q E s := item_listL (N.isList hm) h0 hfit hx h hs hg
theorem tup_of {a : Addr} {vs : List Value} {k : Nat} {h : Heap} (N : News h₀ L h news) (hm : (a, tupO vs k) ∈ news) : h.IsTuple a vs.toArray := ⟨_, (N _ hm).1, rfl, _, rfl⟩
theorem lst_of {a : Addr} {vs : List Value} {k : Nat} {h : Heap} (N : News h₀ L h news) (hm : (a, lstO vs k) ∈ news) : h.IsList a vs.toArray := ⟨_, (N _ hm).1, rfl, _, rfl⟩
theorem tup_K {K : Frag} {a : Addr} {vs : List Value} {k : Nat} {h : Heap} {m : Str → Option Value} {dd : Option Addr} {sl : Array (Option Value)} (F : Fr h₀ L h m) (X : K.In h₀) (hl : K.lookup a = some ⟨.type "tuple", dd, .seq vs.toArray k, sl⟩) : h.IsTuple a vs.toArray := ⟨_, (X.keeps F.keep) _ _ hl, rfl, _, rfl⟩
theorem add_tt {t b : Addr} {xs ys : List Value} {m : Str → Option Value} {Q : Value → Shared → Prop} (F : Fr h₀ L s.heap m) (N : News h₀ L s.heap news) (ht : s.heap.IsTuple t xs.toArray) (hb : s.heap.IsTuple b ys.toArray) (hv : xs ≠ []) (hw : ys ≠ []) (hz : xs.length + ys.length ≤ 16384)
    (h : ∀ D h', Fr h₀ L h' m → News h₀ L h' ((D, tupO (xs ++ ys) 0) :: news) → (∀ p ∈ news, p.1 < D) → Q (.ref D) { s with heap := h' }) : wpAny (model prog w) A (binaryOp .Add (.ref t) (.ref b)) Q E s :=
  add_tuples F N ht hb (fun q => absurd q hv) (fun _ q => absurd q hw) (fun _ _ h' F' N' => h _ h' F' N' fun p hp => Heap.lt_size (N p hp).1) (by rw [sizeLine_eq]; omega)
theorem add_t0 {t b : Addr} {xs ys : List Value} {m : Str → Option Value} {Q : Value → Shared → Prop} (F : Fr h₀ L s.heap m) (N : News h₀ L s.heap news) (ht : s.heap.IsTuple t xs.toArray) (hb : s.heap.IsTuple b ys.toArray) (hv : xs = []) (hz : xs.length + ys.length ≤ 16384)
    (h : Q (.ref b) s) : wpAny (model prog w) A (binaryOp .Add (.ref t) (.ref b)) Q E s :=
  add_tuples F N ht hb (fun _ => h) (fun q => absurd hv q) (fun q => absurd hv q) (by rw [sizeLine_eq]; omega)
theorem eq_tup_nil {a b : Addr} {xs : Array Value} {Q : Value → Shared → Prop} (ha : s.heap.IsTuple a xs) (hb : s.heap.IsTuple b #[]) (hu : A.units < cLine) (h : Q (.bool (xs.size == 0)) s) : wpAny (model prog w) A (compareOp .Eq (.ref a) (.ref b)) Q E s := by
  refine SeqAt.eq_tupleAt (e := fun _ => true) ha hb hu (fun j _ h2 => absurd h2 (Nat.not_lt_zero _)) ?_
  have e : ((List.range (min xs.size (#[] : Array Value).size)).all (fun _ => true) && xs.size == (#[] : Array Value).size) = (xs.size == 0) := by simp
  rw [e]; exact h
theorem ne_tup_nil {a b : Addr} {xs : Array Value} {Q : Value → Shared → Prop} (ha : s.heap.IsTuple a xs) (hb : s.heap.IsTuple b #[]) (hu : A.units < cLine) (h : Q (.bool (!(xs.size == 0))) s) : wpAny (model prog w) A (compareOp .NotEq (.ref a) (.ref b)) Q E s := by
  refine cmp_ofNotEq (SeqAt.RcNeAt.tuples (e := fun _ => true) ha hb hu (fun j _ h2 => absurd h2 (Nat.not_lt_zero _)) prog w E Q ?_)
  have e : (!((List.range (min xs.size (#[] : Array Value).size)).all (fun _ => true) && xs.size == (#[] : Array Value).size)) = (!(xs.size == 0)) := by simp
  first | (rw [e]; exact h) | (simp; simpa using h)
end
noncomputable def DecIn (P : Params) (l : List (Addr × Obj)) (v : Value) (n p : Int) : Prop :=
  ∃ a d t1 t2 t3 t4, v = .ref a ∧ (a, instObj 155 d) ∈ l ∧ (d, decO P n p t1 t2 t3 t4) ∈ l
theorem DecIn.mono {P : Params} {l l' : List (Addr × Obj)} {v : Value} {n p : Int} (h : DecIn P l v n p) (s : ∀ q ∈ l, q ∈ l') : DecIn P l' v n p := by
  (first | (refine' ex_6_2 h ?_; (try clear h); intro a d t1 t2 t3 t4 e h1 h2) | (refine' ex_4_4 h ?_; (try clear h); intro a d t1 t2 t3 t4 e h1 h2) | (obtain ⟨a, d, t1, t2, t3, t4, e, h1, h2⟩ := h))
  exact ⟨a, d, t1, t2, t3, t4, e, s _ h1, s _ h2⟩
end
theorem resetD0 : True := by w_top off; trivial
section
set_option maxRecDepth 100000
set_option maxHeartbeats 2000000
/-- what a value is, written out -/
inductive V where
  | none
  | bool (b : Bool)
  | int (i : Int)
  | str (x : Str)
  | bytes (b : Array UInt8)
  | tup (ds : List V)
  | lst (ds : List V)
  | dec (n p : Int)
  | path (d : V)
  | path0
  | mat (a b c d e f : Int)
noncomputable abbrev pathO (P : Params) (v : Value) (t : Tok) : Obj := dictOf [⟨PyData.keyHash P (Str.ofString "parts"), .str (Str.ofString "parts") t, v⟩] 1
noncomputable abbrev matO (P : Params) (va vb vc vd ve vf : Value) (ta tb tc td te tf : Tok) : Obj := dictOf [⟨PyData.keyHash P (Str.ofString "a"), .str (Str.ofString "a") ta, va⟩, ⟨PyData.keyHash P (Str.ofString "b"), .str (Str.ofString "b") tb, vb⟩, ⟨PyData.keyHash P (Str.ofString "c"), .str (Str.ofString "c") tc, vc⟩, ⟨PyData.keyHash P (Str.ofString "d"), .str (Str.ofString "d") td, vd⟩, ⟨PyData.keyHash P (Str.ofString "e"), .str (Str.ofString "e") te, ve⟩, ⟨PyData.keyHash P (Str.ofString "f"), .str (Str.ofString "f") tf, vf⟩] 6
mutual
inductive VIn (P : Params) (l : List (Addr × Obj)) : Value → V → Prop
  | none : VIn P l Value.none .none
  | bool (b : Bool) : VIn P l (Value.bool b) (.bool b)
  | int (i : Int) (t : Tok) : VIn P l (Value.int i t) (.int i)
  | str (x : Str) (t : Tok) : VIn P l (Value.str x t) (.str x)
  | bytes (b : Array UInt8) (t : Tok) : VIn P l (Value.bytes b t) (.bytes b)
  | tup {a : Addr} {vs : List Value} {k : Nat} {ds : List V} : (a, tupO vs k) ∈ l → VAll P l vs ds → VIn P l (.ref a) (.tup ds)
  | lst {a : Addr} {vs : List Value} {k : Nat} {ds : List V} : (a, lstO vs k) ∈ l → VAll P l vs ds → VIn P l (.ref a) (.lst ds)
  | dec {a d : Addr} {n p : Int} {t1 t2 t3 t4 : Tok} : (a, instObj 155 d) ∈ l → (d, decO P n p t1 t2 t3 t4) ∈ l → VIn P l (.ref a) (.dec n p)
  | path {a d : Addr} {v : Value} {t : Tok} {p : V} : (a, instObj 214 d) ∈ l → (d, pathO P v t) ∈ l → VIn P l v p → VIn P l (.ref a) (.path p)
  | nilp {a d : Addr} {t : Tok} : (a, instObj 214 d) ∈ l → (d, pathO P (.ref 203) t) ∈ l → VIn P l (.ref a) .path0
  | mat {x dx : Addr} {va vb vc vd ve vf : Value} {ta tb tc td te tf : Tok} {a b c d e f : Int} : (x, instObj 450 dx) ∈ l → (dx, matO P va vb vc vd ve vf ta tb tc td te tf) ∈ l →
      VIn P l va (.dec a 0) → VIn P l vb (.dec b 0) → VIn P l vc (.dec c 0) → VIn P l vd (.dec d 0) → VIn P l ve (.dec e 0) → VIn P l vf (.dec f 0) → VIn P l (.ref x) (.mat a b c d e f)
inductive VAll (P : Params) (l : List (Addr × Obj)) : List Value → List V → Prop
  | nil : VAll P l [] []
  | cons {v : Value} {vs : List Value} {d : V} {ds : List V} : VIn P l v d → VAll P l vs ds → VAll P l (v :: vs) (d :: ds)
end
theorem VIn.mono {P : Params} {l l' : List (Addr × Obj)} {v : Value} {d : V} (h : VIn P l v d) (s : ∀ q ∈ l, q ∈ l') : VIn P l' v d :=
  VIn.rec (motive_1 := fun v d _ => VIn P l' v d) (motive_2 := fun vs ds _ => VAll P l' vs ds)
    .none .bool .int .str .bytes (fun h _ r => .tup (s _ h) r) (fun h _ r => .lst (s _ h) r) (fun h r => .dec (s _ h) (s _ r)) (fun h r _ p => .path (s _ h) (s _ r) p) (fun h r => .nilp (s _ h) (s _ r))
    (fun h r _ _ _ _ _ _ a b c d e f => .mat (s _ h) (s _ r) a b c d e f) .nil (fun _ _ a b => .cons a b) h
theorem VAll.mono {P : Params} {l l' : List (Addr × Obj)} {vs : List Value} {ds : List V} (h : VAll P l vs ds) (s : ∀ q ∈ l, q ∈ l') : VAll P l' vs ds :=
  VAll.rec (motive_1 := fun v d _ => VIn P l' v d) (motive_2 := fun vs ds _ => VAll P l' vs ds)
    .none .bool .int .str .bytes (fun h _ r => .tup (s _ h) r) (fun h _ r => .lst (s _ h) r) (fun h r => .dec (s _ h) (s _ r)) (fun h r _ p => .path (s _ h) (s _ r) p) (fun h r => .nilp (s _ h) (s _ r))
    (fun h r _ _ _ _ _ _ a b c d e f => .mat (s _ h) (s _ r) a b c d e f) .nil (fun _ _ a b => .cons a b) h
theorem sl_refl {X : List (Addr × Obj)} : ∀ q ∈ X, q ∈ X := fun _ h => h
theorem sl_nil {X : List (Addr × Obj)} : ∀ q ∈ ([] : List (Addr × Obj)), q ∈ X := fun _ h => nomatch h
theorem sl_cons {X Y : List (Addr × Obj)} {e : Addr × Obj} (h : ∀ q ∈ Y, q ∈ X) : ∀ q ∈ e :: Y, q ∈ e :: X := by
  intro q hq
  rcases List.mem_cons.mp hq with rfl | hq
  · exact .head _
  · exact .tail _ (h q hq)
theorem sl_app {X Y tl : List (Addr × Obj)} (h : ∀ q ∈ Y, q ∈ X) : ∀ q ∈ tl ++ Y, q ∈ tl ++ X := by
  intro q hq
  rcases List.mem_append.mp hq with hq | hq
  · exact List.mem_append_left _ hq
  · exact List.mem_append_right _ (h q hq)
theorem sl_skip1 {X Y : List (Addr × Obj)} {e : Addr × Obj} (h : ∀ q ∈ Y, q ∈ X) : ∀ q ∈ Y, q ∈ e :: X := fun q hq => .tail _ (h q hq)
theorem sl_skip {X Y tl : List (Addr × Obj)} (h : ∀ q ∈ Y, q ∈ X) : ∀ q ∈ Y, q ∈ tl ++ X := fun q hq => List.mem_append_right _ (h q hq)
theorem sl_all {X tl : List (Addr × Obj)} : ∀ q ∈ tl, q ∈ tl ++ X := fun q hq => List.mem_append_left _ hq
theorem strip_ext {X Y ext : List (Addr × Obj)} {av : List Addr} (_h : HasAv ext av) (h : ∀ q ∈ Y, q ∈ X) : ∀ q ∈ Y, q ∈ ext ++ X := sl_skip h
theorem strip_lst {X Y : List (Addr × Obj)} {a : Addr} {arr : Array Value} {k : Nat} (h : ∀ q ∈ Y, q ∈ X) : ∀ q ∈ Y, q ∈ (a, PySem.W.listOf arr k) :: X := sl_skip1 h
theorem strip_cell {X Y : List (Addr × Obj)} {a : Addr} {o : Obj} {v : Option Value} (_hd : o.data = .cell v) (h : ∀ q ∈ Y, q ∈ X) : ∀ q ∈ Y, q ∈ (a, o) :: X := sl_skip1 h
noncomputable def CellOff (X : List (Addr × Obj)) (L : Addr) : Prop := ∀ p ∈ X, p.1 < L
theorem cellOff_of {X : List (Addr × Obj)} {L : Addr} (h : ∀ p ∈ X, p.1 < L) : CellOff X L := h
theorem an_cell {X Y : List (Addr × Obj)} {L d : Addr} (h : CellOff Y L) (s : ∀ q ∈ X, q ∈ Y) (l : L ≤ d) : ∀ p ∈ X, p.1 ≠ d := fun p hp => Nat.ne_of_lt (Nat.lt_of_lt_of_le (h p (s p hp)) l)
theorem ne_cell {Y : List (Addr × Obj)} {L a d : Addr} {o : Obj} (h : CellOff Y L) (m : (a, o) ∈ Y) (l : L ≤ d) : a ≠ d := Nat.ne_of_lt (Nat.lt_of_lt_of_le (h _ m) l)
theorem updF_app {d : Addr} {o : Obj} {tl r : List (Addr × Obj)} {g : Obj → List (Addr × Obj)} (a : ∀ p ∈ tl, p.1 ≠ d) (b : UpdF d o r g) : UpdF d o (tl ++ r) (fun o' => tl ++ g o') := by
  induction tl with
  | nil => exact b
  | cons p tl ih => exact .tail (a p (.head _)) (ih fun q hq => a q (.tail _ hq))
theorem mem_of_sub {X Y : List (Addr × Obj)} {q : Addr × Obj} (h : q ∈ Y) (s : ∀ q ∈ Y, q ∈ X) : q ∈ X := s q h
theorem an_app {X Y : List (Addr × Obj)} {d : Addr} (a : ∀ p ∈ X, p.1 ≠ d) (b : ∀ p ∈ Y, p.1 ≠ d) : ∀ p ∈ X ++ Y, p.1 ≠ d := fun p hp => (List.mem_append.mp hp).elim (a p) (b p)
theorem an_lt {X Y : List (Addr × Obj)} {d : Addr} (h : ∀ p ∈ Y, p.1 < d) (s : ∀ q ∈ X, q ∈ Y) : ∀ p ∈ X, p.1 ≠ d := fun p hp => Nat.ne_of_lt (h p (s p hp))
theorem an_ne9 {X Y : List (Addr × Obj)} {d : Addr} {o : Obj} (h : ∀ q ∈ Y, ∀ p ∈ X, p.1 ≠ q.1) (m : (d, o) ∈ Y) : ∀ p ∈ X, p.1 ≠ d := h (d, o) m
theorem an_ext {X lg : List (Addr × Obj)} {av fx : List Addr} {d : Addr} {o : Obj} (h : ExtIn X av fx) (f : Off av lg) (m : (d, o) ∈ lg) (x : ∀ b ∈ fx, b ≠ d) : ∀ p ∈ X, p.1 ≠ d := by
  intro p hp e
  rcases h p hp with q | q
  · exact f _ m (e ▸ q)
  · exact x _ q e
theorem ne_lt {Y : List (Addr × Obj)} {a d : Addr} {o : Obj} (h : ∀ p ∈ Y, p.1 < d) (m : (a, o) ∈ Y) : a ≠ d := Nat.ne_of_lt (h _ m)
theorem ne_gt {Y : List (Addr × Obj)} {a d : Addr} {o : Obj} (h : ∀ p ∈ Y, p.1 < a) (m : (d, o) ∈ Y) : a ≠ d := Nat.ne_of_gt (h _ m)
theorem ne_lt2 {Y : List (Addr × Obj)} {a d d' : Addr} {o : Obj} (h : ∀ p ∈ Y, p.1 < d') (l : d' < d) (m : (a, o) ∈ Y) : a ≠ d := Nat.ne_of_lt (Nat.lt_trans (h _ m) l)
theorem ne_gt2 {Y : List (Addr × Obj)} {a d d' : Addr} {o : Obj} (h : ∀ p ∈ Y, p.1 < d') (l : d' < a) (m : (d, o) ∈ Y) : a ≠ d := Nat.ne_of_gt (Nat.lt_trans (h _ m) l)
theorem ne_obj {h₀ h : Heap} {L : Addr} {news : List (Addr × Obj)} {a d : Addr} {o o' : Obj} (N : News h₀ L h news) (ma : (a, o) ∈ news) (md : (d, o') ∈ news) (c : o.cls ≠ o'.cls) : a ≠ d := by
  intro e
  subst e
  have h1 := (N _ ma).1
  have h2 := (N _ md).1
  rw [h1] at h2
  exact c (congrArg Obj.cls (Option.some.inj h2))
theorem ne_off {X lg : List (Addr × Obj)} {a d : Addr} {o : Obj} (h : ∀ q ∈ lg, ∀ p ∈ X, p.1 ≠ q.1) (m : (d, o) ∈ lg) {o' : Obj} (ma : (a, o') ∈ X) : a ≠ d := h _ m _ ma
theorem upd_app {d : Addr} {o o' : Obj} {tl r r' : List (Addr × Obj)} (a : ∀ p ∈ tl, p.1 ≠ d) (b : Upd d o o' r r') : Upd d o o' (tl ++ r) (tl ++ r') := by
  induction tl with
  | nil => exact b
  | cons p tl ih => exact .tail (a p (.head _)) (ih fun q hq => a q (.tail _ hq))
theorem off_mem {av : List Addr} {D : Addr} {o : Obj} {lg : List (Addr × Obj)} (h : Off av lg) (m : (D, o) ∈ lg) : D ∉ av := h _ m
theorem ne_all {Y : List (Addr × Obj)} {a d : Addr} {o : Obj} (h : ∀ p ∈ Y, p.1 ≠ a) (m : (d, o) ∈ Y) : a ≠ d := fun e => h _ m e.symm
theorem ne_all' {Y : List (Addr × Obj)} {a d : Addr} {o : Obj} (h : ∀ p ∈ Y, p.1 ≠ d) (m : (a, o) ∈ Y) : a ≠ d := h _ m
theorem an_sub {X Y : List (Addr × Obj)} {d : Addr} (h : ∀ p ∈ Y, p.1 ≠ d) (s : ∀ q ∈ X, q ∈ Y) : ∀ p ∈ X, p.1 ≠ d := fun p hp => h p (s p hp)
theorem off_ne {av : List Addr} {D : Addr} {X ext : List (Addr × Obj)} (l : ∀ p ∈ X, p.1 ≠ D) (hav : HasAv ext av) (hs : ∀ q ∈ ext, q ∈ X) : D ∉ av := by
  intro hm
  (first | (refine' ex_1_0 (hav D hm) ?_; intro o ho) | (obtain ⟨o, ho⟩ := hav D hm))
  exact l _ (hs _ ho) rfl
theorem VIn.congr {P : Params} {l : List (Addr × Obj)} {v : Value} {d d' : V} (h : VIn P l v d) (e : d = d') : VIn P l v d' := e ▸ h
section
variable {P : Params} {l : List (Addr × Obj)} {v : Value} {d : V} {vs ws : List Value} {ds es : List V}
theorem VAll.length (h : VAll P l vs ds) : vs.length = ds.length := by
  induction vs generalizing ds with
  | nil => cases h; rfl
  | cons v vs ih =>
    cases h with
    | cons _ r => rw [List.length_cons, List.length_cons, ih r]
theorem VAll.append (h : VAll P l vs ds) (k : VAll P l ws es) : VAll P l (vs ++ ws) (ds ++ es) := by
  induction vs generalizing ds with
  | nil => cases h; exact k
  | cons v vs ih =>
    cases h with
    | cons h r => exact .cons h (ih r)
theorem VAll.snoc (h : VAll P l vs ds) (k : VIn P l v d) : VAll P l (vs ++ [v]) (ds ++ [d]) := h.append (.cons k .nil)
theorem VAll.get (h : VAll P l vs ds) {k : Nat} {v : Value} (hv : vs[k]? = some v) : ∃ d, ds[k]? = some d ∧ VIn P l v d := by
  induction vs generalizing ds k with
  | nil => simp at hv
  | cons u vs ih =>
    cases h with
    | cons h r =>
      cases k with
      | zero => simp at hv; subst hv; exact ⟨_, rfl, h⟩
      | succ k => simpa using ih r (by simpa using hv)
theorem VAll.get' (h : VAll P l vs ds) {k : Nat} {d : V} (hv : ds[k]? = some d) : ∃ v, vs[k]? = some v ∧ VIn P l v d := by
  induction vs generalizing ds k with
  | nil => cases h; simp at hv
  | cons u vs ih =>
    cases h with
    | cons h r =>
      cases k with
      | zero => simp at hv; subst hv; exact ⟨_, rfl, h⟩
      | succ k => simpa using ih r (by simpa using hv)
theorem VAll.push (h : VAll P l vs ds) (k : VIn P l v d) : VAll P l (vs.toArray.push v).toList (ds ++ [d]) := by simpa using h.snoc k
end
theorem lst_arr {P : Params} {l : List (Addr × Obj)} {a : Addr} {arr : Array Value} {k : Nat} {ds : List V} (h : (a, PySem.W.listOf arr k) ∈ l) (r : VAll P l arr.toList ds) : VIn P l (.ref a) (.lst ds) := .lst (vs := arr.toList) (k := k) (by simpa [PySem.W.listOf, lstO] using h) r
theorem VIn.x {P : Params} {l : List (Addr × Obj)} {v : Value} {i : Int} (h : VIn P l v (.int i)) : ∃ t, v = .int i t := by cases h; exact ⟨_, rfl⟩
theorem VIn.xs {P : Params} {l : List (Addr × Obj)} {v : Value} {x : Str} (h : VIn P l v (.str x)) : ∃ t, v = .str x t := by cases h; exact ⟨_, rfl⟩
theorem VAll.n {P : Params} {l : List (Addr × Obj)} {vs : List Value} (h : VAll P l vs []) : vs = [] := by cases h; rfl
theorem VAll.x {P : Params} {l : List (Addr × Obj)} {vs : List Value} {d : V} {ds : List V} (h : VAll P l vs (d :: ds)) : ∃ v r, vs = v :: r ∧ VIn P l v d ∧ VAll P l r ds := by
  cases h with
  | cons a b => exact ⟨_, _, rfl, a, b⟩
theorem veq_of {a b : Value} (h : a = b) : a = b := h
theorem VAll.c {P : Params} {l : List (Addr × Obj)} {v : Value} {vs : List Value} {d : V} {ds : List V} (h : VAll P l (v :: vs) (d :: ds)) : VIn P l v d ∧ VAll P l vs ds := by
  cases h with
  | cons a b => exact ⟨a, b⟩
/-- a pure contract -/
noncomputable def Fn (w : World) (f : Addr) (D U : Nat) (args : List V) (res : V) : Prop := Sp w f D U (fun l vs => VAll w.params l vs args) (fun l r => VIn w.params l r res)
section
variable {w : World} {s : Shared} {h₀ g h' : Heap} {L L' : Addr} {m m' : Str → Option Value} {news imm fl : List (Addr × Obj)}
theorem Fn.fin {res : V} {r : Value} {Q : Value → Shared → Prop} {tk' : Nat} (kG : GSub s.heap g (imm.map (·.1))) (N : News h₀ L s.heap news) (hsub : ∀ q ∈ imm, q ∈ news)
    (ret : ∀ r tl h' tk', Fr h₀ L h' m → News h₀ L h' (tl ++ news) → (∀ q ∈ news, ∀ p ∈ tl, p.1 ≠ q.1) → VIn w.params (tl ++ imm) r res → Q r { s with heap := h', toks := tk' })
    (F' : Fr g L' h' m') (N' : News g L' h' fl) (kF : Fr h₀ L h' m) (kN : News h₀ L h' fl) (hi : ∀ q ∈ imm, q ∈ fl) (post : VIn w.params fl r res) :
    Q r { s with heap := h', toks := tk' } := by
  (first | (refine' ex_3_0 (back_to kG N hsub F' kN N' hi) ?_; intro tl h1 h2 h3) | (refine' ex_2_1 (back_to kG N hsub F' kN N' hi) ?_; intro tl h1 h2 h3) | (refine' ex_1_2 (back_to kG N hsub F' kN N' hi) ?_; intro tl h1 h2 h3) | (obtain ⟨tl, h1, h2, h3⟩ := back_to kG N hsub F' kN N' hi))
  exact ret r tl h' tk' kF h1 h2 (post.mono h3)
end
end
theorem resetO0 : True := by w_top off; trivial
section
mutual
inductive Op where
  | any
  | lf
  | seq (s : Ops)
  | pth (o : Op)
  | mt (o : Op)
inductive Ops where
  | nil
  | rest
  | cons (o : Op) (s : Ops)
end
mutual
noncomputable def VK (P : Params) (l : List (Addr × Obj)) : Op → V → (Value → Prop) → Prop
  | .lf, .none, C => C .none
  | .lf, .bool b, C => C (.bool b)
  | .lf, .int i, C => ∀ t, C (.int i t)
  | .lf, .str x, C => ∀ t, C (.str x t)
  | .lf, .bytes b, C => ∀ t, C (.bytes b t)
  | .lf, .dec n p, C => ∀ a d t1 t2 t3 t4, (a, instObj 155 d) ∈ l → (d, decO P n p t1 t2 t3 t4) ∈ l → VIn P l (.ref a) (.dec n p) → C (.ref a)
  | .lf, .path0, C => ∀ a d t, (a, instObj 214 d) ∈ l → (d, pathO P (.ref 203) t) ∈ l → VIn P l (.ref a) .path0 → C (.ref a)
  | .seq s, .tup ds, C => ∀ a k, VKs P l s ds fun vs => (a, tupO vs k) ∈ l → VIn P l (.ref a) (.tup ds) → C (.ref a)
  | .seq s, .lst ds, C => ∀ a k, VKs P l s ds fun vs => (a, lstO vs k) ∈ l → VIn P l (.ref a) (.lst ds) → C (.ref a)
  | .pth o, .path p, C => ∀ a d t, VK P l o p fun v => (a, instObj 214 d) ∈ l → (d, pathO P v t) ∈ l → VIn P l (.ref a) (.path p) → C (.ref a)
  | .mt o, .mat a b c d e f, C => ∀ x dx ta tb tc td te tf, VK P l o (.dec a 0) fun va => VK P l o (.dec b 0) fun vb => VK P l o (.dec c 0) fun vc => VK P l o (.dec d 0) fun vd => VK P l o (.dec e 0) fun ve => VK P l o (.dec f 0) fun vf =>
      (x, instObj 450 dx) ∈ l → (dx, matO P va vb vc vd ve vf ta tb tc td te tf) ∈ l → VIn P l (.ref x) (.mat a b c d e f) → C (.ref x)
  | _, d, C => ∀ v, VIn P l v d → C v
noncomputable def VKs (P : Params) (l : List (Addr × Obj)) : Ops → List V → (List Value → Prop) → Prop
  | .nil, [], C => C []
  | .cons o s, d :: ds, C => VK P l o d fun v => VKs P l s ds fun vs => C (v :: vs)
  | _, ds, C => ∀ vs, VAll P l vs ds → C vs
end
mutual
@[elab_as_elim] theorem VIn.op {P : Params} {l : List (Addr × Obj)} {C : Value → Prop} (o : Op) {v : Value} {d : V} (h : VIn P l v d) (k : VK P l o d C) : C v :=
  match o with
  | .any => k v h
  | .lf => by
    cases h with
    | none => exact k
    | bool b => exact k
    | int i t => exact k t
    | str x t => exact k t
    | bytes b t => exact k t
    | tup a b => exact k _ (.tup a b)
    | lst a b => exact k _ (.lst a b)
    | dec a b => exact k _ _ _ _ _ _ a b (.dec a b)
    | path a b c => exact k _ (.path a b c)
    | nilp a b => exact k _ _ _ a b (.nilp a b)
    | mat q r a b c d e f => exact k _ (.mat q r a b c d e f)
  | .seq s => by
    cases h with
    | tup a b => exact VAll.op s (C := fun vs => (_, tupO vs _) ∈ l → VIn P l (.ref _) (.tup _) → C (.ref _)) b (k _ _) a (.tup a b)
    | lst a b => exact VAll.op s (C := fun vs => (_, lstO vs _) ∈ l → VIn P l (.ref _) (.lst _) → C (.ref _)) b (k _ _) a (.lst a b)
    | none => exact k _ .none
    | bool b => exact k _ (.bool b)
    | int i t => exact k _ (.int i t)
    | str x t => exact k _ (.str x t)
    | bytes b t => exact k _ (.bytes b t)
    | dec a b => exact k _ (.dec a b)
    | path a b c => exact k _ (.path a b c)
    | nilp a b => exact k _ (.nilp a b)
    | mat q r a b c d e f => exact k _ (.mat q r a b c d e f)
  | .pth o => by
    cases h with
    | path a b c => exact VIn.op o (C := fun v => (_, instObj 214 _) ∈ l → (_, pathO P v _) ∈ l → VIn P l (.ref _) (.path _) → C (.ref _)) c (k _ _ _) a b (.path a b c)
    | tup a b => exact k _ (.tup a b)
    | lst a b => exact k _ (.lst a b)
    | none => exact k _ .none
    | bool b => exact k _ (.bool b)
    | int i t => exact k _ (.int i t)
    | str x t => exact k _ (.str x t)
    | bytes b t => exact k _ (.bytes b t)
    | dec a b => exact k _ (.dec a b)
    | nilp a b => exact k _ (.nilp a b)
    | mat q r a b c d e f => exact k _ (.mat q r a b c d e f)
  | .mt o => by
    cases h with
    | @mat x dx va vb vc vd ve vf ta tb tc td te tf ia ib ic id ie jf q r a b c d e f =>
      have k := VIn.op o (C := fun va => VK P l o (.dec ib 0) fun vb => VK P l o (.dec ic 0) fun vc => VK P l o (.dec id 0) fun vd => VK P l o (.dec ie 0) fun ve => VK P l o (.dec jf 0) fun vf => (x, instObj 450 dx) ∈ l → (dx, matO P va vb vc vd ve vf ta tb tc td te tf) ∈ l → VIn P l (.ref x) (.mat ia ib ic id ie jf) → C (.ref x)) a (k x dx ta tb tc td te tf)
      have k := VIn.op o (C := fun vb => VK P l o (.dec ic 0) fun vc => VK P l o (.dec id 0) fun vd => VK P l o (.dec ie 0) fun ve => VK P l o (.dec jf 0) fun vf => (x, instObj 450 dx) ∈ l → (dx, matO P va vb vc vd ve vf ta tb tc td te tf) ∈ l → VIn P l (.ref x) (.mat ia ib ic id ie jf) → C (.ref x)) b k
      have k := VIn.op o (C := fun vc => VK P l o (.dec id 0) fun vd => VK P l o (.dec ie 0) fun ve => VK P l o (.dec jf 0) fun vf => (x, instObj 450 dx) ∈ l → (dx, matO P va vb vc vd ve vf ta tb tc td te tf) ∈ l → VIn P l (.ref x) (.mat ia ib ic id ie jf) → C (.ref x)) c k
      have k := VIn.op o (C := fun vd => VK P l o (.dec ie 0) fun ve => VK P l o (.dec jf 0) fun vf => (x, instObj 450 dx) ∈ l → (dx, matO P va vb vc vd ve vf ta tb tc td te tf) ∈ l → VIn P l (.ref x) (.mat ia ib ic id ie jf) → C (.ref x)) d k
      have k := VIn.op o (C := fun ve => VK P l o (.dec jf 0) fun vf => (x, instObj 450 dx) ∈ l → (dx, matO P va vb vc vd ve vf ta tb tc td te tf) ∈ l → VIn P l (.ref x) (.mat ia ib ic id ie jf) → C (.ref x)) e k
      have k := VIn.op o (C := fun vf => (x, instObj 450 dx) ∈ l → (dx, matO P va vb vc vd ve vf ta tb tc td te tf) ∈ l → VIn P l (.ref x) (.mat ia ib ic id ie jf) → C (.ref x)) f k
      exact k q r (.mat q r a b c d e f)
    | tup a b => exact k _ (.tup a b)
    | lst a b => exact k _ (.lst a b)
    | none => exact k _ .none
    | bool b => exact k _ (.bool b)
    | int i t => exact k _ (.int i t)
    | str x t => exact k _ (.str x t)
    | bytes b t => exact k _ (.bytes b t)
    | dec a b => exact k _ (.dec a b)
    | path a b c => exact k _ (.path a b c)
    | nilp a b => exact k _ (.nilp a b)
@[elab_as_elim] theorem VAll.op {P : Params} {l : List (Addr × Obj)} {C : List Value → Prop} (s : Ops) {vs : List Value} {ds : List V} (h : VAll P l vs ds) (k : VKs P l s ds C) : C vs :=
  match s with
  | .nil => by
    cases h with
    | nil => exact k
    | cons a b => exact k _ (.cons a b)
  | .rest => by exact k _ h
  | .cons o s => by
    cases h with
    | nil => exact k _ .nil
    | cons a b => exact VAll.op s (C := fun vs => C (_ :: vs)) b (VIn.op o (C := fun v => VKs P l s _ fun vs => C (v :: vs)) a k)
end
@[elab_as_elim] theorem VIn.opr {P : Params} {l : List (Addr × Obj)} {C : Value → Prop} (o : Op) {v : Value} {d : V} (h : VIn P l v d) (k : VK P l o d fun v => True → C v) : C v := VIn.op (C := fun v => True → C v) o h k trivial
@[elab_as_elim] theorem VAll.opr {P : Params} {l : List (Addr × Obj)} {C : List Value → Prop} (s : Ops) {vs : List Value} {ds : List V} (h : VAll P l vs ds) (k : VKs P l s ds fun v => True → C v) : C vs := VAll.op (C := fun v => True → C v) s h k trivial
theorem VIn.ope {P : Params} {l : List (Addr × Obj)} {G : Prop} (o : Op) {v : Value} {d : V} (h : VIn P l v d) (k : VK P l o d fun u => v = u → G) : G := VIn.op (C := fun u => v = u → G) o h k rfl
theorem mz_hd {z x : Str} {v t r : Option Value} (h : z ≠ x) (e : t = r) : (if z = x then v else t) = r := (if_neg h).trans e
theorem mz_ct {z x : Str} {names : List Str} (hs : names.contains z = false) (hx : x ∈ names) : z ≠ x := by
  rintro rfl
  rw [List.contains_iff_mem.mpr hx] at hs
  exact Bool.noConfusion hs
theorem mz_i0 {z x : Str} {l : List Str} {v t r : Option Value} (hs : (x :: l).contains z = false) (e : t = r) : (if z = x then v else t) = r := mz_hd (mz_ct hs (.head _)) e
theorem mz_i1 {z x a : Str} {l : List Str} {v t r : Option Value} (hs : (a :: x :: l).contains z = false) (e : t = r) : (if z = x then v else t) = r := mz_hd (mz_ct hs (.tail _ (.head _))) e
theorem mz_i2 {z x a b : Str} {l : List Str} {v t r : Option Value} (hs : (a :: b :: x :: l).contains z = false) (e : t = r) : (if z = x then v else t) = r := mz_hd (mz_ct hs (.tail _ (.tail _ (.head _)))) e
theorem mz_i3 {z x a b c : Str} {l : List Str} {v t r : Option Value} (hs : (a :: b :: c :: x :: l).contains z = false) (e : t = r) : (if z = x then v else t) = r := mz_hd (mz_ct hs (.tail _ (.tail _ (.tail _ (.head _))))) e
theorem mz_in {z : Str} {names s : List Str} {v t r : Option Value} (hs : names.contains z = false) (c : s.all names.contains = true) (e : t = r) : (if s.contains z = true then v else t) = r := by
  rw [if_neg]
  · exact e
  · intro h
    have := List.all_eq_true.mp c z (List.contains_iff_mem.mp h)
    rw [hs] at this
    exact Bool.noConfusion this
theorem mz_s1 {z a : Str} {l : List Str} {v t r : Option Value} (hs : (a :: l).contains z = false) (e : t = r) : (if l.contains z = true then v else t) = r := by
  rw [if_neg]
  · exact e
  · intro h
    exact mz_ct hs (.tail _ (List.contains_iff_mem.mp h)) rfl
theorem an_cons {x : Addr × Obj} {X : List (Addr × Obj)} {d : Addr} (a : x.1 ≠ d) (b : ∀ p ∈ X, p.1 ≠ d) : ∀ p ∈ x :: X, p.1 ≠ d := List.forall_mem_cons.mpr ⟨a, b⟩
theorem an_lt0 {X : List (Addr × Obj)} {d : Addr} (h : ∀ p ∈ X, p.1 < d) : ∀ p ∈ X, p.1 ≠ d := fun p hp => Nat.ne_of_lt (h p hp)
theorem rK (k : Nat) {d x c n lim : Nat} (h : d + n < lim) (hx : x = d + k) (e : Nat.ble (k + c) n = true) : x + c < lim := by
  subst hx
  have := Nat.le_of_ble_eq_true e
  omega
theorem rK0 (k : Nat) {d x n lim : Nat} (h : d + n < lim) (hx : x = d + k) (e : Nat.ble k n = true) : x < lim := by
  subst hx
  have := Nat.le_of_ble_eq_true e
  omega
end
theorem resetP0 : True := by w_top off; trivial
section
structure Sb where
  h : Heap
  g : Array GenState
  d : Drawn
  o : OsState
noncomputable abbrev Sb.at (p : Sb) (n : Nat) : Shared := ⟨p.h, p.g, p.d, n, p.o⟩
/-- a tree that gives its value and moves the tokens alone -/
structure Rt {α : Type} (M : Model) (A : Around) (E : Value → Shared → Prop) (p : Sb) (t : Sem α) (n : Nat) (v : α) (k : Nat) : Prop where
  run : ∀ Q : α → Shared → Prop, Q v (p.at k) → wpAny M A t Q E (p.at n)
section
variable {M : Model} {A : Around} {E : Value → Shared → Prop} {p : Sb} {K : Frag} {h₀ : Heap} {L a : Addr} {m mg mb : Str → Option Value} {cn : Str} {cs : Scope} {ccd : Value} {cl : List (Str × Addr)} {pr : Program} {loose : List Str}
  {x : Str} {pos : Pos} {v : Value} {news : List (Addr × Obj)} {c : Addr} {o : Obj} {n k n1 n2 n3 : Nat} {env : Env} {prog : Program} {w : World}
theorem rtUse {α : Type} {h : Heap} {g : Array GenState} {d : Drawn} {os : OsState} {t : Sem α} {v : α} {Q : α → Shared → Prop} (r : Rt M A E ⟨h, g, d, os⟩ t n v k) (q : Q v ⟨h, g, d, k, os⟩) : wpAny M A t Q E ⟨h, g, d, n, os⟩ := r.run Q q
theorem rtL (hx : (envX cn cs L a ccd cl).kindOf x = some .local) (hk : cs.kind = .function) (F : Fr h₀ L p.h m) (hv : m x = some v) (hd : (x == ("__debug__" : Str)) = false) :
    Rt M A E p (eval (.Name x pos) (envX cn cs L a ccd cl)) n v n := ⟨fun _ q => nameX_L (s := p.at n) F hv q hk hx hd⟩
theorem rtC (hx : (envX cn cs L a ccd cl).kindOf x = some .cell) (hk : cs.kind = .function) (N : News h₀ L p.h news) (hc : cl.lookup x = some c) (hm : (c, o) ∈ news) (hd : o.data = .cell (some v)) (hb : (x == ("__debug__" : Str)) = false) :
    Rt M A E p (eval (.Name x pos) (envX cn cs L a ccd cl)) n v n := ⟨fun _ q => nameX_C (s := p.at n) N hc hm hd q hk hx hb⟩
theorem rtK (hx : (envX cn cs L a ccd cl).kindOf x = some .globalImplicit) (hk : cs.kind = .function) (F : Fr h₀ L p.h m) (X : K.In h₀) (T : TopRead pr loose mg mb h₀) (e : nsIn K mainGlobals x = some (some v)) (hd : (x == ("__debug__" : Str)) = false) :
    Rt M A E p (eval (.Name x pos) (envX cn cs L a ccd cl)) n v n := ⟨fun _ q => nameX_K (s := p.at n) F X T e q hk hx hd⟩
theorem rtB (hx : (envX cn cs L a ccd cl).kindOf x = some .globalImplicit) (hk : cs.kind = .function) (F : Fr h₀ L p.h m) (X : K.In h₀) (T : TopRead pr loose mg mb h₀) (e : nsIn K mainGlobals x = some none) (hv : bootBuiltins x = some v) (hn : x ≠ "__name__") (hd : (x == ("__debug__" : Str)) = false) :
    Rt M A E p (eval (.Name x pos) (envX cn cs L a ccd cl)) n v n := ⟨fun _ q => nameX_B (s := p.at n) F X T e hv hn q hk hx hd⟩
theorem rtInt {i : Int} {kd : Nat} : Rt M A E p (eval (.Constant (.int i) kd pos) env) n (.int i n) (n + 1) := ⟨fun _ q => wpAny_Constant_int (s := p.at n) q⟩
theorem rtStr {kd : Nat} : Rt M A E p (eval (.Constant (.str x) kd pos) env) n (.str x n) (n + 1) := ⟨fun _ q => Calls.Constant_str (s := p.at n) q⟩
theorem rtBool {b : Bool} {kd : Nat} : Rt M A E p (eval (.Constant (.bool b) kd pos) env) n (.bool b) n := ⟨fun _ q => Constant_bool (s := p.at n) q⟩
theorem rtNone {kd : Nat} : Rt M A E p (eval (.Constant .none kd pos) env) n .none n := ⟨fun _ q => Constant_none (s := p.at n) q⟩
theorem rtNil : Rt M A E p (spliced (backTo pos (starEach [] env))) n [] n := ⟨fun _ q => args_nil q⟩
theorem rtCons {e : Expr} {rest : List Expr} {vs : List Value} (a : Rt M A E p (eval e env) n v n1) (b : Rt M A E p (spliced (backTo pos (starEach rest env))) n1 vs n2) (he : starEach (e :: rest) env = (false, eval e env) :: starEach rest env) :
    Rt M A E p (spliced (backTo pos (starEach (e :: rest) env))) n (v :: vs) n2 := ⟨fun Q q => args_cons (a.run _ (b.run (fun vs s => Q (v :: vs) s) q)) he⟩
theorem rtSub {value slice : Expr} {u i : Value} (a : Rt M A E p (eval value env) n u n1) (b : Rt M A E p (eval slice env) n1 i n2) (c : Rt M A E p (subscriptTail value slice u i) n2 v n3) : Rt M A E p (eval (.Subscript value slice pos) env) n v n3 :=
  ⟨fun _ q => Subscript_ (a.run _ (b.run _ (c.run _ q)))⟩
theorem rtBin {l r : Expr} {op : Operator} {u i : Value} (a : Rt M A E p (eval l env) n u n1) (b : Rt M A E p (eval r env) n1 i n2) (c : Rt M A E p (binaryOp op u i) n2 v n3) : Rt M A E p (eval (.BinOp l op r pos) env) n v n3 :=
  ⟨fun _ q => wpAny_BinOp (a.run _ (b.run _ (c.run _ q)))⟩
theorem rtUn {e : Expr} {op : UnaryOp} {u : Value} (a : Rt M A E p (eval e env) n u n1) (c : Rt M A E p (unaryOp op u) n1 v n3) : Rt M A E p (eval (.UnaryOp op e pos) env) n v n3 :=
  ⟨fun _ q => UnaryOp_ (a.run _ (c.run _ q))⟩
theorem rtAdd {i j : Int} {t u : Tok} : Rt (model prog w) A E p (binaryOp .Add (.int i t) (.int j u)) n (.int (i + j) n) (n + 1) := ⟨fun _ q => PyProof.Rows.add_int (s := p.at n) q⟩
theorem rtSubI {i j : Int} {t u : Tok} : Rt (model prog w) A E p (binaryOp .Sub (.int i t) (.int j u)) n (.int (i - j) n) (n + 1) := ⟨fun _ q => PyProof.Rows.sub_int (s := p.at n) q⟩
theorem rtNeg {i : Int} {t : Tok} : Rt (model prog w) A E p (unaryOp .USub (.int i t)) n (.int (-i) n) (n + 1) := ⟨fun _ q => PyProof.Rows.neg_int (s := p.at n) q⟩
theorem rtTup {value slice : Expr} {t : Addr} {l : List Value} {k : Int} {u : Tok} {j : Nat} (ht : IsTup p.h t l.toArray) (hlo : -(2 ^ 63) ≤ k) (hhi : k < 2 ^ 63) (hj : seqIndex? k l.length = some j) (hx : l[j]? = some v)
    (hs : subscripted slice false (.ref t) (.int k u) = operate [.ref t, .int k u] (getItem (.ref t) (.int k u))) : Rt (model prog w) A E p (subscriptTail value slice (.ref t) (.int k u)) n v n :=
  ⟨fun _ q => item_tupleT (s := p.at n) ht hlo hhi hj hx q hs⟩
theorem rtLst {value slice : Expr} {t : Addr} {vs : List Value} {k0 : Nat} {k : Int} {u : Tok} (N : News h₀ L p.h news) (hm : (t, lstO vs k0) ∈ news) (h0 : 0 ≤ k) (hfit : k < 2 ^ 63) (hx : vs[k.toNat]? = some v)
    (hs : subscripted slice false (.ref t) (.int k u) = operate [.ref t, .int k u] (getItem (.ref t) (.int k u))) (hg : ∀ r, letTemporaryGo value (.ref t) r = pure ()) : Rt (model prog w) A E p (subscriptTail value slice (.ref t) (.int k u)) n v n :=
  ⟨fun _ q => item_lst (s := p.at n) N hm h0 hfit hx q hs hg⟩
section
variable {h : Heap} {g : Array GenState} {d : Drawn} {os : OsState} {Q : Value → Shared → Prop}
theorem evCallK {func e : Expr} {rest : List Expr} {f : Value} {vs : List Value} (a : Rt M A E ⟨h, g, d, os⟩ (eval func env) n f n1) (X : K.In h) (hk : keepIn K f = true) (b : Rt M A E ⟨h, g, d, os⟩ (spliced (backTo pos (starEach (e :: rest) env))) n1 vs n2)
    (q : wpAny M A (call f vs) Q E ⟨h, g, d, n2, os⟩)
    (he : eval (.Call func (e :: rest) [] pos) env = (do callWith pos (← eval func env) [] (backTo pos (starEach (e :: rest) env)) (backToKw pos (keywordEach [] env))))
    (hs : starEach (e :: rest) env = (false, eval e env) :: starEach rest env) (hp : (backTo pos (starEach rest env)).any (·.1) = false) :
    wpAny M A (eval (.Call func (e :: rest) [] pos) env) Q E ⟨h, g, d, n, os⟩ :=
  Call_ (a.run _ (callWith_K (h₀ := h) (first := []) X hk (b.run (fun vs s₁ => K.In s₁.heap ∧ wpAny M A (call f ([] ++ vs)) Q E s₁) ⟨X, q⟩) hs hp)) he
theorem evBin {l r : Expr} {op : Operator} {u i : Value} (a : Rt M A E ⟨h, g, d, os⟩ (eval l env) n u n1) (b : Rt M A E ⟨h, g, d, os⟩ (eval r env) n1 i n2) (q : wpAny M A (binaryOp op u i) Q E ⟨h, g, d, n2, os⟩) :
    wpAny M A (eval (.BinOp l op r pos) env) Q E ⟨h, g, d, n, os⟩ := wpAny_BinOp (a.run _ (b.run _ q))
theorem evSub {value slice : Expr} {u i : Value} (a : Rt M A E ⟨h, g, d, os⟩ (eval value env) n u n1) (b : Rt M A E ⟨h, g, d, os⟩ (eval slice env) n1 i n2) (q : wpAny M A (subscriptTail value slice u i) Q E ⟨h, g, d, n2, os⟩) :
    wpAny M A (eval (.Subscript value slice pos) env) Q E ⟨h, g, d, n, os⟩ := Subscript_ (a.run _ (b.run _ q))
theorem evTuple {es : List Expr} {kd : Nat} {vs : List Value} (b : Rt M A E ⟨h, g, d, os⟩ (spliced (backTo pos (starEach es env))) n vs n2) (q : wpAny M A (newTuple vs) Q E ⟨h, g, d, n2, os⟩) :
    wpAny M A (eval (.Tuple es kd pos) env) Q E ⟨h, g, d, n, os⟩ := Tuple_ (b.run _ q)
theorem evCmp {l r : Expr} {op : CmpOp} {u i : Value} (a : Rt M A E ⟨h, g, d, os⟩ (eval l env) n u n1) (b : Rt M A E ⟨h, g, d, os⟩ (eval r env) n1 i n2) (q : wpAny M A (compareOp op u i) Q E ⟨h, g, d, n2, os⟩) (hm : behindInMarks op r = false) :
    wpAny M A (eval (.Compare l [op] [r] pos) env) Q E ⟨h, g, d, n, os⟩ := wpAny_Compare1 (a.run _ (b.run _ q)) hm
theorem evIsCmp {l r : Expr} {op : CmpOp} {u i : Value} {whole : Sem Value} {Q : Bool → Shared → Prop} (a : Rt M A E ⟨h, g, d, os⟩ (eval l env) n u n1) (b : Rt M A E ⟨h, g, d, os⟩ (eval r env) n1 i n2) (q : wpAny M A (compareOp op u i) (fun c s₃ => wpAny M A (truthy c) Q E s₃) E ⟨h, g, d, n2, os⟩) (hm : behindInMarks op r = false) :
    wpAny M A (PySem.isTrue (.Compare l [op] [r] pos) env whole) Q E ⟨h, g, d, n, os⟩ := wpAny_isTrue_Compare1 (a.run _ (b.run _ q)) hm
theorem evTupleN {es : List Expr} {kd : Nat} {vs : List Value} (b : Rt M A E ⟨h, g, d, os⟩ (spliced (backTo pos (starEach es env))) n vs n2) (F : Fr h₀ L h m) (N : News h₀ L h news) (hz : vs.length ≤ sizeLine)
    (q : ∀ D h' t', let lg := (D, tupO vs 0) :: news; Fr h₀ L h' m → News h₀ L h' lg → (∀ p ∈ news, p.1 < D) → Q (.ref D) ⟨h', g, d, t', os⟩) : wpAny M A (eval (.Tuple es kd pos) env) Q E ⟨h, g, d, n, os⟩ := Tuple_ (b.run _ (kup_newTuple (s := ⟨h, g, d, n2, os⟩) F N (fun D h' => q D h' _) hz))
theorem ntL {vs : List Value} (F : Fr h₀ L h m) (N : News h₀ L h news) (hz : vs.length ≤ sizeLine)
    (q : ∀ D h' t', let lg := (D, tupO vs 0) :: news; Fr h₀ L h' m → News h₀ L h' lg → (∀ p ∈ news, p.1 < D) → Q (.ref D) ⟨h', g, d, t', os⟩) : wpAny M A (newTuple vs) Q E ⟨h, g, d, n, os⟩ := kup_newTuple (s := ⟨h, g, d, n, os⟩) F N (fun D h' => q D h' _) hz
end
section
variable {h : Heap} {g : Array GenState} {d : Drawn} {os : OsState}
structure KAs (M : Model) (A : Around) (E : Value → Shared → Prop) (env : Env) (x : Str) (rest : List Stmt) (Q : Flow → Shared → Prop) (v : Value) (s : Shared) : Prop where
  out : wpAny M A (storeName env x v) (fun _ s₂ => wpAny M A (execs rest env) Q E s₂) E s
theorem exAs {e : Expr} {x : Str} {pos' : Pos} {rest : List Stmt} {Q : Flow → Shared → Prop} {s : Shared} (q : wpAny M A (eval e env) (KAs M A E env x rest Q) E s) (hs : swapsWith e (some (.Name x pos')) pos.line env = pure false) :
    wpAny M A (execs (.Assign [.Name x pos'] e pos :: rest) env) Q E s := wpAny_execs_cons (wpAny_Assign_Name (wpAny_mono q (fun _ _ h => h.out) fun _ _ h => h) hs)
theorem kasL {rest : List Stmt} {Q : Flow → Shared → Prop} (hx : (envX cn cs L a ccd cl).kindOf x = some .local) (hk : cs.kind = .function) (F : Fr h₀ L h m) (N : News h₀ L h news)
    (q : ∀ h' t', let m' := fun y => if y = x then some v else m y; Fr h₀ L h' m' → News h₀ L h' news → wpAny M A (execs rest (envX cn cs L a ccd cl)) Q E ⟨h', g, d, t', os⟩) : KAs M A E (envX cn cs L a ccd cl) x rest Q v ⟨h, g, d, n, os⟩ :=
  ⟨storeX_L (s := ⟨h, g, d, n, os⟩) F N (fun h' => q h' _) hk hx⟩
theorem kasC {rest : List Stmt} {Q : Flow → Shared → Prop} {gg : Obj → List (Addr × Obj)} {v₀ : Option Value} (hx : (envX cn cs L a ccd cl).kindOf x = some .cell) (hk : cs.kind = .function) (F : Fr h₀ L h m) (N : News h₀ L h news) (hc : cl.lookup x = some c) (U : UpdF c o news gg) (hd : o.data = .cell v₀)
    (q : ∀ h' o', Fr h₀ L h' m → News h₀ L h' (gg o') → o'.data = .cell (some v) → wpAny M A (execs rest (envX cn cs L a ccd cl)) Q E ⟨h', g, d, n, os⟩) : KAs M A E (envX cn cs L a ccd cl) x rest Q v ⟨h, g, d, n, os⟩ :=
  ⟨storeX_C (s := ⟨h, g, d, n, os⟩) F N hc U hd q hk hx⟩
noncomputable def KRe (Q : Flow → Shared → Prop) (v : Value) (s : Shared) : Prop := Q (.ret v) s
theorem exRe {e : Expr} {rest : List Stmt} {Q : Flow → Shared → Prop} {s : Shared} (q : wpAny M A (eval e env) (KRe Q) E s) : wpAny M A (execs (.Return (some e) pos :: rest) env) Q E s := wpAny_execs_cons (wpAny_Return_some q)
theorem spUse {w : World} {f : Addr} {D U : Nat} {Pre : List (Addr × Obj) → List Value → Prop} {Post : List (Addr × Obj) → Value → Prop} {dp un : Nat} {gd : Option (List Code)} {cn : Str} {cs : Scope} {a : Addr} {ccd : Value} {cl : List (Str × Addr)} {outer : List Env} {A₀ : Around} {base h₀ : Heap} {L : Addr} {m : Str → Option Value} {news : List (Addr × Obj)} {vs : List Value} {p : Program} {loose : List Str} {mean : ExcName → Option Value} {mg mb : Str → Option Value}
    {Q E : Value → Shared → Prop} (S : Sp w f D U Pre Post) (B : Below A₀ base outer h₀) (F : Fr h₀ L h m) (X : (foo0.heap_1_39 w.params).In h₀) (N : News h₀ L h news) (T : Top p loose mean mg mb h₀) (hk : cs.kind = .function) (imm : List (Addr × Obj)) (hsub : ∀ q ∈ imm, q ∈ news) (hpre : Pre imm vs) (hd : dp + D < recursionLimit) (hu : un + U < cLine)
    (ret : ∀ r tl h' tk', let lg := tl ++ news; let li := tl ++ imm; Fr h₀ L h' m → News h₀ L h' lg → (∀ q ∈ news, ∀ p ∈ tl, p.1 ≠ q.1) → Post li r → Q r ⟨h', g, d, tk', os⟩) :
    wpAny (model PySem.Challenge.rw_nn0221_01.row.prog w) (ktrTop dp un gd cn cs L a ccd cl outer) (call (.ref f) vs) Q E ⟨h, g, d, n, os⟩ :=
  S _ _ _ _ _ _ _ _ _ _ _ _ _ _ _ imm _ _ _ _ _ _ _ _ _ B F X N T hk hsub hpre hd hu ret
theorem stL {Q : Unit → Shared → Prop} (hx : (envX cn cs L a ccd cl).kindOf x = some .local) (hk : cs.kind = .function) (F : Fr h₀ L h m) (N : News h₀ L h news)
    (q : ∀ h' t', let m' := fun y => if y = x then some v else m y; Fr h₀ L h' m' → News h₀ L h' news → Q () ⟨h', g, d, t', os⟩) : wpAny M A (storeName (envX cn cs L a ccd cl) x v) Q E ⟨h, g, d, n, os⟩ :=
  storeX_L (s := ⟨h, g, d, n, os⟩) F N (fun h' => q h' _) hk hx
theorem nlL {vs : List Value} {Q : Value → Shared → Prop} (F : Fr h₀ L h m) (N : News h₀ L h news) (hz : vs.length ≤ sizeLine)
    (q : ∀ D h' t', let lg := (D, listOf vs.toArray 0) :: news; Fr h₀ L h' m → News h₀ L h' lg → (∀ p ∈ news, p.1 < D) → Q (.ref D) ⟨h', g, d, t', os⟩) : wpAny M A (newList vs) Q E ⟨h, g, d, n, os⟩ := newList_K (s := ⟨h, g, d, n, os⟩) F N (fun D h' => q D h' _) hz
theorem frLet {G : Prop} (F : Fr h₀ L h m) (q : let m' := m; Fr h₀ L h m' → G) : G := q F
theorem nwLet {G : Prop} (N : News h₀ L h news) (q : let lg := news; News h₀ L h lg → G) : G := q N
theorem stLet {α : Type} {t : Sem α} {Q : α → Shared → Prop} {s : Shared} (q : let g := s.gens; let d := s.drawn; let o := s.os; wpAny M A t Q E ⟨h, g, d, n, o⟩) : wpAny M A t Q E ⟨h, s.gens, s.drawn, n, s.os⟩ := q
theorem aLet {α : Type} {t : Sem α} {Q : α → Shared → Prop} {s : Shared} (q : let A' := A; wpAny M A' t Q E s) : wpAny M A t Q E s := q
theorem eLet {b : List Stmt} {Q : Flow → Shared → Prop} {s : Shared} (q : let e := env; wpAny M A (execs b e) Q E s) : wpAny M A (execs b env) Q E s := q
end
end
end
theorem resetE0 : True := by w_top off; trivial
section
set_option maxRecDepth 100000
set_option maxHeartbeats 2000000
noncomputable abbrev rngO (a b c : Int) (t u v : Tok) : Obj := { cls := .type "range", data := .fields #[.int a t, .int b u, .int c v] }
section
variable {prog : Program} {w : World} {A : Around} {E : Value → Shared → Prop} {s : Shared} {h₀ : Heap} {L : Addr} {m : Str → Option Value} {env : Env} {target : Expr} {body : List Stmt} {news : List (Addr × Obj)}
theorem rng1 {n : Int} {t : Tok} {Q : Value → Shared → Prop} (F : Fr h₀ L s.heap m) (N : News h₀ L s.heap news)
    (h : ∀ D h' t1 t2, Fr h₀ L h' m → News h₀ L h' ((D, rngO 0 n 1 t1 t t2) :: news) → (∀ p ∈ news, p.1 < D) → Q (.ref D) { s with heap := h', toks := s.toks + 1 + 1 }) :
    wpAny (model prog w) A (call (.type "range") [.int n t]) Q E s := by
  exact call_range_1 (h _ _ s.toks (s.toks + 1) (F.push _) (News.push F N (rngO 0 n 1 s.toks t (s.toks + 1))) (fun p hp => Heap.lt_size (N p hp).1))
theorem rng3 {a b c : Int} {t u v : Tok} {Q : Value → Shared → Prop} (F : Fr h₀ L s.heap m) (N : News h₀ L s.heap news) (hc : c ≠ 0) (hp : Builtin.divisionGoesByPylong (b - a) c = false)
    (h : ∀ D h', Fr h₀ L h' m → News h₀ L h' ((D, rngO a b c t u v) :: news) → (∀ p ∈ news, p.1 < D) → Q (.ref D) { s with heap := h' }) :
    wpAny (model prog w) A (call (.type "range") [.int a t, .int b u, .int c v]) Q E s := by
  exact call_range_3 hc (h _ _ (F.push _) (News.push F N (rngO a b c t u v)) (fun p hp => Heap.lt_size (N p hp).1)) (Or.inl hp)
theorem rng_of {a b c : Int} {t u v : Tok} {r : Addr} {h : Heap} (N : News h₀ L h news) (m : (r, rngO a b c t u v) ∈ news) : IsRange h r a b c t u v := (N _ m).1
noncomputable def FRestI (prog : Program) (w : World) (A : Around) (h₀ : Heap) (env : Env) (target : Expr) (body : List Stmt) (Q : Flow → Shared → Prop) (E : Value → Shared → Prop) (s : Shared) : List Int → (Str → Option Value) → List (Addr × Obj) → Prop
  | [], m, lg => ∀ h tk, Fr h₀ env.locals h m → News h₀ env.locals h lg → Q .next { s with heap := h, toks := tk }
  | i :: r, m, lg => ∀ ext av h tk t, Fr h₀ env.locals h m → News h₀ env.locals h (ext ++ lg) → Off av lg → HasAv ext av → ExtIn ext av [] →
      wpAny (model prog w) A (assign target env (.int i t)) (fun _ s₃ => wpAny (model prog w) A (execs body env) (FPost h₀ env.locals ext av { s with heap := h, toks := tk } (FRestI prog w A h₀ env target body Q E s r) Q) E s₃) E { s with heap := h, toks := tk }
theorem for_range_rest {Q : Flow → Shared → Prop} {r : Addr} {a b c : Int} {t u v : Tok} {n : Nat} {x : Str} {px : Pos} (ks : List Int) (hh : A.handled = none) (hr : IsRange s.heap r a b c t u v) (hsm : Builtin.Range.small a b c = true) (hn : Builtin.Range.rangeSize a b c = ((n : Nat) : Int)) (hks : (List.range n).map (fun i : Nat => a + (i : Int) * c) = ks)
    (F : Fr h₀ env.locals s.heap m) (N : News h₀ env.locals s.heap news) (R : FRestI prog w A h₀ env (.Name x px) body Q E s ks m news) :
    ForSrc prog w A h₀ env (.Name x px) body Q E (.ref r) s := by
  have hlen : ks.length = n := by rw [← hks]; simp
  refine for_range (fun i m lg => FRestI prog w A h₀ env (.Name x px) body Q E s (ks.drop i) m lg) hh hr hsm hn F N (by simpa using R) ?_ ?_
  · intro g i t m₁ lg ext av h tk hi hJ F₁ N₁ h1 h2 h3
    have hv : ks[i]? = some (a + (i : Int) * c) := by rw [← hks]; simp [hi]
    rw [drop_cons hv] at hJ
    exact hJ ext av h tk t F₁ N₁ h1 h2 h3
  · intro h' tk m' lg F' N' hJ
    have hJ' : FRestI prog w A h₀ env (.Name x px) body Q E s (ks.drop ks.length) m' lg := by rw [hlen]; exact hJ
    rw [List.drop_length] at hJ'
    exact hJ' h' tk F' N'
theorem item_lstN {value slice : Expr} {a : Addr} {vs : List Value} {k0 : Nat} {k : Int} {u : Tok} {x : Value} {Q : Value → Shared → Prop} (N : News h₀ L s.heap news) (hm : (a, lstO vs k0) ∈ news)
    (h0 : k < 0) (h1 : -(vs.length : Int) ≤ k) (hfit : -(2 ^ 63) ≤ k) (hx : vs[(k + vs.length).toNat]? = some x) (h : Q x s)
    (hs : subscripted slice false (.ref a) (.int k u) = operate [.ref a, .int k u] (getItem (.ref a) (.int k u))) :
    wpAny (model prog w) A (subscriptTail value slice (.ref a) (.int k u)) Q E s :=
  tail_any (lst_of N hm).typeIs slot_list_getitem.lookup (wpAny_getItem_list_neg (lst_of N hm) h0 (by simpa using h1) hfit (by simpa using hx) h) hs
theorem max3_100 {t u x : Tok} {Q : Value → Shared → Prop} (hh : A.handled = none) (F : Fr h₀ L s.heap m) (N : News h₀ L s.heap news)
    (h : ∀ h' tk, Fr h₀ L h' m → News h₀ L h' news → Q (.int 1 t) { s with heap := h', toks := tk }) :
    wpAny (model prog w) A (call (.builtin "max") [.int 1 t, .int 0 u, .int 0 x]) Q E s :=
  max_three_ints hh fun h' tk hk => h h' tk (F.keeps hk) fun p hp => ⟨hk _ _ (N p hp).1, (N p hp).2⟩
inductive PairsAre (lg : List (Addr × Obj)) : List Value → List (Addr × Value × Value) → Prop
  | nil : PairsAre lg [] []
  | cons {a : Addr} {u v : Value} {k : Nat} {vs : List Value} {ps : List (Addr × Value × Value)} : (a, tupO [u, v] k) ∈ lg → PairsAre lg vs ps → PairsAre lg (.ref a :: vs) ((a, u, v) :: ps)
theorem PairsAre.eq {lg : List (Addr × Obj)} {vs : List Value} {ps : List (Addr × Value × Value)} (h : PairsAre lg vs ps) : vs = ps.map fun p => Value.ref p.1 := by
  induction h with
  | nil => rfl
  | cons _ _ ih => rw [List.map_cons, ← ih]
theorem cmp_list_pairs {scope : Scope} {cl : List (Str × Addr)} {elt : Expr} {x y : Str} {px py pt : Pos} {k : Nat} {Fin : Shared → List Value → List (Addr × Obj) → Prop} {ax : Addr} {vs : List Value} {ps : List (Addr × Value × Value)} (hh : A.handled = none) (hP : PairsAre news vs ps) (hl : s.heap.IsList ax vs.toArray) (hsz : ps.length ≤ sizeLine) (hx : scope.names.lookup x = some .local) (hy : scope.names.lookup y = some .local) (hxy : x ≠ y) (hkind : scope.kind = .function) (F : Fr h₀ L s.heap m) (N : News h₀ L s.heap news)
    (R : CRestP prog w A [ax] h₀ L m env scope cl x y elt Fin s ps [] news) : CmpSrc prog w A h₀ L m env scope cl (.Tuple [.Name x px, .Name y py] k pt) [] elt Fin E (.ref ax) s :=
  cmp_list_restP hh (hP.eq ▸ hl) hsz hx hy hxy hkind F N R
end
end
theorem resetE1 : True := by w_top off; trivial
section
set_option maxRecDepth 100000
set_option maxHeartbeats 2000000
noncomputable abbrev AIt (h : Heap) (i : Addr) (x : Str) (t : Tok) (k : Nat) : Prop := h.IsStrIter i "str_ascii_iterator" x t k
theorem ait_at {h h' : Heap} {i : Addr} {x : Str} {t : Tok} {k : Nat} (y : AIt h i x t k) (hk : ∀ o, h.get? i = some o → h'.get? i = some o) : AIt h' i x t k :=
  let ⟨o, ho, r⟩ := y; ⟨o, hk o ho, r⟩
structure ZApart (z TI TO i1 i2 : Addr) : Prop where
  TIz : TI ≠ z
  TOz : TO ≠ z
  i1z : i1 ≠ z
  i2z : i2 ≠ z
  TITO : TI ≠ TO
  TIi1 : TI ≠ i1
  TIi2 : TI ≠ i2
  TOi1 : TO ≠ i1
  TOi2 : TO ≠ i2
  i12 : i1 ≠ i2
section
variable {prog : Program} {w : World} {A : Around} {E : Value → Shared → Prop} {s : Shared}
/-- two texts zipped: a turn -/
theorem zs_item {z TI TO i1 i2 : Addr} {k : Nat} {x y : Str} {t u : Tok} {cx cy : Nat} {a b : Value} {Q : Value → Shared → Prop} (D : ZApart z TI TO i1 i2)
    (hz : IsZip s.heap z TI TO .none) (hTI : IsPair s.heap TI (.ref i1) (.ref i2)) (hTO : IsPair s.heap TO a b)
    (h1 : AIt s.heap i1 x t k) (h2 : AIt s.heap i2 y u k) (hx : x.cps[k]? = some cx) (hy : y.cps[k]? = some cy)
    (hQ : ∀ h' tk u1 u2, IsZip h' z TI TO (rawInt s.heap.objs.size) → IsPair h' TO (.str ⟨#[cx]⟩ u1) (.str ⟨#[cy]⟩ u2) → AIt h' i1 x t (k + 1) → AIt h' i2 y u (k + 1) → IsPair h' s.heap.objs.size (.str ⟨#[cx]⟩ u1) (.str ⟨#[cy]⟩ u2) →
      (∀ c o, c ≠ z → c ≠ TO → c ≠ i1 → c ≠ i2 → s.heap.get? c = some o → h'.get? c = some o) → Q (.ref s.heap.objs.size) { s with heap := h', toks := tk }) :
    wpAny (model prog w) A (Builtin.«zip.__next__» ⟨[.ref z], []⟩) (fun fin s' => ∃ v, fin = .done (.ret v) ∧ Q v s') E s := by
  show wpAny _ _ (field (.ref z) 2 >>= _) _ _ _
  refine wpAny_bind (wpAny_field hz rfl (x := .bool false) rfl ?_)
  show wpAny _ _ (field (.ref z) 3 >>= _) _ _ _
  refine wpAny_bind (wpAny_field hz rfl (x := .ref TI) rfl ?_)
  refine wpAny_bind (wpAny_seqItems hTI rfl ?_)
  show wpAny _ _ (Builtin.SmallTypes.ownedTupleIsFree (.ref z) >>= _) _ _ _
  refine wpAny_bind ?_
  unfold Builtin.SmallTypes.ownedTupleIsFree
  refine wpAny_bind (wpAny_field hz rfl (x := .none) rfl (wpAny_pure ?_))
  simp only [if_true]
  refine wpAny_bind (wpAny_rule ?_)
  refine wpAny_bind (wpAny_field hz rfl (x := .ref TO) rfl ?_)
  refine wpAny_bind (wpAny_setField_rec hz (by simp) fun ha hza hsa => ?_)
  replace hza : IsZip ha z TI TO .ellipsis := hza
  refine wpAny_bind ?_
  simp only [List.zipIdx_cons, List.zipIdx_nil, List.forIn_cons, List.forIn_nil]
  refine wpAny_bind (wpAny_bind (wpAny_onRaise ?_))
  show wpAny _ _ (Builtin.SmallTypes.nextOf (.ref i1) >>= _) _ _ _
  refine wpAny_bind (wpAny_nextOf_ascii_item (h1.extBut hsa.extBut D.i1z) hx fun hb h1b hsb => wpAny_pure ?_)
  have hTOb : IsPair hb TO a b := hsb.extBut _ _ D.TOi1 (hsa.extBut _ _ D.TOz hTO)
  refine wpAny_bind (wpAny_seqItems hTOb rfl ?_)
  refine wpAny_bind (wpAny_updateSeq_pair hTOb fun hc hTOc hsc => ?_)
  replace hTOc : IsPair hc TO (.str ⟨#[cx]⟩ s.toks) b := hTOc
  refine wpAny_bind (wpAny_letGo (wpAny_pure ?_))
  refine wpAny_bind (wpAny_bind (wpAny_onRaise ?_))
  show wpAny _ _ (Builtin.SmallTypes.nextOf (.ref i2) >>= _) _ _ _
  refine wpAny_bind (wpAny_nextOf_ascii_item (((h2.extBut hsa.extBut D.i2z).extBut hsb.extBut D.i12.symm).extBut hsc.extBut D.TOi2.symm) hy fun hd h2d hsd => wpAny_pure ?_)
  have hTOd : IsPair hd TO (.str ⟨#[cx]⟩ s.toks) b := hsd.extBut _ _ D.TOi2 hTOc
  refine wpAny_bind (wpAny_seqItems hTOd rfl ?_)
  refine wpAny_bind (wpAny_updateSeq_pair hTOd fun he hTOe hse => ?_)
  replace hTOe : IsPair he TO (.str ⟨#[cx]⟩ s.toks) (.str ⟨#[cy]⟩ (s.toks + 1)) := hTOe
  refine wpAny_bind (wpAny_letGo (wpAny_pure (wpAny_pure ?_)))
  refine wpAny_bind (wpAny_seqItems hTOe rfl ?_)
  refine wpAny_bind (wpAny_newTuple ?_)
  have hsz : he.objs.size = s.heap.objs.size := by rw [hse.1, hsd.1, hsc.1, hsb.1, hsa.1]
  have hze : IsZip he z TI TO .ellipsis := hse.extBut _ _ D.TOz.symm (hsd.extBut _ _ D.i2z.symm (hsc.extBut _ _ D.TOz.symm (hsb.extBut _ _ D.i1z.symm hza)))
  have hke : ∀ c o, c ≠ z → c ≠ TO → c ≠ i1 → c ≠ i2 → s.heap.get? c = some o → he.get? c = some o := fun c o c1 c2 c3 c4 e =>
    hse.extBut _ _ c2 (hsd.extBut _ _ c4 (hsc.extBut _ _ c2 (hsb.extBut _ _ c3 (hsa.extBut _ _ c1 e))))
  have h1e : AIt he i1 x t (k + 1) := ((h1b.extBut hsc.extBut D.TOi1.symm).extBut hsd.extBut D.i12).extBut hse.extBut D.TOi1.symm
  have h2e : AIt he i2 y u (k + 1) := h2d.extBut hse.extBut D.TOi2.symm
  have hzlt : z < he.objs.size := Heap.lt_size hze
  show wpAny _ _ (Builtin.SmallTypes.ownedTupleHandOut (.ref z) (.ref he.objs.size) >>= _) _ _ _
  refine wpAny_bind ?_
  unfold Builtin.SmallTypes.ownedTupleHandOut
  have hzf : IsZip (he.push { cls := .type "tuple", data := .seq #[Value.str ⟨#[cx]⟩ s.toks, Value.str ⟨#[cy]⟩ (s.toks + 1)] }) z TI TO .ellipsis := Heap.get?_push_of_some _ hze
  refine wpAny_bind (wpAny_setField_rec hzf (by simp) fun hg hzg hsg => ?_)
  replace hzg : IsZip hg z TI TO (rawInt he.objs.size) := hzg
  refine wpAny_setField_rec hzg (by simp) fun hi hzi hsi => ?_
  replace hzi : IsZip hi z TI TO (rawInt he.objs.size) := hzi
  have up : ∀ c o, c ≠ z → he.get? c = some o → hi.get? c = some o := fun c o c1 e => hsi.extBut _ _ c1 (hsg.extBut _ _ c1 (Heap.get?_push_of_some _ e))
  have hTi : IsPair hi he.objs.size (.str ⟨#[cx]⟩ s.toks) (.str ⟨#[cy]⟩ (s.toks + 1)) := hsi.extBut _ _ (Nat.ne_of_gt hzlt) (hsg.extBut _ _ (Nat.ne_of_gt hzlt) (Heap.get?_push_size _ rfl))
  rw [hsz] at hzi hTi
  refine wpAny_pure ⟨_, rfl, ?_⟩
  show Q (.ref he.objs.size) _
  rw [hsz]
  exact hQ hi _ _ _ hzi (up _ _ D.TOz hTOe) (ait_at h1e fun o e => up _ o D.i1z e) (ait_at h2e fun o e => up _ o D.i2z e) hTi fun c o c1 c2 c3 c4 e => up c o c1 (hke c o c1 c2 c3 c4 e)
/-- two texts zipped: the end of the first -/
theorem zs_end {z TI TO i1 i2 : Addr} {k : Nat} {x y : Str} {t u : Tok} {a b : Value} {Q : PySem.Fin → Shared → Prop} (hh : A.handled = none) (D : ZApart z TI TO i1 i2)
    (hz : IsZip s.heap z TI TO .none) (hTI : IsPair s.heap TI (.ref i1) (.ref i2)) (_hTO : IsPair s.heap TO a b)
    (h1 : AIt s.heap i1 x t k) (_h2 : AIt s.heap i2 y u k) (hend : x.cps[k]? = none)
    (hE : ∀ h' e, (∀ c o, c ≠ z → c ≠ TO → c ≠ i1 → c ≠ i2 → s.heap.get? c = some o → h'.get? c = some o) → (∃ o, h'.get? e = some o ∧ o.cls = .type "StopIteration") → E (.ref e) { s with heap := h' }) :
    wpAny (model prog w) A (Builtin.«zip.__next__» ⟨[.ref z], []⟩) Q E s := by
  show wpAny _ _ (field (.ref z) 2 >>= _) _ _ _
  refine wpAny_bind (wpAny_field hz rfl (x := .bool false) rfl ?_)
  show wpAny _ _ (field (.ref z) 3 >>= _) _ _ _
  refine wpAny_bind (wpAny_field hz rfl (x := .ref TI) rfl ?_)
  refine wpAny_bind (wpAny_seqItems hTI rfl ?_)
  show wpAny _ _ (Builtin.SmallTypes.ownedTupleIsFree (.ref z) >>= _) _ _ _
  refine wpAny_bind ?_
  unfold Builtin.SmallTypes.ownedTupleIsFree
  refine wpAny_bind (wpAny_field hz rfl (x := .none) rfl (wpAny_pure ?_))
  simp only [if_true]
  refine wpAny_bind (wpAny_rule ?_)
  refine wpAny_bind (wpAny_field hz rfl (x := .ref TO) rfl ?_)
  refine wpAny_bind (wpAny_setField_rec hz (by simp) fun ha hza hsa => ?_)
  replace hza : IsZip ha z TI TO .ellipsis := hza
  refine wpAny_bind ?_
  simp only [List.zipIdx_cons, List.zipIdx_nil, List.forIn_cons, List.forIn_nil]
  refine wpAny_bind (wpAny_bind (wpAny_onRaise ?_))
  show wpAny _ _ (Builtin.SmallTypes.nextOf (.ref i1) >>= _) _ _ _
  refine wpAny_bind (wpAny_nextOf_ascii_end hh (h1.extBut hsa.extBut D.i1z) hend fun hb e hsb he => ?_)
  (first | (refine' ex_2_0 he ?_; (try clear he); intro oe hoe hce) | (refine' ex_1_1 he ?_; (try clear he); intro oe hoe hce) | (obtain ⟨oe, hoe, hce⟩ := he))
  have hzb : IsZip hb z TI TO .ellipsis := hsb _ _ D.i1z.symm hza
  have hez : e ≠ z := fun x => by subst x; rw [hzb] at hoe; cases hoe; simp at hce
  refine wpAny_setField_rec hzb (by simp) fun hc _ hsc => hE hc e (fun c o c1 _ c3 _ x => hsc.extBut _ _ c1 (hsb _ _ c3 (hsa.extBut _ _ c1 x))) ⟨oe, hsc.extBut _ _ hez hoe, hce⟩
end
noncomputable abbrev ascii (x : Str) : Prop := x.cps.all (· < 128) = true
noncomputable abbrev zsH1 (h : Heap) (x : Str) (t : Tok) : Heap := h.push { cls := .type "str_ascii_iterator", data := .fields #[.str x t, .int 0 0] }
noncomputable abbrev zsH2 (h : Heap) (x y : Str) (t u : Tok) : Heap := (zsH1 h x t).push { cls := .type "str_ascii_iterator", data := .fields #[.str y u, .int 0 0] }
noncomputable abbrev zsH3 (h : Heap) (x y : Str) (t u : Tok) : Heap := (zsH2 h x y t u).push { cls := .type "tuple", data := .seq #[.ref h.objs.size, .ref (zsH1 h x t).objs.size] }
noncomputable abbrev zsH4 (h : Heap) (x y : Str) (t u : Tok) : Heap := (zsH3 h x y t u).push { cls := .type "tuple", data := .seq #[.none, .none] }
noncomputable abbrev zsH5 (h : Heap) (x y : Str) (t u : Tok) : Heap := (zsH4 h x y t u).push { cls := .type "zip", data := .fields #[.none, .bool false, .bool false, .ref (zsH2 h x y t u).objs.size, .ref (zsH3 h x y t u).objs.size] }
theorem meets_zip_strs (x y : Str) (t u : Tok) (hx : ascii x) (hy : ascii y) :
    Meets (Builtin.«zip.__new__» ⟨[.type "zip", .str x t, .str y u], []⟩) (fun _ R s =>
      R (.ok (.ret (.ref (zsH4 s.heap x y t u).objs.size))) { s with heap := zsH5 s.heap x y t u }) :=
  .of_wp fun prog w A R s h => by
    (first | (refine' ex_3_1 s ?_; (try clear s); intro hp g d tk os) | (refine' ex_2_2 s ?_; (try clear s); intro hp g d tk os) | (obtain ⟨hp, g, d, tk, os⟩ := s))
    have hsub := sub_zip
    with_unfolding_all (
      refine wpAny_bind ?_
      refine wpAny_bind ?_
      refine wpAny_pure ?_
      (apply wpAny_ite_false; rfl)
      refine wpAny_bind ?_
      refine wpAny_of_eq hsub ?_
      (apply wpAny_ite_false; rfl)
      refine wpAny_pure ?_
      (apply wpAny_ite_false; rfl)
      refine wpAny_bind ?_
      refine wpAny_bind ?_
      refine wpAny_bind ?_
      refine wpAny_bind ?_
      refine wpAny_holding ?_
      refine wpAny_pyIter_ascii hx ?_
      refine wpAny_pure ?_
      refine wpAny_bind ?_
      refine wpAny_bind ?_
      refine wpAny_holding ?_
      refine wpAny_pyIter_ascii hy ?_
      refine wpAny_pure ?_
      refine wpAny_pure ?_
      refine wpAny_pure ?_
      refine wpAny_bind ?_
      refine wpAny_newTuple (hsz := Nat.le_of_ble_eq_true rfl) ?_
      refine wpAny_bind ?_
      refine wpAny_newTuple (hsz := Nat.le_of_ble_eq_true rfl) ?_
      refine wpAny_bind ?_
      refine wpAny_bind ?_
      refine wpAny_alloc' ?_
      refine wpAny_pure ?_
      refine wpAny_pure ?_
    )
    exact ⟨_, rfl, h⟩
section
variable {prog : Program} {w : World} {A : Around} {E : Value → Shared → Prop} {s : Shared}
theorem call_zip_strs {x y : Str} {t u : Tok} (hx : ascii x) (hy : ascii y) {Q : Value → Shared → Prop}
    (h : ∀ h', IsZip h' (s.heap.objs.size + 4) (s.heap.objs.size + 2) (s.heap.objs.size + 3) .none → IsPair h' (s.heap.objs.size + 2) (.ref s.heap.objs.size) (.ref (s.heap.objs.size + 1)) →
      IsPair h' (s.heap.objs.size + 3) .none .none → AIt h' s.heap.objs.size x t 0 → AIt h' (s.heap.objs.size + 1) y u 0 → h'.objs.size = s.heap.objs.size + 5 →
      (∀ c o, s.heap.get? c = some o → h'.get? c = some o) → Q (.ref (s.heap.objs.size + 4)) { s with heap := h' }) :
    wpAny (model prog w) A (call (.type "zip") [.str x t, .str y u]) Q E s := by
  refine callType_new F.called_zip (by decide) (F.typeCall_zip_2 _ _) (F.newCall_zip_2 _ _) (fun obj => F.args_object_init_3 obj _ _) F.entry_zip_new
    (meets_zip_strs x y t u hx hy) ?_
  have z1 : (zsH1 s.heap x t).objs.size = s.heap.objs.size + 1 := Heap.size_push ..
  have z2 : (zsH2 s.heap x y t u).objs.size = s.heap.objs.size + 2 := by rw [Heap.size_push, z1]
  have z3 : (zsH3 s.heap x y t u).objs.size = s.heap.objs.size + 3 := by rw [Heap.size_push, z2]
  have z4 : (zsH4 s.heap x y t u).objs.size = s.heap.objs.size + 4 := by rw [Heap.size_push, z3]
  have z5 : (zsH5 s.heap x y t u).objs.size = s.heap.objs.size + 5 := by rw [Heap.size_push, z4]
  have g5 : (zsH5 s.heap x y t u).get? (zsH4 s.heap x y t u).objs.size = some _ := Heap.get?_push_size _ rfl
  have g4 : (zsH5 s.heap x y t u).get? (zsH3 s.heap x y t u).objs.size = some _ := Heap.get?_push_of_some _ (Heap.get?_push_size _ rfl)
  have g3 : (zsH5 s.heap x y t u).get? (zsH2 s.heap x y t u).objs.size = some _ := Heap.get?_push_of_some _ (Heap.get?_push_of_some _ (Heap.get?_push_size _ rfl))
  have g2 : (zsH5 s.heap x y t u).get? (zsH1 s.heap x t).objs.size = some _ := Heap.get?_push_of_some _ (Heap.get?_push_of_some _ (Heap.get?_push_of_some _ (Heap.get?_push_size _ rfl)))
  have g1 : (zsH5 s.heap x y t u).get? s.heap.objs.size = some _ := Heap.get?_push_of_some _ (Heap.get?_push_of_some _ (Heap.get?_push_of_some _ (Heap.get?_push_of_some _ (Heap.get?_push_size _ rfl))))
  show _ ∧ _
  rw [z2, z3, z4] at g5
  rw [z1, z2] at g3
  rw [z3] at g4
  rw [z1] at g2
  rw [z4]
  exact ⟨⟨_, g5, rfl⟩, h _ g5 g3 g4 ⟨_, g1, rfl, rfl⟩ ⟨_, g2, rfl, rfl⟩ z5 fun c o x =>
    Heap.get?_push_of_some _ (Heap.get?_push_of_some _ (Heap.get?_push_of_some _ (Heap.get?_push_of_some _ (Heap.get?_push_of_some _ x))))⟩
/-- the zip's turns -/
theorem zs_turns {elts : List Expr} {kk : Nat} {pos : Pos} (hh : A.handled = none) (z TI TO i1 i2 : Addr) (D : ZApart z TI TO i1 i2) (x y : Str) (t u : Tok) (n : Nat) (hxn : x.cps.size = n) (hyn : y.cps.size = n) :
    KTurns prog w A (.Tuple elts kk pos) z [z, TI, TO, i1, i2] [z, TO, i1, i2] n
      (fun i v h => ∃ T cx cy ux uy, v = .ref T ∧ x.cps[i]? = some cx ∧ y.cps[i]? = some cy ∧ h.IsTuple T #[.str ⟨#[cx]⟩ ux, .str ⟨#[cy]⟩ uy])
      (fun i v h => ∃ T cx cy ux uy, v = .ref T ∧ x.cps[i]? = some cx ∧ y.cps[i]? = some cy ∧ h.IsTuple T #[.str ⟨#[cx]⟩ ux, .str ⟨#[cy]⟩ uy] ∧ IsZip h z TI TO (rawInt T) ∧ IsPair h TI (.ref i1) (.ref i2) ∧ (∃ a b, IsPair h TO a b) ∧ AIt h i1 x t (i + 1) ∧ AIt h i2 y u (i + 1) ∧ T ≠ z)
      (fun i h => IsZip h z TI TO .none ∧ IsPair h TI (.ref i1) (.ref i2) ∧ (∃ a b, IsPair h TO a b) ∧ AIt h i1 x t i ∧ AIt h i2 y u i) where
  sub := fun c hc => by simp at hc ⊢; rcases hc with rfl | rfl | rfl | rfl <;> simp
  frame := fun i h h' hst hk => by
    obtain ⟨hz, hTI, ⟨a, b, hTO⟩, h1, h2⟩ := hst
    exact ⟨hk z (by simp) _ hz, hk TI (by simp) _ hTI, ⟨a, b, hk TO (by simp) _ hTO⟩, ait_at h1 fun o e => hk i1 (by simp) o e, ait_at h2 fun o e => hk i2 (by simp) o e⟩
  item := fun i s Q E hi hst hQ => by
    obtain ⟨hz, hTI, ⟨a, b, hTO⟩, h1, h2⟩ := hst
    have hix : i < x.cps.size := by omega
    have hiy : i < y.cps.size := by omega
    have hT : s.TypeIs (.ref z) "zip" := ⟨_, hz, rfl⟩
    unfold pyNext
    refine wpAny_bind (wpAny_attempt (wpAny_callSpecial?_slot (name := Str.ofString "__next__") hT F.slot_zip_next
      (wpAny_call_entry F.slot_zip_next hT F.entry_zip_next
        (zs_item D hz hTI hTO h1 h2 (Array.getElem?_eq_getElem hix) (Array.getElem?_eq_getElem hiy) fun h' tk u1 u2 a1 a2 a3 a4 a5 hk => wpAny_pure ?_) (F.args_zip_next_1 _))))
    refine hQ (.ref s.heap.objs.size) h' tk ⟨s.heap.objs.size, _, _, u1, u2, rfl, Array.getElem?_eq_getElem hix, Array.getElem?_eq_getElem hiy, ⟨_, a5, rfl, _, rfl⟩, a1, hk _ _ D.TIz D.TITO D.TIi1 D.TIi2 hTI, ⟨_, _, a2⟩, a3, a4, Nat.ne_of_gt (Heap.lt_size hz)⟩ fun c o hc e => hk c o (fun x => hc (by simp [x])) (fun x => hc (by simp [x])) (fun x => hc (by simp [x])) (fun x => hc (by simp [x])) e
  go := fun i v s Q E hm hQ => by
    obtain ⟨T, cx, cy, ux, uy, rfl, hx, hy, hT, hz, hTI, ⟨a, b, hTO⟩, h1, h2, hTz⟩ := hm
    refine wpAny_letOwnedTupleGo_zip hz fun h' hz' hs' => hQ h' ⟨T, cx, cy, ux, uy, rfl, hx, hy, hT.at fun o e => hs'.extBut _ _ hTz e⟩ ⟨hz', hs'.extBut _ _ D.TIz hTI, ⟨a, b, hs'.extBut _ _ D.TOz hTO⟩, h1.extBut hs'.extBut D.i1z, h2.extBut hs'.extBut D.i2z⟩
      fun c o hc e => hs'.extBut _ _ (fun x => hc (by simp [x])) e
  done := fun s Q E hst hQ => by
    obtain ⟨hz, hTI, ⟨a, b, hTO⟩, h1, h2⟩ := hst
    have hT : s.TypeIs (.ref z) "zip" := ⟨_, hz, rfl⟩
    unfold pyNext
    refine wpAny_bind (wpAny_attempt (wpAny_callSpecial?_slot (name := Str.ofString "__next__") hT F.slot_zip_next
      (wpAny_call_entry F.slot_zip_next hT F.entry_zip_next (zs_end hh D hz hTI hTO h1 h2 (Array.getElem?_eq_none (by omega)) fun h' e hk he => ?_) (F.args_zip_next_1 _))))
    (first | (refine' ex_2_0 he ?_; (try clear he); intro o ho hc) | (refine' ex_1_1 he ?_; (try clear he); intro o ho hc) | (obtain ⟨o, ho, hc⟩ := he))
    refine wpAny_bind (wpAny_isInstance (T := "StopIteration") (b := true) ⟨o, ho, hc⟩ isSubtype_stop ?_)
    exact wpAny_pure (hQ h' s.toks fun c o hc e => hk c o (fun x => hc (by simp [x])) (fun x => hc (by simp [x])) (fun x => hc (by simp [x])) (fun x => hc (by simp [x])) e)
end
end
theorem resetE2 : True := by w_top off; trivial
section
set_option maxRecDepth 100000
set_option maxHeartbeats 2000000
section
variable {prog : Program} {w : World} {A : Around} {E : Value → Shared → Prop} {s : Shared} {h₀ h' : Heap} {L : Addr} {m m' : Str → Option Value} {env : Env} {body : List Stmt} {news ext X lg' : List (Addr × Obj)} {av : List Addr}
theorem fend_sub {K : (Str → Option Value) → List (Addr × Obj) → Prop} {tk' : Nat} (lg' : List (Addr × Obj)) (F : Fr h₀ L h' m') (N : News h₀ L h' X) (R : ∀ p ∈ ext ++ lg', p ∈ X) (O : Off av lg') (k : K m' lg') :
    FEnd h₀ L ext av s K { s with heap := h', toks := tk' } := FEnd.intro lg' F (fun p hp => N p (R p hp)) O k
theorem cend_sub {K : List (Addr × Obj) → Prop} {tk' : Nat} (lg' : List (Addr × Obj)) (F : Fr h₀ L h' m) (N : News h₀ L h' X) (R : ∀ p ∈ ext ++ lg', p ∈ X) (O : Off av lg') (k : K lg') :
    CEnd h₀ L m ext av s K { s with heap := h', toks := tk' } := CEnd.intro lg' F (fun p hp => N p (R p hp)) O k
theorem pick_cons {X r : List (Addr × Obj)} {q e : Addr × Obj} (h : ∀ p ∈ q :: r, p ∈ X) : ∀ p ∈ q :: e :: r, p ∈ e :: X := by
  intro p hp
  rcases List.mem_cons.mp hp with rfl | hp
  · exact .tail _ (h _ (.head _))
  · rcases List.mem_cons.mp hp with rfl | hp
    · exact .head _
    · exact .tail _ (h _ (.tail _ hp))
theorem pick_app {X r tl : List (Addr × Obj)} {q : Addr × Obj} (h : ∀ p ∈ q :: r, p ∈ X) : ∀ p ∈ q :: (tl ++ r), p ∈ tl ++ X := by
  intro p hp
  rcases List.mem_cons.mp hp with rfl | hp
  · exact List.mem_append_right _ (h _ (.head _))
  · rcases List.mem_append.mp hp with hp | hp
    · exact List.mem_append_left _ hp
    · exact List.mem_append_right _ (h _ (.tail _ hp))
theorem pick_ext {X r ext : List (Addr × Obj)} {q : Addr × Obj} {av : List Addr} (_ : HasAv ext av) (h : ∀ p ∈ q :: r, p ∈ X) : ∀ p ∈ q :: r, p ∈ ext ++ X := fun p hp => List.mem_append_right _ (h p hp)
theorem pick_nil {X : List (Addr × Obj)} {q : Addr × Obj} (h : q ∈ X) : ∀ p ∈ q :: ([] : List (Addr × Obj)), p ∈ X := by
  intro p hp
  rw [List.mem_singleton.mp hp]; exact h
theorem small_up {n : Nat} (h : n ≤ 1000) : Builtin.Range.small 0 (n : Int) 1 = true := small_one (by omega) (by omega) (by omega) (by omega)
theorem size_up {n : Nat} : Builtin.Range.rangeSize 0 (n : Int) 1 = ((n : Nat) : Int) := by
  rw [rangeSize_one]
  split <;> omega
theorem small_dn {n : Nat} (h : n ≤ 1000) : Builtin.Range.small ((n : Int) - 1) (-1) (-1) = true := PySem.W.small_down (by omega) (by omega) (by omega) (by omega)
theorem size_dn {n : Nat} : Builtin.Range.rangeSize ((n : Int) - 1) (-1) (-1) = ((n : Nat) : Int) := by
  unfold Builtin.Range.rangeSize
  rw [if_neg (by decide)]
  split
  · have e : -(-1 : Int) = 1 := by decide
    rw [e, Int.ediv_one]; omega
  · omega
theorem range_snoc {α : Type} (f : Nat → α) (i : Nat) : (List.range (i + 1)).map f = (List.range i).map f ++ [f i] := by rw [List.range_succ, List.map_append]; rfl
/-- a for over a range that appends one value a turn to the list g -/
theorem for_collect {P : Params} {Q : Flow → Shared → Prop} {r : Addr} {a b c : Int} {t₀ u₀ v₀ : Tok} {n : Nat} {x : Str} {px : Pos} (g : Addr) (rest : List (Addr × Obj)) (st : List Str) (f : Nat → V)
    (hh : A.handled = none) (hr : IsRange s.heap r a b c t₀ u₀ v₀) (hsm : Builtin.Range.small a b c = true) (hn : Builtin.Range.rangeSize a b c = ((n : Nat) : Int))
    (hx : env.kindOf x = some .local) (hp : (env.scope.kind == .class || (env.scope.kind == .module && env.locals != env.globals)) = false)
    (F : Fr h₀ env.locals s.heap m) (N : News h₀ env.locals s.heap X) (hX : ∀ q ∈ (g, PySem.W.listOf #[] 0) :: rest, q ∈ X) (hg : ∀ p ∈ rest, p.1 ≠ g)
    (turn : ∀ (i : Nat) (t : Tok) (u : Str → Option Value) (vs : List Value) (k : Nat) (tl ext : List (Addr × Obj)) (av : List Addr) (h : Heap) (tk : Nat), i < n → VAll P (tl ++ rest) vs ((List.range i).map f) → vs.length = i → (∀ p ∈ tl ++ rest, p.1 ≠ g) →
      Fr h₀ env.locals h (fun z => if z = x then some (.int (a + (i : Int) * c) t) else if st.contains z then u z else m z) → News h₀ env.locals h (ext ++ (g, PySem.W.listOf vs.toArray k) :: (tl ++ rest)) → Off av ((g, PySem.W.listOf vs.toArray k) :: (tl ++ rest)) → HasAv ext av → ExtIn ext av [] →
      wpAny (model prog w) A (execs body env) (FPost h₀ env.locals ext av { s with heap := h, toks := tk } (fun m' lg => ∃ v tl' k', lg = (g, PySem.W.listOf (vs.toArray.push v) k') :: (tl' ++ (tl ++ rest)) ∧ VIn P (tl' ++ (tl ++ rest)) v (f i) ∧ (∀ p ∈ tl', p.1 ≠ g) ∧ ∀ z, z ≠ x → st.contains z = false → m' z = m z) Q) E { s with heap := h, toks := tk })
    (done : ∀ (h : Heap) (tk : Nat) (u : Str → Option Value) (vs : List Value) (k : Nat) (tl : List (Addr × Obj)), VAll P (tl ++ rest) vs ((List.range n).map f) → vs.length = n → (∀ p ∈ tl ++ rest, p.1 ≠ g) → Fr h₀ env.locals h (fun z => if (x :: st).contains z then u z else m z) → News h₀ env.locals h ((g, PySem.W.listOf vs.toArray k) :: (tl ++ rest)) → Q .next { s with heap := h, toks := tk }) :
    ForSrc prog w A h₀ env (.Name x px) body Q E (.ref r) s := by
  refine for_range (news := (g, PySem.W.listOf #[] 0) :: rest) (fun i m' lg => ∃ vs k tl, lg = (g, PySem.W.listOf vs.toArray k) :: (tl ++ rest) ∧ VAll P (tl ++ rest) vs ((List.range i).map f) ∧ vs.length = i ∧ (∀ p ∈ tl ++ rest, p.1 ≠ g) ∧ ∀ z, z ≠ x → st.contains z = false → m' z = m z)
    hh hr hsm hn F (fun p hp => N p (hX p hp)) ⟨[], 0, [], rfl, .nil, rfl, hg, fun _ _ _ => rfl⟩ ?_ ?_
  · rintro gg i t m₁ lg ext av h tk hi ⟨vs, k, tl, rfl, hv, hl, hgt, hm⟩ F₁ N₁ h1 h2 h3
    refine wpAny_assign_Name (wpAny_storeName_local hx F₁.ns (fun h₂ hn₂ hs₂ => ?_) hp)
    have hL₀ : h₀.get? env.locals = none := Heap.get?_none_of_le F₁.above
    have F₂ : Fr h₀ env.locals h₂ (fun z => if z = x then some (.int (a + (i : Int) * c) t) else m₁ z) := ⟨hn₂, fun b o e => hs₂.extBut b o (fun q => by rw [q, hL₀] at e; cases e) (F₁.keep b o e), F₁.above⟩
    have e : (fun z => if z = x then some (.int (a + (i : Int) * c) t) else m₁ z) = fun z => if z = x then some (.int (a + (i : Int) * c) t) else if st.contains z then m₁ z else m z := by
      funext z
      by_cases hz : z = x
      · simp only [hz, if_true]
      · simp only [hz, if_false]
        cases hst : st.contains z with
        | true => simp
        | false => simp [hm z hz hst]
    rw [e] at F₂
    refine wpAny_mono (turn i t m₁ vs k tl ext av h₂ _ hi hv hl hgt F₂ (fun p hp => ⟨hs₂.extBut _ _ (N₁ p hp).2.1 (N₁ p hp).1, (N₁ p hp).2⟩) h1 h2 h3) (fun fl s₄ h₄ => ?_) fun _ _ e => e
    have up : ∀ s₄ : Shared, FEnd h₀ env.locals ext av { s with heap := h₂, toks := s₄.toks } (fun m' lg => ∃ v tl' k', lg = (g, PySem.W.listOf (vs.toArray.push v) k') :: (tl' ++ (tl ++ rest)) ∧ VIn P (tl' ++ (tl ++ rest)) v (f i) ∧ (∀ p ∈ tl', p.1 ≠ g) ∧ ∀ z, z ≠ x → st.contains z = false → m' z = m z) s₄ → True := fun _ _ => trivial
    clear up
    have up : ∀ (tk' : Nat) (s₄ : Shared), FEnd h₀ env.locals ext av { s with heap := h₂, toks := tk' } (fun m' lg => ∃ v tl' k', lg = (g, PySem.W.listOf (vs.toArray.push v) k') :: (tl' ++ (tl ++ rest)) ∧ VIn P (tl' ++ (tl ++ rest)) v (f i) ∧ (∀ p ∈ tl', p.1 ≠ g) ∧ ∀ z, z ≠ x → st.contains z = false → m' z = m z) s₄ →
        FEnd h₀ env.locals ext av { s with heap := gg, toks := tk } (fun m' lg => ∃ vs k tl, lg = (g, PySem.W.listOf vs.toArray k) :: (tl ++ rest) ∧ VAll P (tl ++ rest) vs ((List.range (i + 1)).map f) ∧ vs.length = i + 1 ∧ (∀ p ∈ tl ++ rest, p.1 ≠ g) ∧ ∀ z, z ≠ x → st.contains z = false → m' z = m z) s₄ := by
      rintro tk' s₄ ⟨h', tk'', m', lg', rfl, F', N', ha, v, tl', k', rfl, hvi, hgt', hm'⟩
      refine ⟨h', tk'', m', _, rfl, F', N', ha, vs ++ [v], k', tl' ++ tl, ?_, ?_, by simp [hl], ?_, hm'⟩
      · simp
      · rw [range_snoc, List.append_assoc]
        exact (hv.mono fun q hq => List.mem_append_right _ hq).snoc hvi
      · intro p hp
        rw [List.append_assoc] at hp
        rcases List.mem_append.mp hp with hp | hp
        · exact hgt' p hp
        · exact hgt p hp
    cases fl with
    | ret v => exact h₄
    | brk => exact h₄
    | next => exact up _ _ h₄
    | cont => exact up _ _ h₄
  · rintro h tk m' lg F' N' ⟨vs, k, tl, rfl, hv, hl, hgt, hm⟩
    have e : m' = fun z => if (x :: st).contains z then m' z else m z := by
      funext z
      by_cases hz : (x :: st).contains z = true
      · rw [if_pos hz]
      · rw [if_neg hz]
        have h1 : (x :: st).contains z = false := by simpa using hz
        rw [List.contains_cons] at h1
        have h2 := Bool.or_eq_false_iff.mp h1
        exact hm z (by simpa using h2.1) h2.2
    rw [e] at F'
    exact done h tk m' vs k tl hv hl hgt F' N'
section
variable {scope : Scope} {cl : List (Str × Addr)} {elt : Expr} {Fin : Shared → List Value → List (Addr × Obj) → Prop} {x : Str} {px : Pos}
/-- a comprehension over a range, its element one value a turn -/
theorem cmp_collect {P : Params} {r : Addr} {a b c : Int} {t₀ u₀ v₀ : Tok} {n : Nat} (rest : List (Addr × Obj)) (f : Nat → V) (hh : A.handled = none) (hr : IsRange s.heap r a b c t₀ u₀ v₀) (hsm : Builtin.Range.small a b c = true) (hn : Builtin.Range.rangeSize a b c = ((n : Nat) : Int)) (hsz : n ≤ sizeLine)
    (hx : scope.names.lookup x = some .local) (hkind : scope.kind = .function) (F : Fr h₀ L s.heap m) (N : News h₀ L s.heap X) (hX : ∀ q ∈ rest, q ∈ X)
    (turn : ∀ (i : Nat) (t : Tok) (ys : List Value) (tl : List (Addr × Obj)) C oC m₂ ext av h tk E', i < n → VAll P (tl ++ rest) ys ((List.range i).map f) → NsObj oC m₂ → m₂ x = some (.int (a + (i : Int) * c) t) → (C, oC) ∈ ext → Fr h₀ L h m → News h₀ L h (ext ++ (tl ++ rest)) → Off av (tl ++ rest) → HasAv ext av → ExtIn ext av [] →
      wpAny (model prog w) A (eval elt (compEnvC scope cl C env)) (fun y s'' => CEnd h₀ L m ext av { s with heap := h, toks := tk } (fun lg => ∃ tl', lg = tl' ++ (tl ++ rest) ∧ VIn P (tl' ++ (tl ++ rest)) y (f i)) s'') E' { s with heap := h, toks := tk })
    (fin : ∀ g ys tl, VAll P (tl ++ rest) ys ((List.range n).map f) → Fin { s with heap := g } ys (tl ++ rest)) :
    CmpSrc prog w A h₀ L m env scope cl (.Name x px) [] elt Fin E (.ref r) s := by
  refine cmp_range (news := rest) (fun i ys lg => ∃ tl, lg = tl ++ rest ∧ VAll P (tl ++ rest) ys ((List.range i).map f)) hh hr hsm hn hsz (binds_name (P' := fun i v => ∃ t, v = .int (a + (i : Int) * c) t) hx hkind (fun i v h hp => hp)) F (fun p hp => N p (hX p hp)) ⟨[], rfl, .nil⟩ ?_ ?_
  · intro g
    constructor
    rintro i ys lg C oC m₂ ext av h tk E' hi ⟨v, ⟨t, rfl⟩, hxv⟩ hoC hCe ⟨tl, rfl, hv⟩ F N h1 h2 h3
    refine wpAny_tests_nil ?_
    simp only [if_true]
    refine wpAny_mono (turn i t ys tl C oC m₂ ext av h tk E' hi hv hoC hxv hCe F N h1 h2 h3) (fun y s₅ h₅ => ?_) fun _ _ e => e
    obtain ⟨h', tk', lg', e, F', N', ha, tl', rfl, hvi⟩ := h₅
    refine ⟨h', tk', _, e, F', N', ha, tl' ++ tl, by simp, ?_⟩
    rw [range_snoc, List.append_assoc]
    exact (hv.mono fun q hq => List.mem_append_right _ hq).snoc hvi
  · rintro g ys lg ⟨tl, rfl, hv⟩
    exact fin g ys tl hv
/-- a comprehension over a list -/
theorem cmp_mapl {P : Params} {ax : Addr} {vs : List Value} {ds : List V} (rest : List (Addr × Obj)) (f : Nat → V) (hh : A.handled = none) (hl : s.heap.IsList ax vs.toArray) (hd : VAll P rest vs ds) (hsz : vs.length ≤ sizeLine)
    (hx : scope.names.lookup x = some .local) (hkind : scope.kind = .function) (F : Fr h₀ L s.heap m) (N : News h₀ L s.heap X) (hX : ∀ q ∈ rest, q ∈ X)
    (turn : ∀ (i : Nat) (v : Value) (d : V) (ys : List Value) (tl : List (Addr × Obj)) C oC m₂ ext av h tk E', ds[i]? = some d → VIn P (tl ++ rest) v d → VAll P (tl ++ rest) ys ((List.range i).map f) → NsObj oC m₂ → m₂ x = some v → (C, oC) ∈ ext → Fr h₀ L h m → News h₀ L h (ext ++ (tl ++ rest)) → Off av (tl ++ rest) → HasAv ext av → ExtIn ext av [ax] →
      wpAny (model prog w) A (eval elt (compEnvC scope cl C env)) (fun y s'' => CEnd h₀ L m ext av { s with heap := h, toks := tk } (fun lg => ∃ tl', lg = tl' ++ (tl ++ rest) ∧ VIn P (tl' ++ (tl ++ rest)) y (f i)) s'') E' { s with heap := h, toks := tk })
    (fin : ∀ g ys tl, VAll P (tl ++ rest) ys ((List.range ds.length).map f) → Fin { s with heap := g } ys (tl ++ rest)) :
    CmpSrc prog w A h₀ L m env scope cl (.Name x px) [] elt Fin E (.ref ax) s := by
  refine cmp_list (news := rest) (fun i ys lg => ∃ tl, lg = tl ++ rest ∧ VAll P (tl ++ rest) ys ((List.range i).map f)) hh hl (by simpa using hsz) (binds_name (P' := fun i v => vs[i]? = some v) hx hkind (fun i v h hp => by simpa using hp)) F (fun p hp => N p (hX p hp)) ⟨[], rfl, .nil⟩ ?_ ?_
  · intro g
    constructor
    rintro i ys lg C oC m₂ ext av h tk E' hi ⟨v, hv0, hxv⟩ hoC hCe ⟨tl, rfl, hv⟩ F N h1 h2 h3
    (first | (refine' ex_2_0 (hd.get hv0) ?_; intro d hdi hvd) | (refine' ex_1_1 (hd.get hv0) ?_; intro d hdi hvd) | (obtain ⟨d, hdi, hvd⟩ := hd.get hv0))
    refine wpAny_tests_nil ?_
    simp only [if_true]
    refine wpAny_mono (turn i v d ys tl C oC m₂ ext av h tk E' hdi (hvd.mono fun q hq => List.mem_append_right _ hq) hv hoC hxv hCe F N h1 h2 h3) (fun y s₅ h₅ => ?_) fun _ _ e => e
    obtain ⟨h', tk', lg', e, F', N', ha, tl', rfl, hvi⟩ := h₅
    refine ⟨h', tk', _, e, F', N', ha, tl' ++ tl, by simp, ?_⟩
    rw [range_snoc, List.append_assoc]
    exact (hv.mono fun q hq => List.mem_append_right _ hq).snoc hvi
  · rintro g ys lg ⟨tl, rfl, hv⟩
    have hlen : vs.toArray.size = ds.length := by simpa using hd.length
    rw [hlen] at hv
    exact fin g ys tl hv
end
theorem VAll.strs {P : Params} {l : List (Addr × Obj)} {ts : List Str} : ∀ {ys : List Value}, VAll P l ys (ts.map V.str) → ∃ q : List (Str × Tok), ys = strValues q ∧ q.map (·.1) = ts := by
  induction ts with
  | nil => intro ys h; cases h; exact ⟨[], rfl, rfl⟩
  | cons t ts ih =>
    intro ys h
    cases h with
    | cons a b =>
      (first | (refine' ex_2_0 (ih b) ?_; intro q ob9; subst ob9; intro hq) | (refine' ex_1_1 (ih b) ?_; intro q ob9; subst ob9; intro hq) | (obtain ⟨q, rfl, hq⟩ := ih b))
      (first | (refine' ex_1_0 (a.xs) ?_; intro u ob9; subst ob9) | (obtain ⟨u, rfl⟩ := a.xs))
      exact ⟨(t, u) :: q, rfl, by rw [List.map_cons, hq]⟩
noncomputable abbrev txt (cs : List Nat) : Str := ⟨cs.toArray⟩
theorem join_one (cs : List Nat) : Txt.join (Str.ofString "") (cs.map fun c : Nat => (⟨#[c]⟩ : Str)) = txt cs := by
  have e : Str.ofString "" = (⟨#[]⟩ : Str) := by decide +kernel
  have h : ∀ cs : List Nat, Str.join (⟨#[]⟩ : Str) (cs.map fun c : Nat => (⟨#[c]⟩ : Str)) = txt cs := by
    intro cs
    induction cs with
    | nil => rfl
    | cons c r ih =>
      cases r with
      | nil => rfl
      | cons d r =>
        have e2 : Str.join (⟨#[]⟩ : Str) ((c :: d :: r).map fun c : Nat => (⟨#[c]⟩ : Str)) = (⟨#[c]⟩ : Str) ++ ⟨#[]⟩ ++ Str.join (⟨#[]⟩ : Str) ((d :: r).map fun c : Nat => (⟨#[c]⟩ : Str)) := rfl
        rw [e2, ih]
        show (⟨(#[c] ++ #[]) ++ (d :: r).toArray⟩ : Str) = _
        simp
  rw [e]
  unfold Txt.join
  rw [StrLaws.glued_eq_join]
  exact h cs
theorem ones_join (cs : List Nat) (hn : cs.length ≤ 1000) : JoinOk (Str.ofString "") (cs.map fun c : Nat => (⟨#[c]⟩ : Str)) = true := by
  unfold JoinOk
  have e : (Str.ofString "").length = 0 := by decide +kernel
  rw [StrLaws.joinFits (B := 1) (fun y hy => by (first | (refine' ex_2_0 (List.mem_map.mp hy) ?_; intro i _ ob9; subst ob9) | (refine' ex_1_1 (List.mem_map.mp hy) ?_; intro i _ ob9; subst ob9) | (obtain ⟨i, _, rfl⟩ := List.mem_map.mp hy)); exact Nat.le_refl 1) (by rw [e, List.length_map]; omega)]
  rfl
theorem sign_x : Str.ofString "x" = (⟨#[120]⟩ : Str) := by decide +kernel
theorem sign_dot : Str.ofString "." = (⟨#[46]⟩ : Str) := by decide +kernel
theorem VAll.congr {P : Params} {l : List (Addr × Obj)} {ys : List Value} {ds es : List V} (h : VAll P l ys ds) (e : ds = es) : VAll P l ys es := e ▸ h
theorem fend_collect {P : Params} {g : Addr} {vs : List Value} {k k' : Nat} {tl rest : List (Addr × Obj)} {v : Value} {d : V} {x : Str} {st : List Str} {tk' : Nat} (F : Fr h₀ L h' m') (N : News h₀ L h' X) (R : ∀ p ∈ ext ++ (g, PySem.W.listOf (vs.toArray.push v) k') :: (tl ++ rest), p ∈ X) (O : Off av ((g, PySem.W.listOf vs.toArray k) :: (tl ++ rest)))
    (hv : VIn P (tl ++ rest) v d) (hm : ∀ z, z ≠ x → st.contains z = false → m' z = m z) :
    FEnd h₀ L ext av s (fun m' lg => ∃ v tl' k', lg = (g, PySem.W.listOf (vs.toArray.push v) k') :: (tl' ++ (tl ++ rest)) ∧ VIn P (tl' ++ (tl ++ rest)) v d ∧ (∀ p ∈ tl', p.1 ≠ g) ∧ ∀ z, z ≠ x → st.contains z = false → m' z = m z) { s with heap := h', toks := tk' } :=
  FEnd.intro _ F (fun p hp => N p (R p hp)) (off_cons (O _ (.head _)) (off_rest O)) ⟨v, [], k', rfl, hv, (fun _ h => nomatch h), hm⟩
/-- the texts of a list joined -/
theorem join_v {P : Params} {l : List (Addr × Obj)} {D : Addr} {ys : List Value} {ts : List Str} {x : Str} {t : Tok} {kk : Nat} {Q : Value → Shared → Prop} (N : News h₀ L s.heap news) (hm : (D, lstO ys kk) ∈ news) (hv : VAll P l ys (ts.map V.str)) (hok : JoinOk x ts = true)
    (h : ∀ t' k, Q (.str (Txt.join x ts) t') { s with toks := k }) : wpAny (model prog w) A (call (.builtin "str.join") [.str x t, .ref D]) Q E s := by
  (first | (refine' ex_2_0 (hv.strs) ?_; intro q ob9; subst ob9; intro hq) | (refine' ex_1_1 (hv.strs) ?_; intro q ob9; subst ob9; intro hq) | (obtain ⟨q, rfl, hq⟩ := hv.strs))
  exact SC.join (lst_of N hm) hq hok h
end
end
theorem resetE3 : True := by w_top off; trivial
section
set_option maxRecDepth 100000
set_option maxHeartbeats 2000000
noncomputable abbrev rowsV (R : List (List Nat)) : V := .lst (R.map fun r => V.str (txt r))
/-- a zip made, apart from the ledger -/
inductive ZAt (h₀ : Heap) (L : Addr) (news : List (Addr × Obj)) (z : Addr) (x y : Str) (h : Heap) : Prop where
  | mk TI TO i1 i2 t u : ZApart z TI TO i1 i2 → IsZip h z TI TO .none → IsPair h TI (.ref i1) (.ref i2) → (∃ a b, IsPair h TO a b) → AIt h i1 x t 0 → AIt h i2 y u 0 → (∀ b ∈ [z, TI, TO, i1, i2], h₀.get? b = none ∧ b ≠ L ∧ b < h.objs.size ∧ ∀ p ∈ news, p.1 ≠ b) → ZAt h₀ L news z x y h
section
variable {prog : Program} {w : World} {A : Around} {E : Value → Shared → Prop} {s : Shared} {h₀ h' : Heap} {L : Addr} {m m' : Str → Option Value} {env : Env} {news ext X lg' : List (Addr × Obj)} {av : List Addr} {P : Params}
theorem item_vd {value slice : Expr} {a : Addr} {vs : List Value} {k0 : Nat} {k : Int} {u : Tok} {l : List (Addr × Obj)} {ds : List V} {d : V} {Q : Value → Shared → Prop} (N : News h₀ L s.heap news) (hm : (a, lstO vs k0) ∈ news) (hv : VAll P l vs ds)
    (h0 : 0 ≤ k) (hfit : k < 2 ^ 63) (hd : ds[k.toNat]? = some d) (h : ∀ v, VIn P l v d → Q v s)
    (hs : subscripted slice false (.ref a) (.int k u) = operate [.ref a, .int k u] (getItem (.ref a) (.int k u))) (hg : ∀ r, letTemporaryGo value (.ref a) r = pure ()) :
    wpAny (model prog w) A (subscriptTail value slice (.ref a) (.int k u)) Q E s := by
  (first | (refine' ex_2_0 (hv.get' hd) ?_; intro v hv1 hv2) | (refine' ex_1_1 (hv.get' hd) ?_; intro v hv1 hv2) | (obtain ⟨v, hv1, hv2⟩ := hv.get' hd))
  exact item_lst N hm h0 hfit hv1 (h v hv2) hs hg
theorem item_vs {value slice : Expr} {a : Addr} {vs : List Value} {k0 : Nat} {k : Int} {u : Tok} {l : List (Addr × Obj)} {ds : List V} {x : Str} {Q : Value → Shared → Prop} (N : News h₀ L s.heap news) (hm : (a, lstO vs k0) ∈ news) (hv : VAll P l vs ds)
    (h0 : 0 ≤ k) (hfit : k < 2 ^ 63) (hd : ds[k.toNat]? = some (.str x)) (h : ∀ t, Q (.str x t) s)
    (hs : subscripted slice false (.ref a) (.int k u) = operate [.ref a, .int k u] (getItem (.ref a) (.int k u))) (hg : ∀ r, letTemporaryGo value (.ref a) r = pure ()) :
    wpAny (model prog w) A (subscriptTail value slice (.ref a) (.int k u)) Q E s :=
  item_vd N hm hv h0 hfit hd (fun v hv => by (first | (refine' ex_1_0 (hv.xs) ?_; intro t ob9; subst ob9) | (obtain ⟨t, rfl⟩ := hv.xs)); exact h t) hs hg
theorem len_v {a : Addr} {vs : List Value} {k0 n : Nat} {Q : Value → Shared → Prop} (N : News h₀ L s.heap news) (hm : (a, lstO vs k0) ∈ news) (hl : vs.length = n) (hfit : (n : Int) < 2 ^ 63)
    (h : ∀ t tk, Q (.int n t) { s with toks := tk }) : wpAny (model prog w) A (call (.builtin "len") [.ref a]) Q E s := by
  have e : vs.toArray.size = n := by simpa using hl
  refine len_list (lst_of N hm) (by rw [e]; exact hfit) ?_
  rw [e]
  exact h _ _
theorem cend_imm {rest : List (Addr × Obj)} {x : Str} {t : Tok} {d : V} {tk' : Nat} (F : Fr h₀ L h' m) (N : News h₀ L h' X) (R : ∀ p ∈ ext ++ rest, p ∈ X) (O : Off av rest) (e : d = .str x) :
    CEnd h₀ L m ext av s (fun lg => lg = rest ∧ VIn P rest (.str x t) d) { s with heap := h', toks := tk' } :=
  CEnd.intro _ F (fun p hp => N p (R p hp)) O ⟨rfl, e ▸ VIn.str _ _⟩
theorem cend_new {D : Addr} {o : Obj} {tl tl2 rest : List (Addr × Obj)} {v : Value} {d : V} {tk' : Nat} (F : Fr h₀ L h' m) (N : News h₀ L h' X) (R : ∀ p ∈ ext ++ (tl2 ++ (tl ++ rest)), p ∈ X) (O : Off av (tl2 ++ (tl ++ rest))) (k : VIn P (tl2 ++ (tl ++ rest)) v d) :
    CEnd h₀ L m ext av s (fun lg => ∃ tl', lg = tl' ++ (tl ++ rest) ∧ VIn P (tl' ++ (tl ++ rest)) v d) { s with heap := h', toks := tk' } :=
  CEnd.intro _ F (fun p hp => N p (R p hp)) O ⟨tl2, rfl, k⟩
theorem zip_call {x y : Str} {t u : Tok} {Q : Value → Shared → Prop} (hx : ascii x) (hy : ascii y) (F : Fr h₀ L s.heap m) (N : News h₀ L s.heap news)
    (h : ∀ z h', Fr h₀ L h' m → News h₀ L h' news → ZAt h₀ L news z x y h' → Q (.ref z) { s with heap := h' }) :
    wpAny (model prog w) A (call (.type "zip") [.str x t, .str y u]) Q E s := by
  refine call_zip_strs hx hy fun h' hz hTI hTO h1 h2 hsz hk => ?_
  have fresh : ∀ b, s.heap.objs.size ≤ b → b < s.heap.objs.size + 5 → h₀.get? b = none ∧ b ≠ L ∧ b < h'.objs.size ∧ ∀ p ∈ news, p.1 ≠ b := by
    intro b hb hb2
    refine ⟨?_, ?_, by omega, ?_⟩
    · cases e : h₀.get? b with
      | none => rfl
      | some o => exact absurd (Heap.lt_size (F.keep b o e)) (Nat.not_lt.mpr hb)
    · rintro rfl; exact absurd F.ns.lt (Nat.not_lt.mpr hb)
    · rintro p hp rfl; exact absurd (Heap.lt_size (N p hp).1) (Nat.not_lt.mpr hb)
  refine h _ h' (F.keeps hk) (fun p hp => ⟨hk _ _ (N p hp).1, (N p hp).2⟩) ⟨_, _, _, _, _, _, ⟨?_, ?_, ?_, ?_, ?_, ?_, ?_, ?_, ?_, ?_⟩, hz, hTI, ⟨_, _, hTO⟩, h1, h2, ?_⟩
  all_goals first
    | (refine neN ?_; omega)
    | (intro b hb
       simp only [List.mem_cons, List.not_mem_nil, or_false] at hb
       rcases hb with rfl | rfl | rfl | rfl | rfl <;> exact fresh _ (by omega) (by omega))
section
variable {scope : Scope} {cl : List (Str × Addr)} {elt : Expr} {Fin : Shared → List Value → List (Addr × Obj) → Prop} {xn yn : Str} {px py pt : Pos} {kk : Nat}
/-- a comprehension over two texts zipped, its element one value a turn -/
theorem cmp_zip {z : Addr} {x y : Str} {n : Nat} (rest : List (Addr × Obj)) (f : Nat → V) (hh : A.handled = none) (Z : ZAt h₀ L X z x y s.heap) (hxn : x.cps.size = n) (hyn : y.cps.size = n) (hsz : n ≤ sizeLine)
    (hx : scope.names.lookup xn = some .local) (hy : scope.names.lookup yn = some .local) (hxy : xn ≠ yn) (hkind : scope.kind = .function) (F : Fr h₀ L s.heap m) (N : News h₀ L s.heap X) (hX : ∀ q ∈ rest, q ∈ X)
    (turn : ∀ (i : Nat) (cx cy : Nat) (ux uy : Tok) (ys : List Value) C oC m₂ ext av h tk E', x.cps[i]? = some cx → y.cps[i]? = some cy → VAll P rest ys ((List.range i).map f) → NsObj oC m₂ → m₂ xn = some (.str ⟨#[cx]⟩ ux) → m₂ yn = some (.str ⟨#[cy]⟩ uy) → (C, oC) ∈ ext → Fr h₀ L h m → News h₀ L h (ext ++ rest) → Off av rest → HasAv ext av →
      wpAny (model prog w) A (eval elt (compEnvC scope cl C env)) (fun y s'' => CEnd h₀ L m ext av { s with heap := h, toks := tk } (fun lg => lg = rest ∧ VIn P rest y (f i)) s'') E' { s with heap := h, toks := tk })
    (fin : ∀ g ys, VAll P rest ys ((List.range n).map f) → Fin { s with heap := g } ys rest) :
    CmpSrc prog w A h₀ L m env scope cl (.Tuple [.Name xn px, .Name yn py] kk pt) [] elt Fin E (.ref z) s := by
  obtain ⟨TI, TO, i1, i2, t, u, D, hz, hTI, hTO, h1, h2, fr⟩ := Z
  have W := zs_turns (prog := prog) (w := w) (A := A) (elts := [.Name xn px, .Name yn py]) (kk := kk) (pos := pt) hh z TI TO i1 i2 D x y t u n hxn hyn
  have self : ∀ (s : Shared) (Q : Value → Shared → Prop) (E : Value → Shared → Prop), IsZip s.heap z TI TO .none → Q (.ref z) s → wpAny (model prog w) A (pyIter (.ref z)) Q E s := fun s Q E hz hQ => wpAny_pyIter_zip hz hQ
  refine self s _ _ hz ?_
  refine ⟨z, [z, TI, TO, i1, i2], [z, TO, i1, i2], [TI], n, _, _, _, rest, _, fun i ys lg => lg = rest ∧ VAll P rest ys ((List.range i).map f), rfl, W, fun s Q E st hQ => self s Q E st.1 hQ, hsz, ?_,
    binds_pair (P' := fun i a b => ∃ cx cy ux uy, a = .str ⟨#[cx]⟩ ux ∧ b = .str ⟨#[cy]⟩ uy ∧ x.cps[i]? = some cx ∧ y.cps[i]? = some cy) hh hx hy hxy hkind ?_, ⟨hz, hTI, hTO, h1, h2⟩, fun b hb => (fr b hb).2.2.1, fun hL => (fr L hL).2.1 rfl, ?_, F, fun p hp => N p (hX p hp), ?_, ⟨rfl, .nil⟩, ?_, ?_, ?_⟩
  · rintro i h ⟨hz, hTI, ⟨a, b, hTO⟩, ⟨o1, h1, _⟩, ⟨o2, h2, _⟩⟩ c hc
    simp only [List.mem_cons, List.not_mem_nil, or_false] at hc
    rcases hc with rfl | rfl | rfl | rfl
    · exact ⟨_, hz⟩
    · exact ⟨_, hTO⟩
    · exact ⟨_, h1⟩
    · exact ⟨_, h2⟩
  · rintro i v h ⟨T, cx, cy, ux, uy, rfl, hx, hy, hT⟩ _
    exact ⟨T, _, _, rfl, hT, cx, cy, ux, uy, rfl, rfl, hx, hy⟩
  · intro b hb
    refine (fr b ?_).1
    simp only [List.mem_cons, List.not_mem_nil, or_false] at hb ⊢
    rcases hb with rfl | rfl | rfl | rfl <;> simp
  · intro p hp hb
    refine (fr p.1 ?_).2.2.2 p (hX p hp) rfl
    simp only [List.mem_cons, List.not_mem_nil, or_false] at hb ⊢
    rcases hb with h | h | h | h <;> simp [h]
  · constructor
    rintro i ys lg C oC m₂ ext av h tk E' hi ⟨a, b, ⟨cx, cy, ux, uy, rfl, rfl, hcx, hcy⟩, hxv, hyv⟩ hoC hCe ⟨rfl, hv⟩ F N h1 h2 h3
    refine wpAny_tests_nil ?_
    simp only [if_true]
    refine wpAny_mono (turn i cx cy ux uy ys C oC m₂ ext av h tk E' hcx hcy hv hoC hxv hyv hCe F N h1 h2) (fun y s₅ h₅ => ?_) fun _ _ e => e
    (first | (refine' ex_6_2 h₅ ?_; (try clear h₅); intro h' tk' lg' e F' N' ha ob9; subst ob9; intro hvi) | (refine' ex_4_4 h₅ ?_; (try clear h₅); intro h' tk' lg' e F' N' ha ob9; subst ob9; intro hvi) | (obtain ⟨h', tk', lg', e, F', N', ha, rfl, hvi⟩ := h₅))
    refine ⟨h', tk', _, e, F', N', ha, rfl, ?_⟩
    rw [range_snoc]
    exact hv.snoc hvi
  · intro b hb
    simp only [List.mem_cons, List.not_mem_nil, or_false] at hb ⊢
    rcases hb with rfl | rfl | rfl | rfl | rfl <;> simp
  · rintro ys lg ⟨rfl, hv⟩
    exact fin s.heap ys hv
end
end
end
theorem resetG0 : True := by w_top off; trivial
section
noncomputable def hit (x y wd ht c r : Int) : Bool := decide (x ≤ c ∧ c < x + wd ∧ y ≤ r ∧ r < y + ht)
noncomputable def rowL (x y wd ht : Int) (width : Nat) (r : Int) : List Nat := (List.range width).map fun c : Nat => if hit x y wd ht (c : Int) r then 120 else 46
noncomputable def rasterL (x y wd ht : Int) (width height : Nat) : List (List Nat) := (List.range height).map fun i : Nat => rowL x y wd ht width ((height : Int) - 1 + (i : Int) * -1)
noncomputable def metL (width : Nat) (a b : List Nat) : List Nat := (List.range width).map fun j => if a.getD j 0 = 120 ∧ b.getD j 0 = 120 then 120 else 46
/-- four whole numbers: a rectangle -/
structure Q4 where
  x : Int
  y : Int
  w : Int
  h : Int
noncomputable def Q4.hit (q : Q4) (c r : Int) : Bool := Mine.hit q.x q.y q.w q.h c r
noncomputable def Q4.ras (q : Q4) (width height : Nat) : List (List Nat) := rasterL q.x q.y q.w q.h width height
noncomputable def metRows (height width : Nat) (A B : List (List Nat)) : List (List Nat) := (List.range height).map fun i => metL width (A.getD i []) (B.getD i [])
/-- a mark for picture: the rectangle of a fill, its clips -/
structure PMk where
  fill : Option Q4
  clips : List Q4
/-- a grid of cells -/
noncomputable def grid (height width : Nat) (f : Nat → Nat → Nat) : List (List Nat) := (List.range height).map fun i => (List.range width).map fun j => f i j
theorem grid_at {height width : Nat} {f : Nat → Nat → Nat} {i : Nat} (h : i < height) : (grid height width f).getD i [] = (List.range width).map fun j => f i j := by
  simp [grid, List.getD, h]
theorem row_at {width : Nat} {f : Nat → Nat} {j : Nat} (h : j < width) : ((List.range width).map f).getD j 0 = f j := by
  simp [List.getD, h]
theorem grid_congr {height width : Nat} {f g : Nat → Nat → Nat} (h : ∀ i j, i < height → j < width → f i j = g i j) : grid height width f = grid height width g := by
  unfold grid
  refine List.map_congr_left fun i hi => List.map_congr_left fun j hj => h i j (List.mem_range.mp hi) (List.mem_range.mp hj)
theorem ras_grid (q : Q4) (width height : Nat) : q.ras width height = grid height width fun i j => if q.hit (j : Int) ((height : Int) - 1 - (i : Int)) then 120 else 46 := by
  unfold Q4.ras rasterL rowL grid Q4.hit
  refine List.map_congr_left fun i _ => List.map_congr_left fun j _ => ?_
  have e : (height : Int) - 1 + (i : Int) * -1 = (height : Int) - 1 - (i : Int) := by omega
  rw [e]
theorem met_grid {height width : Nat} {f g : Nat → Nat → Nat} : metRows height width (grid height width f) (grid height width g) = grid height width fun i j => if f i j = 120 ∧ g i j = 120 then 120 else 46 := by
  unfold metRows
  show _ = (List.range height).map _
  refine List.map_congr_left fun i hi => ?_
  rw [grid_at (List.mem_range.mp hi), grid_at (List.mem_range.mp hi)]
  unfold metL
  refine List.map_congr_left fun j hj => ?_
  rw [row_at (List.mem_range.mp hj), row_at (List.mem_range.mp hj)]
/-- the rows that a fill and its clips leave -/
noncomputable def clipRows (height width : Nat) (R : List (List Nat)) (cs : List Q4) : List (List Nat) := cs.foldl (fun R c => metRows height width R (c.ras width height)) R
theorem clip_grid {height width : Nat} (cs : List Q4) : ∀ (p : Nat → Nat → Bool), clipRows height width (grid height width fun i j => if p i j then 120 else 46) cs =
    grid height width fun i j => if p i j && cs.all (fun c => c.hit (j : Int) ((height : Int) - 1 - (i : Int))) then 120 else 46 := by
  induction cs with
  | nil => intro p; simp [clipRows]
  | cons c cs ih =>
    intro p
    show clipRows height width (metRows height width (grid height width fun i j => if p i j then 120 else 46) (c.ras width height)) cs = _
    rw [ras_grid, met_grid]
    have e : (grid height width fun i j => if ((if p i j then 120 else 46) = 120 ∧ (if c.hit (j : Int) ((height : Int) - 1 - (i : Int)) then 120 else 46) = 120) then 120 else 46) = grid height width fun i j => if (p i j && c.hit (j : Int) ((height : Int) - 1 - (i : Int))) then 120 else 46 := by
      refine grid_congr fun i j _ _ => ?_
      cases p i j <;> cases c.hit (j : Int) ((height : Int) - 1 - (i : Int)) <;> simp
    rw [e, ih]
    refine grid_congr fun i j _ _ => ?_
    simp [Bool.and_assoc]
noncomputable def signs : List Nat := [48, 49, 50, 51, 52, 53, 54, 55, 56, 57, 97, 98, 99, 100, 101, 102, 103, 104, 105, 106, 107, 108, 109, 110, 111, 112, 113, 114, 115, 116, 117, 118, 119, 120, 121, 122]
noncomputable def signOf (k : Nat) : Nat := signs.getD (k % 36) 0
/-- the rows laid over the found ones -/
noncomputable def overL (width sign : Nat) (a b : List Nat) : List Nat := (List.range width).map fun j => if a.getD j 0 = 120 then sign else b.getD j 0
noncomputable def overRows (height width sign : Nat) (A B : List (List Nat)) : List (List Nat) := (List.range height).map fun i => overL width sign (A.getD i []) (B.getD i [])
theorem over_grid {height width sign : Nat} {f g : Nat → Nat → Nat} : overRows height width sign (grid height width f) (grid height width g) = grid height width fun i j => if f i j = 120 then sign else g i j := by
  unfold overRows
  show _ = (List.range height).map _
  refine List.map_congr_left fun i hi => ?_
  rw [grid_at (List.mem_range.mp hi), grid_at (List.mem_range.mp hi)]
  unfold overL
  refine List.map_congr_left fun j hj => ?_
  rw [row_at (List.mem_range.mp hj), row_at (List.mem_range.mp hj)]
/-- a mark's turn in picture -/
noncomputable def picStep (width height : Nat) (st : Nat × List (List Nat)) (k : PMk) : Nat × List (List Nat) :=
  match k.fill with
  | none => st
  | some q => (st.1 + 1, overRows height width (signOf st.1) (clipRows height width (q.ras width height) k.clips) st.2)
noncomputable def picFold (width height : Nat) (ks : List PMk) : Nat × List (List Nat) := ks.foldl (picStep width height) (0, grid height width fun _ _ => 46)
noncomputable def picL (width height : Nat) (ks : List PMk) : List (List Nat) := (picFold width height ks).2
/-- does the fill with its clips cover the cell -/
noncomputable def covers (height : Nat) (i j : Nat) (k : Q4 × List Q4) : Bool := k.1.hit (j : Int) ((height : Int) - 1 - (i : Int)) && k.2.all (fun c => c.hit (j : Int) ((height : Int) - 1 - (i : Int)))
noncomputable def fillsOf (ks : List PMk) : List (Q4 × List Q4) := ks.filterMap fun k => k.fill.map fun q => (q, k.clips)
/-- the law's cell -/
noncomputable def lawCell (height i j : Nat) (fs : List (Q4 × List Q4)) : Nat := (List.range fs.length).foldl (fun s n => if covers height i j (fs.getD n (⟨0, 0, 0, 0⟩, [])) then 48 + n else s) 46
noncomputable def signCell (height i j : Nat) (fs : List (Q4 × List Q4)) : Nat := (List.range fs.length).foldl (fun s n => if covers height i j (fs.getD n (⟨0, 0, 0, 0⟩, [])) then signOf n else s) 46
theorem foldl_ext' {α β : Type} {f g : β → α → β} : ∀ {l : List α} {a : β}, (∀ x ∈ l, ∀ b, f b x = g b x) → l.foldl f a = l.foldl g a := by
  intro l
  induction l with
  | nil => intro a _; rfl
  | cons x l ih =>
    intro a h
    rw [List.foldl_cons, List.foldl_cons, h x (.head _)]
    exact ih fun y hy b => h y (.tail _ hy) b
theorem sign_small : ∀ n, n < 10 → signOf n = 48 + n := by decide
theorem sign_law {height i j : Nat} {fs : List (Q4 × List Q4)} (h : fs.length ≤ 10) : signCell height i j fs = lawCell height i j fs := by
  unfold signCell lawCell
  refine foldl_ext' fun n hn b => ?_
  rw [sign_small n (by have := List.mem_range.mp hn; omega)]
theorem signCell_snoc {height i j : Nat} {fs : List (Q4 × List Q4)} {k : Q4 × List Q4} : signCell height i j (fs ++ [k]) = if covers height i j k then signOf fs.length else signCell height i j fs := by
  unfold signCell
  rw [List.length_append, List.length_singleton, List.range_succ, List.foldl_append, List.foldl_cons, List.foldl_nil]
  have e1 : (fs ++ [k]).getD fs.length (⟨0, 0, 0, 0⟩, []) = k := by simp [List.getD]
  rw [e1]
  have e2 : (List.range fs.length).foldl (fun s n => if covers height i j ((fs ++ [k]).getD n (⟨0, 0, 0, 0⟩, [])) then signOf n else s) 46 = (List.range fs.length).foldl (fun s n => if covers height i j (fs.getD n (⟨0, 0, 0, 0⟩, [])) then signOf n else s) 46 := by
    refine foldl_ext' fun n hn b => ?_
    have e : (fs ++ [k]).getD n (⟨0, 0, 0, 0⟩, []) = fs.getD n (⟨0, 0, 0, 0⟩, []) := by simp [List.getD, List.getElem?_append_left (List.mem_range.mp hn)]
    rw [e]
  rw [e2]
theorem list_snoc {α : Type} {P : List α → Prop} (h0 : P []) (h1 : ∀ l a, P l → P (l ++ [a])) : ∀ l, P l := by
  intro l
  have : ∀ l : List α, P l.reverse := by
    intro l
    induction l with
    | nil => exact h0
    | cons a l ih => rw [List.reverse_cons]; exact h1 _ _ ih
  have h := this l.reverse
  rwa [List.reverse_reverse] at h
theorem picFold_snoc {width height : Nat} {ks : List PMk} {k : PMk} : picFold width height (ks ++ [k]) = picStep width height (picFold width height ks) k := by
  unfold picFold
  rw [List.foldl_append]
  rfl
theorem fillsOf_snoc {ks : List PMk} {k : PMk} : fillsOf (ks ++ [k]) = fillsOf ks ++ (match k.fill with | none => [] | some q => [(q, k.clips)]) := by
  unfold fillsOf
  rw [List.filterMap_append]
  (first | (refine' ex_1_0 k ?_; (try clear k); intro f cs) | (obtain ⟨f, cs⟩ := k))
  cases f <;> rfl
theorem picFold_is {width height : Nat} : ∀ ks : List PMk, picFold width height ks = ((fillsOf ks).length, grid height width fun i j => signCell height i j (fillsOf ks)) := by
  refine list_snoc rfl fun ks k ih => ?_
  rw [picFold_snoc, ih, fillsOf_snoc]
  (first | (refine' ex_1_0 k ?_; (try clear k); intro f cs) | (obtain ⟨f, cs⟩ := k))
  cases f with
  | none => simp [picStep]
  | some q =>
    simp only [picStep]
    rw [ras_grid, clip_grid, over_grid]
    refine Prod.ext (by simp) ?_
    refine grid_congr fun i j _ _ => ?_
    rw [signCell_snoc]
    unfold covers
    split <;> simp_all
/-- picture shows what the law reckons -/
theorem pic_law {width height : Nat} {ks : List PMk} (h : (fillsOf ks).length ≤ 10) : picL width height ks = grid height width fun i j => lawCell height i j (fillsOf ks) := by
  unfold picL
  rw [picFold_is]
  exact grid_congr fun i j _ _ => sign_law h
theorem pic_many (n : Nat) : picL 2 1 (List.replicate (n + 1) ⟨some ⟨0, 0, 1, 1⟩, []⟩) = [[signOf n, 46]] := by
  have h : ∀ n, picFold 2 1 (List.replicate (n + 1) ⟨some ⟨0, 0, 1, 1⟩, []⟩) = (n + 1, [[signOf n, 46]]) := by
    intro n
    induction n with
    | zero => decide
    | succ n ih =>
      have e : (List.replicate (n + 1 + 1) (⟨some ⟨0, 0, 1, 1⟩, []⟩ : PMk)) = List.replicate (n + 1) ⟨some ⟨0, 0, 1, 1⟩, []⟩ ++ [⟨some ⟨0, 0, 1, 1⟩, []⟩] := by
        rw [List.replicate_succ' (n := n + 1)]
      rw [e, picFold_snoc, ih]
      rfl
  unfold picL
  rw [h]
end
theorem resetH0 : True := by w_top off; trivial
section
set_option maxRecDepth 100000
set_option maxHeartbeats 2000000
theorem leN {a b : Nat} (h : a ≤ b) : a ≤ b := h
noncomputable def clsNe : Value → Value → Bool
  | .type a, .type b => a != b
  | .type _, .ref _ => true
  | .ref _, .type _ => true
  | .ref a, .ref b => a != b
  | _, _ => false
theorem ne_objB {h₀ h : Heap} {L : Addr} {news : List (Addr × Obj)} {a d : Addr} {o o' : Obj} (N : News h₀ L h news) (ma : (a, o) ∈ news) (md : (d, o') ∈ news) (c : clsNe o.cls o'.cls = true) : a ≠ d := by
  refine ne_obj N ma md fun e => ?_
  rw [e] at c
  generalize o'.cls = v at c
  cases v with
  | type a => exact Bool.noConfusion ((bne_self_eq_false a).symm.trans (show (a != a) = true from c))
  | ref a => exact Bool.noConfusion ((bne_self_eq_false a).symm.trans (show (a != a) = true from c))
  | _ => exact Bool.noConfusion (show false = true from c)
/-- a contract with one object that the call may change -/
noncomputable def Sh (w : World) (f : Addr) (D U : Nat) (Pre : Addr → Obj → List (Addr × Obj) → List Value → Prop) (Post : Addr → Obj → List (Addr × Obj) → Value → Prop) : Prop :=
  ∀ (dp un : Nat) (gd : Option (List Code)) (cn : Str) (cs : Scope) (a : Addr) (ccd : Value) (cl : List (Str × Addr)) (outer : List Env) (A₀ : Around) (base h₀ : Heap) (L : Addr) (m : Str → Option Value) (P : Addr) (o : Obj) (rest imm : List (Addr × Obj)) (s : Shared) (vs : List Value) (p : Program) (loose : List Str) (mean : ExcName → Option Value) (mg mb : Str → Option Value)
    (Q E : Value → Shared → Prop),
    Below A₀ base outer h₀ → Fr h₀ L s.heap m → (foo0.heap_1_39 w.params).In h₀ → News h₀ L s.heap ((P, o) :: rest) → (∀ p ∈ rest, p.1 ≠ P) → Top p loose mean mg mb h₀ → cs.kind = .function → (∀ q ∈ imm, q ∈ rest) → Pre P o imm vs → dp + D < recursionLimit → un + U < cLine →
    (∀ r o' tl h' tk', Fr h₀ L h' m → News h₀ L h' ((P, o') :: (tl ++ rest)) → (∀ q ∈ (P, o') :: rest, ∀ p ∈ tl, p.1 ≠ q.1) → Post P o' (tl ++ imm) r → Q r { s with heap := h', toks := tk' }) →
    wpAny (model PySem.Challenge.rw_nn0221_01.row.prog w) (ktrTop dp un gd cn cs L a ccd cl outer) (call (.ref f) vs) Q E s
section
variable {w : World} {A₀ : Around} {E : Value → Shared → Prop} {s : Shared} {base h₀ g h' : Heap} {outer : List Env} {L L' : Addr} {m m' : Str → Option Value} {rest imm fl fl2 X : List (Addr × Obj)} {P : Addr} {o o' : Obj}
theorem Sh.use {f : Addr} {D U : Nat} {Pre : Addr → Obj → List (Addr × Obj) → List Value → Prop} {Post : Addr → Obj → List (Addr × Obj) → Value → Prop} {dp un : Nat} {gd : Option (List Code)} {cn : Str} {cs : Scope} {a : Addr} {ccd : Value} {cl : List (Str × Addr)} {vs : List Value} {p : Program} {loose : List Str} {mean : ExcName → Option Value} {mg mb : Str → Option Value}
    {Q E : Value → Shared → Prop} (S : Sh w f D U Pre Post) (B : Below A₀ base outer h₀) (F : Fr h₀ L s.heap m) (X₀ : (foo0.heap_1_39 w.params).In h₀) (N : News h₀ L s.heap X) (T : Top p loose mean mg mb h₀) (hk : cs.kind = .function) (P : Addr) (o : Obj) (rest imm : List (Addr × Obj))
    (pick : ∀ q ∈ (P, o) :: rest, q ∈ X) (hne : ∀ p ∈ rest, p.1 ≠ P) (hsub : ∀ q ∈ imm, q ∈ rest) (hpre : Pre P o imm vs) (hd : dp + D < recursionLimit) (hu : un + U < cLine)
    (ret : ∀ r o' tl h' tk', Fr h₀ L h' m → News h₀ L h' ((P, o') :: (tl ++ rest)) → (∀ q ∈ (P, o') :: rest, ∀ p ∈ tl, p.1 ≠ q.1) → Post P o' (tl ++ imm) r → Q r { s with heap := h', toks := tk' }) :
    wpAny (model PySem.Challenge.rw_nn0221_01.row.prog w) (ktrTop dp un gd cn cs L a ccd cl outer) (call (.ref f) vs) Q E s :=
  S _ _ _ _ _ _ _ _ _ _ _ _ _ _ P o rest imm _ _ _ _ _ _ _ _ _ B F X₀ (fun q hq => N q (pick q hq)) hne T hk hsub hpre hd hu ret
open Classical in
theorem back_hd (kG : GSub s.heap g (((P, o) :: imm).map (·.1))) (N : News h₀ L s.heap ((P, o) :: rest)) (hP : ∀ p ∈ rest, p.1 ≠ P) (hsub : ∀ q ∈ imm, q ∈ rest) (F' : Fr g L' h' m') (kN : News h₀ L h' ((P, o') :: fl)) (N' : News g L' h' ((P, o') :: fl)) (hfl : ∀ p ∈ fl, p.1 ≠ P) (hi : ∀ q ∈ imm, q ∈ fl) :
    ∃ tl, News h₀ L h' ((P, o') :: (tl ++ rest)) ∧ (∀ q ∈ (P, o') :: rest, ∀ p ∈ tl, p.1 ≠ q.1) ∧ ∀ q ∈ fl, q ∈ tl ++ imm := by
  have keep : ∀ p ∈ rest, h'.get? p.1 = some p.2 := by
    intro p hp
    by_cases hb : p.1 ∈ imm.map (·.1)
    · (first | (refine' ex_2_0 (List.mem_map.mp hb) ?_; intro q hq e) | (refine' ex_1_1 (List.mem_map.mp hb) ?_; intro q hq e) | (obtain ⟨q, hq, e⟩ := List.mem_map.mp hb))
      have h1 := (N q (.tail _ (hsub q hq))).1
      have h2 := (N p (.tail _ hp)).1
      have h3 := (kN q (.tail _ (hi q hq))).1
      rw [e, h2] at h1
      rw [e] at h3
      exact h3.trans h1.symm
    · refine F'.keep _ _ (kG _ _ (N p (.tail _ hp)).1 ?_)
      intro hm
      rcases List.mem_cons.mp hm with e | e
      · exact hP p hp e
      · exact hb e
  refine ⟨fl.filter fun p => (s.heap.get? p.1).isNone, ?_, ?_, ?_⟩
  · intro p hp
    rcases List.mem_cons.mp hp with rfl | hp
    · exact kN _ (.head _)
    · rcases List.mem_append.mp hp with hp | hp
      · exact kN p (.tail _ ((List.mem_filter.mp hp).1))
      · exact ⟨keep p hp, (N p (.tail _ hp)).2⟩
  · intro q hq p hp e
    have h1 := (List.mem_filter.mp hp).2
    rcases List.mem_cons.mp hq with rfl | hq
    · exact hfl p (List.mem_filter.mp hp).1 e
    · rw [e, (N q (.tail _ hq)).1] at h1
      cases h1
  · intro q hq
    cases e : s.heap.get? q.1 with
    | none => exact List.mem_append_left _ (List.mem_filter.mpr ⟨hq, by rw [e]; rfl⟩)
    | some oq =>
      refine List.mem_append_right _ ?_
      by_cases hb : q.1 ∈ imm.map (·.1)
      · (first | (refine' ex_2_0 (List.mem_map.mp hb) ?_; intro p hp ep) | (refine' ex_1_1 (List.mem_map.mp hb) ?_; intro p hp ep) | (obtain ⟨p, hp, ep⟩ := List.mem_map.mp hb))
        have h1 := (kN p (.tail _ (hi p hp))).1
        have h2 := (kN q (.tail _ hq)).1
        rw [ep, h2] at h1
        have : p = q := Prod.ext ep (Option.some.inj h1).symm
        exact this ▸ hp
      · have h1 := kG _ _ e (by
          intro hm
          rcases List.mem_cons.mp hm with e | e
          · exact hfl q hq e
          · exact hb e)
        have h2 := (N' q (.tail _ hq)).2.2
        rw [h1] at h2; cases h2
theorem Sh.fin {Post : Addr → Obj → List (Addr × Obj) → Value → Prop} {r : Value} {Q : Value → Shared → Prop} {tk' : Nat} (kG : GSub s.heap g (((P, o) :: imm).map (·.1))) (N : News h₀ L s.heap ((P, o) :: rest)) (hP : ∀ p ∈ rest, p.1 ≠ P) (hsub : ∀ q ∈ imm, q ∈ rest)
    (ret : ∀ r o' tl h' tk', Fr h₀ L h' m → News h₀ L h' ((P, o') :: (tl ++ rest)) → (∀ q ∈ (P, o') :: rest, ∀ p ∈ tl, p.1 ≠ q.1) → Post P o' (tl ++ imm) r → Q r { s with heap := h', toks := tk' })
    (F' : Fr g L' h' m') (N' : News g L' h' X) (kF : Fr h₀ L h' m) (kN : News h₀ L h' X) (pick : ∀ q ∈ (P, o') :: fl, q ∈ X) (hfl : ∀ p ∈ fl, p.1 ≠ P) (hi : ∀ q ∈ imm, q ∈ fl)
    (post : ∀ l, (∀ q ∈ fl, q ∈ l) → Post P o' l r) :
    Q r { s with heap := h', toks := tk' } := by
  (first | (refine' ex_3_0 (back_hd kG N hP hsub F' (fun q hq => kN q (pick q hq)) (fun q hq => N' q (pick q hq)) hfl hi) ?_; intro tl h1 h2 h3) | (refine' ex_2_1 (back_hd kG N hP hsub F' (fun q hq => kN q (pick q hq)) (fun q hq => N' q (pick q hq)) hfl hi) ?_; intro tl h1 h2 h3) | (refine' ex_1_2 (back_hd kG N hP hsub F' (fun q hq => kN q (pick q hq)) (fun q hq => N' q (pick q hq)) hfl hi) ?_; intro tl h1 h2 h3) | (obtain ⟨tl, h1, h2, h3⟩ := back_hd kG N hP hsub F' (fun q hq => kN q (pick q hq)) (fun q hq => N' q (pick q hq)) hfl hi))
  exact ret r o' tl h' tk' kF h1 h2 (post _ h3)
end
section
variable {prog : Program} {w : World} {A : Around} {E : Value → Shared → Prop} {s : Shared} {h₀ : Heap} {L D : Addr} {m : Str → Option Value} {news news' : List (Addr × Obj)}
theorem set_v {vs : List Value} {k0 : Nat} {k : Int} {t : Tok} {x : Value} {Q : Unit → Shared → Prop} (F : Fr h₀ L s.heap m) (N : News h₀ L s.heap news) (U : Upd D (lstO vs k0) (lstO (vs.set k.toNat x) k0) news news') (h0 : 0 ≤ k) (h1 : k < (vs.length : Int)) (hfit : k < 2 ^ 63)
    (h : ∀ h', Fr h₀ L h' m → News h₀ L h' news' → Q () { s with heap := h' }) : wpAny (model prog w) A (setItem (.ref D) (.int k t) x) Q E s := by
  (first | (refine' ex_3_2 (U.split) ?_; intro pre post ob9; subst ob9; intro ob9; subst ob9; intro a b) | (refine' ex_2_3 (U.split) ?_; intro pre post ob9; subst ob9; intro ob9; subst ob9; intro a b) | (obtain ⟨pre, post, rfl, rfl, a, b⟩ := U.split))
  have z := N (D, lstO vs k0) (List.mem_append.mpr (.inr (.head _)))
  refine ki_setAt (n := k0) (items := vs.toArray) z.1 h0 hfit (by simpa using h1) (h _ (F.change (Heap.SameBut.update ..) z.2.1 z.2.2) (ki_turn (its := vs.toArray) _ N a b ?_ ?_))
  · apply Array.toList_inj.mp
    rw [Array.toList_setIfInBounds]
  · rw [if_pos (by simp)]
/-- the law's pool: cells, a great number, a state, a place -/
noncomputable def PoolOk (P : Params) (n : Nat) (o : Obj) (l : List (Addr × Obj)) : Prop :=
  ∃ C vsC kC zs g st pl t1 t2 t3 k, o = lstO [.ref C, .int g t1, .int st t2, .int pl t3] k ∧ (C, lstO vsC kC) ∈ l ∧ VAll P l vsC (List.map V.int zs) ∧ vsC.length ≤ 40 ∧ 0 ≤ g ∧ (0 ≤ st ∧ st < 2147483647) ∧ (0 ≤ pl ∧ pl ≤ (n : Int))
theorem PoolOk.mono {P : Params} {n : Nat} {o : Obj} {l l' : List (Addr × Obj)} (h : PoolOk P n o l) (s : ∀ q ∈ l, q ∈ l') : PoolOk P n o l' := by
  (first | (refine' ex_11_3 h ?_; (try clear h); intro C vsC kC zs g st pl t1 t2 t3 k e h1 h2 h3) | (obtain ⟨C, vsC, kC, zs, g, st, pl, t1, t2, t3, k, e, h1, h2, h3⟩ := h))
  exact ⟨C, vsC, kC, zs, g, st, pl, t1, t2, t3, k, e, s _ h1, h2.mono s, h3⟩
end
end
theorem resetE4 : True := by w_top off; trivial
section
set_option maxRecDepth 100000
set_option maxHeartbeats 2000000
section
variable {prog : Program} {w : World} {A : Around} {E : Value → Shared → Prop} {s : Shared} {h₀ : Heap} {L : Addr} {m : Str → Option Value} {env : Env} {body : List Stmt} {X news : List (Addr × Obj)} {target : Expr} {Q : Flow → Shared → Prop}
theorem FPost.up {h g : Heap} {tk tk2 : Nat} {ext : List (Addr × Obj)} {av : List Addr} {K K' : (Str → Option Value) → List (Addr × Obj) → Prop} (hK : ∀ m lg, K m lg → K' m lg) {fl : Flow} {s' : Shared} (h1 : FPost h₀ L ext av { s with heap := h, toks := tk } K Q fl s') : FPost h₀ L ext av { s with heap := g, toks := tk2 } K' Q fl s' := by
  cases fl with
  | ret v => exact h1
  | brk => exact h1
  | next => (first | (refine' ex_6_2 h1 ?_; (try clear h1); intro h' tk' m' lg' e F' N' ha k) | (refine' ex_4_4 h1 ?_; (try clear h1); intro h' tk' m' lg' e F' N' ha k) | (obtain ⟨h', tk', m', lg', e, F', N', ha, k⟩ := h1)); exact ⟨h', tk', m', lg', e, F', N', ha, hK _ _ k⟩
  | cont => (first | (refine' ex_6_2 h1 ?_; (try clear h1); intro h' tk' m' lg' e F' N' ha k) | (refine' ex_4_4 h1 ?_; (try clear h1); intro h' tk' m' lg' e F' N' ha k) | (obtain ⟨h', tk', m', lg', e, F', N', ha, k⟩ := h1)); exact ⟨h', tk', m', lg', e, F', N', ha, hK _ _ k⟩
theorem kept_eq {m' m : Str → Option Value} {x : Str} {st : List Str} (hm : ∀ z, z ≠ x → st.contains z = false → m' z = m z) : m' = fun z => if (x :: st).contains z then m' z else m z := by
  funext z
  by_cases hz : (x :: st).contains z = true
  · rw [if_pos hz]
  · rw [if_neg hz]
    have h1 : (x :: st).contains z = false := by simpa using hz
    rw [List.contains_cons] at h1
    have h2 := Bool.or_eq_false_iff.mp h1
    exact hm z (by simpa using h2.1) h2.2
/-- a for over a range; the turns change the ledger, names of st are stored -/
theorem for_range0 {r : Addr} {a b c : Int} {t₀ u₀ v₀ : Tok} {n : Nat} {x : Str} {px : Pos} (st : List Str) (S : Nat → List (Addr × Obj) → Prop) (lg₀ : List (Addr × Obj))
    (hh : A.handled = none) (hr : IsRange s.heap r a b c t₀ u₀ v₀) (hsm : Builtin.Range.small a b c = true) (hn : Builtin.Range.rangeSize a b c = ((n : Nat) : Int))
    (hx : env.kindOf x = some .local) (hp : (env.scope.kind == .class || (env.scope.kind == .module && env.locals != env.globals)) = false)
    (F : Fr h₀ env.locals s.heap m) (N : News h₀ env.locals s.heap X) (hX : ∀ q ∈ lg₀, q ∈ X) (h0 : S 0 lg₀)
    (turn : ∀ (i : Nat) (t : Tok) (u : Str → Option Value) (lg ext : List (Addr × Obj)) (av : List Addr) (h : Heap) (tk : Nat), i < n → S i lg →
      Fr h₀ env.locals h (fun z => if z = x then some (.int (a + (i : Int) * c) t) else if st.contains z then u z else m z) → News h₀ env.locals h (ext ++ lg) → Off av lg → HasAv ext av → ExtIn ext av [] →
      wpAny (model prog w) A (execs body env) (FPost h₀ env.locals ext av { s with heap := h, toks := tk } (fun m' lg' => S (i + 1) lg' ∧ ∀ z, z ≠ x → st.contains z = false → m' z = m z) Q) E { s with heap := h, toks := tk })
    (done : ∀ (h : Heap) (tk : Nat) (u : Str → Option Value) (lg : List (Addr × Obj)), S n lg → Fr h₀ env.locals h (fun z => if (x :: st).contains z then u z else m z) → News h₀ env.locals h lg → Q .next { s with heap := h, toks := tk }) :
    ForSrc prog w A h₀ env (.Name x px) body Q E (.ref r) s := by
  refine for_range (news := lg₀) (fun i m' lg => S i lg ∧ ∀ z, z ≠ x → st.contains z = false → m' z = m z)
    hh hr hsm hn F (fun p hp => N p (hX p hp)) ⟨h0, fun _ _ _ => rfl⟩ ?_ ?_
  · rintro gg i t m₁ lg ext av h tk hi ⟨hS, hm⟩ F₁ N₁ h1 h2 h3
    refine wpAny_assign_Name (wpAny_storeName_local hx F₁.ns (fun h₂ hn₂ hs₂ => ?_) hp)
    have hL₀ : h₀.get? env.locals = none := Heap.get?_none_of_le F₁.above
    have F₂ : Fr h₀ env.locals h₂ (fun z => if z = x then some (.int (a + (i : Int) * c) t) else m₁ z) := ⟨hn₂, fun b o e => hs₂.extBut b o (fun q => by rw [q, hL₀] at e; cases e) (F₁.keep b o e), F₁.above⟩
    have e : (fun z => if z = x then some (.int (a + (i : Int) * c) t) else m₁ z) = fun z => if z = x then some (.int (a + (i : Int) * c) t) else if st.contains z then m₁ z else m z := by
      funext z
      by_cases hz : z = x
      · simp only [hz, if_true]
      · simp only [hz, if_false]
        cases hst : st.contains z with
        | true => simp
        | false => simp [hm z hz hst]
    rw [e] at F₂
    exact wpAny_mono (turn i t m₁ lg ext av h₂ _ hi hS F₂ (fun p hp => ⟨hs₂.extBut _ _ (N₁ p hp).2.1 (N₁ p hp).1, (N₁ p hp).2⟩) h1 h2 h3) (fun fl s₄ h₄ => FPost.up (fun _ _ k => k) h₄) fun _ _ e => e
  · rintro h tk m' lg F' N' ⟨hS, hm⟩
    rw [kept_eq hm] at F'
    exact done h tk m' lg hS F' N'
/-- a for over a range; the turns change the ledger and the name y -/
theorem for_rangeY {r : Addr} {a b c : Int} {t₀ u₀ v₀ : Tok} {n : Nat} {x : Str} {px : Pos} (y : Str) (st : List Str) (S : Nat → Value → List (Addr × Obj) → Prop) (lg₀ : List (Addr × Obj)) (y₀ : Value)
    (hh : A.handled = none) (hr : IsRange s.heap r a b c t₀ u₀ v₀) (hsm : Builtin.Range.small a b c = true) (hn : Builtin.Range.rangeSize a b c = ((n : Nat) : Int))
    (hx : env.kindOf x = some .local) (hxy : y ≠ x) (hp : (env.scope.kind == .class || (env.scope.kind == .module && env.locals != env.globals)) = false)
    (F : Fr h₀ env.locals s.heap m) (N : News h₀ env.locals s.heap X) (hX : ∀ q ∈ lg₀, q ∈ X) (hy : m y = some y₀) (h0 : S 0 y₀ lg₀)
    (turn : ∀ (i : Nat) (t : Tok) (u : Str → Option Value) (v : Value) (lg ext : List (Addr × Obj)) (av : List Addr) (h : Heap) (tk : Nat), i < n → S i v lg →
      Fr h₀ env.locals h (fun z => if z = x then some (.int (a + (i : Int) * c) t) else if z = y then some v else if st.contains z then u z else m z) → News h₀ env.locals h (ext ++ lg) → Off av lg → HasAv ext av → ExtIn ext av [] →
      wpAny (model prog w) A (execs body env) (FPost h₀ env.locals ext av { s with heap := h, toks := tk } (fun m' lg' => (∃ v', m' y = some v' ∧ S (i + 1) v' lg') ∧ ∀ z, z ≠ x → z ≠ y → st.contains z = false → m' z = m z) Q) E { s with heap := h, toks := tk })
    (done : ∀ (h : Heap) (tk : Nat) (u : Str → Option Value) (v : Value) (lg : List (Addr × Obj)), S n v lg → Fr h₀ env.locals h (fun z => if z = y then some v else if (x :: st).contains z then u z else m z) → News h₀ env.locals h lg → Q .next { s with heap := h, toks := tk }) :
    ForSrc prog w A h₀ env (.Name x px) body Q E (.ref r) s := by
  refine for_range (news := lg₀) (fun i m' lg => (∃ v, m' y = some v ∧ S i v lg) ∧ ∀ z, z ≠ x → z ≠ y → st.contains z = false → m' z = m z)
    hh hr hsm hn F (fun p hp => N p (hX p hp)) ⟨⟨y₀, hy, h0⟩, fun _ _ _ _ => rfl⟩ ?_ ?_
  · rintro gg i t m₁ lg ext av h tk hi ⟨⟨v, hv, hS⟩, hm⟩ F₁ N₁ h1 h2 h3
    refine wpAny_assign_Name (wpAny_storeName_local hx F₁.ns (fun h₂ hn₂ hs₂ => ?_) hp)
    have hL₀ : h₀.get? env.locals = none := Heap.get?_none_of_le F₁.above
    have F₂ : Fr h₀ env.locals h₂ (fun z => if z = x then some (.int (a + (i : Int) * c) t) else m₁ z) := ⟨hn₂, fun b o e => hs₂.extBut b o (fun q => by rw [q, hL₀] at e; cases e) (F₁.keep b o e), F₁.above⟩
    have e : (fun z => if z = x then some (.int (a + (i : Int) * c) t) else m₁ z) = fun z => if z = x then some (.int (a + (i : Int) * c) t) else if z = y then some v else if st.contains z then m₁ z else m z := by
      funext z
      by_cases hz : z = x
      · simp only [hz, if_true]
      · simp only [hz, if_false]
        by_cases hzy : z = y
        · simp only [hzy, if_true, hv]
        · simp only [hzy, if_false]
          cases hst : st.contains z with
          | true => simp
          | false => simp [hm z hz hzy hst]
    rw [e] at F₂
    exact wpAny_mono (turn i t m₁ v lg ext av h₂ _ hi hS F₂ (fun p hp => ⟨hs₂.extBut _ _ (N₁ p hp).2.1 (N₁ p hp).1, (N₁ p hp).2⟩) h1 h2 h3) (fun fl s₄ h₄ => FPost.up (fun _ _ k => k) h₄) fun _ _ e => e
  · rintro h tk m' lg F' N' ⟨⟨v, hv, hS⟩, hm⟩
    have e : m' = fun z => if z = y then some v else if (x :: st).contains z then m' z else m z := by
      funext z
      by_cases hzy : z = y
      · simp only [hzy, if_true, hv]
      · simp only [hzy, if_false]
        by_cases hz : (x :: st).contains z = true
        · rw [if_pos hz]
        · rw [if_neg hz]
          have h1 : (x :: st).contains z = false := by simpa using hz
          rw [List.contains_cons] at h1
          have h2 := Bool.or_eq_false_iff.mp h1
          exact hm z (by simpa using h2.1) hzy h2.2
    rw [e] at F'
    exact done h tk m' v lg hS F' N'
/-- a for over a tuple; the turns change the ledger and the name y -/
theorem for_tupleY {ax : Addr} {its : List Value} (y : Str) (st : List Str) (S : Nat → Value → List (Addr × Obj) → Prop) (lg₀ : List (Addr × Obj)) (y₀ : Value)
    (hh : A.handled = none) (hl : s.heap.IsTuple ax its.toArray)
    (F : Fr h₀ env.locals s.heap m) (N : News h₀ env.locals s.heap X) (hX : ∀ q ∈ lg₀, q ∈ X) (hy : m y = some y₀) (h0 : S 0 y₀ lg₀)
    (turn : ∀ (i : Nat) (it : Value) (u : Str → Option Value) (v : Value) (lg ext : List (Addr × Obj)) (av : List Addr) (h : Heap) (tk : Nat), its[i]? = some it → S i v lg →
      Fr h₀ env.locals h (fun z => if z = y then some v else if st.contains z then u z else m z) → News h₀ env.locals h (ext ++ lg) → Off av lg → HasAv ext av → ExtIn ext av [ax] →
      wpAny (model prog w) A (assign target env it) (fun _ s₃ => wpAny (model prog w) A (execs body env) (FPost h₀ env.locals ext av { s with heap := h, toks := tk } (fun m' lg' => (∃ v', m' y = some v' ∧ S (i + 1) v' lg') ∧ ∀ z, z ≠ y → st.contains z = false → m' z = m z) Q) E s₃) E { s with heap := h, toks := tk })
    (done : ∀ (h : Heap) (tk : Nat) (u : Str → Option Value) (v : Value) (lg : List (Addr × Obj)), S its.length v lg → Fr h₀ env.locals h (fun z => if z = y then some v else if st.contains z then u z else m z) → News h₀ env.locals h lg → Q .next { s with heap := h, toks := tk }) :
    ForSrc prog w A h₀ env target body Q E (.ref ax) s := by
  have em : ∀ {m' : Str → Option Value} {v : Value}, m' y = some v → (∀ z, z ≠ y → st.contains z = false → m' z = m z) → m' = fun z => if z = y then some v else if st.contains z then m' z else m z := by
    intro m' v hv hm
    funext z
    by_cases hzy : z = y
    · simp only [hzy, if_true, hv]
    · simp only [hzy, if_false]
      cases hst : st.contains z with
      | true => simp
      | false => simp [hm z hzy hst]
  refine for_tuple (news := lg₀) (fun i m' lg => (∃ v, m' y = some v ∧ S i v lg) ∧ ∀ z, z ≠ y → st.contains z = false → m' z = m z)
    hh hl F (fun p hp => N p (hX p hp)) ⟨⟨y₀, hy, h0⟩, fun _ _ _ => rfl⟩ ?_ ?_
  · rintro gg i it m₁ lg ext av h tk hi ⟨⟨v, hv, hS⟩, hm⟩ F₁ N₁ h1 h2 h3
    rw [em hv hm] at F₁
    exact wpAny_mono (turn i it m₁ v lg ext av h tk (by simpa using hi) hS F₁ N₁ h1 h2 h3) (fun _ s₃ h₃ => wpAny_mono h₃ (fun fl s₄ h₄ => FPost.up (fun _ _ k => k) h₄) fun _ _ e => e) fun _ _ e => e
  · rintro h tk m' lg F' N' ⟨⟨v, hv, hS⟩, hm⟩
    rw [em hv hm] at F'
    exact done h tk m' v lg (by simpa using hS) F' N'
end
end
theorem resetE5 : True := by w_top off; trivial
section
set_option maxRecDepth 100000
set_option maxHeartbeats 2000000
section
variable {prog : Program} {w : World} {A : Around} {E : Value → Shared → Prop} {s : Shared} {h₀ : Heap} {L : Addr} {m : Str → Option Value} {env : Env} {X : List (Addr × Obj)} {scope : Scope} {cl : List (Str × Addr)} {elt ct : Expr} {x : Str} {px : Pos} {Fin : Shared → List Value → List (Addr × Obj) → Prop}
/-- a comprehension over a range with a state -/
theorem cmp_rangeS {r : Addr} {a b c : Int} {t₀ u₀ v₀ : Tok} {n : Nat} (S : Nat → List Value → List (Addr × Obj) → Prop) (lg₀ : List (Addr × Obj)) (hh : A.handled = none) (hr : IsRange s.heap r a b c t₀ u₀ v₀) (hsm : Builtin.Range.small a b c = true) (hn : Builtin.Range.rangeSize a b c = ((n : Nat) : Int)) (hsz : n ≤ sizeLine)
    (hx : scope.names.lookup x = some .local) (hkind : scope.kind = .function) (F : Fr h₀ L s.heap m) (N : News h₀ L s.heap X) (hX : ∀ q ∈ lg₀, q ∈ X) (h0 : S 0 [] lg₀)
    (turn : ∀ (i : Nat) (t : Tok) (ys : List Value) (lg : List (Addr × Obj)) C oC m₂ ext av h tk E', i < n → S i ys lg → NsObj oC m₂ → m₂ x = some (.int (a + (i : Int) * c) t) → (C, oC) ∈ ext → Fr h₀ L h m → News h₀ L h (ext ++ lg) → Off av lg → HasAv ext av → ExtIn ext av [] →
      wpAny (model prog w) A (eval elt (compEnvC scope cl C env)) (fun y s'' => CEnd h₀ L m ext av { s with heap := h, toks := tk } (fun lg' => S (i + 1) (ys ++ [y]) lg') s'') E' { s with heap := h, toks := tk })
    (fin : ∀ g ys lg, S n ys lg → Fin { s with heap := g } ys lg) :
    CmpSrc prog w A h₀ L m env scope cl (.Name x px) [] elt Fin E (.ref r) s := by
  refine cmp_range (news := lg₀) S hh hr hsm hn hsz (binds_name (P' := fun i v => ∃ t, v = .int (a + (i : Int) * c) t) hx hkind (fun i v h hp => hp)) F (fun p hp => N p (hX p hp)) h0 ?_ fin
  intro g
  constructor
  rintro i ys lg C oC m₂ ext av h tk E' hi ⟨v, ⟨t, rfl⟩, hxv⟩ hoC hCe hS F N h1 h2 h3
  refine wpAny_tests_nil ?_
  simp only [if_true]
  exact turn i t ys lg C oC m₂ ext av h tk E' hi hS hoC hxv hCe F N h1 h2 h3
/-- a comprehension over a list with a state -/
theorem cmp_listS {ax : Addr} {vs : List Value} (S : Nat → List Value → List (Addr × Obj) → Prop) (lg₀ : List (Addr × Obj)) (hh : A.handled = none) (hl : s.heap.IsList ax vs.toArray) (hsz : vs.length ≤ sizeLine)
    (hx : scope.names.lookup x = some .local) (hkind : scope.kind = .function) (F : Fr h₀ L s.heap m) (N : News h₀ L s.heap X) (hX : ∀ q ∈ lg₀, q ∈ X) (h0 : S 0 [] lg₀)
    (turn : ∀ (i : Nat) (v : Value) (ys : List Value) (lg : List (Addr × Obj)) C oC m₂ ext av h tk E', vs[i]? = some v → S i ys lg → NsObj oC m₂ → m₂ x = some v → (C, oC) ∈ ext → Fr h₀ L h m → News h₀ L h (ext ++ lg) → Off av lg → HasAv ext av → ExtIn ext av [ax] →
      wpAny (model prog w) A (eval elt (compEnvC scope cl C env)) (fun y s'' => CEnd h₀ L m ext av { s with heap := h, toks := tk } (fun lg' => S (i + 1) (ys ++ [y]) lg') s'') E' { s with heap := h, toks := tk })
    (fin : ∀ g ys lg, S vs.length ys lg → Fin { s with heap := g } ys lg) :
    CmpSrc prog w A h₀ L m env scope cl (.Name x px) [] elt Fin E (.ref ax) s := by
  refine cmp_list (news := lg₀) S hh hl (by simpa using hsz) (binds_name (P' := fun i v => vs[i]? = some v) hx hkind (fun i v h hp => by simpa using hp)) F (fun p hp => N p (hX p hp)) h0 ?_ (fun g ys lg hS => fin g ys lg (by simpa using hS))
  intro g
  constructor
  rintro i ys lg C oC m₂ ext av h tk E' hi ⟨v, hv0, hxv⟩ hoC hCe hS F N h1 h2 h3
  refine wpAny_tests_nil ?_
  simp only [if_true]
  exact turn i v ys lg C oC m₂ ext av h tk E' hv0 hS hoC hxv hCe F N h1 h2 h3
/-- a comprehension over a list with a test -/
theorem cmp_listT {ax : Addr} {vs : List Value} (S : Nat → List Value → List (Addr × Obj) → Prop) (lg₀ : List (Addr × Obj)) (hh : A.handled = none) (hl : s.heap.IsList ax vs.toArray) (hsz : vs.length ≤ sizeLine)
    (hx : scope.names.lookup x = some .local) (hkind : scope.kind = .function) (F : Fr h₀ L s.heap m) (N : News h₀ L s.heap X) (hX : ∀ q ∈ lg₀, q ∈ X) (h0 : S 0 [] lg₀)
    (turn : ∀ (i : Nat) (v : Value) (ys : List Value) (lg : List (Addr × Obj)) C oC m₂ ext av h tk E', vs[i]? = some v → S i ys lg → NsObj oC m₂ → m₂ x = some v → (C, oC) ∈ ext → Fr h₀ L h m → News h₀ L h (ext ++ lg) → Off av lg → HasAv ext av → ExtIn ext av [ax] →
      wpAny (model prog w) A (isTrue ct (compEnvC scope cl C env) (eval ct (compEnvC scope cl C env))) (fun ok s' => if ok = true then
        wpAny (model prog w) A (eval elt (compEnvC scope cl C env)) (fun y s'' => CEnd h₀ L m ext av { s with heap := h, toks := tk } (fun lg' => S (i + 1) (ys ++ [y]) lg') s'') E' s'
        else CEnd h₀ L m ext av { s with heap := h, toks := tk } (fun lg' => S (i + 1) ys lg') s') E' { s with heap := h, toks := tk })
    (fin : ∀ g ys lg, S vs.length ys lg → Fin { s with heap := g } ys lg) :
    CmpSrc prog w A h₀ L m env scope cl (.Name x px) [ct] elt Fin E (.ref ax) s := by
  refine cmp_list (news := lg₀) S hh hl (by simpa using hsz) (binds_name (P' := fun i v => vs[i]? = some v) hx hkind (fun i v h hp => by simpa using hp)) F (fun p hp => N p (hX p hp)) h0 ?_ (fun g ys lg hS => fin g ys lg (by simpa using hS))
  intro g
  constructor
  rintro i ys lg C oC m₂ ext av h tk E' hi ⟨v, hv0, hxv⟩ hoC hCe hS F N h1 h2 h3
  exact wpAny_tests_one (turn i v ys lg C oC m₂ ext av h tk E' hv0 hS hoC hxv hCe F N h1 h2 h3)
theorem cend_S {K : List (Addr × Obj) → Prop} {ext lg' : List (Addr × Obj)} {av : List Addr} {h' : Heap} {tk' : Nat} (F : Fr h₀ L h' m) (N : News h₀ L h' X) (R : ∀ p ∈ ext ++ lg', p ∈ X) (O : Off av lg') (k : K lg') :
    CEnd h₀ L m ext av s K { s with heap := h', toks := tk' } := CEnd.intro lg' F (fun p hp => N p (R p hp)) O k
end
mutual
/-- plain data of a V -/
noncomputable def V.py : V → PyData
  | .none => .none
  | .bool b => .bool b
  | .int i => .int i
  | .str x => .str x
  | .tup ds => .tuple (V.pys ds)
  | .lst ds => .list (V.pys ds)
  | _ => .none
noncomputable def V.pys : List V → List PyData
  | [] => []
  | d :: ds => d.py :: V.pys ds
end
mutual
noncomputable def V.plain : V → Bool
  | .none => true
  | .bool _ => true
  | .int _ => true
  | .str x => (PyData.str x).canLay0
  | .tup ds => V.plains ds
  | .lst ds => V.plains ds
  | _ => false
noncomputable def V.plains : List V → Bool
  | [] => true
  | d :: ds => d.plain && V.plains ds
end
theorem VIn.reads {P : Params} {l : List (Addr × Obj)} {g : Heap} (hN : ∀ p ∈ l, g.get? p.1 = some p.2) {v : Value} {d : V} (h : VIn P l v d) : d.plain = true → ∃ as, Reads g v d.py as :=
  VIn.rec (motive_1 := fun v d _ => d.plain = true → ∃ as, Reads g v d.py as) (motive_2 := fun vs ds _ => V.plains ds = true → ∃ as, ReadsAll g vs (V.pys ds) as)
    (fun _ => ⟨_, .none⟩) (fun b _ => ⟨_, .bool b⟩) (fun i t _ => ⟨_, .int i t⟩) (fun x t _ => ⟨_, .str x t⟩) (fun _ _ hp => nomatch hp)
    (fun hm _ r hp => let ⟨_, ra⟩ := r hp; ⟨_, .tuple (hN _ hm) rfl rfl ra⟩) (fun hm _ r hp => let ⟨_, ra⟩ := r hp; ⟨_, .list (hN _ hm) rfl rfl ra⟩)
    (fun _ _ hp => nomatch hp) (fun _ _ _ _ hp => nomatch hp) (fun _ _ hp => nomatch hp) (fun _ _ _ _ _ _ _ _ _ _ _ _ _ _ hp => nomatch hp)
    (fun _ => ⟨_, .nil⟩) (fun _ _ a b hp => let ⟨hp1, hp2⟩ := (Bool.and_eq_true_iff.mp hp); let ⟨_, ra⟩ := a hp1; let ⟨_, rb⟩ := b hp2; ⟨_, .cons ra rb⟩) h
theorem VAll.reads {P : Params} {l : List (Addr × Obj)} {g : Heap} (hN : ∀ p ∈ l, g.get? p.1 = some p.2) {vs : List Value} {ds : List V} (h : VAll P l vs ds) : V.plains ds = true → ∃ as, ReadsAll g vs (V.pys ds) as :=
  VAll.rec (motive_1 := fun v d _ => d.plain = true → ∃ as, Reads g v d.py as) (motive_2 := fun vs ds _ => V.plains ds = true → ∃ as, ReadsAll g vs (V.pys ds) as)
    (fun _ => ⟨_, .none⟩) (fun b _ => ⟨_, .bool b⟩) (fun i t _ => ⟨_, .int i t⟩) (fun x t _ => ⟨_, .str x t⟩) (fun _ _ hp => nomatch hp)
    (fun hm _ r hp => let ⟨_, ra⟩ := r hp; ⟨_, .tuple (hN _ hm) rfl rfl ra⟩) (fun hm _ r hp => let ⟨_, ra⟩ := r hp; ⟨_, .list (hN _ hm) rfl rfl ra⟩)
    (fun _ _ hp => nomatch hp) (fun _ _ _ _ hp => nomatch hp) (fun _ _ hp => nomatch hp) (fun _ _ _ _ _ _ _ _ _ _ _ _ _ _ hp => nomatch hp)
    (fun _ => ⟨_, .nil⟩) (fun _ _ a b hp => let ⟨hp1, hp2⟩ := (Bool.and_eq_true_iff.mp hp); let ⟨_, ra⟩ := a hp1; let ⟨_, rb⟩ := b hp2; ⟨_, .cons ra rb⟩) h
mutual
theorem V.plain_lay : ∀ d : V, d.plain = true → d.py.canLay0 = true
  | .none, _ => rfl
  | .bool _, _ => rfl
  | .int _, _ => rfl
  | .str x, h => h
  | .bytes _, h => Bool.noConfusion (show false = true from h)
  | .tup ds, h => V.plains_lay ds h
  | .lst ds, h => V.plains_lay ds h
  | .dec .., h => Bool.noConfusion (show false = true from h)
  | .path _, h => Bool.noConfusion (show false = true from h)
  | .path0, h => Bool.noConfusion (show false = true from h)
  | .mat .., h => Bool.noConfusion (show false = true from h)
theorem V.plains_lay : ∀ ds : List V, V.plains ds = true → PyData.canLayAll0 (V.pys ds) = true
  | [], _ => by simp [V.pys, PyData.canLayAll0]
  | d :: ds, h => by
    simp only [V.plains, Bool.and_eq_true] at h
    simp [V.pys, PyData.canLayAll0, V.plain_lay d h.1, V.plains_lay ds h.2]
end
section
variable {prog : Program} {w : World} {A : Around} {E : Value → Shared → Prop} {s : Shared} {h₀ : Heap} {L : Addr} {news : List (Addr × Obj)} {P : Params} {l l2 : List (Addr × Obj)} {a b : Value} {d : V} {Q : Value → Shared → Prop}
/-- two values that say the same are not unequal -/
theorem ne_v (N : News h₀ L s.heap news) (ha : VIn P l a d) (hb : VIn P l2 b d) (sa : ∀ q ∈ l, q ∈ news) (sb : ∀ q ∈ l2, q ∈ news) (hp : d.plain = true) (hd : d.py.depth ≤ 64) (hu : A.units + 64 < cLine) (h : Q (.bool false) s) : wpAny (model prog w) A (compareOp .NotEq a b) Q E s := by
  (first | (refine' ex_1_0 (ha.reads (fun p q => (N p (sa p q)).1) hp) ?_; intro as ra) | (obtain ⟨as, ra⟩ := ha.reads (fun p q => (N p (sa p q)).1) hp))
  (first | (refine' ex_1_0 (hb.reads (fun p q => (N p (sb p q)).1) hp) ?_; intro bs rb) | (obtain ⟨bs, rb⟩ := hb.reads (fun p q => (N p (sb p q)).1) hp))
  have hl := V.plain_lay d hp
  have hs : SeqAt.shaped d.py = true := by unfold SeqAt.shaped; rw [hl]; simpa using hd
  refine ne_dataH ra rb hs hs hu ?_
  rw [PySem.SeqAt.eqv_refl _ hl]
  exact h
theorem eq_v (N : News h₀ L s.heap news) (ha : VIn P l a d) (hb : VIn P l2 b d) (sa : ∀ q ∈ l, q ∈ news) (sb : ∀ q ∈ l2, q ∈ news) (hp : d.plain = true) (hd : d.py.depth ≤ 64) (hu : A.units + 64 < cLine) (h : Q (.bool true) s) : wpAny (model prog w) A (compareOp .Eq a b) Q E s := by
  (first | (refine' ex_1_0 (ha.reads (fun p q => (N p (sa p q)).1) hp) ?_; intro as ra) | (obtain ⟨as, ra⟩ := ha.reads (fun p q => (N p (sa p q)).1) hp))
  (first | (refine' ex_1_0 (hb.reads (fun p q => (N p (sb p q)).1) hp) ?_; intro bs rb) | (obtain ⟨bs, rb⟩ := hb.reads (fun p q => (N p (sb p q)).1) hp))
  have hl := V.plain_lay d hp
  have hs : SeqAt.shaped d.py = true := by unfold SeqAt.shaped; rw [hl]; simpa using hd
  refine eq_dataH ra rb hs hs hu ?_
  rw [PySem.SeqAt.eqv_refl _ hl]
  exact h
end
end
theorem resetE6 : True := by w_top off; trivial
section
set_option maxRecDepth 100000
set_option maxHeartbeats 2000000
section
variable {P : Params} {l : List (Addr × Obj)} {D : Addr} {ys : List Value} {ds : List V}
theorem poolSub {P : Params} {n : Nat} {o : Obj} {l l' : List (Addr × Obj)} (h : PoolOk P n o l) (s : ∀ q ∈ l, q ∈ l') : PoolOk P n o l' := h.mono s
theorem lst_in (h : (D, lst ys) ∈ l) (r : VAll P l ys ds) : VIn P l (.ref D) (.lst ds) := .lst (vs := ys) (k := ys.length) h r
theorem lst_arr' {k : Nat} (h : (D, PySem.W.listOf ys.toArray k) ∈ l) (r : VAll P l ys ds) : VIn P l (.ref D) (.lst ds) := lst_arr h (by simpa using r)
theorem rast_map (x y wd ht : Int) (width height : Nat) : (List.range height).map (fun i : Nat => V.str (txt (rowL x y wd ht width ((height : Int) - 1 + (i : Int) * -1)))) = (rasterL x y wd ht width height).map fun r => V.str (txt r) := by
  unfold rasterL
  rw [List.map_map]
  rfl
theorem metr_map (A B : List (List Nat)) (width n : Nat) : (List.range n).map (fun i : Nat => V.str (txt (metL width (A.getD i []) (B.getD i [])))) = (metRows n width A B).map fun r => V.str (txt r) := by
  unfold metRows
  rw [List.map_map]
  rfl
end
section
variable {prog : Program} {w : World} {A : Around} {E : Value → Shared → Prop} {s : Shared} {h₀ : Heap} {L : Addr} {news : List (Addr × Obj)} {P : Params}
theorem item_vi {value slice : Expr} {a : Addr} {vs : List Value} {k0 : Nat} {k : Int} {u : Tok} {l : List (Addr × Obj)} {zs : List Int} {Q : Value → Shared → Prop} (N : News h₀ L s.heap news) (hm : (a, lstO vs k0) ∈ news) (hv : VAll P l vs (List.map V.int zs))
    (h0 : 0 ≤ k) (hk : k < (vs.length : Int)) (hfit : k < 2 ^ 63) (h : ∀ z t, Q (.int z t) s)
    (hs : subscripted slice false (.ref a) (.int k u) = operate [.ref a, .int k u] (getItem (.ref a) (.int k u))) (hg : ∀ r, letTemporaryGo value (.ref a) r = pure ()) :
    wpAny (model prog w) A (subscriptTail value slice (.ref a) (.int k u)) Q E s := by
  have hl := hv.length
  rw [List.length_map] at hl
  have hi : k.toNat < zs.length := by omega
  refine item_vd (d := .int zs[k.toNat]) N hm hv h0 hfit (by simp [hi]) (fun v hv => ?_) hs hg
  (first | (refine' ex_1_0 (hv.x) ?_; intro t ob9; subst ob9) | (obtain ⟨t, rfl⟩ := hv.x))
  exact h _ t
end
theorem metz_map (width : Nat) (a b : List Nat) : (List.range width).map (fun j : Nat => V.str ⟨#[if a.getD j 0 = 120 ∧ b.getD j 0 = 120 then 120 else 46]⟩) = ((metL width a b).map fun c : Nat => (⟨#[c]⟩ : Str)).map V.str := by
  unfold metL
  rw [List.map_map, List.map_map]
  rfl
theorem metL_length (width : Nat) (a b : List Nat) : (metL width a b).length = width := by simp [metL]
theorem overz_map (width sign : Nat) (a b : List Nat) : (List.range width).map (fun j : Nat => V.str ⟨#[if a.getD j 0 = 120 then sign else b.getD j 0]⟩) = ((overL width sign a b).map fun c : Nat => (⟨#[c]⟩ : Str)).map V.str := by
  unfold overL
  rw [List.map_map, List.map_map]
  rfl
theorem overL_length (width sign : Nat) (a b : List Nat) : (overL width sign a b).length = width := by simp [overL]
theorem txt_at {a : List Nat} {j cx : Nat} (h : (txt a).cps[j]? = some cx) : a.getD j 0 = cx := by
  have h' : a[j]? = some cx := by simpa using h
  simp [List.getD, h']
theorem isx_yes {c : Nat} (h : ((⟨#[c]⟩ : Str) == Str.ofString "x") = true) : c = 120 := by
  rw [sign_x] at h
  have := eq_of_beq h
  simpa using this
theorem isx_no {c : Nat} (h : ((⟨#[c]⟩ : Str) == Str.ofString "x") = false) : c ≠ 120 := by
  rintro rfl
  rw [sign_x] at h
  simp at h
theorem met_yes {a b : List Nat} {j cx cy : Nat} (hx : (txt a).cps[j]? = some cx) (hy : (txt b).cps[j]? = some cy) (h1 : ((⟨#[cx]⟩ : Str) == Str.ofString "x") = true) (h2 : ((⟨#[cy]⟩ : Str) == Str.ofString "x") = true) :
    V.str ⟨#[if a.getD j 0 = 120 ∧ b.getD j 0 = 120 then 120 else 46]⟩ = V.str (Str.ofString "x") := by
  rw [txt_at hx, txt_at hy, if_pos ⟨isx_yes h1, isx_yes h2⟩, sign_x]
theorem met_no1 {a b : List Nat} {j cx cy : Nat} (hx : (txt a).cps[j]? = some cx) (hy : (txt b).cps[j]? = some cy) (h1 : ((⟨#[cx]⟩ : Str) == Str.ofString "x") = false) :
    V.str ⟨#[if a.getD j 0 = 120 ∧ b.getD j 0 = 120 then 120 else 46]⟩ = V.str (Str.ofString ".") := by
  rw [txt_at hx, txt_at hy, if_neg (fun h => isx_no h1 h.1), sign_dot]
theorem met_no2 {a b : List Nat} {j cx cy : Nat} (hx : (txt a).cps[j]? = some cx) (hy : (txt b).cps[j]? = some cy) (h1 : ((⟨#[cy]⟩ : Str) == Str.ofString "x") = false) :
    V.str ⟨#[if a.getD j 0 = 120 ∧ b.getD j 0 = 120 then 120 else 46]⟩ = V.str (Str.ofString ".") := by
  rw [txt_at hx, txt_at hy, if_neg (fun h => isx_no h1 h.2), sign_dot]
theorem over_yes {a b : List Nat} {j cx cy sign : Nat} (hx : (txt a).cps[j]? = some cx) (hy : (txt b).cps[j]? = some cy) (h1 : ((⟨#[cx]⟩ : Str) == Str.ofString "x") = true) :
    V.str ⟨#[if a.getD j 0 = 120 then sign else b.getD j 0]⟩ = V.str ⟨#[sign]⟩ := by
  rw [txt_at hx, txt_at hy, if_pos (isx_yes h1)]
theorem over_no {a b : List Nat} {j cx cy sign : Nat} (hx : (txt a).cps[j]? = some cx) (hy : (txt b).cps[j]? = some cy) (h1 : ((⟨#[cx]⟩ : Str) == Str.ofString "x") = false) :
    V.str ⟨#[if a.getD j 0 = 120 then sign else b.getD j 0]⟩ = V.str ⟨#[cy]⟩ := by
  rw [txt_at hx, txt_at hy, if_neg (isx_no h1)]
noncomputable abbrev Q4.four (q : Q4) : V := .lst [.int q.x, .int q.y, .int q.w, .int q.h]
noncomputable def Q4.Good (q : Q4) : Prop := (-1 ≤ q.x ∧ q.x ≤ 3) ∧ (-1 ≤ q.y ∧ q.y ≤ 3) ∧ (1 ≤ q.w ∧ q.w ≤ 5) ∧ (1 ≤ q.h ∧ q.h ≤ 5)
theorem four_good {l : List (Addr × Obj)} {v : Value} {a b c d : Int} (h : VIn P l v (.lst [.int a, .int b, .int c, .int d])) (ha : -1 ≤ a ∧ a ≤ 3) (hb : -1 ≤ b ∧ b ≤ 3) (hc : 1 ≤ c ∧ c ≤ 5) (hd : 1 ≤ d ∧ d ≤ 5) : ∃ q : Q4, VIn P l v q.four ∧ q.Good := ⟨⟨a, b, c, d⟩, h, ha, hb, hc, hd⟩
theorem hit_of {x y wd ht c r : Int} {b : Bool} (h : (b = true) ↔ (x ≤ c ∧ c < x + wd ∧ y ≤ r ∧ r < y + ht)) : b = hit x y wd ht c r := by
  unfold hit
  cases b with
  | true => exact (decide_eq_true (h.mp rfl)).symm
  | false => exact (decide_eq_false (fun e => by simpa using h.mpr e)).symm
theorem draw_pre {P : Params} {D : Addr} {most : Int} {t : Tok} {n : Nat} {o : Obj} {l : List (Addr × Obj)} (h : PoolOk P n o l) : ∃ t', [Value.ref D, Value.int most t] = [Value.ref D, Value.int most t'] ∧ PoolOk P n o l := ⟨t, rfl, h⟩
/-- what is taken of a ledger ahead of its base -/
noncomputable def Tkn (X fl news : List (Addr × Obj)) : Prop := ∀ p ∈ fl ++ news, p ∈ X
theorem tkn_base {news : List (Addr × Obj)} : Tkn news [] news := fun _ h => h
theorem tkn_cons {X fl news : List (Addr × Obj)} {e : Addr × Obj} (h : Tkn X fl news) : Tkn (e :: X) (e :: fl) news := by
  intro p hp
  rcases List.mem_cons.mp hp with rfl | hp
  · exact .head _
  · exact .tail _ (h p hp)
theorem tkn_app {X fl news tl : List (Addr × Obj)} (h : Tkn X fl news) : Tkn (tl ++ X) (tl ++ fl) news := by
  intro p hp
  rw [List.append_assoc] at hp
  rcases List.mem_append.mp hp with hp | hp
  · exact List.mem_append_left _ hp
  · exact List.mem_append_right _ (h p hp)
noncomputable def ApartP (fl news : List (Addr × Obj)) : Prop := ∀ q ∈ news, ∀ p ∈ fl, p.1 ≠ q.1
theorem apart_of {fl news : List (Addr × Obj)} (h : ∀ (a : Addr) (o : Obj), (a, o) ∈ news → ∀ p ∈ fl, p.1 ≠ a) : ApartP fl news := fun q hq => h q.1 q.2 hq
/-- a class made: what is new lies apart -/
theorem cls_fin {s : Shared} {h₀ h' : Heap} {L : Addr} {m : Str → Option Value} {news imm X fl : List (Addr × Obj)} {Post : List (Addr × Obj) → Value → Prop} {r : Value} {Q : Value → Shared → Prop} {tk' : Nat}
    (hret : ∀ r tl h' tk', Fr h₀ L h' m → News h₀ L h' (tl ++ news) → (∀ q ∈ news, ∀ p ∈ tl, p.1 ≠ q.1) → Post (tl ++ imm) r → Q r { s with heap := h', toks := tk' })
    (kF : Fr h₀ L h' m) (kN : News h₀ L h' X) (t : Tkn X fl news) (ap : ApartP fl news) (post : Post (fl ++ imm) r) : Q r { s with heap := h', toks := tk' } :=
  hret r fl h' tk' kF (fun q hq => kN q (t q hq)) ap post
theorem units_under_make (A : Around) (C : Addr) (vals : List Value) : (A.under (.builtin "type.__call__" ⟨.ref C :: vals, []⟩)).units = A.units + 1 := rfl
theorem cls_finv {s : Shared} {h₀ h' : Heap} {L : Addr} {m : Str → Option Value} {news imm X fl : List (Addr × Obj)} {P : Params} {d : V} {r : Value} {Q : Value → Shared → Prop} {tk' : Nat}
    (hret : ∀ r tl h' tk', Fr h₀ L h' m → News h₀ L h' (tl ++ news) → (∀ q ∈ news, ∀ p ∈ tl, p.1 ≠ q.1) → VIn P (tl ++ imm) r d → Q r { s with heap := h', toks := tk' })
    (kF : Fr h₀ L h' m) (kN : News h₀ L h' X) (t : Tkn X fl news) (ap : ApartP fl news) (post : VIn P fl r d) : Q r { s with heap := h', toks := tk' } :=
  hret r fl h' tk' kF (fun q hq => kN q (t q hq)) ap (post.mono fun _ hq => List.mem_append_left _ hq)
/-- the same, for a def that makes a lambda: its code's table stands -/
noncomputable def Sc (w : World) (f : Addr) (D U : Nat) (Pre : Addr → Obj → List (Addr × Obj) → List Value → Prop) (Post : Addr → Obj → List (Addr × Obj) → Value → Prop) : Prop :=
  ∀ (dp un : Nat) (gd : Option (List Code)) (cn : Str) (cs : Scope) (a : Addr) (ccd : Value) (cl : List (Str × Addr)) (outer : List Env) (A₀ : Around) (base h₀ : Heap) (L : Addr) (m : Str → Option Value) (P : Addr) (o : Obj) (rest imm : List (Addr × Obj)) (s : Shared) (vs : List Value) (p : Program) (loose : List Str) (mean : ExcName → Option Value) (mg mb : Str → Option Value)
    (Q E : Value → Shared → Prop),
    CodeHd base 285 281 → Below A₀ base outer h₀ → Fr h₀ L s.heap m → (foo0.heap_1_39 w.params).In h₀ → News h₀ L s.heap ((P, o) :: rest) → (∀ p ∈ rest, p.1 ≠ P) → Top p loose mean mg mb h₀ → cs.kind = .function → (∀ q ∈ imm, q ∈ rest) → Pre P o imm vs → dp + D < recursionLimit → un + U < cLine →
    (∀ r o' tl h' tk', Fr h₀ L h' m → News h₀ L h' ((P, o') :: (tl ++ rest)) → (∀ q ∈ (P, o') :: rest, ∀ p ∈ tl, p.1 ≠ q.1) → Post P o' (tl ++ imm) r → Q r { s with heap := h', toks := tk' }) →
    wpAny (model PySem.Challenge.rw_nn0221_01.row.prog w) (ktrTop dp un gd cn cs L a ccd cl outer) (call (.ref f) vs) Q E s
theorem Sc.use {w : World} {A₀ : Around} {s : Shared} {base h₀ : Heap} {outer : List Env} {L : Addr} {m : Str → Option Value} {X : List (Addr × Obj)} {f : Addr} {D U : Nat} {Pre : Addr → Obj → List (Addr × Obj) → List Value → Prop} {Post : Addr → Obj → List (Addr × Obj) → Value → Prop} {dp un : Nat} {gd : Option (List Code)} {cn : Str} {cs : Scope} {a : Addr} {ccd : Value} {cl : List (Str × Addr)} {vs : List Value} {p : Program} {loose : List Str} {mean : ExcName → Option Value} {mg mb : Str → Option Value}
    {Q E : Value → Shared → Prop} (S : Sc w f D U Pre Post) (C : CodeHd base 285 281) (B : Below A₀ base outer h₀) (F : Fr h₀ L s.heap m) (X₀ : (foo0.heap_1_39 w.params).In h₀) (N : News h₀ L s.heap X) (T : Top p loose mean mg mb h₀) (hk : cs.kind = .function) (P : Addr) (o : Obj) (rest imm : List (Addr × Obj))
    (pick : ∀ q ∈ (P, o) :: rest, q ∈ X) (hne : ∀ p ∈ rest, p.1 ≠ P) (hsub : ∀ q ∈ imm, q ∈ rest) (hpre : Pre P o imm vs) (hd : dp + D < recursionLimit) (hu : un + U < cLine)
    (ret : ∀ r o' tl h' tk', Fr h₀ L h' m → News h₀ L h' ((P, o') :: (tl ++ rest)) → (∀ q ∈ (P, o') :: rest, ∀ p ∈ tl, p.1 ≠ q.1) → Post P o' (tl ++ imm) r → Q r { s with heap := h', toks := tk' }) :
    wpAny (model PySem.Challenge.rw_nn0221_01.row.prog w) (ktrTop dp un gd cn cs L a ccd cl outer) (call (.ref f) vs) Q E s :=
  S _ _ _ _ _ _ _ _ _ _ _ _ _ _ P o rest imm _ _ _ _ _ _ _ _ _ C B F X₀ (fun q hq => N q (pick q hq)) hne T hk hsub hpre hd hu ret
/-- the table of made code of told_path -/
noncomputable def TabOk (ln cl : Int) (qual : Str) (o : Obj) (l : List (Addr × Obj)) : Prop :=
  o = tabObj #[] ∨ ∃ c' oc vs t, o = tabObj #[rawInt ln, rawInt cl, .ref c'] ∧ (c', oc) ∈ l ∧ oc.data = .fields vs ∧ vs[1]? = some (.str qual t)
theorem TabOk.mono {ln cl : Int} {qual : Str} {o : Obj} {l l' : List (Addr × Obj)} (h : TabOk ln cl qual o l) (s : ∀ q ∈ l, q ∈ l') : TabOk ln cl qual o l' := by
  rcases h with h | ⟨c', oc, vs, t, h, h1, h2⟩
  · exact .inl h
  · exact .inr ⟨c', oc, vs, t, h, s _ h1, h2⟩
theorem fmod_in {a m : Int} (hm : 0 < m) : 0 ≤ a.fmod m ∧ a.fmod m < m := ⟨Int.fmod_nonneg_of_pos a hm, Int.fmod_lt_of_pos a hm⟩
end
theorem resetB1 : True := by w_top off; trivial
local macro_rules | `(tactic| ktn_no $s:str) => `(tactic| k_extra $s)
local macro_rules | `(tactic| walk_at $s:str) => do `(tactic| ktn_no $(Lean.Syntax.mkStrLit ("w:" ++ s.getString)))
local macro_rules | `(tactic| k_room) => `(tactic| k_extra "k_room")
local macro_rules | `(tactic| ktr_room) => `(tactic| k_extra "ktr_room")
local macro_rules | `(tactic| k_in) => `(tactic| k_extra "k_in")
local macro_rules | `(tactic| size_fits) => `(tactic| k_extra "size_fits")
local macro_rules | `(tactic| k_mem) => `(tactic| k_extra "k_mem")
local macro_rules | `(tactic| k_updF) => `(tactic| k_extra "k_updF")
local macro_rules | `(tactic| k_upd) => `(tactic| k_extra "k_upd")
theorem linesB1 : True := by
  k_with_none
  (k_with "rk" => (k_dflt (first | (refine' rK 1 ?h_1 ?x_1 ?e_1; (case h_1 => assumption); (case x_1 => exact rfl); (case e_1 => exact rfl)) | (refine' rK 3 ?h_1 ?x_1 ?e_1; (case h_1 => assumption); (case x_1 => exact rfl); (case e_1 => exact rfl)) | (refine' rK0 0 ?h_1 ?x_1 ?e_1; (case h_1 => assumption); (case x_1 => exact rfl); (case e_1 => exact rfl)) | (refine' rK 2 ?h_1 ?x_1 ?e_1; (case h_1 => assumption); (case x_1 => exact rfl); (case e_1 => exact rfl)) | (refine' rK 6 ?h_1 ?x_1 ?e_1; (case h_1 => assumption); (case x_1 => exact rfl); (case e_1 => exact rfl)) | (refine' rK 4 ?h_1 ?x_1 ?e_1; (case h_1 => assumption); (case x_1 => exact rfl); (case e_1 => exact rfl)) | (refine' rK0 1 ?h_1 ?x_1 ?e_1; (case h_1 => assumption); (case x_1 => exact rfl); (case e_1 => exact rfl)) | (refine' rK 9 ?h_1 ?x_1 ?e_1; (case h_1 => assumption); (case x_1 => exact rfl); (case e_1 => exact rfl)) | (refine' rK 7 ?h_1 ?x_1 ?e_1; (case h_1 => assumption); (case x_1 => exact rfl); (case e_1 => exact rfl)) | (refine' rK0 2 ?h_1 ?x_1 ?e_1; (case h_1 => assumption); (case x_1 => exact rfl); (case e_1 => exact rfl)))))
  (k_with "k_room" => ((fail_if_success k_extra "x1"); (first | exact Nat.le_of_ble_eq_true rfl | k_extra "rk" | ((try simp only [depth_under_make, depth_under_kw, depth_in1, depth_deeper, depth_caller]); (try dsimp only [ktrTop]); omega) | ((try simp +zetaDelta only [depth_under_make, depth_under_kw, depth_in1, depth_deeper, depth_caller]); (try dsimp +zetaDelta only [ktrTop]); omega))))
  (k_with "ktr_room" => k_room)
  (k_with "w:call ref" => ((fail_if_success k_extra "x2"); ((k_here; (with_reducible show wpAny _ _ (PySem.call (Value.ref 155) _) _ _ _); k_dflt (refine' Sp.use (dec_new _ _ _ _ _ ?hp_4) ?k1_4 ?k2_4 ?k3_4 ?k4_4 ?k5_4 ?k6_4 _ (fun _ h => h) ?pre_4 ?kd_4 ?ku_4 ?_; (case k1_4 => k_asm); (case k2_4 => k_asm); (case k3_4 => k_asm); (case k4_4 => k_asm); (case k5_4 => k_asm); (case k6_4 => first | exact rfl | assumption); (case pre_4 => exact rfl); (case hp_4 => first | exact Or.inl rfl | exact Or.inr ⟨rfl, by decide⟩); (case kd_4 => k_room); (case ku_4 => k_room); k_whole; intro r9 tl9 h9 tk9 F9 N9 ne9 post9; have post9k := post9; (first | (refine' ex_6_2 post9 ?_; (try clear post9); intro x9 d9 t91 t92 t93 t94 e9 hx9 hd9) | (refine' ex_4_4 post9 ?_; (try clear post9); intro x9 d9 t91 t92 t93 t94 e9 hx9 hd9) | (obtain ⟨x9, d9, t91, t92, t93, t94, e9, hx9, hd9⟩ := post9)); subst e9; (try k_sweep); (try dsimp only); (try k_unmd); (try k_fold))))))
  trivial
section
set_option maxRecDepth 100000 in
set_option maxHeartbeats 8000000 in
theorem dec_new (w : World) (n p : Int) (t t' : Tok) (hp : p = 0 ∨ (p = 1 ∧ n.fmod 10 ≠ 0)) : Sp w 155 3 100 (fun _ vs => vs = [.int n t, .int p t']) (fun l v => DecIn w.params l v n p) := by
  unfold Sp
  k_fill
  intro dp un gd cn cs a ccd cl outer A₀ base h₀ L m news imm s vs p' loose mean mg mb Q E B F X N T hk hsub hpre hd hu hret
  subst hpre
  k_dflt (refine' call_cls ?k1 ?k2 ?k3 ?k4 ?k5 ?k6 ?_; (case k1 => k_asm); (case k2 => k_asm); (case k3 => k_asm); (case k4 => k_is); (case k5 => k_is); (case k6 => k_is); k_whole; intro x' d' h' F' N' l1 l2; (try k_lt2 l2); (try k_sweep); ktr_enter)
  k_steps
  rename_i k t1 u1 h2 tk2 a4 a3 a2 a1 a0 h1 h3 F9 N9 kF kN Tc kX
  have e : k = p := by
    rcases hp with rfl | ⟨rfl, hn⟩
    · omega
    · by_cases hk1 : k = 1
      · exact hk1
      · have h := a2 1 (by omega) (by omega)
        simp [accDown_start] at h
        exact absurd h hn
  subst e
  rw [accDown_start] at kN
  exact hret _ [_, _] _ _ kF kN (ne2 l1 l2) ⟨x', d', _, _, _, _, rfl, .head _, .tail _ (.head _)⟩
set_option maxRecDepth 100000 in
set_option maxHeartbeats 8000000 in
theorem decimal_of_int (w : World) (n : Int) (t : Tok) : Sp w 173 4 200 (fun _ vs => vs = [.int n t]) (fun l v => DecIn w.params l v n 0) := by
  unfold Sp
  k_fill
  intro dp un gd cn cs a ccd cl outer A₀ base h₀ L m news imm s vs p' loose mean mg mb Q E B F X N T hk hsub hpre hd hu hret
  subst hpre
  refine wpAny_call ?_
  k_dflt (refine' code_defG ?k1 ?k2 ?k3 ?k4 ?k5 ?kA ?kF ?kK ?k6 ?k7 ?k8 ?k9 ?kB ?_ ?c2 ?c3 ?c4 ?c5; (case kA => exact rfl); (case kF => exact rfl); (case kK => assumption); (case k1 => exact B); (case k2 => exact F); (case k3 => exact X); (case k4 => exact news_sub N hsub); (case k5 => exact T); (case k6 => k_is); (case k7 => k_is); (case k8 => k_room); (case k9 => first | exact BindsTo.of_eq rfl | exact binds_K (by k_in) rfl (by k_is) rfl rfl rfl); (case c5 => decide); (case kB => exact locs rfl); (case c2 => exact rfl); (case c3 => exact rfl); (case c4 => exact rfl); k_whole; intro g' L' h' FG' F' N' B' X' T' kG; (try dsimp only); (try k_unmd); (try k_fold); (try (refine' aLet ?_; intro AL)))
  k_steps
  exact Sp.fin (Post := fun l v => DecIn w.params l v n 0) kG N hsub (by assumption) (by assumption) (by assumption) (by assumption) (by (intro q9 hq9; repeat (first | exact hq9 | refine List.Mem.tail _ ?_ | refine List.mem_append_right _ ?_))) (fun l hl => DecIn.mono (by assumption) hl) hret
set_option maxRecDepth 100000 in
set_option maxHeartbeats 8000000 in
theorem decimal_of_dec (w : World) (v : Value) (n p : Int) : Sp w 173 4 200 (fun l vs => vs = [v] ∧ DecIn w.params l v n p) (fun _ r => r = v) := by
  unfold Sp
  k_fill
  intro dp un gd cn cs a ccd cl outer A₀ base h₀ L m news imm s vs p' loose mean mg mb Q E B F X N T hk hsub hpre hd hu hret
  (first | (refine' ex_1_0 hpre ?_; (try clear hpre); intro ob9; subst ob9; intro hv) | (obtain ⟨rfl, hv⟩ := hpre))
  (first | (refine' ex_6_2 hv ?_; (try clear hv); intro x d t1 t2 t3 t4 ob9; subst ob9; intro hx hdd) | (refine' ex_4_4 hv ?_; (try clear hv); intro x d t1 t2 t3 t4 ob9; subst ob9; intro hx hdd) | (obtain ⟨x, d, t1, t2, t3, t4, rfl, hx, hdd⟩ := hv))
  refine wpAny_call ?_
  k_dflt (refine' code_defG ?k1 ?k2 ?k3 ?k4 ?k5 ?kA ?kF ?kK ?k6 ?k7 ?k8 ?k9 ?kB ?_ ?c2 ?c3 ?c4 ?c5; (case kA => exact rfl); (case kF => exact rfl); (case kK => assumption); (case k1 => exact B); (case k2 => exact F); (case k3 => exact X); (case k4 => exact news_sub N hsub); (case k5 => exact T); (case k6 => k_is); (case k7 => k_is); (case k8 => k_room); (case k9 => first | exact BindsTo.of_eq rfl | exact binds_K (by k_in) rfl (by k_is) rfl rfl rfl); (case c5 => decide); (case kB => exact locs rfl); (case c2 => exact rfl); (case c3 => exact rfl); (case c4 => exact rfl); k_whole; intro g' L' h' FG' F' N' B' X' T' kG; (try dsimp only); (try k_unmd); (try k_fold); (try (refine' aLet ?_; intro AL)))
  k_steps
  exact Sp.fin (Post := fun _ r => r = Value.ref x) kG N hsub (by assumption) (by assumption) (by assumption) (by assumption) (by (intro q9 hq9; repeat (first | exact hq9 | refine List.Mem.tail _ ?_ | refine List.mem_append_right _ ?_))) (fun l hl => rfl) hret
end
theorem resetD1 : True := by w_top off; trivial
theorem linesD1 : True := by
  (k_with "x1" => skip)
  (k_with "k_room" => ((fail_if_success k_extra "x3"); (first | exact Nat.le_of_ble_eq_true rfl | k_extra "rk" | ((try simp only [depth_under_make, depth_under_kw, depth_in1, depth_deeper, depth_caller, units_in1, units_deeper, Around.mark_units, units_caller]); (try dsimp only [ktrTop, Around.deeper]); omega) | ((try simp +zetaDelta only [depth_under_make, depth_under_kw, depth_in1, depth_deeper, depth_caller, units_in1, units_deeper, Around.mark_units, units_caller]); (try dsimp +zetaDelta only [ktrTop, Around.deeper]); omega))))
  (k_with "h215" => ((with_reducible show Rt _ _ _ _ (eval (Expr.Name _ _) _) _ _ _); first
    | (apply rtL; exact rfl; exact rfl; k_asm; exact rfl; decide +kernel)
    | (apply rtK; exact rfl; exact rfl; k_asm; k_asm; k_asm; k_is; decide +kernel)
    | (apply rtC; exact rfl; exact rfl; k_asm; exact rfl; k_mem; k_asm; decide +kernel)
    | (apply rtB; exact rfl; exact rfl; k_asm; k_asm; k_asm; k_is; boot_fast; decide; decide +kernel)))
  (k_with "h216" => ((with_reducible show Rt _ _ _ _ (eval (Expr.Constant _ _ _) _) _ _ _); with_reducible first | exact rtInt | exact rtStr | exact rtBool | exact rtNone))
  (k_with "h217" => ((with_reducible show Rt _ _ _ _ (eval (Expr.Subscript _ _ _) _) _ _ _); apply rtSub; ktn_no "ev"; ktn_no "ev"; ktn_no "evi"))
  (k_with "h218" => ((with_reducible show Rt _ _ _ _ (eval (Expr.BinOp _ _ _ _) _) _ _ _); apply rtBin; ktn_no "ev"; ktn_no "ev"; (with_reducible first | exact rtAdd | exact rtSubI)))
  (k_with "h219" => ((with_reducible show Rt _ _ _ _ (eval (Expr.UnaryOp _ _ _) _) _ _ _); apply rtUn; ktn_no "ev"; with_reducible exact rtNeg))
  (k_with "ev" => first | ktn_no "h215" | ktn_no "h216" | ktn_no "h217" | ktn_no "h218" | ktn_no "h219")
  (k_with "h235" => (apply rtTup; exact News.isTup (by k_asm) (by ktn_no "Mem"); decide; decide; exact rfl; exact rfl; with_unfolding_all exact rfl))
  (k_with "h236" => (apply rtLst; k_asm; ktn_no "Mem"; (first | decide | omega); (first | decide | omega); exact rfl; with_unfolding_all rfl; (intro _; with_unfolding_all rfl)))
  (k_with "evi" => first | ktn_no "h235" | ktn_no "h236")
  (k_with "evs" => first
  | with_reducible exact rtNil
  | (apply rtCons; ktn_no "ev"; ktn_no "evs"; exact rfl))
  (k_with "spl" => ((with_reducible show wpAny _ _ (PySem.call _ (_ ++ _)) _ _ _); k_dflt (first | refine' (?_ : wpAny _ _ (PySem.call _ []) _ _ _) | refine' (?_ : wpAny _ _ (PySem.call _ [_]) _ _ _) | refine' (?_ : wpAny _ _ (PySem.call _ [_, _]) _ _ _) | refine' (?_ : wpAny _ _ (PySem.call _ [_, _, _]) _ _ _) | refine' (?_ : wpAny _ _ (PySem.call _ [_, _, _, _]) _ _ _) | refine' (?_ : wpAny _ _ (PySem.call _ [_, _, _, _, _]) _ _ _))))
  (k_with "w:spliced" => ((fail_if_success k_extra "x4"); ((k_here; k_dflt (refine' rtUse ?r_10 ?_; (case r_10 => ktn_no "evs"); k_whole); (try k_extra "spl")))))
  (k_with "w:eval Tuple" => ((fail_if_success k_extra "x5"); ((k_here; k_dflt (refine' evTupleN ?r_11 ?F_11 ?N_11 ?z_11 ?_; (case r_11 => ktn_no "evs"); (case F_11 => k_asm); (case N_11 => k_asm); (case z_11 => kmk_size); k_whole); intro D' h' t' lg' F' N' l1; (try k_lt l1); (try k_sweep)))))
  (k_with "w:newTuple" => ((fail_if_success k_extra "x6"); ((k_here; k_dflt (refine' ntL ?F_12 ?N_12 ?z_12 ?_; (case F_12 => k_asm); (case N_12 => k_asm); (case z_12 => kmk_size); k_whole); intro D' h' t' lg' F' N' l1; (try k_lt l1); (try k_sweep)))))
  (k_with "w:execs cons" => ((fail_if_success k_extra "x7"); ((k_here; first
  | ((with_reducible show wpAny _ _ (execs (Stmt.Assign [Expr.Name _ _] _ _ :: _) _) _ _ _); (fail_if_success (with_reducible show wpAny _ _ (execs (Stmt.Assign _ (Expr.ListComp _ _ _) _ :: _) _) _ _ _)); k_dflt (refine' exAs ?_ ?hs_13; (case hs_13 => exact rfl); k_whole))
  | ((with_reducible show wpAny _ _ (execs (Stmt.Return (some _) _ :: _) _) _ _ _); refine' exRe ?_)))))
  (k_with "w:KRe" => ((fail_if_success k_extra "x8"); ((dsimp only [KRe]))))
  (k_with "w:KAs" => ((fail_if_success k_extra "x9"); ((k_here; k_dflt (first
  | (apply kasL; exact rfl; exact rfl; k_asm; k_asm; k_whole; intro h' t' m' F' N'; (try k_sweep))
  | (apply kasC; exact rfl; exact rfl; k_asm; k_asm; exact rfl; k_updF; k_asm; k_whole; intro h' o' F' N' d'; (try dsimp only at N'); (try k_sweep)))))))
  (k_with "w:eval Subscript" => ((fail_if_success k_extra "x10"); ((k_here; k_dflt (first | (refine' rtUse ?r_16 ?_; (case r_16 => ktn_no "ev"); k_whole) | (refine' evSub ?a_16 ?b_16 ?_; (case a_16 => ktn_no "ev"); (case b_16 => ktn_no "ev"); k_whole))))))
  (k_with "w:eval BinOp" => ((fail_if_success k_extra "x11"); ((k_here; k_dflt (first | (refine' rtUse ?r_17 ?_; (case r_17 => ktn_no "ev"); k_whole) | (refine' evBin ?a_17 ?b_17 ?_; (case a_17 => ktn_no "ev"); (case b_17 => ktn_no "ev"); k_whole))))))
  (k_with "w:eval UnaryOp" => ((fail_if_success k_extra "x12"); ((k_here; k_dflt (refine' rtUse ?r_18 ?_; (case r_18 => ktn_no "ev"); k_whole)))))
  (k_with "w:isTrue Compare" => ((fail_if_success k_extra "x13"); ((k_here; k_dflt (refine' evIsCmp ?a_19 ?b_19 ?_ ?hm_19; (case a_19 => ktn_no "ev"); (case b_19 => ktn_no "ev"); (case hm_19 => with_unfolding_all exact rfl); k_whole)))))
  (k_with "w:eval Compare" => ((fail_if_success k_extra "x14"); ((k_here; k_dflt (refine' evCmp ?a_20 ?b_20 ?_ ?hm_20; (case a_20 => ktn_no "ev"); (case b_20 => ktn_no "ev"); (case hm_20 => with_unfolding_all exact rfl); k_whole)))))
  (k_with "w:eval Call" => ((fail_if_success k_extra "x15"); ((k_here; (with_reducible show wpAny _ _ (eval (Expr.Call (Expr.Name _ _) (_ :: _) [] _) _) _ _ _); k_dflt (refine' evCallK ?a_21 ?X_21 ?hk_21 ?b_21 ?_ ?he_21 ?hs_21 ?hp_21; (case a_21 => ktn_no "ev"); (case X_21 => k_in); (case hk_21 => k_is); (case he_21 => exact rfl); (case hs_21 => exact rfl); (case hp_21 => exact rfl); (case b_21 => ktn_no "evs"); k_whole)))))
  (k_with "w:storeName" => ((fail_if_success k_extra "x16"); ((k_here; k_dflt (refine' stL ?a_22 ?b_22 ?F_22 ?N_22 ?_; (case a_22 => exact rfl); (case b_22 => exact rfl); (case F_22 => k_asm); (case N_22 => k_asm); k_whole; intro h' t' m' F' N'; (try k_sweep))))))
  (k_with "w:newList" => ((fail_if_success k_extra "x17"); ((k_here; k_dflt (refine' nlL ?F_23 ?N_23 ?z_23 ?_; (case F_23 => k_asm); (case N_23 => k_asm); (case z_23 => size_fits); k_whole); intro l' h' t' lg' F' N' l1; (try k_lt l1); (try k_sweep)))))
  (k_with "h187" => (refine' mz_hd ?za1_24 ?zb1_24; (case za1_24 => assumption); (case zb1_24 => ktn_no "mz")))
  (k_with "h188" => (refine' mz_i0 ?za2_24 ?zb2_24; (case za2_24 => assumption); (case zb2_24 => ktn_no "mz")))
  (k_with "h189" => (refine' mz_i1 ?za3_24 ?zb3_24; (case za3_24 => assumption); (case zb3_24 => ktn_no "mz")))
  (k_with "h190" => (refine' mz_i2 ?za4_24 ?zb4_24; (case za4_24 => assumption); (case zb4_24 => ktn_no "mz")))
  (k_with "h191" => (refine' mz_i3 ?za5_24 ?zb5_24; (case za5_24 => assumption); (case zb5_24 => ktn_no "mz")))
  (k_with "h192" => (refine' mz_s1 ?za6_24 ?zb6_24; (case za6_24 => assumption); (case zb6_24 => ktn_no "mz")))
  (k_with "h193" => (refine' mz_in ?za7_24 ?zc7_24 ?zb7_24; (case za7_24 => assumption); (case zc7_24 => decide +kernel); (case zb7_24 => ktn_no "mz")))
  (k_with "mz" => first | with_reducible exact rfl | ktn_no "h187" | ktn_no "h188" | ktn_no "h189" | ktn_no "h190" | ktn_no "h191" | ktn_no "h192" | ktn_no "h193")
  (k_with "w:callWith" => ((fail_if_success k_extra "x18"); (((with_reducible show wpAny _ _ (callWith _ (Value.builtin _) (_ :: _) (backTo _ (starEach (_ :: _) _)) []) _ _ _); with_reducible refine' callWith_method1 ?_ ?he_25 ?hp_25; (case he_25 => with_unfolding_all exact rfl); (case hp_25 => with_unfolding_all exact rfl)))))
  (k_with "k_in" => ((fail_if_success k_extra "x19"); (first | k_in_fast | with_reducible assumption | exact Frag.In.keeps (by with_reducible assumption) (Fr.keep (by with_reducible assumption)) | assumption)))
  (k_with "h91" => with_reducible (refine' sl_cons ?_; ktn_no "Sub"))
  (k_with "h92" => with_reducible (refine' sl_app ?_; ktn_no "Sub"))
  (k_with "h93" => with_reducible (refine' sl_skip1 ?_; ktn_no "Sub"))
  (k_with "h94" => with_reducible (refine' sl_skip ?_; ktn_no "Sub"))
  (k_with "Sub" => with_reducible first | exact sl_refl | ktn_no "h91" | ktn_no "h92" | ktn_no "h93" | exact sl_all | ktn_no "h94" | exact sl_nil)
  (k_with "StripA" => with_reducible first | (refine' strip_ext ?sx_28 ?sy_28; (case sx_28 => assumption); (case sy_28 => ktn_no "StripA")) | (refine' strip_lst ?sy_28; (case sy_28 => ktn_no "StripA")) | (refine' sl_cons ?sy_28; (case sy_28 => ktn_no "StripA")) | (refine' sl_app ?sy_28; (case sy_28 => ktn_no "StripA")) | exact sl_refl)
  (k_with "Strip" => with_reducible first | (refine' strip_ext ?sx_29 ?sy_29; (case sx_29 => assumption); (case sy_29 => ktn_no "Strip")) | (refine' sl_cons ?sy_29; (case sy_29 => ktn_no "Strip")) | (refine' sl_app ?sy_29; (case sy_29 => ktn_no "Strip")) | exact sl_refl)
  (k_with "h83" => with_reducible (refine List.mem_cons_of_mem _ ?_; ktn_no "MemD"))
  (k_with "h84" => with_reducible (refine List.mem_append_right _ ?_; ktn_no "MemD"))
  (k_with "MemD" => with_reducible first | exact List.mem_cons_self | ktn_no "h83" | ktn_no "h84" | fail "memd")
  (k_with "h79" => with_reducible (refine' mem_of_sub ?mh_31 ?ms_31; (case mh_31 => assumption); (case ms_31 => ktn_no "Sub")))
  (k_with "Mem" => with_reducible first | ktn_no "MemD" | ktn_no "h79" | fail "mem")
  (k_with "size_fits" => ((fail_if_success k_extra "x20"); (first | exact Nat.le_of_ble_eq_true rfl | fail "sz")))
  (k_with "k_mem" => ((fail_if_success k_extra "x21"); (ktn_no "Mem")))
  (k_with "h1" => (with_reducible (refine' ne_lt ?qa1_34 ?qa2_34; (case qa1_34 => assumption); (case qa2_34 => ktn_no "Mem"))))
  (k_with "h2" => (with_reducible (refine' ne_gt ?qa1_34 ?qa2_34; (case qa1_34 => assumption); (case qa2_34 => ktn_no "Mem"))))
  (k_with "h3" => (with_reducible (refine' ne_lt2 ?qa1_34 ?qa2_34 ?qa3_34; (case qa1_34 => assumption); (case qa2_34 => assumption); (case qa3_34 => ktn_no "Mem"))))
  (k_with "h4" => (with_reducible (refine' ne_gt2 ?qa1_34 ?qa2_34 ?qa3_34; (case qa1_34 => assumption); (case qa2_34 => assumption); (case qa3_34 => ktn_no "Mem"))))
  (k_with "h5" => (with_reducible (refine' ne_all ?qa1_34 ?qa2_34; (case qa1_34 => assumption); (case qa2_34 => ktn_no "Mem"))))
  (k_with "h6" => (with_reducible (refine' ne_all' ?qa1_34 ?qa2_34; (case qa1_34 => assumption); (case qa2_34 => ktn_no "Mem"))))
  (k_with "h7" => (with_reducible (refine' ne_obj ?qa1_34 ?qa2_34 ?qa3_34 ?qa4_34; (case qa1_34 => assumption); (case qa2_34 => ktn_no "Mem"); (case qa3_34 => ktn_no "Mem"); (case qa4_34 => first | (intro h; cases h; done) | simp))))
  (k_with "h8" => (refine neN ?_; (try dsimp only); omega))
  (k_with "Ne" => first | with_reducible assumption | ktn_no "h1" | ktn_no "h2" | ktn_no "h3" | ktn_no "h4" | ktn_no "h5" | ktn_no "h6" | ktn_no "h7" | ktn_no "h8")
  (k_with "h42" => (with_reducible (refine' an_lt ?qb1_35 ?qb2_35; (case qb1_35 => assumption); (case qb2_35 => ktn_no "Sub"))))
  (k_with "h43" => (with_reducible (refine' an_sub ?qb1_35 ?qb2_35; (case qb1_35 => assumption); (case qb2_35 => ktn_no "Sub"))))
  (k_with "h44" => (with_reducible (refine' an_ne9 ?qb1_35 ?qb2_35; (case qb1_35 => assumption); (case qb2_35 => ktn_no "Mem"))))
  (k_with "h45" => (with_reducible (refine' an_ext ?qb1_35 ?qb2_35 ?qb3_35 ?qb4_35; (case qb1_35 => assumption); (case qb2_35 => assumption); (case qb3_35 => ktn_no "Mem"); (case qb4_35 => first | exact List.forall_mem_nil _ | (refine List.forall_mem_cons.mpr ⟨?_, List.forall_mem_nil _⟩; ktn_no "Ne")))))
  (k_with "AtomNe" => first | ktn_no "h42" | ktn_no "h43" | ktn_no "h44" | ktn_no "h45" | with_reducible assumption)
  (k_with "h67" => (with_reducible (refine' an_lt0 ?qb1_36; (case qb1_36 => assumption))))
  (k_with "h68" => ((with_reducible refine' an_cons ?a_36 ?b_36); (case a_36 => ktn_no "Ne"); (case b_36 => ktn_no "AllNe")))
  (k_with "h69" => ((with_reducible refine' an_app ?a_36 ?b_36); (case a_36 => ktn_no "AtomNe"); (case b_36 => ktn_no "AllNe")))
  (k_with "AllNe" => first | exact List.forall_mem_nil _ | ktn_no "h67" | ktn_no "h68" | ktn_no "h69" | ktn_no "AtomNe")
  (k_with "k_upd" => ((fail_if_success k_extra "x22"); (first | ((with_reducible refine' Upd.head ?a_37); (case a_37 => ktn_no "AllNe")) | ((with_reducible refine' Upd.tail ?a_37 ?b_37); (case a_37 => ktn_no "Ne"); (case b_37 => k_upd)) | ((with_reducible refine' upd_app ?a_37 ?b_37); (case a_37 => ktn_no "AtomNe"); (case b_37 => k_upd)))))
  (k_with "h163" => (with_reducible (refine' off_mem ?qc1_38 ?qc2_38; (case qc1_38 => assumption); (case qc2_38 => ktn_no "Mem"))))
  (k_with "h164" => (with_reducible (refine' off_new ?qc1_38 ?qc2_38 ?qc3_38; (case qc1_38 => assumption); (case qc2_38 => assumption); (case qc3_38 => ktn_no "Sub"))))
  (k_with "h165" => (with_reducible (refine' off_ne ?qc1_38 ?qc2_38 ?qc3_38; (case qc1_38 => assumption); (case qc2_38 => assumption); (case qc3_38 => ktn_no "Sub"))))
  (k_with "h166" => (with_reducible (refine' off_new1 ?qc1_38 ?qc2_38 ?qc3_38 ?qc4_38; (case qc1_38 => assumption); (case qc2_38 => assumption); (case qc3_38 => assumption); (case qc4_38 => ktn_no "Sub"))))
  (k_with "OffA" => first | ktn_no "h163" | ktn_no "h164" | ktn_no "h165" | ktn_no "h166")
  (k_with "h151" => ((with_reducible refine' off_cons ?a_39 ?b_39); (case a_39 => ktn_no "OffA"); (case b_39 => ktn_no "Off")))
  (k_with "h152" => ((with_reducible refine' off_app ?a_39 ?b_39); (case a_39 => first | (with_reducible (refine' off_sub ?qc1_39 ?qc2_39; (case qc1_39 => assumption); (case qc2_39 => ktn_no "Sub"))) | (with_reducible (refine' off_tl ?qc1_39 ?qc2_39 ?qc3_39; (case qc1_39 => assumption); (case qc2_39 => assumption); (case qc3_39 => ktn_no "Sub")))); (case b_39 => ktn_no "Off")))
  (k_with "h153" => (with_reducible (refine' off_sub ?qc1_39 ?qc2_39; (case qc1_39 => assumption); (case qc2_39 => ktn_no "Sub"))))
  (k_with "Off" => first | with_reducible assumption | exact off_nil | ktn_no "h151" | ktn_no "h152" | ktn_no "h153")
  (k_with "w:VIn" => k_extra "VIn")
  (k_with "h107" => (with_reducible (refine' VIn.mono ?qd1_40 ?qd2_40; (case qd1_40 => assumption); (case qd2_40 => (ktn_no "Sub")))))
  (k_with "h108" => ((with_reducible refine' VIn.tup ?vm_40 ?va_40); (case vm_40 => ktn_no "Mem"); (case va_40 => ktn_no "VAll")))
  (k_with "h109" => ((with_reducible refine' VIn.lst ?vm_40 ?va_40); (case vm_40 => ktn_no "Mem"); (case va_40 => ktn_no "VAll")))
  (k_with "h110" => ((with_reducible refine' lst_arr ?vm_40 ?va_40); (case vm_40 => ktn_no "Mem"); (case va_40 => ktn_no "VAll")))
  (k_with "h111" => ((with_reducible refine' VIn.dec ?vm_40 ?va_40); (case vm_40 => ktn_no "Mem"); (case va_40 => ktn_no "Mem")))
  (k_with "h112" => ((with_reducible refine' VIn.nilp ?vm_40 ?va_40); (case vm_40 => ktn_no "Mem"); (case va_40 => ktn_no "Mem")))
  (k_with "h113" => ((with_reducible refine' VIn.path ?vm_40 ?va_40 ?vp_40); (case vm_40 => ktn_no "Mem"); (case va_40 => ktn_no "Mem"); (case vp_40 => ktn_no "VIn")))
  (k_with "h114" => ((with_reducible refine' VIn.mat ?vm_40 ?va_40 ?v1_40 ?v2_40 ?v3_40 ?v4_40 ?v5_40 ?v6_40); (case vm_40 => ktn_no "Mem"); (case va_40 => ktn_no "Mem"); (case v1_40 => ktn_no "VIn"); (case v2_40 => ktn_no "VIn"); (case v3_40 => ktn_no "VIn"); (case v4_40 => ktn_no "VIn"); (case v5_40 => ktn_no "VIn"); (case v6_40 => ktn_no "VIn")))
  (k_with "h115" => (refine' VIn.mono ?qd1_40 ?qd2_40; (case qd1_40 => assumption); (case qd2_40 => (ktn_no "Sub"))))
  (k_with "VIn" => first | with_reducible exact VIn.int _ _ | with_reducible exact VIn.str _ _ | with_reducible exact VIn.bool _ | with_reducible exact VIn.none | with_reducible exact VIn.bytes _ _ | with_reducible assumption | ktn_no "h107" | ktn_no "h108" | ktn_no "h109" | ktn_no "h110" | ktn_no "h111" | ktn_no "h112" | ktn_no "h113" | ktn_no "h114" | ktn_no "h115")
  (k_with "h143" => (refine VAll.cons ?_ ?_; (ktn_no "VIn"); (ktn_no "VAll")))
  (k_with "h144" => (with_reducible (refine' VAll.mono ?qd1_41 ?qd2_41; (case qd1_41 => assumption); (case qd2_41 => (ktn_no "Sub")))))
  (k_with "VAll" => first | exact VAll.nil | ktn_no "h143" | ktn_no "h144")
  (k_with "x2" => skip)
  (k_with "w:call ref" => ((fail_if_success k_extra "x23"); ((k_here; (with_reducible show wpAny _ _ (PySem.call (Value.ref 155) _) _ _ _); k_dflt (refine' spUse (decn _ _ _ _ _ ?hp_42) ?k1_42 ?k2_42 ?k3_42 ?k4_42 ?k5_42 ?k6_42 _ ?ks_42 ?pre_42 ?kd_42 ?ku_42 ?_; (case k1_42 => k_asm); (case k2_42 => k_asm); (case k3_42 => k_asm); (case k4_42 => k_asm); (case k5_42 => k_asm); (case k6_42 => first | exact rfl | assumption); (case ks_42 => (ktn_no "Strip")); (case pre_42 => exact rfl); (case hp_42 => first | exact Or.inl rfl | exact Or.inr ⟨rfl, by decide⟩); (case kd_42 => k_room); (case ku_42 => k_room); k_whole; intro r9 tl9 h9 tk9 lg9 li9 F9 N9 ne9 post9; refine VIn.op .lf post9 ?_; clear post9; intro a2n d3n t4n t5n t6n t7n ha8n hd9n hk10n; (try k_sweep); (try dsimp only); (try k_unmd); (try k_fold))))))
  (k_with "w:call ref" => ((fail_if_success k_extra "x24"); ((k_here; (with_reducible show wpAny _ _ (PySem.call (Value.ref 173) [Value.int _ _]) _ _ _); k_dflt ((first | (refine' spUse (dof_int _ _) ?k1_43 ?k2_43 ?k3_43 ?k4_43 ?k5_43 ?k6_43 _ ?ks_43 ?pre_43 ?kd_43 ?ku_43 ?_; (case k1_43 => k_asm); (case k2_43 => k_asm); (case k3_43 => k_asm); (case k4_43 => k_asm); (case k5_43 => k_asm); (case k6_43 => first | exact rfl | assumption); (case ks_43 => ktn_no "StripA"); (case pre_43 => ktn_no "VAll"); (case kd_43 => k_room); (case ku_43 => k_room); k_whole) | (refine' spUse (dof_int _ _) ?k1_43 ?k2_43 ?k3_43 ?k4_43 ?k5_43 ?k6_43 _ ?ks_43 ?pre_43 ?kd_43 ?ku_43 ?_; (case k1_43 => k_asm); (case k2_43 => k_asm); (case k3_43 => k_asm); (case k4_43 => k_asm); (case k5_43 => k_asm); (case k6_43 => first | exact rfl | assumption); (case ks_43 => ktn_no "Strip"); (case pre_43 => ktn_no "VAll"); (case kd_43 => k_room); (case ku_43 => k_room); k_whole)); intro r9 tl9 h9 tk9 lg9 li9 F9 N9 ne9 post9; refine VIn.op .lf post9 ?_; clear post9; intro a12n d13n t14n t15n t16n t17n ha18n hd19n hk20n; (try k_sweep); (try dsimp only); (try k_unmd); (try k_fold))))))
  (k_with "w:call ref" => ((fail_if_success k_extra "x25"); ((k_here; (with_reducible show wpAny _ _ (PySem.call (Value.ref 173) [Value.ref _]) _ _ _); k_dflt ((first | (refine' spUse (dof_dec _ _ _) ?k1_44 ?k2_44 ?k3_44 ?k4_44 ?k5_44 ?k6_44 _ ?ks_44 ?pre_44 ?kd_44 ?ku_44 ?_; (case k1_44 => k_asm); (case k2_44 => k_asm); (case k3_44 => k_asm); (case k4_44 => k_asm); (case k5_44 => k_asm); (case k6_44 => first | exact rfl | assumption); (case ks_44 => ktn_no "StripA"); (case pre_44 => ktn_no "VAll"); (case kd_44 => k_room); (case ku_44 => k_room); k_whole) | (refine' spUse (dof_dec _ _ _) ?k1_44 ?k2_44 ?k3_44 ?k4_44 ?k5_44 ?k6_44 _ ?ks_44 ?pre_44 ?kd_44 ?ku_44 ?_; (case k1_44 => k_asm); (case k2_44 => k_asm); (case k3_44 => k_asm); (case k4_44 => k_asm); (case k5_44 => k_asm); (case k6_44 => first | exact rfl | assumption); (case ks_44 => ktn_no "Strip"); (case pre_44 => ktn_no "VAll"); (case kd_44 => k_room); (case ku_44 => k_room); k_whole)); intro r9 tl9 h9 tk9 lg9 li9 F9 N9 ne9 post9; refine VIn.op .lf post9 ?_; clear post9; intro a22n d23n t24n t25n t26n t27n ha28n hd29n hk30n; (try k_sweep); (try dsimp only); (try k_unmd); (try k_fold))))))
  (k_with "w:call ref" => ((fail_if_success k_extra "x26"); ((k_here; (with_reducible show wpAny _ _ (PySem.call (Value.ref 138) _) _ _ _); k_dflt ((first | (refine' spUse (told _ _ _) ?k1_45 ?k2_45 ?k3_45 ?k4_45 ?k5_45 ?k6_45 _ ?ks_45 ?pre_45 ?kd_45 ?ku_45 ?_; (case k1_45 => k_asm); (case k2_45 => k_asm); (case k3_45 => k_asm); (case k4_45 => k_asm); (case k5_45 => k_asm); (case k6_45 => first | exact rfl | assumption); (case ks_45 => ktn_no "StripA"); (case pre_45 => ktn_no "VAll"); (case kd_45 => k_room); (case ku_45 => k_room); k_whole) | (refine' spUse (told _ _ _) ?k1_45 ?k2_45 ?k3_45 ?k4_45 ?k5_45 ?k6_45 _ ?ks_45 ?pre_45 ?kd_45 ?ku_45 ?_; (case k1_45 => k_asm); (case k2_45 => k_asm); (case k3_45 => k_asm); (case k4_45 => k_asm); (case k5_45 => k_asm); (case k6_45 => first | exact rfl | assumption); (case ks_45 => ktn_no "Strip"); (case pre_45 => ktn_no "VAll"); (case kd_45 => k_room); (case ku_45 => k_room); k_whole)); intro r9 tl9 h9 tk9 lg9 li9 F9 N9 ne9 post9; refine VIn.op (.seq (.cons .lf (.cons .lf .nil))) post9 ?_; clear post9; intro a33n k35n t50n t52n hm36n hk37n; (try k_sweep); (try dsimp only); (try k_unmd); (try k_fold))))))
  (k_with "w:call ref" => ((fail_if_success k_extra "x27"); ((k_here; (with_reducible show wpAny _ _ (PySem.call (Value.ref 82) [Value.ref _, Value.int _ _]) _ _ _); k_dflt ((first | (refine' spUse (plus _ _ _) ?k1_47 ?k2_47 ?k3_47 ?k4_47 ?k5_47 ?k6_47 _ ?ks_47 ?pre_47 ?kd_47 ?ku_47 ?_; (case k1_47 => k_asm); (case k2_47 => k_asm); (case k3_47 => k_asm); (case k4_47 => k_asm); (case k5_47 => k_asm); (case k6_47 => first | exact rfl | assumption); (case ks_47 => ktn_no "StripA"); (case pre_47 => ktn_no "VAll"); (case kd_47 => k_room); (case ku_47 => k_room); k_whole) | (refine' spUse (plus _ _ _) ?k1_47 ?k2_47 ?k3_47 ?k4_47 ?k5_47 ?k6_47 _ ?ks_47 ?pre_47 ?kd_47 ?ku_47 ?_; (case k1_47 => k_asm); (case k2_47 => k_asm); (case k3_47 => k_asm); (case k4_47 => k_asm); (case k5_47 => k_asm); (case k6_47 => first | exact rfl | assumption); (case ks_47 => ktn_no "Strip"); (case pre_47 => ktn_no "VAll"); (case kd_47 => k_room); (case ku_47 => k_room); k_whole)); intro r9 tl9 h9 tk9 lg9 li9 F9 N9 ne9 post9; refine VIn.op .lf post9 ?_; clear post9; intro a54n d55n t56n t57n t58n t59n ha60n hd61n hk62n; (try k_sweep); (try dsimp only); (try k_unmd); (try k_fold))))))
  (k_with "w:call ref" => ((fail_if_success k_extra "x28"); ((k_here; (with_reducible show wpAny _ _ (PySem.call (Value.ref 225) [Value.int _ _, Value.int _ _]) _ _ _); k_dflt ((first | (refine' spUse (pairi _ _ _) ?k1_48 ?k2_48 ?k3_48 ?k4_48 ?k5_48 ?k6_48 _ ?ks_48 ?pre_48 ?kd_48 ?ku_48 ?_; (case k1_48 => k_asm); (case k2_48 => k_asm); (case k3_48 => k_asm); (case k4_48 => k_asm); (case k5_48 => k_asm); (case k6_48 => first | exact rfl | assumption); (case ks_48 => ktn_no "StripA"); (case pre_48 => ktn_no "VAll"); (case kd_48 => k_room); (case ku_48 => k_room); k_whole) | (refine' spUse (pairi _ _ _) ?k1_48 ?k2_48 ?k3_48 ?k4_48 ?k5_48 ?k6_48 _ ?ks_48 ?pre_48 ?kd_48 ?ku_48 ?_; (case k1_48 => k_asm); (case k2_48 => k_asm); (case k3_48 => k_asm); (case k4_48 => k_asm); (case k5_48 => k_asm); (case k6_48 => first | exact rfl | assumption); (case ks_48 => ktn_no "Strip"); (case pre_48 => ktn_no "VAll"); (case kd_48 => k_room); (case ku_48 => k_room); k_whole)); intro r9 tl9 h9 tk9 lg9 li9 F9 N9 ne9 post9; refine VIn.op (.seq (.cons .lf (.cons .lf .nil))) post9 ?_; clear post9; intro a65n k67n a82n d83n t84n t85n t86n t87n ha88n hd89n hk90n a92n d93n t94n t95n t96n t97n ha98n hd99n hk100n hm68n hk69n; (try k_sweep); (try dsimp only); (try k_unmd); (try k_fold))))))
  (k_with "w:call ref" => ((fail_if_success k_extra "x29"); ((k_here; (with_reducible show wpAny _ _ (PySem.call (Value.ref 225) [Value.ref _, Value.ref _]) _ _ _); k_dflt ((first | (refine' spUse (paird _ _ _) ?k1_49 ?k2_49 ?k3_49 ?k4_49 ?k5_49 ?k6_49 _ ?ks_49 ?pre_49 ?kd_49 ?ku_49 ?_; (case k1_49 => k_asm); (case k2_49 => k_asm); (case k3_49 => k_asm); (case k4_49 => k_asm); (case k5_49 => k_asm); (case k6_49 => first | exact rfl | assumption); (case ks_49 => ktn_no "StripA"); (case pre_49 => ktn_no "VAll"); (case kd_49 => k_room); (case ku_49 => k_room); k_whole) | (refine' spUse (paird _ _ _) ?k1_49 ?k2_49 ?k3_49 ?k4_49 ?k5_49 ?k6_49 _ ?ks_49 ?pre_49 ?kd_49 ?ku_49 ?_; (case k1_49 => k_asm); (case k2_49 => k_asm); (case k3_49 => k_asm); (case k4_49 => k_asm); (case k5_49 => k_asm); (case k6_49 => first | exact rfl | assumption); (case ks_49 => ktn_no "Strip"); (case pre_49 => ktn_no "VAll"); (case kd_49 => k_room); (case ku_49 => k_room); k_whole)); intro r9 tl9 h9 tk9 lg9 li9 F9 N9 ne9 post9; refine VIn.op (.seq (.cons .lf (.cons .lf .nil))) post9 ?_; clear post9; intro a103n k105n a120n d121n t122n t123n t124n t125n ha126n hd127n hk128n a130n d131n t132n t133n t134n t135n ha136n hd137n hk138n hm106n hk107n; (try k_sweep); (try dsimp only); (try k_unmd); (try k_fold))))))
  (k_with "w:binaryOp Pow int int" => ((fail_if_success k_extra "x30"); ((k_here; (with_reducible refine pow_int_small ?kb1_46 ?kb2_46 ?kb3_46 ?_); (case kb1_46 => first | decide | omega); (case kb2_46 => first | decide | omega); (case kb3_46 => decide)))))
  trivial
section
theorem decn (w : World) (n p : Int) (t t' : Tok) (hp : p = 0 ∨ (p = 1 ∧ n.fmod 10 ≠ 0)) : Sp w 155 3 100 (fun _ vs => vs = [.int n t, .int p t']) (fun l v => VIn w.params l v (.dec n p)) := by
  intro dp un gd cn cs a ccd cl outer A₀ base h₀ L m news imm s vs p' loose mean mg mb Q E B F X N T hk hsub hpre hd hu hret
  refine dec_new w n p t t' hp _ _ _ _ _ _ _ _ _ _ _ _ _ _ _ imm _ _ _ _ _ _ _ _ _ B F X N T hk hsub hpre hd hu ?_
  rintro r tl h' tk' F' N' ne ⟨a, d, t1, t2, t3, t4, e, h1, h2⟩
  subst e
  exact hret _ tl h' tk' F' N' ne (.dec h1 h2)
set_option maxRecDepth 100000 in
set_option maxHeartbeats 8000000 in
theorem dof_int (w : World) (n : Int) : Fn w 173 4 200 [.int n] (.dec n 0) := by
  unfold Fn Sp
  k_fill
  intro dp un gd cn cs a ccd cl outer A₀ base h₀ L m news imm s vs p' loose mean mg mb Q E B F X N T hk hsub hpre hd hu hret
  refine VAll.opr (.cons .lf .nil) hpre ?_; clear hpre; intro t146n _; 
  refine wpAny_call ?_
  k_dflt (refine' code_defG ?k1 ?k2 ?k3 ?k4 ?k5 ?kA ?kF ?kK ?k6 ?k7 ?k8 ?k9 ?kB ?_ ?c2 ?c3 ?c4 ?c5; (case kA => exact rfl); (case kF => exact rfl); (case kK => assumption); (case k1 => exact B); (case k2 => exact F); (case k3 => exact X); (case k4 => exact news_sub N hsub); (case k5 => exact T); (case k6 => k_is); (case k7 => k_is); (case k8 => k_room); (case k9 => first | exact BindsTo.of_eq rfl | exact binds_K (by k_in) rfl (by k_is) rfl rfl rfl); (case c5 => decide); (case kB => exact locs rfl); (case c2 => exact rfl); (case c3 => exact rfl); (case c4 => exact rfl); k_whole; intro g' L' h' FG' F' N' B' X' T' kG; (try dsimp only); (try k_unmd); (try k_fold); (try (refine' aLet ?_; intro AL)))
  k_steps
  all_goals exact Fn.fin kG N hsub hret (by assumption) (by assumption) (by assumption) (by assumption) (by (ktn_no "Sub")) (by ktn_no "VIn")
set_option maxRecDepth 100000 in
set_option maxHeartbeats 8000000 in
theorem dof_dec (w : World) (n p : Int) : Fn w 173 4 200 [.dec n p] (.dec n p) := by
  unfold Fn Sp
  k_fill
  intro dp un gd cn cs a ccd cl outer A₀ base h₀ L m news imm s vs p' loose mean mg mb Q E B F X N T hk hsub hpre hd hu hret
  refine VAll.opr (.cons .lf .nil) hpre ?_; clear hpre; intro a154n d155n t156n t157n t158n t159n ha160n hd161n hk162n _; 
  refine wpAny_call ?_
  k_dflt (refine' code_defG ?k1 ?k2 ?k3 ?k4 ?k5 ?kA ?kF ?kK ?k6 ?k7 ?k8 ?k9 ?kB ?_ ?c2 ?c3 ?c4 ?c5; (case kA => exact rfl); (case kF => exact rfl); (case kK => assumption); (case k1 => exact B); (case k2 => exact F); (case k3 => exact X); (case k4 => exact news_sub N hsub); (case k5 => exact T); (case k6 => k_is); (case k7 => k_is); (case k8 => k_room); (case k9 => first | exact BindsTo.of_eq rfl | exact binds_K (by k_in) rfl (by k_is) rfl rfl rfl); (case c5 => decide); (case kB => exact locs rfl); (case c2 => exact rfl); (case c3 => exact rfl); (case c4 => exact rfl); k_whole; intro g' L' h' FG' F' N' B' X' T' kG; (try dsimp only); (try k_unmd); (try k_fold); (try (refine' aLet ?_; intro AL)))
  k_steps
  all_goals exact Fn.fin kG N hsub hret (by assumption) (by assumption) (by assumption) (by assumption) (by (ktn_no "Sub")) (by ktn_no "VIn")
set_option maxRecDepth 100000 in
set_option maxHeartbeats 8000000 in
theorem told (w : World) (n p : Int) : Fn w 138 3 100 [.dec n p] (.tup [.int n, .int p]) := by
  unfold Fn Sp
  k_fill
  intro dp un gd cn cs a ccd cl outer A₀ base h₀ L m news imm s vs p' loose mean mg mb Q E B F X N T hk hsub hpre hd hu hret
  refine VAll.opr (.cons .lf .nil) hpre ?_; clear hpre; intro a170n d171n t172n t173n t174n t175n ha176n hd177n hk178n _; 
  refine wpAny_call ?_
  k_dflt (refine' code_defG ?k1 ?k2 ?k3 ?k4 ?k5 ?kA ?kF ?kK ?k6 ?k7 ?k8 ?k9 ?kB ?_ ?c2 ?c3 ?c4 ?c5; (case kA => exact rfl); (case kF => exact rfl); (case kK => assumption); (case k1 => exact B); (case k2 => exact F); (case k3 => exact X); (case k4 => exact news_sub N hsub); (case k5 => exact T); (case k6 => k_is); (case k7 => k_is); (case k8 => k_room); (case k9 => first | exact BindsTo.of_eq rfl | exact binds_K (by k_in) rfl (by k_is) rfl rfl rfl); (case c5 => decide); (case kB => exact locs rfl); (case c2 => exact rfl); (case c3 => exact rfl); (case c4 => exact rfl); k_whole; intro g' L' h' FG' F' N' B' X' T' kG; (try dsimp only); (try k_unmd); (try k_fold); (try (refine' aLet ?_; intro AL)))
  k_steps
  all_goals exact Fn.fin kG N hsub hret (by assumption) (by assumption) (by assumption) (by assumption) (by (ktn_no "Sub")) (by ktn_no "VIn")
set_option maxRecDepth 100000 in
set_option maxHeartbeats 8000000 in
theorem plus (w : World) (n b : Int) : Fn w 82 8 400 [.dec n 0, .int b] (.dec (n + b) 0) := by
  unfold Fn Sp
  k_fill
  intro dp un gd cn cs a ccd cl outer A₀ base h₀ L m news imm s vs p' loose mean mg mb Q E B F X N T hk hsub hpre hd hu hret
  refine VAll.opr (.cons .lf (.cons .lf .nil)) hpre ?_; clear hpre; intro a191n d192n t193n t194n t195n t196n ha197n hd198n hk199n t201n _; 
  refine wpAny_call ?_
  k_dflt (refine' code_defG ?k1 ?k2 ?k3 ?k4 ?k5 ?kA ?kF ?kK ?k6 ?k7 ?k8 ?k9 ?kB ?_ ?c2 ?c3 ?c4 ?c5; (case kA => exact rfl); (case kF => exact rfl); (case kK => assumption); (case k1 => exact B); (case k2 => exact F); (case k3 => exact X); (case k4 => exact news_sub N hsub); (case k5 => exact T); (case k6 => k_is); (case k7 => k_is); (case k8 => k_room); (case k9 => first | exact BindsTo.of_eq rfl | exact binds_K (by k_in) rfl (by k_is) rfl rfl rfl); (case c5 => decide); (case kB => exact locs rfl); (case c2 => exact rfl); (case c3 => exact rfl); (case c4 => exact rfl); k_whole; intro g' L' h' FG' F' N' B' X' T' kG; (try dsimp only); (try k_unmd); (try k_fold); (try (refine' aLet ?_; intro AL)))
  k_steps
  all_goals exact Fn.fin kG N hsub hret (by assumption) (by assumption) (by assumption) (by assumption) (by (ktn_no "Sub")) (VIn.congr (by ktn_no "VIn") (by simp))
set_option maxRecDepth 100000 in
set_option maxHeartbeats 8000000 in
theorem pairi (w : World) (x y : Int) : Fn w 225 8 400 [.int x, .int y] (.tup [.dec x 0, .dec y 0]) := by
  unfold Fn Sp
  k_fill
  intro dp un gd cn cs a ccd cl outer A₀ base h₀ L m news imm s vs p' loose mean mg mb Q E B F X N T hk hsub hpre hd hu hret
  refine VAll.opr (.cons .lf (.cons .lf .nil)) hpre ?_; clear hpre; intro t214n t216n _; 
  refine wpAny_call ?_
  k_dflt (refine' code_defG ?k1 ?k2 ?k3 ?k4 ?k5 ?kA ?kF ?kK ?k6 ?k7 ?k8 ?k9 ?kB ?_ ?c2 ?c3 ?c4 ?c5; (case kA => exact rfl); (case kF => exact rfl); (case kK => assumption); (case k1 => exact B); (case k2 => exact F); (case k3 => exact X); (case k4 => exact news_sub N hsub); (case k5 => exact T); (case k6 => k_is); (case k7 => k_is); (case k8 => k_room); (case k9 => first | exact BindsTo.of_eq rfl | exact binds_K (by k_in) rfl (by k_is) rfl rfl rfl); (case c5 => decide); (case kB => exact locs rfl); (case c2 => exact rfl); (case c3 => exact rfl); (case c4 => exact rfl); k_whole; intro g' L' h' FG' F' N' B' X' T' kG; (try dsimp only); (try k_unmd); (try k_fold); (try (refine' aLet ?_; intro AL)))
  k_steps
  all_goals exact Fn.fin kG N hsub hret (by assumption) (by assumption) (by assumption) (by assumption) (by (ktn_no "Sub")) (by ktn_no "VIn")
set_option maxRecDepth 100000 in
set_option maxHeartbeats 8000000 in
theorem paird (w : World) (x y : Int) : Fn w 225 8 400 [.dec x 0, .dec y 0] (.tup [.dec x 0, .dec y 0]) := by
  unfold Fn Sp
  k_fill
  intro dp un gd cn cs a ccd cl outer A₀ base h₀ L m news imm s vs p' loose mean mg mb Q E B F X N T hk hsub hpre hd hu hret
  refine VAll.opr (.cons .lf (.cons .lf .nil)) hpre ?_; clear hpre; intro a229n d230n t231n t232n t233n t234n ha235n hd236n hk237n a239n d240n t241n t242n t243n t244n ha245n hd246n hk247n _; 
  refine wpAny_call ?_
  k_dflt (refine' code_defG ?k1 ?k2 ?k3 ?k4 ?k5 ?kA ?kF ?kK ?k6 ?k7 ?k8 ?k9 ?kB ?_ ?c2 ?c3 ?c4 ?c5; (case kA => exact rfl); (case kF => exact rfl); (case kK => assumption); (case k1 => exact B); (case k2 => exact F); (case k3 => exact X); (case k4 => exact news_sub N hsub); (case k5 => exact T); (case k6 => k_is); (case k7 => k_is); (case k8 => k_room); (case k9 => first | exact BindsTo.of_eq rfl | exact binds_K (by k_in) rfl (by k_is) rfl rfl rfl); (case c5 => decide); (case kB => exact locs rfl); (case c2 => exact rfl); (case c3 => exact rfl); (case c4 => exact rfl); k_whole; intro g' L' h' FG' F' N' B' X' T' kG; (try dsimp only); (try k_unmd); (try k_fold); (try (refine' aLet ?_; intro AL)))
  k_steps
  all_goals exact Fn.fin kG N hsub hret (by assumption) (by assumption) (by assumption) (by assumption) (by (ktn_no "Sub")) (by ktn_no "VIn")
end
theorem resetD2 : True := by w_top off; trivial
local macro_rules | `(tactic| k_lt $h:ident) => `(tactic| (have lraw9 := $h; replace $h := allLt_of $h; simp only [AllLt, and_true] at $h:ident))
theorem linesD2 : True := by
  k_with_none
  (k_with "rk" => (k_dflt (first | (refine' rK 1 ?h_1 ?x_1 ?e_1; (case h_1 => assumption); (case x_1 => exact rfl); (case e_1 => exact rfl)) | (refine' rK 3 ?h_1 ?x_1 ?e_1; (case h_1 => assumption); (case x_1 => exact rfl); (case e_1 => exact rfl)) | (refine' rK0 0 ?h_1 ?x_1 ?e_1; (case h_1 => assumption); (case x_1 => exact rfl); (case e_1 => exact rfl)) | (refine' rK 2 ?h_1 ?x_1 ?e_1; (case h_1 => assumption); (case x_1 => exact rfl); (case e_1 => exact rfl)) | (refine' rK 6 ?h_1 ?x_1 ?e_1; (case h_1 => assumption); (case x_1 => exact rfl); (case e_1 => exact rfl)) | (refine' rK 4 ?h_1 ?x_1 ?e_1; (case h_1 => assumption); (case x_1 => exact rfl); (case e_1 => exact rfl)) | (refine' rK0 1 ?h_1 ?x_1 ?e_1; (case h_1 => assumption); (case x_1 => exact rfl); (case e_1 => exact rfl)) | (refine' rK 9 ?h_1 ?x_1 ?e_1; (case h_1 => assumption); (case x_1 => exact rfl); (case e_1 => exact rfl)) | (refine' rK 7 ?h_1 ?x_1 ?e_1; (case h_1 => assumption); (case x_1 => exact rfl); (case e_1 => exact rfl)) | (refine' rK0 2 ?h_1 ?x_1 ?e_1; (case h_1 => assumption); (case x_1 => exact rfl); (case e_1 => exact rfl)))))
  (k_with "k_room" => first | exact Nat.le_of_ble_eq_true rfl | k_extra "rk" | ((try simp only [depth_under_make, depth_under_kw, depth_in1, depth_deeper, depth_caller, units_in1, units_deeper, Around.mark_units, units_caller]); (try dsimp only [ktrTop, Around.deeper]); omega) | ((try simp +zetaDelta only [depth_under_make, depth_under_kw, depth_in1, depth_deeper, depth_caller, units_in1, units_deeper, Around.mark_units, units_caller]); (try dsimp +zetaDelta only [ktrTop, Around.deeper]); omega))
  (k_with "h220" => ((with_reducible show Rt _ _ _ _ (eval (Expr.Name _ _) _) _ _ _); first
    | (apply rtL; exact rfl; exact rfl; k_asm; exact rfl; decide +kernel)
    | (apply rtK; exact rfl; exact rfl; k_asm; k_asm; k_asm; k_is; decide +kernel)
    | (apply rtC; exact rfl; exact rfl; k_asm; exact rfl; k_mem; k_asm; decide +kernel)
    | (apply rtB; exact rfl; exact rfl; k_asm; k_asm; k_asm; k_is; boot_fast; decide; decide +kernel)))
  (k_with "h221" => ((with_reducible show Rt _ _ _ _ (eval (Expr.Constant _ _ _) _) _ _ _); with_reducible first | exact rtInt | exact rtStr | exact rtBool | exact rtNone))
  (k_with "h222" => ((with_reducible show Rt _ _ _ _ (eval (Expr.Subscript _ _ _) _) _ _ _); apply rtSub; ktn_no "ev"; ktn_no "ev"; ktn_no "evi"))
  (k_with "h223" => ((with_reducible show Rt _ _ _ _ (eval (Expr.BinOp _ _ _ _) _) _ _ _); apply rtBin; ktn_no "ev"; ktn_no "ev"; (with_reducible first | exact rtAdd | exact rtSubI)))
  (k_with "h224" => ((with_reducible show Rt _ _ _ _ (eval (Expr.UnaryOp _ _ _) _) _ _ _); apply rtUn; ktn_no "ev"; with_reducible exact rtNeg))
  (k_with "ev" => first | ktn_no "h220" | ktn_no "h221" | ktn_no "h222" | ktn_no "h223" | ktn_no "h224")
  (k_with "h237" => (apply rtTup; exact News.isTup (by k_asm) (by ktn_no "Mem"); decide; decide; exact rfl; exact rfl; with_unfolding_all exact rfl))
  (k_with "h238" => (apply rtLst; k_asm; ktn_no "Mem"; (first | decide | omega); (first | decide | omega); exact rfl; with_unfolding_all rfl; (intro _; with_unfolding_all rfl)))
  (k_with "evi" => first | ktn_no "h237" | ktn_no "h238")
  (k_with "evs" => first
  | with_reducible exact rtNil
  | (apply rtCons; ktn_no "ev"; ktn_no "evs"; exact rfl))
  (k_with "spl" => ((with_reducible show wpAny _ _ (PySem.call _ (_ ++ _)) _ _ _); k_dflt (first | refine' (?_ : wpAny _ _ (PySem.call _ []) _ _ _) | refine' (?_ : wpAny _ _ (PySem.call _ [_]) _ _ _) | refine' (?_ : wpAny _ _ (PySem.call _ [_, _]) _ _ _) | refine' (?_ : wpAny _ _ (PySem.call _ [_, _, _]) _ _ _) | refine' (?_ : wpAny _ _ (PySem.call _ [_, _, _, _]) _ _ _) | refine' (?_ : wpAny _ _ (PySem.call _ [_, _, _, _, _]) _ _ _))))
  (k_with "w:spliced" => (k_here; k_dflt (refine' rtUse ?r_10 ?_; (case r_10 => ktn_no "evs"); k_whole); (try k_extra "spl")))
  (k_with "w:eval Tuple" => (k_here; k_dflt (refine' evTupleN ?r_11 ?F_11 ?N_11 ?z_11 ?_; (case r_11 => ktn_no "evs"); (case F_11 => k_asm); (case N_11 => k_asm); (case z_11 => kmk_size); k_whole); intro D' h' t' lg' F' N' l1; (try k_lt l1); (try k_sweep)))
  (k_with "w:newTuple" => (k_here; k_dflt (refine' ntL ?F_12 ?N_12 ?z_12 ?_; (case F_12 => k_asm); (case N_12 => k_asm); (case z_12 => kmk_size); k_whole); intro D' h' t' lg' F' N' l1; (try k_lt l1); (try k_sweep)))
  (k_with "w:execs cons" => (k_here; first
  | ((with_reducible show wpAny _ _ (execs (Stmt.Assign [Expr.Name _ _] _ _ :: _) _) _ _ _); (fail_if_success (with_reducible show wpAny _ _ (execs (Stmt.Assign _ (Expr.ListComp _ _ _) _ :: _) _) _ _ _)); k_dflt (refine' exAs ?_ ?hs_13; (case hs_13 => exact rfl); k_whole))
  | ((with_reducible show wpAny _ _ (execs (Stmt.Return (some _) _ :: _) _) _ _ _); refine' exRe ?_)))
  (k_with "w:KRe" => (dsimp only [KRe]))
  (k_with "w:KAs" => (k_here; k_dflt (first
  | (apply kasL; exact rfl; exact rfl; k_asm; k_asm; k_whole; intro h' t' m' F' N'; (try k_sweep))
  | (apply kasC; exact rfl; exact rfl; k_asm; k_asm; exact rfl; k_updF; k_asm; k_whole; intro h' o' F' N' d'; (try dsimp only at N'); (try k_sweep)))))
  (k_with "w:eval Subscript" => (k_here; k_dflt (first | (refine' rtUse ?r_16 ?_; (case r_16 => ktn_no "ev"); k_whole) | (refine' evSub ?a_16 ?b_16 ?_; (case a_16 => ktn_no "ev"); (case b_16 => ktn_no "ev"); k_whole))))
  (k_with "w:eval BinOp" => (k_here; k_dflt (first | (refine' rtUse ?r_17 ?_; (case r_17 => ktn_no "ev"); k_whole) | (refine' evBin ?a_17 ?b_17 ?_; (case a_17 => ktn_no "ev"); (case b_17 => ktn_no "ev"); k_whole))))
  (k_with "w:eval UnaryOp" => (k_here; k_dflt (refine' rtUse ?r_18 ?_; (case r_18 => ktn_no "ev"); k_whole)))
  (k_with "w:isTrue Compare" => (k_here; k_dflt (refine' evIsCmp ?a_19 ?b_19 ?_ ?hm_19; (case a_19 => ktn_no "ev"); (case b_19 => ktn_no "ev"); (case hm_19 => with_unfolding_all exact rfl); k_whole)))
  (k_with "w:eval Compare" => (k_here; k_dflt (refine' evCmp ?a_20 ?b_20 ?_ ?hm_20; (case a_20 => ktn_no "ev"); (case b_20 => ktn_no "ev"); (case hm_20 => with_unfolding_all exact rfl); k_whole)))
  (k_with "w:eval Call" => (k_here; (with_reducible show wpAny _ _ (eval (Expr.Call (Expr.Name _ _) (_ :: _) [] _) _) _ _ _); k_dflt (refine' evCallK ?a_21 ?X_21 ?hk_21 ?b_21 ?_ ?he_21 ?hs_21 ?hp_21; (case a_21 => ktn_no "ev"); (case X_21 => k_in); (case hk_21 => k_is); (case he_21 => exact rfl); (case hs_21 => exact rfl); (case hp_21 => exact rfl); (case b_21 => ktn_no "evs"); k_whole)))
  (k_with "w:storeName" => (k_here; k_dflt (refine' stL ?a_22 ?b_22 ?F_22 ?N_22 ?_; (case a_22 => exact rfl); (case b_22 => exact rfl); (case F_22 => k_asm); (case N_22 => k_asm); k_whole; intro h' t' m' F' N'; (try k_sweep))))
  (k_with "w:newList" => (k_here; k_dflt (refine' nlL ?F_23 ?N_23 ?z_23 ?_; (case F_23 => k_asm); (case N_23 => k_asm); (case z_23 => size_fits); k_whole); intro l' h' t' lg' F' N' l1; (try k_lt l1); (try k_sweep)))
  (k_with "h194" => (refine' mz_hd ?za1_24 ?zb1_24; (case za1_24 => assumption); (case zb1_24 => ktn_no "mz")))
  (k_with "h195" => (refine' mz_i0 ?za2_24 ?zb2_24; (case za2_24 => assumption); (case zb2_24 => ktn_no "mz")))
  (k_with "h196" => (refine' mz_i1 ?za3_24 ?zb3_24; (case za3_24 => assumption); (case zb3_24 => ktn_no "mz")))
  (k_with "h197" => (refine' mz_i2 ?za4_24 ?zb4_24; (case za4_24 => assumption); (case zb4_24 => ktn_no "mz")))
  (k_with "h198" => (refine' mz_i3 ?za5_24 ?zb5_24; (case za5_24 => assumption); (case zb5_24 => ktn_no "mz")))
  (k_with "h199" => (refine' mz_s1 ?za6_24 ?zb6_24; (case za6_24 => assumption); (case zb6_24 => ktn_no "mz")))
  (k_with "h200" => (refine' mz_in ?za7_24 ?zc7_24 ?zb7_24; (case za7_24 => assumption); (case zc7_24 => decide +kernel); (case zb7_24 => ktn_no "mz")))
  (k_with "mz" => first | with_reducible exact rfl | ktn_no "h194" | ktn_no "h195" | ktn_no "h196" | ktn_no "h197" | ktn_no "h198" | ktn_no "h199" | ktn_no "h200")
  (k_with "w:callWith" => ((with_reducible show wpAny _ _ (callWith _ (Value.builtin _) (_ :: _) (backTo _ (starEach (_ :: _) _)) []) _ _ _); with_reducible refine' callWith_method1 ?_ ?he_25 ?hp_25; (case he_25 => with_unfolding_all exact rfl); (case hp_25 => with_unfolding_all exact rfl)))
  (k_with "ktr_room" => k_room)
  (k_with "k_in" => first | k_in_fast | with_reducible assumption | exact Frag.In.keeps (by with_reducible assumption) (Fr.keep (by with_reducible assumption)) | assumption)
  (k_with "h95" => with_reducible (refine' sl_cons ?_; ktn_no "Sub"))
  (k_with "h96" => with_reducible (refine' sl_app ?_; ktn_no "Sub"))
  (k_with "h97" => with_reducible (refine' sl_skip1 ?_; ktn_no "Sub"))
  (k_with "h98" => with_reducible (refine' sl_skip ?_; ktn_no "Sub"))
  (k_with "Sub" => with_reducible first | exact sl_refl | ktn_no "h95" | ktn_no "h96" | ktn_no "h97" | exact sl_all | ktn_no "h98" | exact sl_nil)
  (k_with "StripA" => ((fail_if_success k_extra "x31"); (with_reducible first | (refine' strip_ext ?sx_50 ?sy_50; (case sx_50 => assumption); (case sy_50 => ktn_no "StripA")) | (refine' strip_lst ?sy_50; (case sy_50 => ktn_no "StripA")) | (refine' strip_cell ?sd_50 ?sy_50; (case sd_50 => assumption); (case sy_50 => ktn_no "StripA")) | (refine' sl_cons ?sy_50; (case sy_50 => ktn_no "StripA")) | (refine' sl_app ?sy_50; (case sy_50 => ktn_no "StripA")) | exact sl_refl)))
  (k_with "Strip" => with_reducible first | (refine' strip_ext ?sx_29 ?sy_29; (case sx_29 => assumption); (case sy_29 => ktn_no "Strip")) | (refine' sl_cons ?sy_29; (case sy_29 => ktn_no "Strip")) | (refine' sl_app ?sy_29; (case sy_29 => ktn_no "Strip")) | exact sl_refl)
  (k_with "h85" => with_reducible (refine List.mem_cons_of_mem _ ?_; ktn_no "MemD"))
  (k_with "h86" => with_reducible (refine List.mem_append_right _ ?_; ktn_no "MemD"))
  (k_with "MemD" => with_reducible first | exact List.mem_cons_self | ktn_no "h85" | ktn_no "h86" | fail "memd")
  (k_with "h80" => with_reducible (refine' mem_of_sub ?mh_31 ?ms_31; (case mh_31 => assumption); (case ms_31 => ktn_no "Sub")))
  (k_with "Mem" => with_reducible first | ktn_no "MemD" | ktn_no "h80" | fail "mem")
  (k_with "size_fits" => first | exact Nat.le_of_ble_eq_true rfl | fail "sz")
  (k_with "k_mem" => ktn_no "Mem")
  (k_with "h9" => (with_reducible (refine' ne_lt ?qa1_51 ?qa2_51; (case qa1_51 => assumption); (case qa2_51 => ktn_no "Mem"))))
  (k_with "h10" => (with_reducible (refine' ne_gt ?qa1_51 ?qa2_51; (case qa1_51 => assumption); (case qa2_51 => ktn_no "Mem"))))
  (k_with "h11" => (with_reducible (refine' ne_lt2 ?qa1_51 ?qa2_51 ?qa3_51; (case qa1_51 => assumption); (case qa2_51 => assumption); (case qa3_51 => ktn_no "Mem"))))
  (k_with "h12" => (with_reducible (refine' ne_gt2 ?qa1_51 ?qa2_51 ?qa3_51; (case qa1_51 => assumption); (case qa2_51 => assumption); (case qa3_51 => ktn_no "Mem"))))
  (k_with "h13" => (with_reducible (refine' ne_all ?qa1_51 ?qa2_51; (case qa1_51 => assumption); (case qa2_51 => ktn_no "Mem"))))
  (k_with "h14" => (with_reducible (refine' ne_all' ?qa1_51 ?qa2_51; (case qa1_51 => assumption); (case qa2_51 => ktn_no "Mem"))))
  (k_with "h15" => (with_reducible (refine' ne_objB ?qa1_51 ?qa2_51 ?qa3_51 ?qa4_51; (case qa1_51 => assumption); (case qa2_51 => ktn_no "Mem"); (case qa3_51 => ktn_no "Mem"); (case qa4_51 => decide))))
  (k_with "h16" => (refine neN ?_; (try dsimp only); omega))
  (k_with "Ne" => ((fail_if_success k_extra "x32"); (first | with_reducible assumption | ktn_no "h9" | ktn_no "h10" | ktn_no "h11" | ktn_no "h12" | ktn_no "h13" | ktn_no "h14" | ktn_no "h15" | ktn_no "h16")))
  (k_with "h46" => (with_reducible (refine' an_lt ?qb1_52 ?qb2_52; (case qb1_52 => assumption); (case qb2_52 => ktn_no "Sub"))))
  (k_with "h47" => (with_reducible (refine' an_sub ?qb1_52 ?qb2_52; (case qb1_52 => assumption); (case qb2_52 => ktn_no "Sub"))))
  (k_with "h48" => (with_reducible (refine' an_cell ?qb1_52 ?qb2_52 ?qb3_52; (case qb1_52 => assumption); (case qb2_52 => ktn_no "Sub"); (case qb3_52 => first | omega | exact leN (by omega)))))
  (k_with "h49" => (with_reducible (refine' an_ne9 ?qb1_52 ?qb2_52; (case qb1_52 => assumption); (case qb2_52 => ktn_no "Mem"))))
  (k_with "h50" => (with_reducible (refine' an_ext ?qb1_52 ?qb2_52 ?qb3_52 ?qb4_52; (case qb1_52 => assumption); (case qb2_52 => assumption); (case qb3_52 => ktn_no "Mem"); (case qb4_52 => first | exact List.forall_mem_nil _ | (refine List.forall_mem_cons.mpr ⟨?_, List.forall_mem_nil _⟩; ktn_no "Ne")))))
  (k_with "AtomNe" => ((fail_if_success k_extra "x33"); (first | ktn_no "h46" | ktn_no "h47" | ktn_no "h48" | ktn_no "h49" | ktn_no "h50" | with_reducible assumption)))
  (k_with "h70" => (with_reducible (refine' an_lt0 ?qb1_36; (case qb1_36 => assumption))))
  (k_with "h71" => ((with_reducible refine' an_cons ?a_36 ?b_36); (case a_36 => ktn_no "Ne"); (case b_36 => ktn_no "AllNe")))
  (k_with "h72" => ((with_reducible refine' an_app ?a_36 ?b_36); (case a_36 => ktn_no "AtomNe"); (case b_36 => ktn_no "AllNe")))
  (k_with "AllNe" => first | exact List.forall_mem_nil _ | ktn_no "h70" | ktn_no "h71" | ktn_no "h72" | ktn_no "AtomNe")
  (k_with "k_updF" => ((fail_if_success k_extra "x34"); (first | ((with_reducible refine' UpdF.head ?a_53); (case a_53 => ktn_no "AllNe")) | ((with_reducible refine' UpdF.tail ?a_53 ?b_53); (case a_53 => ktn_no "Ne"); (case b_53 => k_updF)) | ((with_reducible refine' updF_app ?a_53 ?b_53); (case a_53 => ktn_no "AtomNe"); (case b_53 => k_updF)))))
  (k_with "k_upd" => first | ((with_reducible refine' Upd.head ?a_37); (case a_37 => ktn_no "AllNe")) | ((with_reducible refine' Upd.tail ?a_37 ?b_37); (case a_37 => ktn_no "Ne"); (case b_37 => k_upd)) | ((with_reducible refine' upd_app ?a_37 ?b_37); (case a_37 => ktn_no "AtomNe"); (case b_37 => k_upd)))
  (k_with "h167" => (with_reducible (refine' off_mem ?qc1_38 ?qc2_38; (case qc1_38 => assumption); (case qc2_38 => ktn_no "Mem"))))
  (k_with "h168" => (with_reducible (refine' off_new ?qc1_38 ?qc2_38 ?qc3_38; (case qc1_38 => assumption); (case qc2_38 => assumption); (case qc3_38 => ktn_no "Sub"))))
  (k_with "h169" => (with_reducible (refine' off_ne ?qc1_38 ?qc2_38 ?qc3_38; (case qc1_38 => assumption); (case qc2_38 => assumption); (case qc3_38 => ktn_no "Sub"))))
  (k_with "h170" => (with_reducible (refine' off_new1 ?qc1_38 ?qc2_38 ?qc3_38 ?qc4_38; (case qc1_38 => assumption); (case qc2_38 => assumption); (case qc3_38 => assumption); (case qc4_38 => ktn_no "Sub"))))
  (k_with "OffA" => first | ktn_no "h167" | ktn_no "h168" | ktn_no "h169" | ktn_no "h170")
  (k_with "h154" => ((with_reducible refine' off_cons ?a_39 ?b_39); (case a_39 => ktn_no "OffA"); (case b_39 => ktn_no "Off")))
  (k_with "h155" => ((with_reducible refine' off_app ?a_39 ?b_39); (case a_39 => first | (with_reducible (refine' off_sub ?qc1_39 ?qc2_39; (case qc1_39 => assumption); (case qc2_39 => ktn_no "Sub"))) | (with_reducible (refine' off_tl ?qc1_39 ?qc2_39 ?qc3_39; (case qc1_39 => assumption); (case qc2_39 => assumption); (case qc3_39 => ktn_no "Sub")))); (case b_39 => ktn_no "Off")))
  (k_with "h156" => (with_reducible (refine' off_sub ?qc1_39 ?qc2_39; (case qc1_39 => assumption); (case qc2_39 => ktn_no "Sub"))))
  (k_with "Off" => first | with_reducible assumption | exact off_nil | ktn_no "h154" | ktn_no "h155" | ktn_no "h156")
  (k_with "Dec" => first | (simp only [decide_eq_true_eq, decide_eq_false_iff_not, Bool.not_eq_true', Bool.not_eq_false', Bool.not_eq_true, Bool.and_eq_true, Bool.or_eq_true, bne_iff_ne, beq_iff_eq, ne_eq, not_and, not_or, not_true_eq_false, not_false_eq_true, Decidable.not_not]; done) | (simp only [decide_eq_true_eq, decide_eq_false_iff_not, Bool.not_eq_true', Bool.not_eq_false', Bool.not_eq_true, Bool.and_eq_true, Bool.or_eq_true, bne_iff_ne, beq_iff_eq, ne_eq, not_and, not_or, not_true_eq_false, not_false_eq_true, Decidable.not_not]; omega) | omega)
  (k_with "w:ite" => ((fail_if_success k_extra "x35"); ((k_dflt (first | ((refine ite_pos ?ic_55 ?_); (case ic_55 => k_extra "Dec")) | ((refine ite_neg ?ic_55 ?_); (case ic_55 => k_extra "Dec")))))))
  (k_with "w:VIn" => k_extra "VIn")
  (k_with "h116" => (with_reducible (refine' VIn.mono ?qd1_40 ?qd2_40; (case qd1_40 => assumption); (case qd2_40 => (ktn_no "Sub")))))
  (k_with "h117" => ((with_reducible refine' VIn.tup ?vm_40 ?va_40); (case vm_40 => ktn_no "Mem"); (case va_40 => ktn_no "VAll")))
  (k_with "h118" => ((with_reducible refine' VIn.lst ?vm_40 ?va_40); (case vm_40 => ktn_no "Mem"); (case va_40 => ktn_no "VAll")))
  (k_with "h119" => ((with_reducible refine' lst_arr ?vm_40 ?va_40); (case vm_40 => ktn_no "Mem"); (case va_40 => ktn_no "VAll")))
  (k_with "h120" => ((with_reducible refine' VIn.dec ?vm_40 ?va_40); (case vm_40 => ktn_no "Mem"); (case va_40 => ktn_no "Mem")))
  (k_with "h121" => ((with_reducible refine' VIn.nilp ?vm_40 ?va_40); (case vm_40 => ktn_no "Mem"); (case va_40 => ktn_no "Mem")))
  (k_with "h122" => ((with_reducible refine' VIn.path ?vm_40 ?va_40 ?vp_40); (case vm_40 => ktn_no "Mem"); (case va_40 => ktn_no "Mem"); (case vp_40 => ktn_no "VIn")))
  (k_with "h123" => ((with_reducible refine' VIn.mat ?vm_40 ?va_40 ?v1_40 ?v2_40 ?v3_40 ?v4_40 ?v5_40 ?v6_40); (case vm_40 => ktn_no "Mem"); (case va_40 => ktn_no "Mem"); (case v1_40 => ktn_no "VIn"); (case v2_40 => ktn_no "VIn"); (case v3_40 => ktn_no "VIn"); (case v4_40 => ktn_no "VIn"); (case v5_40 => ktn_no "VIn"); (case v6_40 => ktn_no "VIn")))
  (k_with "h124" => (refine' VIn.mono ?qd1_40 ?qd2_40; (case qd1_40 => assumption); (case qd2_40 => (ktn_no "Sub"))))
  (k_with "VIn" => first | with_reducible exact VIn.int _ _ | with_reducible exact VIn.str _ _ | with_reducible exact VIn.bool _ | with_reducible exact VIn.none | with_reducible exact VIn.bytes _ _ | with_reducible assumption | ktn_no "h116" | ktn_no "h117" | ktn_no "h118" | ktn_no "h119" | ktn_no "h120" | ktn_no "h121" | ktn_no "h122" | ktn_no "h123" | ktn_no "h124")
  (k_with "h145" => (refine VAll.cons ?_ ?_; (ktn_no "VIn"); (ktn_no "VAll")))
  (k_with "h146" => (with_reducible (refine' VAll.mono ?qd1_41 ?qd2_41; (case qd1_41 => assumption); (case qd2_41 => (ktn_no "Sub")))))
  (k_with "VAll" => first | exact VAll.nil | ktn_no "h145" | ktn_no "h146")
  (k_with "w:subscriptTail Name Constant ref int" => (k_here; (with_reducible show wpAny _ _ (subscriptTail _ _ (Value.ref _) (Value.int _ _)) _ _ _); (k_extra "SubIdx")))
  (k_with "w:subscriptTail Name UnaryOp ref int" => (k_here; (with_reducible show wpAny _ _ (subscriptTail _ _ (Value.ref _) (Value.int _ _)) _ _ _); (k_extra "SubIdx")))
  (k_with "w:subscriptTail Name Name ref int" => (k_here; (with_reducible show wpAny _ _ (subscriptTail _ _ (Value.ref _) (Value.int _ _)) _ _ _); (k_extra "SubIdx")))
  (k_with "w:subscriptTail Name BinOp ref int" => (k_here; (with_reducible show wpAny _ _ (subscriptTail _ _ (Value.ref _) (Value.int _ _)) _ _ _); (k_extra "SubIdx")))
  (k_with "w:subscriptTail Subscript Name Constant Constant ref int" => (k_here; (with_reducible show wpAny _ _ (subscriptTail _ _ (Value.ref _) (Value.int _ _)) _ _ _); (k_extra "SubIdx")))
  (k_with "w:subscriptTail Subscript Name Constant UnaryOp ref int" => (k_here; (with_reducible show wpAny _ _ (subscriptTail _ _ (Value.ref _) (Value.int _ _)) _ _ _); (k_extra "SubIdx")))
  (k_with "w:subscriptTail Subscript Name Constant Name ref int" => (k_here; (with_reducible show wpAny _ _ (subscriptTail _ _ (Value.ref _) (Value.int _ _)) _ _ _); (k_extra "SubIdx")))
  (k_with "w:subscriptTail Subscript Name Constant BinOp ref int" => (k_here; (with_reducible show wpAny _ _ (subscriptTail _ _ (Value.ref _) (Value.int _ _)) _ _ _); (k_extra "SubIdx")))
  (k_with "w:subscriptTail Subscript Name UnaryOp Constant ref int" => (k_here; (with_reducible show wpAny _ _ (subscriptTail _ _ (Value.ref _) (Value.int _ _)) _ _ _); (k_extra "SubIdx")))
  (k_with "w:subscriptTail Subscript Name UnaryOp UnaryOp ref int" => (k_here; (with_reducible show wpAny _ _ (subscriptTail _ _ (Value.ref _) (Value.int _ _)) _ _ _); (k_extra "SubIdx")))
  (k_with "w:subscriptTail Subscript Name UnaryOp Name ref int" => (k_here; (with_reducible show wpAny _ _ (subscriptTail _ _ (Value.ref _) (Value.int _ _)) _ _ _); (k_extra "SubIdx")))
  (k_with "w:subscriptTail Subscript Name UnaryOp BinOp ref int" => (k_here; (with_reducible show wpAny _ _ (subscriptTail _ _ (Value.ref _) (Value.int _ _)) _ _ _); (k_extra "SubIdx")))
  (k_with "w:subscriptTail Subscript Name Name Constant ref int" => (k_here; (with_reducible show wpAny _ _ (subscriptTail _ _ (Value.ref _) (Value.int _ _)) _ _ _); (k_extra "SubIdx")))
  (k_with "w:subscriptTail Subscript Name Name UnaryOp ref int" => (k_here; (with_reducible show wpAny _ _ (subscriptTail _ _ (Value.ref _) (Value.int _ _)) _ _ _); (k_extra "SubIdx")))
  (k_with "w:subscriptTail Subscript Name Name Name ref int" => (k_here; (with_reducible show wpAny _ _ (subscriptTail _ _ (Value.ref _) (Value.int _ _)) _ _ _); (k_extra "SubIdx")))
  (k_with "w:subscriptTail Subscript Name Name BinOp ref int" => (k_here; (with_reducible show wpAny _ _ (subscriptTail _ _ (Value.ref _) (Value.int _ _)) _ _ _); (k_extra "SubIdx")))
  (k_with "w:subscriptTail Attribute Name Constant ref int" => (k_here; (with_reducible show wpAny _ _ (subscriptTail _ _ (Value.ref _) (Value.int _ _)) _ _ _); (k_extra "SubIdx")))
  (k_with "w:subscriptTail Attribute Name UnaryOp ref int" => (k_here; (with_reducible show wpAny _ _ (subscriptTail _ _ (Value.ref _) (Value.int _ _)) _ _ _); (k_extra "SubIdx")))
  (k_with "w:subscriptTail Attribute Name Name ref int" => (k_here; (with_reducible show wpAny _ _ (subscriptTail _ _ (Value.ref _) (Value.int _ _)) _ _ _); (k_extra "SubIdx")))
  (k_with "w:subscriptTail Attribute Name BinOp ref int" => (k_here; (with_reducible show wpAny _ _ (subscriptTail _ _ (Value.ref _) (Value.int _ _)) _ _ _); (k_extra "SubIdx")))
  (k_with "w:subscriptTail Subscript Attribute Name UnaryOp Constant ref int" => (k_here; (with_reducible show wpAny _ _ (subscriptTail _ _ (Value.ref _) (Value.int _ _)) _ _ _); (k_extra "SubIdx")))
  (k_with "w:subscriptTail Subscript Attribute Name UnaryOp UnaryOp ref int" => (k_here; (with_reducible show wpAny _ _ (subscriptTail _ _ (Value.ref _) (Value.int _ _)) _ _ _); (k_extra "SubIdx")))
  (k_with "w:subscriptTail Subscript Attribute Name UnaryOp Name ref int" => (k_here; (with_reducible show wpAny _ _ (subscriptTail _ _ (Value.ref _) (Value.int _ _)) _ _ _); (k_extra "SubIdx")))
  (k_with "w:subscriptTail Subscript Attribute Name UnaryOp BinOp ref int" => (k_here; (with_reducible show wpAny _ _ (subscriptTail _ _ (Value.ref _) (Value.int _ _)) _ _ _); (k_extra "SubIdx")))
  (k_with "SubIdx" => ((fail_if_success k_extra "x36"); (k_dflt (first
  | (refine' item_tupleT ?t_80 ?a_80 ?b_80 ?c_80 ?d_80 ?_; (case t_80 => exact News.isTup (by k_asm) (by ktn_no "Mem")); (case a_80 => decide); (case b_80 => decide); (case c_80 => rfl); (case d_80 => rfl); k_whole)
  | (refine' item_lst ?n_80 ?l_80 ?a_80 ?b_80 ?c_80 ?_ ?hs_80 ?hg_80; (case n_80 => k_asm); (case l_80 => ktn_no "Mem"); (case a_80 => first | decide | omega); (case b_80 => first | decide | omega); (case c_80 => rfl); (case hs_80 => with_unfolding_all rfl); (case hg_80 => intro _; with_unfolding_all rfl); k_whole)))))
  (k_with "w:subscriptTail" => (k_here; (with_reducible show wpAny _ _ (subscriptTail _ _ (Value.ref _) (Value.ref _)) _ _ _); (with_unfolding_all (first
  | (refine' slice_init ?sf_81 ?sn_81 ?st_81 ?ss_81 ?sg_81 ?_; (case sf_81 => k_asm); (case sn_81 => k_asm); (case st_81 => first | (refine' tup_of ?tn_81 ?th_81; (case tn_81 => k_asm); (case th_81 => k_mem)) | (refine' tup_K ?tf_81 ?tx_81 ?tl_81; (case tf_81 => k_asm); (case tx_81 => k_asm); (case tl_81 => k_is))); (case ss_81 => rfl); (case sg_81 => intro _; rfl); k_whole)
  | (refine' slice_tail ?sf_81 ?sn_81 ?st_81 ?sm_81 ?sz_81 ?ss_81 ?sg_81 ?_; (case sf_81 => k_asm); (case sn_81 => k_asm); (case st_81 => first | (refine' tup_of ?tn_81 ?th_81; (case tn_81 => k_asm); (case th_81 => k_mem)) | (refine' tup_K ?tf_81 ?tx_81 ?tl_81; (case tf_81 => k_asm); (case tx_81 => k_asm); (case tl_81 => k_is))); (case sm_81 => exact Nat.le_of_ble_eq_true rfl); (case sz_81 => exact Nat.le_of_ble_eq_true rfl); (case ss_81 => rfl); (case sg_81 => intro _; rfl); k_whole))); intro D' h' F' N' l1; (try simp only [List.drop_succ_cons, List.drop_zero] at N'); (try k_lt l1); (try k_sweep)))
  (k_with "w:exec For Name Tuple cons nil" => (k_here; k_dflt (refine' for_src ?ff_82 ?_ ?hs_82 ?hE_82; (case ff_82 => k_asm); (case hs_82 => intro _; with_unfolding_all rfl); (case hE_82 => passes_own); k_whole)))
  (k_with "w:ForSrc" => ((fail_if_success k_extra "x37"); ((k_dflt (first
  | (refine' for_tuple_rest ?fh_83 ?fl_83 ?ff_83 ?fn_83 ?_; (case fl_83 => first | (refine' tup_of ?tn_83 ?th_83; (case tn_83 => k_asm); (case th_83 => k_mem)) | (refine' tup_K ?tf_83 ?tx_83 ?tl_83; (case tf_83 => k_asm); (case tx_83 => k_asm); (case tl_83 => k_is))); (case fh_83 => exact rfl); (case ff_83 => k_asm); (case fn_83 => k_asm); k_whole)
  | (refine' for_list_rest ?fh_83 ?fl_83 ?ff_83 ?fn_83 ?_; (case fl_83 => (refine' lst_of ?tn_83 ?th_83; (case tn_83 => k_asm); (case th_83 => k_mem))); (case fh_83 => exact rfl); (case ff_83 => k_asm); (case fn_83 => k_asm); k_whole))))))
  (k_with "w:FRest" => ((fail_if_success k_extra "x38"); ((k_dflt (first
  | ((with_reducible show FRest _ _ _ _ _ _ _ _ _ _ _ (_ :: _) _ _); intro ext9 av9 h9 tk9 F9 N9 off9 hav9 hex9; (try k_sweep); (try k_unmd); (try k_fold))
  | ((with_reducible show FRest _ _ _ _ _ _ _ _ _ _ _ [] _ _); intro h9 tk9 F9 N9; (try k_sweep); (try dsimp only); (try k_unmd); (try k_fold)))))))
  (k_with "w:FPost" => (dsimp only [FPost]))
  (k_with "w:FEnd" => ((fail_if_success k_extra "x39"); ((k_dflt (refine' fend_intro ?eF_86 ?eN_86 ?eR_86 ?eO_86 ?_; (case eF_86 => k_asm); (case eN_86 => k_asm); (case eR_86 => repeat' (first | exact rem_base | refine' rem_cons ?_ | refine' rem_app ?_)); (case eO_86 => ktn_no "Off"); k_whole)))))
  (k_with "w:compareOp Eq ref ref" => (k_here; (with_reducible show wpAny _ _ (compareOp CmpOp.Eq (Value.ref _) (Value.ref _)) _ _ _); k_dflt (refine' eq_tup_nil ?qa_87 ?qb_87 ?qu_87 ?_; (case qb_87 => first | (refine' tup_of ?tn_87 ?th_87; (case tn_87 => k_asm); (case th_87 => k_mem)) | (refine' tup_K ?tf_87 ?tx_87 ?tl_87; (case tf_87 => k_asm); (case tx_87 => k_asm); (case tl_87 => k_is))); (case qa_87 => first | (refine' tup_of ?tn_87 ?th_87; (case tn_87 => k_asm); (case th_87 => k_mem)) | (refine' tup_K ?tf_87 ?tx_87 ?tl_87; (case tf_87 => k_asm); (case tx_87 => k_asm); (case tl_87 => k_is))); (case qu_87 => k_room); k_whole); (try simp only [List.size_toArray, List.length_cons, List.length_nil])))
  (k_with "w:compareOp NotEq ref ref" => (k_here; (with_reducible show wpAny _ _ (compareOp CmpOp.NotEq (Value.ref _) (Value.ref _)) _ _ _); k_dflt (refine' ne_tup_nil ?qa_88 ?qb_88 ?qu_88 ?_; (case qb_88 => first | (refine' tup_of ?tn_88 ?th_88; (case tn_88 => k_asm); (case th_88 => k_mem)) | (refine' tup_K ?tf_88 ?tx_88 ?tl_88; (case tf_88 => k_asm); (case tx_88 => k_asm); (case tl_88 => k_is))); (case qa_88 => first | (refine' tup_of ?tn_88 ?th_88; (case tn_88 => k_asm); (case th_88 => k_mem)) | (refine' tup_K ?tf_88 ?tx_88 ?tl_88; (case tf_88 => k_asm); (case tx_88 => k_asm); (case tl_88 => k_is))); (case qu_88 => k_room); k_whole); (try simp only [List.size_toArray, List.length_cons, List.length_nil])))
  (k_with "w:binaryOp Add ref ref" => (k_here; (with_reducible show wpAny _ _ (binaryOp _ (Value.ref _) (Value.ref _)) _ _ _); k_dflt (refine' add_tt ?af_89 ?an_89 ?apt_89 ?ab_89 ?av_89 ?aw_89 ?az_89 ?_; (case af_89 => k_asm); (case an_89 => k_asm); (case apt_89 => first | (refine' tup_of ?tn_89 ?th_89; (case tn_89 => k_asm); (case th_89 => k_mem)) | (refine' tup_K ?tf_89 ?tx_89 ?tl_89; (case tf_89 => k_asm); (case tx_89 => k_asm); (case tl_89 => k_is))); (case ab_89 => first | (refine' tup_of ?tn_89 ?th_89; (case tn_89 => k_asm); (case th_89 => k_mem)) | (refine' tup_K ?tf_89 ?tx_89 ?tl_89; (case tf_89 => k_asm); (case tx_89 => k_asm); (case tl_89 => k_is))); (case av_89 => exact List.cons_ne_nil _ _); (case aw_89 => exact List.cons_ne_nil _ _); (case az_89 => exact Nat.le_of_ble_eq_true rfl); k_whole); intro D' h' F' N' l1; (try simp only [List.cons_append, List.nil_append] at N'); (try k_lt l1); (try k_sweep)))
  (k_with "w:binaryOp Add ref ref" => (k_here; (with_reducible show wpAny _ _ (binaryOp _ (Value.ref _) (Value.ref _)) _ _ _); k_dflt (refine' add_t0 ?af_90 ?an_90 ?apt_90 ?ab_90 ?av_90 ?az_90 ?_; (case af_90 => k_asm); (case an_90 => k_asm); (case apt_90 => first | (refine' tup_of ?tn_90 ?th_90; (case tn_90 => k_asm); (case th_90 => k_mem)) | (refine' tup_K ?tf_90 ?tx_90 ?tl_90; (case tf_90 => k_asm); (case tx_90 => k_asm); (case tl_90 => k_is))); (case ab_90 => first | (refine' tup_of ?tn_90 ?th_90; (case tn_90 => k_asm); (case th_90 => k_mem)) | (refine' tup_K ?tf_90 ?tx_90 ?tl_90; (case tf_90 => k_asm); (case tx_90 => k_asm); (case tl_90 => k_is))); (case av_90 => exact rfl); (case az_90 => exact Nat.le_of_ble_eq_true rfl); k_whole)))
  (k_with "w:call ref" => ((fail_if_success k_extra "x40"); ((k_here; (with_reducible show wpAny _ _ (PySem.call (Value.ref 155) _) _ _ _); k_dflt (refine' spUse (decn _ _ _ _ _ ?hp_42) ?k1_42 ?k2_42 ?k3_42 ?k4_42 ?k5_42 ?k6_42 _ ?ks_42 ?pre_42 ?kd_42 ?ku_42 ?_; (case k1_42 => k_asm); (case k2_42 => k_asm); (case k3_42 => k_asm); (case k4_42 => k_asm); (case k5_42 => k_asm); (case k6_42 => first | exact rfl | assumption); (case ks_42 => (ktn_no "Strip")); (case pre_42 => exact rfl); (case hp_42 => first | exact Or.inl rfl | exact Or.inr ⟨rfl, by decide⟩); (case kd_42 => k_room); (case ku_42 => k_room); k_whole; intro r9 tl9 h9 tk9 lg9 li9 F9 N9 ne9 post9; refine VIn.op .lf post9 ?_; clear post9; intro a2n d3n t4n t5n t6n t7n ha8n hd9n hk10n; (try k_sweep); (try dsimp only); (try k_unmd); (try k_fold))))))
  (k_with "w:call ref" => ((fail_if_success k_extra "x41"); ((k_here; (with_reducible show wpAny _ _ (PySem.call (Value.ref 173) [Value.int _ _]) _ _ _); k_dflt ((first | (refine' spUse (dof_int _ _) ?k1_43 ?k2_43 ?k3_43 ?k4_43 ?k5_43 ?k6_43 _ ?ks_43 ?pre_43 ?kd_43 ?ku_43 ?_; (case k1_43 => k_asm); (case k2_43 => k_asm); (case k3_43 => k_asm); (case k4_43 => k_asm); (case k5_43 => k_asm); (case k6_43 => first | exact rfl | assumption); (case ks_43 => ktn_no "StripA"); (case pre_43 => ktn_no "VAll"); (case kd_43 => k_room); (case ku_43 => k_room); k_whole) | (refine' spUse (dof_int _ _) ?k1_43 ?k2_43 ?k3_43 ?k4_43 ?k5_43 ?k6_43 _ ?ks_43 ?pre_43 ?kd_43 ?ku_43 ?_; (case k1_43 => k_asm); (case k2_43 => k_asm); (case k3_43 => k_asm); (case k4_43 => k_asm); (case k5_43 => k_asm); (case k6_43 => first | exact rfl | assumption); (case ks_43 => ktn_no "Strip"); (case pre_43 => ktn_no "VAll"); (case kd_43 => k_room); (case ku_43 => k_room); k_whole)); intro r9 tl9 h9 tk9 lg9 li9 F9 N9 ne9 post9; refine VIn.op .lf post9 ?_; clear post9; intro a12n d13n t14n t15n t16n t17n ha18n hd19n hk20n; (try k_sweep); (try dsimp only); (try k_unmd); (try k_fold))))))
  (k_with "w:call ref" => ((fail_if_success k_extra "x42"); ((k_here; (with_reducible show wpAny _ _ (PySem.call (Value.ref 173) [Value.ref _]) _ _ _); k_dflt ((first | (refine' spUse (dof_dec _ _ _) ?k1_44 ?k2_44 ?k3_44 ?k4_44 ?k5_44 ?k6_44 _ ?ks_44 ?pre_44 ?kd_44 ?ku_44 ?_; (case k1_44 => k_asm); (case k2_44 => k_asm); (case k3_44 => k_asm); (case k4_44 => k_asm); (case k5_44 => k_asm); (case k6_44 => first | exact rfl | assumption); (case ks_44 => ktn_no "StripA"); (case pre_44 => ktn_no "VAll"); (case kd_44 => k_room); (case ku_44 => k_room); k_whole) | (refine' spUse (dof_dec _ _ _) ?k1_44 ?k2_44 ?k3_44 ?k4_44 ?k5_44 ?k6_44 _ ?ks_44 ?pre_44 ?kd_44 ?ku_44 ?_; (case k1_44 => k_asm); (case k2_44 => k_asm); (case k3_44 => k_asm); (case k4_44 => k_asm); (case k5_44 => k_asm); (case k6_44 => first | exact rfl | assumption); (case ks_44 => ktn_no "Strip"); (case pre_44 => ktn_no "VAll"); (case kd_44 => k_room); (case ku_44 => k_room); k_whole)); intro r9 tl9 h9 tk9 lg9 li9 F9 N9 ne9 post9; refine VIn.op .lf post9 ?_; clear post9; intro a22n d23n t24n t25n t26n t27n ha28n hd29n hk30n; (try k_sweep); (try dsimp only); (try k_unmd); (try k_fold))))))
  (k_with "w:call ref" => ((fail_if_success k_extra "x43"); ((k_here; (with_reducible show wpAny _ _ (PySem.call (Value.ref 82) [Value.ref _, Value.int _ _]) _ _ _); k_dflt ((first | (refine' spUse (plus _ _ _) ?k1_47 ?k2_47 ?k3_47 ?k4_47 ?k5_47 ?k6_47 _ ?ks_47 ?pre_47 ?kd_47 ?ku_47 ?_; (case k1_47 => k_asm); (case k2_47 => k_asm); (case k3_47 => k_asm); (case k4_47 => k_asm); (case k5_47 => k_asm); (case k6_47 => first | exact rfl | assumption); (case ks_47 => ktn_no "StripA"); (case pre_47 => ktn_no "VAll"); (case kd_47 => k_room); (case ku_47 => k_room); k_whole) | (refine' spUse (plus _ _ _) ?k1_47 ?k2_47 ?k3_47 ?k4_47 ?k5_47 ?k6_47 _ ?ks_47 ?pre_47 ?kd_47 ?ku_47 ?_; (case k1_47 => k_asm); (case k2_47 => k_asm); (case k3_47 => k_asm); (case k4_47 => k_asm); (case k5_47 => k_asm); (case k6_47 => first | exact rfl | assumption); (case ks_47 => ktn_no "Strip"); (case pre_47 => ktn_no "VAll"); (case kd_47 => k_room); (case ku_47 => k_room); k_whole)); intro r9 tl9 h9 tk9 lg9 li9 F9 N9 ne9 post9; refine VIn.op .lf post9 ?_; clear post9; intro a54n d55n t56n t57n t58n t59n ha60n hd61n hk62n; (try k_sweep); (try dsimp only); (try k_unmd); (try k_fold))))))
  (k_with "w:call ref" => ((fail_if_success k_extra "x44"); ((k_here; (with_reducible show wpAny _ _ (PySem.call (Value.ref 225) [Value.int _ _, Value.int _ _]) _ _ _); k_dflt ((first | (refine' spUse (pairi _ _ _) ?k1_48 ?k2_48 ?k3_48 ?k4_48 ?k5_48 ?k6_48 _ ?ks_48 ?pre_48 ?kd_48 ?ku_48 ?_; (case k1_48 => k_asm); (case k2_48 => k_asm); (case k3_48 => k_asm); (case k4_48 => k_asm); (case k5_48 => k_asm); (case k6_48 => first | exact rfl | assumption); (case ks_48 => ktn_no "StripA"); (case pre_48 => ktn_no "VAll"); (case kd_48 => k_room); (case ku_48 => k_room); k_whole) | (refine' spUse (pairi _ _ _) ?k1_48 ?k2_48 ?k3_48 ?k4_48 ?k5_48 ?k6_48 _ ?ks_48 ?pre_48 ?kd_48 ?ku_48 ?_; (case k1_48 => k_asm); (case k2_48 => k_asm); (case k3_48 => k_asm); (case k4_48 => k_asm); (case k5_48 => k_asm); (case k6_48 => first | exact rfl | assumption); (case ks_48 => ktn_no "Strip"); (case pre_48 => ktn_no "VAll"); (case kd_48 => k_room); (case ku_48 => k_room); k_whole)); intro r9 tl9 h9 tk9 lg9 li9 F9 N9 ne9 post9; refine VIn.op (.seq (.cons .lf (.cons .lf .nil))) post9 ?_; clear post9; intro a65n k67n a82n d83n t84n t85n t86n t87n ha88n hd89n hk90n a92n d93n t94n t95n t96n t97n ha98n hd99n hk100n hm68n hk69n; (try k_sweep); (try dsimp only); (try k_unmd); (try k_fold))))))
  (k_with "w:call ref" => ((fail_if_success k_extra "x45"); ((k_here; (with_reducible show wpAny _ _ (PySem.call (Value.ref 225) [Value.ref _, Value.ref _]) _ _ _); k_dflt ((first | (refine' spUse (paird _ _ _) ?k1_49 ?k2_49 ?k3_49 ?k4_49 ?k5_49 ?k6_49 _ ?ks_49 ?pre_49 ?kd_49 ?ku_49 ?_; (case k1_49 => k_asm); (case k2_49 => k_asm); (case k3_49 => k_asm); (case k4_49 => k_asm); (case k5_49 => k_asm); (case k6_49 => first | exact rfl | assumption); (case ks_49 => ktn_no "StripA"); (case pre_49 => ktn_no "VAll"); (case kd_49 => k_room); (case ku_49 => k_room); k_whole) | (refine' spUse (paird _ _ _) ?k1_49 ?k2_49 ?k3_49 ?k4_49 ?k5_49 ?k6_49 _ ?ks_49 ?pre_49 ?kd_49 ?ku_49 ?_; (case k1_49 => k_asm); (case k2_49 => k_asm); (case k3_49 => k_asm); (case k4_49 => k_asm); (case k5_49 => k_asm); (case k6_49 => first | exact rfl | assumption); (case ks_49 => ktn_no "Strip"); (case pre_49 => ktn_no "VAll"); (case kd_49 => k_room); (case ku_49 => k_room); k_whole)); intro r9 tl9 h9 tk9 lg9 li9 F9 N9 ne9 post9; refine VIn.op (.seq (.cons .lf (.cons .lf .nil))) post9 ?_; clear post9; intro a103n k105n a120n d121n t122n t123n t124n t125n ha126n hd127n hk128n a130n d131n t132n t133n t134n t135n ha136n hd137n hk138n hm106n hk107n; (try k_sweep); (try dsimp only); (try k_unmd); (try k_fold))))))
  (k_with "w:call ref" => ((fail_if_success k_extra "x46"); ((k_here; (with_reducible show wpAny _ _ (PySem.call (Value.ref 246) _) _ _ _); k_dflt ((first | (refine' spUse (move0 _ _ _) ?k1_91 ?k2_91 ?k3_91 ?k4_91 ?k5_91 ?k6_91 _ ?ks_91 ?pre_91 ?kd_91 ?ku_91 ?_; (case k1_91 => k_asm); (case k2_91 => k_asm); (case k3_91 => k_asm); (case k4_91 => k_asm); (case k5_91 => k_asm); (case k6_91 => first | exact rfl | assumption); (case ks_91 => ktn_no "StripA"); (case pre_91 => ktn_no "VAll"); (case kd_91 => k_room); (case ku_91 => k_room); k_whole) | (refine' spUse (move0 _ _ _) ?k1_91 ?k2_91 ?k3_91 ?k4_91 ?k5_91 ?k6_91 _ ?ks_91 ?pre_91 ?kd_91 ?ku_91 ?_; (case k1_91 => k_asm); (case k2_91 => k_asm); (case k3_91 => k_asm); (case k4_91 => k_asm); (case k5_91 => k_asm); (case k6_91 => first | exact rfl | assumption); (case ks_91 => ktn_no "Strip"); (case pre_91 => ktn_no "VAll"); (case kd_91 => k_room); (case ku_91 => k_room); k_whole)); intro r9 tl9 h9 tk9 lg9 li9 F9 N9 ne9 post9; refine VIn.op (.pth .any) post9 ?_; clear post9; intro a293n d294n t296n v295n hp292n ha297n hd298n hk299n; (try k_sweep); (try dsimp only); (try k_unmd); (try k_fold))))))
  (k_with "w:call ref" => ((fail_if_success k_extra "x47"); ((k_here; (with_reducible show wpAny _ _ (PySem.call (Value.ref 260) _) _ _ _); k_dflt ((first | (refine' spUse (line1 _ _ _ _ _) ?k1_92 ?k2_92 ?k3_92 ?k4_92 ?k5_92 ?k6_92 _ ?ks_92 ?pre_92 ?kd_92 ?ku_92 ?_; (case k1_92 => k_asm); (case k2_92 => k_asm); (case k3_92 => k_asm); (case k4_92 => k_asm); (case k5_92 => k_asm); (case k6_92 => first | exact rfl | assumption); (case ks_92 => ktn_no "StripA"); (case pre_92 => ktn_no "VAll"); (case kd_92 => k_room); (case ku_92 => k_room); k_whole) | (refine' spUse (line1 _ _ _ _ _) ?k1_92 ?k2_92 ?k3_92 ?k4_92 ?k5_92 ?k6_92 _ ?ks_92 ?pre_92 ?kd_92 ?ku_92 ?_; (case k1_92 => k_asm); (case k2_92 => k_asm); (case k3_92 => k_asm); (case k4_92 => k_asm); (case k5_92 => k_asm); (case k6_92 => first | exact rfl | assumption); (case ks_92 => ktn_no "Strip"); (case pre_92 => ktn_no "VAll"); (case kd_92 => k_room); (case ku_92 => k_room); k_whole)); intro r9 tl9 h9 tk9 lg9 li9 F9 N9 ne9 post9; refine VIn.op (.pth .any) post9 ?_; clear post9; intro a432n d433n t435n v434n hp431n ha436n hd437n hk438n; (try k_sweep); (try dsimp only); (try k_unmd); (try k_fold))))))
  (k_with "w:call ref" => ((fail_if_success k_extra "x48"); ((k_here; (with_reducible show wpAny _ _ (PySem.call (Value.ref 260) _) _ _ _); k_dflt ((first | (refine' spUse (line2 _ _ _ _ _ _ _) ?k1_93 ?k2_93 ?k3_93 ?k4_93 ?k5_93 ?k6_93 _ ?ks_93 ?pre_93 ?kd_93 ?ku_93 ?_; (case k1_93 => k_asm); (case k2_93 => k_asm); (case k3_93 => k_asm); (case k4_93 => k_asm); (case k5_93 => k_asm); (case k6_93 => first | exact rfl | assumption); (case ks_93 => ktn_no "StripA"); (case pre_93 => ktn_no "VAll"); (case kd_93 => k_room); (case ku_93 => k_room); k_whole) | (refine' spUse (line2 _ _ _ _ _ _ _) ?k1_93 ?k2_93 ?k3_93 ?k4_93 ?k5_93 ?k6_93 _ ?ks_93 ?pre_93 ?kd_93 ?ku_93 ?_; (case k1_93 => k_asm); (case k2_93 => k_asm); (case k3_93 => k_asm); (case k4_93 => k_asm); (case k5_93 => k_asm); (case k6_93 => first | exact rfl | assumption); (case ks_93 => ktn_no "Strip"); (case pre_93 => ktn_no "VAll"); (case kd_93 => k_room); (case ku_93 => k_room); k_whole)); intro r9 tl9 h9 tk9 lg9 li9 F9 N9 ne9 post9; refine VIn.op (.pth .any) post9 ?_; clear post9; intro a634n d635n t637n v636n hp633n ha638n hd639n hk640n; (try k_sweep); (try dsimp only); (try k_unmd); (try k_fold))))))
  (k_with "w:call ref" => ((fail_if_success k_extra "x49"); ((k_here; (with_reducible show wpAny _ _ (PySem.call (Value.ref 260) _) _ _ _); k_dflt ((first | (refine' spUse (line3 _ _ _ _ _ _ _ _ _) ?k1_94 ?k2_94 ?k3_94 ?k4_94 ?k5_94 ?k6_94 _ ?ks_94 ?pre_94 ?kd_94 ?ku_94 ?_; (case k1_94 => k_asm); (case k2_94 => k_asm); (case k3_94 => k_asm); (case k4_94 => k_asm); (case k5_94 => k_asm); (case k6_94 => first | exact rfl | assumption); (case ks_94 => ktn_no "StripA"); (case pre_94 => ktn_no "VAll"); (case kd_94 => k_room); (case ku_94 => k_room); k_whole) | (refine' spUse (line3 _ _ _ _ _ _ _ _ _) ?k1_94 ?k2_94 ?k3_94 ?k4_94 ?k5_94 ?k6_94 _ ?ks_94 ?pre_94 ?kd_94 ?ku_94 ?_; (case k1_94 => k_asm); (case k2_94 => k_asm); (case k3_94 => k_asm); (case k4_94 => k_asm); (case k5_94 => k_asm); (case k6_94 => first | exact rfl | assumption); (case ks_94 => ktn_no "Strip"); (case pre_94 => ktn_no "VAll"); (case kd_94 => k_room); (case ku_94 => k_room); k_whole)); intro r9 tl9 h9 tk9 lg9 li9 F9 N9 ne9 post9; refine VIn.op (.pth .any) post9 ?_; clear post9; intro a899n d900n t902n v901n hp898n ha903n hd904n hk905n; (try k_sweep); (try dsimp only); (try k_unmd); (try k_fold))))))
  (k_with "w:binaryOp Pow int int" => ((fail_if_success k_extra "x50"); ((k_here; (with_reducible refine pow_int_small ?kb1_46 ?kb2_46 ?kb3_46 ?_); (case kb1_46 => first | decide | omega); (case kb2_46 => first | decide | omega); (case kb3_46 => decide)))))
  trivial
section
set_option maxRecDepth 100000 in
set_option maxHeartbeats 8000000 in
theorem move0 (w : World) (x y : Int) : Fn w 246 12 700 [.path0, .dec x 0, .dec y 0] (.path (.tup [.tup [.tup [.str (Str.ofString "move"), .tup [.dec x 0, .dec y 0]]]])) := by
  unfold Fn Sp
  k_fill
  intro dp un gd cn cs a ccd cl outer A₀ base h₀ L m news imm s vs p' loose mean mg mb Q E B F X N T hk hsub hpre hd hu hret
  refine VAll.opr (.cons .lf (.cons .lf (.cons .lf .nil))) hpre ?_; clear hpre; intro a265n d266n t267n ha268n hd269n hk270n a272n d273n t274n t275n t276n t277n ha278n hd279n hk280n a282n d283n t284n t285n t286n t287n ha288n hd289n hk290n _; 
  refine wpAny_call ?_
  k_dflt (refine' code_defG ?k1 ?k2 ?k3 ?k4 ?k5 ?kA ?kF ?kK ?k6 ?k7 ?k8 ?k9 ?kB ?_ ?c2 ?c3 ?c4 ?c5; (case kA => exact rfl); (case kF => exact rfl); (case kK => assumption); (case k1 => exact B); (case k2 => exact F); (case k3 => exact X); (case k4 => exact news_sub N hsub); (case k5 => exact T); (case k6 => k_is); (case k7 => k_is); (case k8 => k_room); (case k9 => first | exact BindsTo.of_eq rfl | exact binds_K (by k_in) rfl (by k_is) rfl rfl rfl); (case c5 => decide); (case kB => exact locs rfl); (case c2 => exact rfl); (case c3 => exact rfl); (case c4 => exact rfl); k_whole; intro g' L' h' FG' F' N' B' X' T' kG; (try dsimp only); (try k_unmd); (try k_fold); (try (refine' aLet ?_; intro AL)))
  k_steps
  all_goals exact Fn.fin kG N hsub hret (by assumption) (by assumption) (by assumption) (by assumption) (by (ktn_no "Sub")) (by ktn_no "VIn")
set_option maxRecDepth 100000 in
set_option maxHeartbeats 8000000 in
theorem line1 (w : World) (x0 y0 x1 y1 : Int) : Fn w 260 12 700 [.path (.tup [.tup [.tup [.str (Str.ofString "move"), .tup [.dec x0 0, .dec y0 0]]]]), .dec x1 0, .dec y1 0] (.path (.tup [.tup [.tup [.str (Str.ofString "move"), .tup [.dec x0 0, .dec y0 0]], .tup [.str (Str.ofString "line"), .tup [.dec x1 0, .dec y1 0]]]])) := by
  unfold Fn Sp
  k_fill
  intro dp un gd cn cs a ccd cl outer A₀ base h₀ L m news imm s vs p' loose mean mg mb Q E B F X N T hk hsub hpre hd hu hret
  refine VAll.opr (.cons (.pth (.seq (.cons (.seq (.cons (.seq (.cons .lf (.cons (.seq (.cons .lf (.cons .lf .nil))) .nil))) .nil)) .nil))) (.cons .lf (.cons .lf .nil))) hpre ?_; clear hpre; intro a319n d320n t322n a328n k330n a341n k343n a354n k356n t371n a374n k376n a391n d392n t393n t394n t395n t396n ha397n hd398n hk399n a401n d402n t403n t404n t405n t406n ha407n hd408n hk409n hm377n hk378n hm357n hk358n hm344n hk345n hm331n hk332n ha323n hd324n hk325n a411n d412n t413n t414n t415n t416n ha417n hd418n hk419n a421n d422n t423n t424n t425n t426n ha427n hd428n hk429n _; 
  refine wpAny_call ?_
  k_dflt (refine' code_defG ?k1 ?k2 ?k3 ?k4 ?k5 ?kA ?kF ?kK ?k6 ?k7 ?k8 ?k9 ?kB ?_ ?c2 ?c3 ?c4 ?c5; (case kA => exact rfl); (case kF => exact rfl); (case kK => assumption); (case k1 => exact B); (case k2 => exact F); (case k3 => exact X); (case k4 => exact news_sub N hsub); (case k5 => exact T); (case k6 => k_is); (case k7 => k_is); (case k8 => k_room); (case k9 => first | exact BindsTo.of_eq rfl | exact binds_K (by k_in) rfl (by k_is) rfl rfl rfl); (case c5 => decide); (case kB => exact locs rfl); (case c2 => exact rfl); (case c3 => exact rfl); (case c4 => exact rfl); k_whole; intro g' L' h' FG' F' N' B' X' T' kG; (try dsimp only); (try k_unmd); (try k_fold); (try (refine' aLet ?_; intro AL)))
  k_steps
  all_goals exact Fn.fin kG N hsub hret (by assumption) (by assumption) (by assumption) (by assumption) (by (ktn_no "Sub")) (by ktn_no "VIn")
set_option maxRecDepth 100000 in
set_option maxHeartbeats 8000000 in
theorem line2 (w : World) (x0 y0 x1 y1 x2 y2 : Int) : Fn w 260 12 700 [.path (.tup [.tup [.tup [.str (Str.ofString "move"), .tup [.dec x0 0, .dec y0 0]], .tup [.str (Str.ofString "line"), .tup [.dec x1 0, .dec y1 0]]]]), .dec x2 0, .dec y2 0] (.path (.tup [.tup [.tup [.str (Str.ofString "move"), .tup [.dec x0 0, .dec y0 0]], .tup [.str (Str.ofString "line"), .tup [.dec x1 0, .dec y1 0]], .tup [.str (Str.ofString "line"), .tup [.dec x2 0, .dec y2 0]]]])) := by
  unfold Fn Sp
  k_fill
  intro dp un gd cn cs a ccd cl outer A₀ base h₀ L m news imm s vs p' loose mean mg mb Q E B F X N T hk hsub hpre hd hu hret
  refine VAll.opr (.cons (.pth (.seq (.cons (.seq (.cons (.seq (.cons .lf (.cons (.seq (.cons .lf (.cons .lf .nil))) .nil))) (.cons (.seq (.cons .lf (.cons (.seq (.cons .lf (.cons .lf .nil))) .nil))) .nil))) .nil))) (.cons .lf (.cons .lf .nil))) hpre ?_; clear hpre; intro a458n d459n t461n a467n k469n a480n k482n a498n k500n t515n a518n k520n a535n d536n t537n t538n t539n t540n ha541n hd542n hk543n a545n d546n t547n t548n t549n t550n ha551n hd552n hk553n hm521n hk522n hm501n hk502n a556n k558n t573n a576n k578n a593n d594n t595n t596n t597n t598n ha599n hd600n hk601n a603n d604n t605n t606n t607n t608n ha609n hd610n hk611n hm579n hk580n hm559n hk560n hm483n hk484n hm470n hk471n ha462n hd463n hk464n a613n d614n t615n t616n t617n t618n ha619n hd620n hk621n a623n d624n t625n t626n t627n t628n ha629n hd630n hk631n _; 
  refine wpAny_call ?_
  k_dflt (refine' code_defG ?k1 ?k2 ?k3 ?k4 ?k5 ?kA ?kF ?kK ?k6 ?k7 ?k8 ?k9 ?kB ?_ ?c2 ?c3 ?c4 ?c5; (case kA => exact rfl); (case kF => exact rfl); (case kK => assumption); (case k1 => exact B); (case k2 => exact F); (case k3 => exact X); (case k4 => exact news_sub N hsub); (case k5 => exact T); (case k6 => k_is); (case k7 => k_is); (case k8 => k_room); (case k9 => first | exact BindsTo.of_eq rfl | exact binds_K (by k_in) rfl (by k_is) rfl rfl rfl); (case c5 => decide); (case kB => exact locs rfl); (case c2 => exact rfl); (case c3 => exact rfl); (case c4 => exact rfl); k_whole; intro g' L' h' FG' F' N' B' X' T' kG; (try dsimp only); (try k_unmd); (try k_fold); (try (refine' aLet ?_; intro AL)))
  k_steps
  all_goals exact Fn.fin kG N hsub hret (by assumption) (by assumption) (by assumption) (by assumption) (by (ktn_no "Sub")) (by ktn_no "VIn")
set_option maxRecDepth 100000 in
set_option maxHeartbeats 8000000 in
theorem line3 (w : World) (x0 y0 x1 y1 x2 y2 x3 y3 : Int) : Fn w 260 12 700 [.path (.tup [.tup [.tup [.str (Str.ofString "move"), .tup [.dec x0 0, .dec y0 0]], .tup [.str (Str.ofString "line"), .tup [.dec x1 0, .dec y1 0]], .tup [.str (Str.ofString "line"), .tup [.dec x2 0, .dec y2 0]]]]), .dec x3 0, .dec y3 0] (.path (.tup [.tup [.tup [.str (Str.ofString "move"), .tup [.dec x0 0, .dec y0 0]], .tup [.str (Str.ofString "line"), .tup [.dec x1 0, .dec y1 0]], .tup [.str (Str.ofString "line"), .tup [.dec x2 0, .dec y2 0]], .tup [.str (Str.ofString "line"), .tup [.dec x3 0, .dec y3 0]]]])) := by
  unfold Fn Sp
  k_fill
  intro dp un gd cn cs a ccd cl outer A₀ base h₀ L m news imm s vs p' loose mean mg mb Q E B F X N T hk hsub hpre hd hu hret
  refine VAll.opr (.cons (.pth (.seq (.cons (.seq (.cons (.seq (.cons .lf (.cons (.seq (.cons .lf (.cons .lf .nil))) .nil))) (.cons (.seq (.cons .lf (.cons (.seq (.cons .lf (.cons .lf .nil))) .nil))) (.cons (.seq (.cons .lf (.cons (.seq (.cons .lf (.cons .lf .nil))) .nil))) .nil)))) .nil))) (.cons .lf (.cons .lf .nil))) hpre ?_; clear hpre; intro a660n d661n t663n a669n k671n a682n k684n a705n k707n t722n a725n k727n a742n d743n t744n t745n t746n t747n ha748n hd749n hk750n a752n d753n t754n t755n t756n t757n ha758n hd759n hk760n hm728n hk729n hm708n hk709n a763n k765n t780n a783n k785n a800n d801n t802n t803n t804n t805n ha806n hd807n hk808n a810n d811n t812n t813n t814n t815n ha816n hd817n hk818n hm786n hk787n hm766n hk767n a821n k823n t838n a841n k843n a858n d859n t860n t861n t862n t863n ha864n hd865n hk866n a868n d869n t870n t871n t872n t873n ha874n hd875n hk876n hm844n hk845n hm824n hk825n hm685n hk686n hm672n hk673n ha664n hd665n hk666n a878n d879n t880n t881n t882n t883n ha884n hd885n hk886n a888n d889n t890n t891n t892n t893n ha894n hd895n hk896n _; 
  refine wpAny_call ?_
  k_dflt (refine' code_defG ?k1 ?k2 ?k3 ?k4 ?k5 ?kA ?kF ?kK ?k6 ?k7 ?k8 ?k9 ?kB ?_ ?c2 ?c3 ?c4 ?c5; (case kA => exact rfl); (case kF => exact rfl); (case kK => assumption); (case k1 => exact B); (case k2 => exact F); (case k3 => exact X); (case k4 => exact news_sub N hsub); (case k5 => exact T); (case k6 => k_is); (case k7 => k_is); (case k8 => k_room); (case k9 => first | exact BindsTo.of_eq rfl | exact binds_K (by k_in) rfl (by k_is) rfl rfl rfl); (case c5 => decide); (case kB => exact locs rfl); (case c2 => exact rfl); (case c3 => exact rfl); (case c4 => exact rfl); k_whole; intro g' L' h' FG' F' N' B' X' T' kG; (try dsimp only); (try k_unmd); (try k_fold); (try (refine' aLet ?_; intro AL)))
  k_steps
  all_goals exact Fn.fin kG N hsub hret (by assumption) (by assumption) (by assumption) (by assumption) (by (ktn_no "Sub")) (by ktn_no "VIn")
set_option maxRecDepth 100000 in
set_option maxHeartbeats 8000000 in
theorem closep (w : World) (x0 y0 x1 y1 x2 y2 x3 y3 : Int) : Fn w 267 12 700 [.path (.tup [.tup [.tup [.str (Str.ofString "move"), .tup [.dec x0 0, .dec y0 0]], .tup [.str (Str.ofString "line"), .tup [.dec x1 0, .dec y1 0]], .tup [.str (Str.ofString "line"), .tup [.dec x2 0, .dec y2 0]], .tup [.str (Str.ofString "line"), .tup [.dec x3 0, .dec y3 0]]]])] (.path (.tup [.tup [.tup [.str (Str.ofString "move"), .tup [.dec x0 0, .dec y0 0]], .tup [.str (Str.ofString "line"), .tup [.dec x1 0, .dec y1 0]], .tup [.str (Str.ofString "line"), .tup [.dec x2 0, .dec y2 0]], .tup [.str (Str.ofString "line"), .tup [.dec x3 0, .dec y3 0]], .tup [.str (Str.ofString "close")]]])) := by
  unfold Fn Sp
  k_fill
  intro dp un gd cn cs a ccd cl outer A₀ base h₀ L m news imm s vs p' loose mean mg mb Q E B F X N T hk hsub hpre hd hu hret
  refine VAll.opr (.cons (.pth (.seq (.cons (.seq (.cons (.seq (.cons .lf (.cons (.seq (.cons .lf (.cons .lf .nil))) .nil))) (.cons (.seq (.cons .lf (.cons (.seq (.cons .lf (.cons .lf .nil))) .nil))) (.cons (.seq (.cons .lf (.cons (.seq (.cons .lf (.cons .lf .nil))) .nil))) (.cons (.seq (.cons .lf (.cons (.seq (.cons .lf (.cons .lf .nil))) .nil))) .nil))))) .nil))) .nil) hpre ?_; clear hpre; intro a915n d916n t918n a924n k926n a937n k939n a965n k967n t982n a985n k987n a1002n d1003n t1004n t1005n t1006n t1007n ha1008n hd1009n hk1010n a1012n d1013n t1014n t1015n t1016n t1017n ha1018n hd1019n hk1020n hm988n hk989n hm968n hk969n a1023n k1025n t1040n a1043n k1045n a1060n d1061n t1062n t1063n t1064n t1065n ha1066n hd1067n hk1068n a1070n d1071n t1072n t1073n t1074n t1075n ha1076n hd1077n hk1078n hm1046n hk1047n hm1026n hk1027n a1081n k1083n t1098n a1101n k1103n a1118n d1119n t1120n t1121n t1122n t1123n ha1124n hd1125n hk1126n a1128n d1129n t1130n t1131n t1132n t1133n ha1134n hd1135n hk1136n hm1104n hk1105n hm1084n hk1085n a1139n k1141n t1156n a1159n k1161n a1176n d1177n t1178n t1179n t1180n t1181n ha1182n hd1183n hk1184n a1186n d1187n t1188n t1189n t1190n t1191n ha1192n hd1193n hk1194n hm1162n hk1163n hm1142n hk1143n hm940n hk941n hm927n hk928n ha919n hd920n hk921n _; 
  refine wpAny_call ?_
  k_dflt (refine' code_defG ?k1 ?k2 ?k3 ?k4 ?k5 ?kA ?kF ?kK ?k6 ?k7 ?k8 ?k9 ?kB ?_ ?c2 ?c3 ?c4 ?c5; (case kA => exact rfl); (case kF => exact rfl); (case kK => assumption); (case k1 => exact B); (case k2 => exact F); (case k3 => exact X); (case k4 => exact news_sub N hsub); (case k5 => exact T); (case k6 => k_is); (case k7 => k_is); (case k8 => k_room); (case k9 => first | exact BindsTo.of_eq rfl | exact binds_K (by k_in) rfl (by k_is) rfl rfl rfl); (case c5 => decide); (case kB => exact locs rfl); (case c2 => exact rfl); (case c3 => exact rfl); (case c4 => exact rfl); k_whole; intro g' L' h' FG' F' N' B' X' T' kG; (try dsimp only); (try k_unmd); (try k_fold); (try (refine' aLet ?_; intro AL)))
  k_steps
  all_goals exact Fn.fin kG N hsub hret (by assumption) (by assumption) (by assumption) (by assumption) (by (ktn_no "Sub")) (by ktn_no "VIn")
end
theorem resetD3 : True := by w_top off; trivial
theorem linesD3 : True := by
  (k_with "w:call ref" => ((fail_if_success k_extra "x51"); ((k_here; (with_reducible show wpAny _ _ (PySem.call (Value.ref 267) _) _ _ _); k_dflt ((first | (refine' spUse (closep _ _ _ _ _ _ _ _ _) ?k1_95 ?k2_95 ?k3_95 ?k4_95 ?k5_95 ?k6_95 _ ?ks_95 ?pre_95 ?kd_95 ?ku_95 ?_; (case k1_95 => k_asm); (case k2_95 => k_asm); (case k3_95 => k_asm); (case k4_95 => k_asm); (case k5_95 => k_asm); (case k6_95 => first | exact rfl | assumption); (case ks_95 => ktn_no "StripA"); (case pre_95 => ktn_no "VAll"); (case kd_95 => k_room); (case ku_95 => k_room); k_whole) | (refine' spUse (closep _ _ _ _ _ _ _ _ _) ?k1_95 ?k2_95 ?k3_95 ?k4_95 ?k5_95 ?k6_95 _ ?ks_95 ?pre_95 ?kd_95 ?ku_95 ?_; (case k1_95 => k_asm); (case k2_95 => k_asm); (case k3_95 => k_asm); (case k4_95 => k_asm); (case k5_95 => k_asm); (case k6_95 => first | exact rfl | assumption); (case ks_95 => ktn_no "Strip"); (case pre_95 => ktn_no "VAll"); (case kd_95 => k_room); (case ku_95 => k_room); k_whole)); intro r9 tl9 h9 tk9 lg9 li9 F9 N9 ne9 post9; refine VIn.op (.pth .any) post9 ?_; clear post9; intro a1197n d1198n t1200n v1199n hp1196n ha1201n hd1202n hk1203n; (try k_sweep); (try dsimp only); (try k_unmd); (try k_fold))))))
  (k_with "w:call ref" => ((fail_if_success k_extra "x52"); ((k_here; (with_reducible show wpAny _ _ (PySem.call (Value.ref 274) _) _ _ _); k_dflt ((first | (refine' spUse (rect _ _ _ _ _) ?k1_96 ?k2_96 ?k3_96 ?k4_96 ?k5_96 ?k6_96 _ ?ks_96 ?pre_96 ?kd_96 ?ku_96 ?_; (case k1_96 => k_asm); (case k2_96 => k_asm); (case k3_96 => k_asm); (case k4_96 => k_asm); (case k5_96 => k_asm); (case k6_96 => first | exact rfl | assumption); (case ks_96 => ktn_no "StripA"); (case pre_96 => ktn_no "VAll"); (case kd_96 => k_room); (case ku_96 => k_room); k_whole) | (refine' spUse (rect _ _ _ _ _) ?k1_96 ?k2_96 ?k3_96 ?k4_96 ?k5_96 ?k6_96 _ ?ks_96 ?pre_96 ?kd_96 ?ku_96 ?_; (case k1_96 => k_asm); (case k2_96 => k_asm); (case k3_96 => k_asm); (case k4_96 => k_asm); (case k5_96 => k_asm); (case k6_96 => first | exact rfl | assumption); (case ks_96 => ktn_no "Strip"); (case pre_96 => ktn_no "VAll"); (case kd_96 => k_room); (case ku_96 => k_room); k_whole)); intro r9 tl9 h9 tk9 lg9 li9 F9 N9 ne9 post9; have post9k := post9; (try k_sweep); (try dsimp only); (try k_unmd); (try k_fold))))))
  trivial
section
noncomputable abbrev rectV (x y wd ht : Int) : V := .path (.tup [.tup [.tup [.str (Str.ofString "move"), .tup [.dec x 0, .dec y 0]], .tup [.str (Str.ofString "line"), .tup [.dec (x + wd) 0, .dec y 0]], .tup [.str (Str.ofString "line"), .tup [.dec (x + wd) 0, .dec (y + ht) 0]], .tup [.str (Str.ofString "line"), .tup [.dec x 0, .dec (y + ht) 0]], .tup [.str (Str.ofString "close")]]])
set_option maxRecDepth 100000 in
set_option maxHeartbeats 8000000 in
theorem rect (w : World) (x y wd ht : Int) : Fn w 274 20 1500 [.path0, .int x, .int y, .int wd, .int ht] (rectV x y wd ht) := by
  unfold Fn Sp
  k_fill
  intro dp un gd cn cs a ccd cl outer A₀ base h₀ L m news imm s vs p' loose mean mg mb Q E B F X N T hk hsub hpre hd hu hret
  refine VAll.opr (.cons .lf (.cons .lf (.cons .lf (.cons .lf (.cons .lf .nil))))) hpre ?_; clear hpre; intro a1232n d1233n t1234n ha1235n hd1236n hk1237n t1239n t1241n t1243n t1245n _; 
  unfold rectV at *
  refine wpAny_call ?_
  k_dflt (refine' code_defG ?k1 ?k2 ?k3 ?k4 ?k5 ?kA ?kF ?kK ?k6 ?k7 ?k8 ?k9 ?kB ?_ ?c2 ?c3 ?c4 ?c5; (case kA => exact rfl); (case kF => exact rfl); (case kK => assumption); (case k1 => exact B); (case k2 => exact F); (case k3 => exact X); (case k4 => exact news_sub N hsub); (case k5 => exact T); (case k6 => k_is); (case k7 => k_is); (case k8 => k_room); (case k9 => first | exact BindsTo.of_eq rfl | exact binds_K (by k_in) rfl (by k_is) rfl rfl rfl); (case c5 => decide); (case kB => exact locs rfl); (case c2 => exact rfl); (case c3 => exact rfl); (case c4 => exact rfl); k_whole; intro g' L' h' FG' F' N' B' X' T' kG; (try dsimp only); (try k_unmd); (try k_fold); (try (refine' aLet ?_; intro AL)))
  k_steps
  all_goals exact Fn.fin kG N hsub hret (by assumption) (by assumption) (by assumption) (by assumption) (by (ktn_no "Sub")) (by ktn_no "VIn")
set_option maxRecDepth 100000 in
set_option maxHeartbeats 8000000 in
theorem lmade (w : World) (x y wd ht : Int) : Fn w 494 24 2000 [.lst [.int x, .int y, .int wd, .int ht]] (rectV x y wd ht) := by
  unfold Fn Sp
  k_fill
  intro dp un gd cn cs a ccd cl outer A₀ base h₀ L m news imm s vs p' loose mean mg mb Q E B F X N T hk hsub hpre hd hu hret
  refine VAll.opr (.cons (.seq (.cons .lf (.cons .lf (.cons .lf (.cons .lf .nil))))) .nil) hpre ?_; clear hpre; intro a1255n k1257n t1282n t1284n t1286n t1288n hm1258n hk1259n _; 
  refine wpAny_call ?_
  k_dflt (refine' code_defG ?k1 ?k2 ?k3 ?k4 ?k5 ?kA ?kF ?kK ?k6 ?k7 ?k8 ?k9 ?kB ?_ ?c2 ?c3 ?c4 ?c5; (case kA => exact rfl); (case kF => exact rfl); (case kK => assumption); (case k1 => exact B); (case k2 => exact F); (case k3 => exact X); (case k4 => exact news_sub N hsub); (case k5 => exact T); (case k6 => k_is); (case k7 => k_is); (case k8 => k_room); (case k9 => first | exact BindsTo.of_eq rfl | exact binds_K (by k_in) rfl (by k_is) rfl rfl rfl); (case c5 => decide); (case kB => exact locs rfl); (case c2 => exact rfl); (case c3 => exact rfl); (case c4 => exact rfl); k_whole; intro g' L' h' FG' F' N' B' X' T' kG; (try dsimp only); (try k_unmd); (try k_fold); (try (refine' aLet ?_; intro AL)))
  k_steps
  all_goals exact Fn.fin kG N hsub hret (by assumption) (by assumption) (by assumption) (by assumption) (by (ktn_no "Sub")) (by ktn_no "VIn")
end
theorem resetD4 : True := by w_top off; trivial
theorem linesD4 : True := by
  (k_with "x34" => skip)
  (k_with "x35" => skip)
  (k_with "x40" => skip)
  (k_with "x41" => skip)
  (k_with "x42" => skip)
  (k_with "x43" => skip)
  (k_with "x44" => skip)
  (k_with "x45" => skip)
  (k_with "x46" => skip)
  (k_with "x47" => skip)
  (k_with "x48" => skip)
  (k_with "x49" => skip)
  (k_with "x51" => skip)
  (k_with "x52" => skip)
  (k_with "x50" => skip)
  (k_with "x31" => skip)
  (k_with "StripA" => ((fail_if_success k_extra "x53"); (with_reducible first | (refine' strip_ext ?sx_28 ?sy_28; (case sx_28 => assumption); (case sy_28 => ktn_no "StripA")) | (refine' strip_lst ?sy_28; (case sy_28 => ktn_no "StripA")) | (refine' sl_cons ?sy_28; (case sy_28 => ktn_no "StripA")) | (refine' sl_app ?sy_28; (case sy_28 => ktn_no "StripA")) | exact sl_refl)))
  (k_with "x32" => skip)
  (k_with "h17" => (with_reducible (refine' ne_lt ?qa1_34 ?qa2_34; (case qa1_34 => assumption); (case qa2_34 => ktn_no "Mem"))))
  (k_with "h18" => (with_reducible (refine' ne_gt ?qa1_34 ?qa2_34; (case qa1_34 => assumption); (case qa2_34 => ktn_no "Mem"))))
  (k_with "h19" => (with_reducible (refine' ne_lt2 ?qa1_34 ?qa2_34 ?qa3_34; (case qa1_34 => assumption); (case qa2_34 => assumption); (case qa3_34 => ktn_no "Mem"))))
  (k_with "h20" => (with_reducible (refine' ne_gt2 ?qa1_34 ?qa2_34 ?qa3_34; (case qa1_34 => assumption); (case qa2_34 => assumption); (case qa3_34 => ktn_no "Mem"))))
  (k_with "h21" => (with_reducible (refine' ne_all ?qa1_34 ?qa2_34; (case qa1_34 => assumption); (case qa2_34 => ktn_no "Mem"))))
  (k_with "h22" => (with_reducible (refine' ne_all' ?qa1_34 ?qa2_34; (case qa1_34 => assumption); (case qa2_34 => ktn_no "Mem"))))
  (k_with "h23" => (with_reducible (refine' ne_obj ?qa1_34 ?qa2_34 ?qa3_34 ?qa4_34; (case qa1_34 => assumption); (case qa2_34 => ktn_no "Mem"); (case qa3_34 => ktn_no "Mem"); (case qa4_34 => first | (intro h; cases h; done) | simp))))
  (k_with "h24" => (refine neN ?_; (try dsimp only); omega))
  (k_with "Ne" => ((fail_if_success k_extra "x54"); (first | with_reducible assumption | ktn_no "h17" | ktn_no "h18" | ktn_no "h19" | ktn_no "h20" | ktn_no "h21" | ktn_no "h22" | ktn_no "h23" | ktn_no "h24")))
  (k_with "x33" => skip)
  (k_with "h51" => (with_reducible (refine' an_lt ?qb1_35 ?qb2_35; (case qb1_35 => assumption); (case qb2_35 => ktn_no "Sub"))))
  (k_with "h52" => (with_reducible (refine' an_sub ?qb1_35 ?qb2_35; (case qb1_35 => assumption); (case qb2_35 => ktn_no "Sub"))))
  (k_with "h53" => (with_reducible (refine' an_ne9 ?qb1_35 ?qb2_35; (case qb1_35 => assumption); (case qb2_35 => ktn_no "Mem"))))
  (k_with "h54" => (with_reducible (refine' an_ext ?qb1_35 ?qb2_35 ?qb3_35 ?qb4_35; (case qb1_35 => assumption); (case qb2_35 => assumption); (case qb3_35 => ktn_no "Mem"); (case qb4_35 => first | exact List.forall_mem_nil _ | (refine List.forall_mem_cons.mpr ⟨?_, List.forall_mem_nil _⟩; ktn_no "Ne")))))
  (k_with "AtomNe" => ((fail_if_success k_extra "x55"); (first | ktn_no "h51" | ktn_no "h52" | ktn_no "h53" | ktn_no "h54" | with_reducible assumption)))
  (k_with "w:exec For Name Name cons nil" => ((fail_if_success k_extra "x56"); ((k_here; k_dflt (refine' for_src ?ff_97 ?_ ?hs_97 ?hE_97; (case ff_97 => k_asm); (case hs_97 => intro _; with_unfolding_all rfl); (case hE_97 => passes_own); k_whole)))))
  (k_with "w:exec For Name Call cons nil" => ((fail_if_success k_extra "x57"); ((k_here; k_dflt (refine' for_src ?ff_98 ?_ ?hs_98 ?hE_98; (case ff_98 => k_asm); (case hs_98 => intro _; with_unfolding_all rfl); (case hE_98 => passes_own); k_whole)))))
  (k_with "w:exec For Name Attribute cons nil" => ((fail_if_success k_extra "x58"); ((k_here; k_dflt (refine' for_src ?ff_99 ?_ ?hs_99 ?hE_99; (case ff_99 => k_asm); (case hs_99 => intro _; with_unfolding_all rfl); (case hE_99 => passes_own); k_whole)))))
  (k_with "w:exec For Name Attribute Name cons nil" => ((fail_if_success k_extra "x59"); ((k_here; k_dflt (refine' for_src ?ff_100 ?_ ?hs_100 ?hE_100; (case ff_100 => k_asm); (case hs_100 => intro _; with_unfolding_all rfl); (case hE_100 => passes_own); k_whole)))))
  trivial
section
noncomputable abbrev toldV (x y wd ht : Int) : V := .tup [.tup [.tup [.str (Str.ofString "move"), .tup [.tup [.int x, .int 0], .tup [.int y, .int 0]]], .tup [.str (Str.ofString "line"), .tup [.tup [.int (x + wd), .int 0], .tup [.int y, .int 0]]], .tup [.str (Str.ofString "line"), .tup [.tup [.int (x + wd), .int 0], .tup [.int (y + ht), .int 0]]], .tup [.str (Str.ofString "line"), .tup [.tup [.int x, .int 0], .tup [.int (y + ht), .int 0]]], .tup [.str (Str.ofString "close")]]]
noncomputable abbrev partV (x y wd ht : Int) : V := .tup [.tup [.str (Str.ofString "move"), .tup [.dec x 0, .dec y 0]], .tup [.str (Str.ofString "line"), .tup [.dec (x + wd) 0, .dec y 0]], .tup [.str (Str.ofString "line"), .tup [.dec (x + wd) 0, .dec (y + ht) 0]], .tup [.str (Str.ofString "line"), .tup [.dec x 0, .dec (y + ht) 0]], .tup [.str (Str.ofString "close")]]
theorem rectV_part (x y wd ht : Int) : rectV x y wd ht = .path (.tup [partV x y wd ht]) := rfl
set_option maxRecDepth 100000 in
set_option maxHeartbeats 8000000 in
theorem lpath (w : World) (x y wd ht : Int) : Fn w 487 12 700 [.lst [.int x, .int y, .int wd, .int ht]] (toldV x y wd ht) := by
  unfold Fn Sp
  k_fill
  intro dp un gd cn cs a ccd cl outer A₀ base h₀ L m news imm s vs p' loose mean mg mb Q E B F X N T hk hsub hpre hd hu hret
  refine VAll.opr (.cons (.seq (.cons .lf (.cons .lf (.cons .lf (.cons .lf .nil))))) .nil) hpre ?_; clear hpre; intro a2302n k2304n t2329n t2331n t2333n t2335n hm2305n hk2306n _; 
  unfold toldV at *
  refine wpAny_call ?_
  k_dflt (refine' code_defG ?k1 ?k2 ?k3 ?k4 ?k5 ?kA ?kF ?kK ?k6 ?k7 ?k8 ?k9 ?kB ?_ ?c2 ?c3 ?c4 ?c5; (case kA => exact rfl); (case kF => exact rfl); (case kK => assumption); (case k1 => exact B); (case k2 => exact F); (case k3 => exact X); (case k4 => exact news_sub N hsub); (case k5 => exact T); (case k6 => k_is); (case k7 => k_is); (case k8 => k_room); (case k9 => first | exact BindsTo.of_eq rfl | exact binds_K (by k_in) rfl (by k_is) rfl rfl rfl); (case c5 => decide); (case kB => exact locs rfl); (case c2 => exact rfl); (case c3 => exact rfl); (case c4 => exact rfl); k_whole; intro g' L' h' FG' F' N' B' X' T' kG; (try dsimp only); (try k_unmd); (try k_fold); (try (refine' aLet ?_; intro AL)))
  k_steps
  all_goals exact Fn.fin kG N hsub hret (by assumption) (by assumption) (by assumption) (by assumption) (by (ktn_no "Sub")) (by ktn_no "VIn")
end
theorem resetD5 : True := by w_top off; trivial
section
set_option maxRecDepth 100000 in
set_option maxHeartbeats 8000000 in
theorem flatp (w : World) (x y wd ht k : Int) : Fn w 314 12 700 [partV x y wd ht, .int k] (partV x y wd ht) := by
  unfold Fn Sp
  k_fill
  intro dp un gd cn cs a ccd cl outer A₀ base h₀ L m news imm s vs p' loose mean mg mb Q E B F X N T hk hsub hpre hd hu hret
  refine VAll.opr (.cons (.seq (.cons (.seq (.cons .lf (.cons (.seq (.cons .lf (.cons .lf .nil))) .nil))) (.cons (.seq (.cons .lf (.cons (.seq (.cons .lf (.cons .lf .nil))) .nil))) (.cons (.seq (.cons .lf (.cons (.seq (.cons .lf (.cons .lf .nil))) .nil))) (.cons (.seq (.cons .lf (.cons (.seq (.cons .lf (.cons .lf .nil))) .nil))) (.cons (.seq (.cons .lf .nil)) .nil)))))) (.cons .lf .nil)) hpre ?_; clear hpre; intro a2349n k2351n a2382n k2384n t2399n a2402n k2404n a2419n d2420n t2421n t2422n t2423n t2424n ha2425n hd2426n hk2427n a2429n d2430n t2431n t2432n t2433n t2434n ha2435n hd2436n hk2437n hm2405n hk2406n hm2385n hk2386n a2440n k2442n t2457n a2460n k2462n a2477n d2478n t2479n t2480n t2481n t2482n ha2483n hd2484n hk2485n a2487n d2488n t2489n t2490n t2491n t2492n ha2493n hd2494n hk2495n hm2463n hk2464n hm2443n hk2444n a2498n k2500n t2515n a2518n k2520n a2535n d2536n t2537n t2538n t2539n t2540n ha2541n hd2542n hk2543n a2545n d2546n t2547n t2548n t2549n t2550n ha2551n hd2552n hk2553n hm2521n hk2522n hm2501n hk2502n a2556n k2558n t2573n a2576n k2578n a2593n d2594n t2595n t2596n t2597n t2598n ha2599n hd2600n hk2601n a2603n d2604n t2605n t2606n t2607n t2608n ha2609n hd2610n hk2611n hm2579n hk2580n hm2559n hk2560n a2614n k2616n t2626n hm2617n hk2618n hm2352n hk2353n t2628n _; 
  unfold partV at *
  refine wpAny_call ?_
  k_dflt (refine' code_defG ?k1 ?k2 ?k3 ?k4 ?k5 ?kA ?kF ?kK ?k6 ?k7 ?k8 ?k9 ?kB ?_ ?c2 ?c3 ?c4 ?c5; (case kA => exact rfl); (case kF => exact rfl); (case kK => assumption); (case k1 => exact B); (case k2 => exact F); (case k3 => exact X); (case k4 => exact news_sub N hsub); (case k5 => exact T); (case k6 => k_is); (case k7 => k_is); (case k8 => k_room); (case k9 => first | exact BindsTo.of_eq rfl | exact binds_K (by k_in) rfl (by k_is) rfl rfl rfl); (case c5 => decide); (case kB => exact locs rfl); (case c2 => exact rfl); (case c3 => exact rfl); (case c4 => exact rfl); k_whole; intro g' L' h' FG' F' N' B' X' T' kG; (try dsimp only); (try k_unmd); (try k_fold); (try (refine' aLet ?_; intro AL)))
  k_steps
  all_goals exact Fn.fin kG N hsub hret (by assumption) (by assumption) (by assumption) (by assumption) (by (ktn_no "Sub")) (by ktn_no "VIn")
end
theorem resetD6 : True := by w_top off; trivial
theorem linesD6 : True := by
  (k_with "w:eval ListComp" => ((fail_if_success k_extra "x60"); ((k_here; k_dflt (refine' cmp_e ?cf_101 ?cl_101 ?cc_101 ?ck_101 ?cn_101 ?hs_101 ?_; (case cf_101 => k_asm); (case cl_101 => with_unfolding_all rfl); (case cc_101 => decide); (case ck_101 => exact rfl); (case cn_101 => decide); (case hs_101 => intro _; with_unfolding_all rfl); k_whole)))))
  (k_with "w:exec Assign cons ListComp" => ((fail_if_success k_extra "x61"); ((k_here; k_dflt (refine' cmp_a ?cf_102 ?ce_102 ?cw_102 ?cl_102 ?cc_102 ?ck_102 ?cn_102 ?cy_102 ?cp_102 ?hs_102 ?_; (case cf_102 => k_asm); (case ce_102 => exact rfl); (case cw_102 => with_unfolding_all rfl); (case cl_102 => with_unfolding_all rfl); (case cc_102 => decide); (case ck_102 => exact rfl); (case cn_102 => decide); (case cy_102 => exact rfl); (case cp_102 => exact rfl); (case hs_102 => intro _; with_unfolding_all rfl); k_whole)))))
  (k_with "w:CmpSrc" => ((fail_if_success k_extra "x62"); ((k_dflt (first
  | (refine' cmp_tuple_rest ?fh_103 ?fl_103 ?fz_103 ?fx_103 ?fk_103 ?ff_103 ?fn_103 ?_; (case fl_103 => first | (refine' tup_of ?tn_103 ?th_103; (case tn_103 => k_asm); (case th_103 => k_mem)) | (refine' tup_K ?tf_103 ?tx_103 ?tl_103; (case tf_103 => k_asm); (case tx_103 => k_asm); (case tl_103 => k_is))); (case fh_103 => exact rfl); (case fz_103 => exact Nat.le_of_ble_eq_true rfl); (case fx_103 => exact rfl); (case fk_103 => exact rfl); (case ff_103 => k_asm); (case fn_103 => k_asm); k_whole)
  | (refine' cmp_list_rest ?fh_103 ?fl_103 ?fz_103 ?fx_103 ?fk_103 ?ff_103 ?fn_103 ?_; (case fl_103 => (refine' lst_of ?tn_103 ?th_103; (case tn_103 => k_asm); (case th_103 => k_mem))); (case fh_103 => exact rfl); (case fz_103 => exact Nat.le_of_ble_eq_true rfl); (case fx_103 => exact rfl); (case fk_103 => exact rfl); (case ff_103 => k_asm); (case fn_103 => k_asm); k_whole)
  | (refine' cmp_tuple_restT ?fh_103 ?fl_103 ?fz_103 ?fx_103 ?fk_103 ?ff_103 ?fn_103 ?_; (case fl_103 => first | (refine' tup_of ?tn_103 ?th_103; (case tn_103 => k_asm); (case th_103 => k_mem)) | (refine' tup_K ?tf_103 ?tx_103 ?tl_103; (case tf_103 => k_asm); (case tx_103 => k_asm); (case tl_103 => k_is))); (case fh_103 => exact rfl); (case fz_103 => exact Nat.le_of_ble_eq_true rfl); (case fx_103 => exact rfl); (case fk_103 => exact rfl); (case ff_103 => k_asm); (case fn_103 => k_asm); k_whole)
  | (refine' cmp_list_restT ?fh_103 ?fl_103 ?fz_103 ?fx_103 ?fk_103 ?ff_103 ?fn_103 ?_; (case fl_103 => (refine' lst_of ?tn_103 ?th_103; (case tn_103 => k_asm); (case th_103 => k_mem))); (case fh_103 => exact rfl); (case fz_103 => exact Nat.le_of_ble_eq_true rfl); (case fx_103 => exact rfl); (case fk_103 => exact rfl); (case ff_103 => k_asm); (case fn_103 => k_asm); k_whole))))))
  (k_with "w:CRest" => ((fail_if_success k_extra "x63"); ((k_dflt (first
  | ((with_reducible show CRest _ _ _ _ _ _ _ _ _ _ _ _ _ _ (_ :: _) _ _); intro C9 oC9 m9 ext9 av9 h9 tk9 E9 hC9 hx9 hC9e F9 N9 off9 hav9 hex9; (try k_sweep); (try k_unmd); (try k_fold))
  | ((with_reducible show CRest _ _ _ _ _ _ _ _ _ _ _ _ _ _ [] _ _); intro g9))))))
  (k_with "w:CRestT" => ((fail_if_success k_extra "x64"); ((k_dflt (first
  | ((with_reducible show CRestT _ _ _ _ _ _ _ _ _ _ _ _ _ _ _ (_ :: _) _ _); intro C9 oC9 m9 ext9 av9 h9 tk9 E9 hC9 hx9 hC9e F9 N9 off9 hav9 hex9; (try k_sweep); (try k_unmd); (try k_fold))
  | ((with_reducible show CRestT _ _ _ _ _ _ _ _ _ _ _ _ _ _ _ [] _ _); intro g9))))))
  (k_with "w:CEnd" => ((fail_if_success k_extra "x65"); ((k_dflt (refine' cend_intro ?eF_106 ?eN_106 ?eR_106 ?eO_106 ?_; (case eF_106 => k_asm); (case eN_106 => k_asm); (case eR_106 => repeat' (first | exact rem_base | refine' rem_cons ?_ | refine' rem_app ?_)); (case eO_106 => ktn_no "Off"); k_whole)))))
  (k_with "w:FinE2" => ((fail_if_success k_extra "x66"); ((intro D9 h9 tk9 F9 N9 l9; (try k_sweep); (try simp only [List.nil_append, List.cons_append] at N9); (try dsimp only); (try k_unmd); (try k_fold)))))
  (k_with "w:FinA2" => ((fail_if_success k_extra "x67"); ((intro D9 h9 tk9 F9 N9 l9; (try k_sweep); (try simp only [List.nil_append, List.cons_append] at N9); (try dsimp only); (try k_unmd); (try k_fold)))))
  (k_with "w:call ref" => ((fail_if_success k_extra "x68"); ((k_here; (with_reducible show wpAny _ _ (PySem.call (Value.ref 314) _) _ _ _); k_dflt ((first | (refine' spUse (flatp _ _ _ _ _ _) ?k1_109 ?k2_109 ?k3_109 ?k4_109 ?k5_109 ?k6_109 _ ?ks_109 ?pre_109 ?kd_109 ?ku_109 ?_; (case k1_109 => k_asm); (case k2_109 => k_asm); (case k3_109 => k_asm); (case k4_109 => k_asm); (case k5_109 => k_asm); (case k6_109 => first | exact rfl | assumption); (case ks_109 => ktn_no "StripA"); (case pre_109 => ktn_no "VAll"); (case kd_109 => k_room); (case ku_109 => k_room); k_whole) | (refine' spUse (flatp _ _ _ _ _ _) ?k1_109 ?k2_109 ?k3_109 ?k4_109 ?k5_109 ?k6_109 _ ?ks_109 ?pre_109 ?kd_109 ?ku_109 ?_; (case k1_109 => k_asm); (case k2_109 => k_asm); (case k3_109 => k_asm); (case k4_109 => k_asm); (case k5_109 => k_asm); (case k6_109 => first | exact rfl | assumption); (case ks_109 => ktn_no "Strip"); (case pre_109 => ktn_no "VAll"); (case kd_109 => k_room); (case ku_109 => k_room); k_whole)); intro r9 tl9 h9 tk9 lg9 li9 F9 N9 ne9 post9; have post9k := post9; (try k_sweep); (try dsimp only); (try k_unmd); (try k_fold))))))
  trivial
section
theorem partV_unf (x y wd ht : Int) : partV x y wd ht = .tup [.tup [.str (Str.ofString "move"), .tup [.dec x 0, .dec y 0]], .tup [.str (Str.ofString "line"), .tup [.dec (x + wd) 0, .dec y 0]], .tup [.str (Str.ofString "line"), .tup [.dec (x + wd) 0, .dec (y + ht) 0]], .tup [.str (Str.ofString "line"), .tup [.dec x 0, .dec (y + ht) 0]], .tup [.str (Str.ofString "close")]] := rfl
noncomputable abbrev polyV (x y wd ht : Int) : V := .lst [.tup [.dec x 0, .dec y 0], .tup [.dec (x + wd) 0, .dec y 0], .tup [.dec (x + wd) 0, .dec (y + ht) 0], .tup [.dec x 0, .dec (y + ht) 0]]
set_option maxRecDepth 100000 in
set_option maxHeartbeats 8000000 in
theorem flattened (w : World) (x y wd ht : Int) : Fn w 320 16 1000 [rectV x y wd ht, .int 3] (rectV x y wd ht) := by
  unfold Fn Sp
  k_fill
  intro dp un gd cn cs a ccd cl outer A₀ base h₀ L m news imm s vs p' loose mean mg mb Q E B F X N T hk hsub hpre hd hu hret
  refine VAll.opr (.cons (.pth (.seq (.cons .any .nil))) (.cons .lf .nil)) hpre ?_; clear hpre; intro a2307n d2308n t2310n a2316n k2318n v2324n h2321n hm2319n hk2320n ha2311n hd2312n hk2313n t2328n _; 
  refine wpAny_call ?_
  k_dflt (refine' code_defCG ?k1 ?k2 ?k3 ?k4 ?k5 ?kA ?kF ?kK ?k6 ?k7 ?k8 ?k9 ?kB ?kD ?_ ?c2 ?c3 ?c4; (case kA => exact rfl); (case kF => exact rfl); (case kK => assumption); (case k1 => exact B); (case k2 => exact F); (case k3 => exact X); (case k4 => exact news_sub N hsub); (case k5 => exact T); (case k6 => k_is); (case k7 => k_is); (case k8 => k_room); (case k9 => first | exact BindsTo.of_eq rfl | exact binds_K (by k_in) rfl (by k_is) rfl rfl rfl); (case kB => exact rfl); (case kD => decide +kernel); (case c2 => exact rfl); (case c3 => exact rfl); (case c4 => exact rfl); k_whole; intro g' L' h' tk' cells' FG' F' N' Y' B' X' T' l1 kG; (try k_lt l1); k_cells Y'; (try simp only [List.cons_append, List.nil_append] at N'); (try dsimp only); (try k_unmd); (try k_fold); (try (refine' aLet ?_; intro AL)))
  k_steps
  all_goals exact Fn.fin kG N hsub hret (by assumption) (by assumption) (by assumption) (by assumption) (by (ktn_no "Sub")) (by ktn_no "VIn")
end
theorem resetD7 : True := by w_top off; trivial
theorem linesD7 : True := by
  (k_with "x68" => skip)
  (k_with "w:call ref" => ((fail_if_success k_extra "x69"); ((k_here; (with_reducible show wpAny _ _ (PySem.call (Value.ref 320) _) _ _ _); k_dflt ((first | (refine' spUse (flattened _ _ _ _ _) ?k1_110 ?k2_110 ?k3_110 ?k4_110 ?k5_110 ?k6_110 _ ?ks_110 ?pre_110 ?kd_110 ?ku_110 ?_; (case k1_110 => k_asm); (case k2_110 => k_asm); (case k3_110 => k_asm); (case k4_110 => k_asm); (case k5_110 => k_asm); (case k6_110 => first | exact rfl | assumption); (case ks_110 => ktn_no "StripA"); (case pre_110 => ktn_no "VAll"); (case kd_110 => k_room); (case ku_110 => k_room); k_whole) | (refine' spUse (flattened _ _ _ _ _) ?k1_110 ?k2_110 ?k3_110 ?k4_110 ?k5_110 ?k6_110 _ ?ks_110 ?pre_110 ?kd_110 ?ku_110 ?_; (case k1_110 => k_asm); (case k2_110 => k_asm); (case k3_110 => k_asm); (case k4_110 => k_asm); (case k5_110 => k_asm); (case k6_110 => first | exact rfl | assumption); (case ks_110 => ktn_no "Strip"); (case pre_110 => ktn_no "VAll"); (case kd_110 => k_room); (case ku_110 => k_room); k_whole)); intro r9 tl9 h9 tk9 lg9 li9 F9 N9 ne9 post9; refine VIn.op (.pth (.seq (.cons (.seq (.cons (.seq (.cons .lf (.cons (.seq (.cons .lf (.cons .lf .nil))) .nil))) (.cons (.seq (.cons .lf (.cons (.seq (.cons .lf (.cons .lf .nil))) .nil))) (.cons (.seq (.cons .lf (.cons (.seq (.cons .lf (.cons .lf .nil))) .nil))) (.cons (.seq (.cons .lf (.cons (.seq (.cons .lf (.cons .lf .nil))) .nil))) (.cons (.seq (.cons .lf .nil)) .nil)))))) .nil))) post9 ?_; clear post9; intro a2332n d2333n t2335n a2341n k2343n a2354n k2356n a2387n k2389n t2404n a2407n k2409n a2424n d2425n t2426n t2427n t2428n t2429n ha2430n hd2431n hk2432n a2434n d2435n t2436n t2437n t2438n t2439n ha2440n hd2441n hk2442n hm2410n hk2411n hm2390n hk2391n a2445n k2447n t2462n a2465n k2467n a2482n d2483n t2484n t2485n t2486n t2487n ha2488n hd2489n hk2490n a2492n d2493n t2494n t2495n t2496n t2497n ha2498n hd2499n hk2500n hm2468n hk2469n hm2448n hk2449n a2503n k2505n t2520n a2523n k2525n a2540n d2541n t2542n t2543n t2544n t2545n ha2546n hd2547n hk2548n a2550n d2551n t2552n t2553n t2554n t2555n ha2556n hd2557n hk2558n hm2526n hk2527n hm2506n hk2507n a2561n k2563n t2578n a2581n k2583n a2598n d2599n t2600n t2601n t2602n t2603n ha2604n hd2605n hk2606n a2608n d2609n t2610n t2611n t2612n t2613n ha2614n hd2615n hk2616n hm2584n hk2585n hm2564n hk2565n a2619n k2621n t2631n hm2622n hk2623n hm2357n hk2358n hm2344n hk2345n ha2336n hd2337n hk2338n; (try k_sweep); (try dsimp only); (try k_unmd); (try k_fold))))))
  trivial
section
set_option maxRecDepth 100000 in
set_option maxHeartbeats 8000000 in
theorem lines (w : World) (x y wd ht : Int) : Fn w 326 20 1400 [rectV x y wd ht, .int 3] (.lst [polyV x y wd ht]) := by
  unfold Fn Sp
  k_fill
  intro dp un gd cn cs a ccd cl outer A₀ base h₀ L m news imm s vs p' loose mean mg mb Q E B F X N T hk hsub hpre hd hu hret
  refine VAll.opr (.cons .any (.cons .lf .nil)) hpre ?_; clear hpre; intro v2635n h2632n t2644n _; 
  refine wpAny_call ?_
  k_dflt (refine' code_defG ?k1 ?k2 ?k3 ?k4 ?k5 ?kA ?kF ?kK ?k6 ?k7 ?k8 ?k9 ?kB ?_ ?c2 ?c3 ?c4 ?c5; (case kA => exact rfl); (case kF => exact rfl); (case kK => assumption); (case k1 => exact B); (case k2 => exact F); (case k3 => exact X); (case k4 => exact news_sub N hsub); (case k5 => exact T); (case k6 => k_is); (case k7 => k_is); (case k8 => k_room); (case k9 => first | exact BindsTo.of_eq rfl | exact binds_K (by k_in) rfl (by k_is) rfl rfl rfl); (case c5 => decide); (case kB => exact locs rfl); (case c2 => exact rfl); (case c3 => exact rfl); (case c4 => exact rfl); k_whole; intro g' L' h' FG' F' N' B' X' T' kG; (try dsimp only); (try k_unmd); (try k_fold); (try (refine' aLet ?_; intro AL)))
  k_steps
  all_goals exact Fn.fin kG N hsub hret (by assumption) (by assumption) (by assumption) (by assumption) (by (ktn_no "Sub")) (by ktn_no "VIn")
end
theorem resetD8 : True := by w_top off; trivial
theorem linesD8 : True := by
  (k_with "x69" => skip)
  (k_with "x60" => skip)
  (k_with "x61" => skip)
  (k_with "x62" => skip)
  (k_with "x63" => skip)
  (k_with "x64" => skip)
  (k_with "x65" => skip)
  (k_with "x66" => skip)
  (k_with "x67" => skip)
  (k_with "w:ite" => ((fail_if_success k_extra "x70"); ((k_dflt (first | ((refine ite_pos ?ic_55 ?_); (case ic_55 => k_extra "Dec")) | ((refine ite_neg ?ic_55 ?_); (case ic_55 => k_extra "Dec")))))))
  (k_with "w:binaryOp Pow int int" => ((fail_if_success k_extra "x71"); ((k_here; (with_reducible refine pow_int_small ?kb1_46 ?kb2_46 ?kb3_46 ?_); (case kb1_46 => first | decide | omega); (case kb2_46 => first | decide | omega); (case kb3_46 => decide)))))
  (k_with "w:call builtin:max" => ((fail_if_success k_extra "x72"); ((k_here; k_dflt (refine' max3_100 ?mh_111 ?mf_111 ?mn_111 ?_; (case mh_111 => exact rfl); (case mf_111 => k_asm); (case mn_111 => k_asm); k_whole; intro h9 tk9 F9 N9; (try k_sweep))))))
  (k_with "w:exec For Tuple Name" => ((fail_if_success k_extra "x73"); ((k_here; k_dflt (refine' for_src ?ff_112 ?_ ?hs_112 ?hE_112; (case ff_112 => k_asm); (case hs_112 => intro _; with_unfolding_all rfl); (case hE_112 => passes_own); k_whole)))))
  (k_with "w:exec For Tuple" => ((fail_if_success k_extra "x74"); ((k_here; k_dflt (refine' for_src ?ff_113 ?_ ?hs_113 ?hE_113; (case ff_113 => k_asm); (case hs_113 => intro _; with_unfolding_all rfl); (case hE_113 => passes_own); k_whole)))))
  trivial
section
set_option maxRecDepth 100000 in
set_option maxHeartbeats 8000000 in
theorem atpl (w : World) (n : Int) : Fn w 341 4 200 [.dec n 0, .int 1] (.int (n * 10)) := by
  unfold Fn Sp
  k_fill
  intro dp un gd cn cs a ccd cl outer A₀ base h₀ L m news imm s vs p' loose mean mg mb Q E B F X N T hk hsub hpre hd hu hret
  refine VAll.opr (.cons .lf (.cons .lf .nil)) hpre ?_; clear hpre; intro a2658n d2659n t2660n t2661n t2662n t2663n ha2664n hd2665n hk2666n t2668n _; 
  refine wpAny_call ?_
  k_dflt (refine' code_defG ?k1 ?k2 ?k3 ?k4 ?k5 ?kA ?kF ?kK ?k6 ?k7 ?k8 ?k9 ?kB ?_ ?c2 ?c3 ?c4 ?c5; (case kA => exact rfl); (case kF => exact rfl); (case kK => assumption); (case k1 => exact B); (case k2 => exact F); (case k3 => exact X); (case k4 => exact news_sub N hsub); (case k5 => exact T); (case k6 => k_is); (case k7 => k_is); (case k8 => k_room); (case k9 => first | exact BindsTo.of_eq rfl | exact binds_K (by k_in) rfl (by k_is) rfl rfl rfl); (case c5 => decide); (case kB => exact locs rfl); (case c2 => exact rfl); (case c3 => exact rfl); (case c4 => exact rfl); k_whole; intro g' L' h' FG' F' N' B' X' T' kG; (try dsimp only); (try k_unmd); (try k_fold); (try (refine' aLet ?_; intro AL)))
  k_steps
  all_goals exact Fn.fin kG N hsub hret (by assumption) (by assumption) (by assumption) (by assumption) (by (ktn_no "Sub")) (VIn.congr (VIn.int _ _) (by simp))
set_option maxRecDepth 100000 in
set_option maxHeartbeats 8000000 in
theorem plof (w : World) (x y wd ht : Int) : Fn w 334 6 300 [polyV x y wd ht, .int 1] (.int 1) := by
  unfold Fn Sp
  k_fill
  intro dp un gd cn cs a ccd cl outer A₀ base h₀ L m news imm s vs p' loose mean mg mb Q E B F X N T hk hsub hpre hd hu hret
  refine VAll.opr (.cons (.seq (.cons (.seq (.cons .lf (.cons .lf .nil))) (.cons (.seq (.cons .lf (.cons .lf .nil))) (.cons (.seq (.cons .lf (.cons .lf .nil))) (.cons (.seq (.cons .lf (.cons .lf .nil))) .nil))))) (.cons .lf .nil)) hpre ?_; clear hpre; intro a2684n k2686n a2712n k2714n a2729n d2730n t2731n t2732n t2733n t2734n ha2735n hd2736n hk2737n a2739n d2740n t2741n t2742n t2743n t2744n ha2745n hd2746n hk2747n hm2715n hk2716n a2750n k2752n a2767n d2768n t2769n t2770n t2771n t2772n ha2773n hd2774n hk2775n a2777n d2778n t2779n t2780n t2781n t2782n ha2783n hd2784n hk2785n hm2753n hk2754n a2788n k2790n a2805n d2806n t2807n t2808n t2809n t2810n ha2811n hd2812n hk2813n a2815n d2816n t2817n t2818n t2819n t2820n ha2821n hd2822n hk2823n hm2791n hk2792n a2826n k2828n a2843n d2844n t2845n t2846n t2847n t2848n ha2849n hd2850n hk2851n a2853n d2854n t2855n t2856n t2857n t2858n ha2859n hd2860n hk2861n hm2829n hk2830n hm2687n hk2688n t2863n _; 
  refine wpAny_call ?_
  k_dflt (refine' code_defG ?k1 ?k2 ?k3 ?k4 ?k5 ?kA ?kF ?kK ?k6 ?k7 ?k8 ?k9 ?kB ?_ ?c2 ?c3 ?c4 ?c5; (case kA => exact rfl); (case kF => exact rfl); (case kK => assumption); (case k1 => exact B); (case k2 => exact F); (case k3 => exact X); (case k4 => exact news_sub N hsub); (case k5 => exact T); (case k6 => k_is); (case k7 => k_is); (case k8 => k_room); (case k9 => first | exact BindsTo.of_eq rfl | exact binds_K (by k_in) rfl (by k_is) rfl rfl rfl); (case c5 => decide); (case kB => exact locs rfl); (case c2 => exact rfl); (case c3 => exact rfl); (case c4 => exact rfl); k_whole; intro g' L' h' FG' F' N' B' X' T' kG; (try dsimp only); (try k_unmd); (try k_fold); (try (refine' aLet ?_; intro AL)))
  k_steps
  all_goals exact Fn.fin kG N hsub hret (by assumption) (by assumption) (by assumption) (by assumption) (by (ktn_no "Sub")) (by ktn_no "VIn")
end
theorem resetD9 : True := by w_top off; trivial
theorem linesD9 : True := by
  (k_with "x72" => skip)
  (k_with "x73" => skip)
  (k_with "x74" => skip)
  (k_with "SubIdx" => ((fail_if_success k_extra "x75"); (k_dflt (refine' item_lstN ?n_114 ?l_114 ?a_114 ?b_114 ?c_114 ?d_114 ?_ ?hs_114; (case n_114 => k_asm); (case l_114 => ktn_no "Mem"); (case a_114 => decide); (case b_114 => (simp only [List.length_cons, List.length_nil]; omega)); (case c_114 => decide); (case d_114 => rfl); (case hs_114 => with_unfolding_all rfl); k_whole))))
  (k_with "w:ForSrc" => ((fail_if_success k_extra "x76"); ((k_dflt (refine' for_range_rest ?ks_118 ?fh_118 ?fl_118 ?fz_118 ?fm_118 ?fk_118 ?ff_118 ?fn_118 ?_; (case fl_118 => (refine' rng_of ?tn_118 ?th_118; (case tn_118 => k_asm); (case th_118 => ktn_no "Mem"))); (case fh_118 => exact rfl); (case fz_118 => exact rfl); (case fm_118 => exact (rfl : _ = ((4 : Nat) : Int))); (case fk_118 => exact (by decide : (List.range 4).map (fun i : Nat => (0 : Int) + (i : Int) * 1) = [0, 1, 2, 3])); (case ff_118 => k_asm); (case fn_118 => k_asm); k_whole)))))
  (k_with "w:eval ListComp" => ((fail_if_success k_extra "x77"); ((k_here; k_dflt (refine' cmp_e ?cf_101 ?cl_101 ?cc_101 ?ck_101 ?cn_101 ?hs_101 ?_; (case cf_101 => k_asm); (case cl_101 => with_unfolding_all rfl); (case cc_101 => decide); (case ck_101 => exact rfl); (case cn_101 => decide); (case hs_101 => intro _; with_unfolding_all rfl); k_whole)))))
  (k_with "w:exec Assign cons ListComp" => ((fail_if_success k_extra "x78"); ((k_here; k_dflt (refine' cmp_a ?cf_102 ?ce_102 ?cw_102 ?cl_102 ?cc_102 ?ck_102 ?cn_102 ?cy_102 ?cp_102 ?hs_102 ?_; (case cf_102 => k_asm); (case ce_102 => exact rfl); (case cw_102 => with_unfolding_all rfl); (case cl_102 => with_unfolding_all rfl); (case cc_102 => decide); (case ck_102 => exact rfl); (case cn_102 => decide); (case cy_102 => exact rfl); (case cp_102 => exact rfl); (case hs_102 => intro _; with_unfolding_all rfl); k_whole)))))
  (k_with "w:CmpSrc" => ((fail_if_success k_extra "x79"); ((k_dflt (first
  | (refine' cmp_tuple_rest ?fh_103 ?fl_103 ?fz_103 ?fx_103 ?fk_103 ?ff_103 ?fn_103 ?_; (case fl_103 => first | (refine' tup_of ?tn_103 ?th_103; (case tn_103 => k_asm); (case th_103 => k_mem)) | (refine' tup_K ?tf_103 ?tx_103 ?tl_103; (case tf_103 => k_asm); (case tx_103 => k_asm); (case tl_103 => k_is))); (case fh_103 => exact rfl); (case fz_103 => exact Nat.le_of_ble_eq_true rfl); (case fx_103 => exact rfl); (case fk_103 => exact rfl); (case ff_103 => k_asm); (case fn_103 => k_asm); k_whole)
  | (refine' cmp_list_rest ?fh_103 ?fl_103 ?fz_103 ?fx_103 ?fk_103 ?ff_103 ?fn_103 ?_; (case fl_103 => (refine' lst_of ?tn_103 ?th_103; (case tn_103 => k_asm); (case th_103 => k_mem))); (case fh_103 => exact rfl); (case fz_103 => exact Nat.le_of_ble_eq_true rfl); (case fx_103 => exact rfl); (case fk_103 => exact rfl); (case ff_103 => k_asm); (case fn_103 => k_asm); k_whole)
  | (refine' cmp_tuple_restT ?fh_103 ?fl_103 ?fz_103 ?fx_103 ?fk_103 ?ff_103 ?fn_103 ?_; (case fl_103 => first | (refine' tup_of ?tn_103 ?th_103; (case tn_103 => k_asm); (case th_103 => k_mem)) | (refine' tup_K ?tf_103 ?tx_103 ?tl_103; (case tf_103 => k_asm); (case tx_103 => k_asm); (case tl_103 => k_is))); (case fh_103 => exact rfl); (case fz_103 => exact Nat.le_of_ble_eq_true rfl); (case fx_103 => exact rfl); (case fk_103 => exact rfl); (case ff_103 => k_asm); (case fn_103 => k_asm); k_whole)
  | (refine' cmp_list_restT ?fh_103 ?fl_103 ?fz_103 ?fx_103 ?fk_103 ?ff_103 ?fn_103 ?_; (case fl_103 => (refine' lst_of ?tn_103 ?th_103; (case tn_103 => k_asm); (case th_103 => k_mem))); (case fh_103 => exact rfl); (case fz_103 => exact Nat.le_of_ble_eq_true rfl); (case fx_103 => exact rfl); (case fk_103 => exact rfl); (case ff_103 => k_asm); (case fn_103 => k_asm); k_whole))))))
  (k_with "w:CmpSrc" => ((fail_if_success k_extra "x80"); ((k_dflt (refine' cmp_list_pairs ?fh_115 ?fp_115 ?fl_115 ?fz_115 ?fx_115 ?fy_115 ?fxy_115 ?fk_115 ?ff_115 ?fn_115 ?_; (case fl_115 => (refine' lst_of ?tn_115 ?th_115; (case tn_115 => k_asm); (case th_115 => ktn_no "Mem"))); (case ff_115 => k_asm); (case fn_115 => k_asm); (case fp_115 => k_extra "Pairs"); (case fh_115 => exact rfl); (case fz_115 => exact Nat.le_of_ble_eq_true rfl); (case fx_115 => exact rfl); (case fy_115 => exact rfl); (case fxy_115 => decide); (case fk_115 => exact rfl); k_whole)))))
  (k_with "w:CRest" => ((fail_if_success k_extra "x81"); ((k_dflt (first
  | ((with_reducible show CRest _ _ _ _ _ _ _ _ _ _ _ _ _ _ (_ :: _) _ _); intro C9 oC9 m9 ext9 av9 h9 tk9 E9 hC9 hx9 hC9e F9 N9 off9 hav9 hex9; (try k_sweep); (try k_unmd); (try k_fold))
  | ((with_reducible show CRest _ _ _ _ _ _ _ _ _ _ _ _ _ _ [] _ _); intro g9))))))
  (k_with "w:CRestT" => ((fail_if_success k_extra "x82"); ((k_dflt (first
  | ((with_reducible show CRestT _ _ _ _ _ _ _ _ _ _ _ _ _ _ _ (_ :: _) _ _); intro C9 oC9 m9 ext9 av9 h9 tk9 E9 hC9 hx9 hC9e F9 N9 off9 hav9 hex9; (try k_sweep); (try k_unmd); (try k_fold))
  | ((with_reducible show CRestT _ _ _ _ _ _ _ _ _ _ _ _ _ _ _ [] _ _); intro g9))))))
  (k_with "w:CEnd" => ((fail_if_success k_extra "x83"); ((k_dflt (refine' cend_intro ?eF_106 ?eN_106 ?eR_106 ?eO_106 ?_; (case eF_106 => k_asm); (case eN_106 => k_asm); (case eR_106 => repeat' (first | exact rem_base | refine' rem_cons ?_ | refine' rem_app ?_)); (case eO_106 => ktn_no "Off"); k_whole)))))
  (k_with "w:FinE2" => ((fail_if_success k_extra "x84"); ((intro D9 h9 tk9 F9 N9 l9; (try k_sweep); (try simp only [List.nil_append, List.cons_append] at N9); (try dsimp only); (try k_unmd); (try k_fold)))))
  (k_with "w:FinA2" => ((fail_if_success k_extra "x85"); ((intro D9 h9 tk9 F9 N9 l9; (try k_sweep); (try simp only [List.nil_append, List.cons_append] at N9); (try dsimp only); (try k_unmd); (try k_fold)))))
  (k_with "w:Pairs" => k_extra "Pairs")
  (k_with "Pairs" => first | exact PairsAre.nil | (refine' PairsAre.cons ?pm_116 ?pr_116; (case pm_116 => ktn_no "Mem"); (case pr_116 => k_extra "Pairs")))
  (k_with "w:CRestP" => ((fail_if_success k_extra "x86"); ((k_dflt (first
  | ((with_reducible show CRestP _ _ _ _ _ _ _ _ _ _ _ _ _ _ _ (_ :: _) _ _); refine And.intro ⟨_, by ktn_no "Mem"⟩ ?_; intro C9 oC9 m9 ext9 av9 h9 tk9 E9 hC9 hx9 hy9 hC9e F9 N9 off9 hav9 hex9; (try k_sweep); (try k_unmd); (try k_fold))
  | ((with_reducible show CRestP _ _ _ _ _ _ _ _ _ _ _ _ _ _ _ [] _ _); intro g9))))))
  (k_with "w:FRestI" => ((fail_if_success k_extra "x87"); ((k_dflt (first
  | ((with_reducible show FRestI _ _ _ _ _ _ _ _ _ _ (_ :: _) _ _); intro ext9 av9 h9 tk9 t9 F9 N9 off9 hav9 hex9; (try k_sweep); (try k_unmd); (try k_fold))
  | ((with_reducible show FRestI _ _ _ _ _ _ _ _ _ _ [] _ _); intro h9 tk9 F9 N9; (try k_sweep); (try dsimp only); (try k_unmd); (try k_fold)))))))
  (k_with "w:call type:range" => ((fail_if_success k_extra "x88"); ((k_here; k_dflt (first
  | (refine' rng1 ?rf_120 ?rn_120 ?_; (case rf_120 => k_asm); (case rn_120 => k_asm); k_whole; intro D9 h9 t19 t29 F9 N9 l9)
  | (refine' rng3 ?rf_120 ?rn_120 ?rc_120 ?rp_120 ?_; (case rf_120 => k_asm); (case rn_120 => k_asm); (case rc_120 => decide); (case rp_120 => first | decide | exact PyProof.noPylong_small (by omega)); k_whole; intro D9 h9 F9 N9 l9)); (try k_lt l9); (try k_sweep)))))
  (k_with "w:call ref" => ((fail_if_success k_extra "x89"); ((k_here; (with_reducible show wpAny _ _ (PySem.call (Value.ref 341) _) _ _ _); k_dflt ((first | (refine' spUse (atpl _ _) ?k1_121 ?k2_121 ?k3_121 ?k4_121 ?k5_121 ?k6_121 _ ?ks_121 ?pre_121 ?kd_121 ?ku_121 ?_; (case k1_121 => k_asm); (case k2_121 => k_asm); (case k3_121 => k_asm); (case k4_121 => k_asm); (case k5_121 => k_asm); (case k6_121 => first | exact rfl | assumption); (case ks_121 => ktn_no "StripA"); (case pre_121 => ktn_no "VAll"); (case kd_121 => k_room); (case ku_121 => k_room); k_whole) | (refine' spUse (atpl _ _) ?k1_121 ?k2_121 ?k3_121 ?k4_121 ?k5_121 ?k6_121 _ ?ks_121 ?pre_121 ?kd_121 ?ku_121 ?_; (case k1_121 => k_asm); (case k2_121 => k_asm); (case k3_121 => k_asm); (case k4_121 => k_asm); (case k5_121 => k_asm); (case k6_121 => first | exact rfl | assumption); (case ks_121 => ktn_no "Strip"); (case pre_121 => ktn_no "VAll"); (case kd_121 => k_room); (case ku_121 => k_room); k_whole)); intro r9 tl9 h9 tk9 lg9 li9 F9 N9 ne9 post9; refine VIn.op .lf post9 ?_; clear post9; intro t2670n; (try k_sweep); (try dsimp only); (try k_unmd); (try k_fold))))))
  (k_with "w:exec For Name Name" => ((fail_if_success k_extra "x90"); ((k_here; k_dflt (refine' for_src ?ff_122 ?_ ?hs_122 ?hE_122; (case ff_122 => k_asm); (case hs_122 => intro _; with_unfolding_all rfl); (case hE_122 => passes_own); k_whole)))))
  (k_with "w:exec For Name Call" => ((fail_if_success k_extra "x91"); ((k_here; k_dflt (refine' for_src ?ff_123 ?_ ?hs_123 ?hE_123; (case ff_123 => k_asm); (case hs_123 => intro _; with_unfolding_all rfl); (case hE_123 => passes_own); k_whole)))))
  trivial
section
noncomputable abbrev edgesV (x y wd ht : Int) : V := .lst [.tup [.int (x * 10), .int ((y + ht) * 10), .int (x * 10), .int (y * 10)], .tup [.int ((x + wd) * 10), .int (y * 10), .int ((x + wd) * 10), .int ((y + ht) * 10)]]
set_option maxRecDepth 100000 in
set_option maxHeartbeats 8000000 in
theorem wedges (w : World) (x y wd ht : Int) (hht : 1 ≤ ht) : Fn w 346 12 600 [.lst [polyV x y wd ht], .int 1] (edgesV x y wd ht) := by
  unfold Fn Sp
  k_fill
  intro dp un gd cn cs a ccd cl outer A₀ base h₀ L m news imm s vs p' loose mean mg mb Q E B F X N T hk hsub hpre hd hu hret
  refine VAll.opr (.cons (.seq (.cons (.seq (.cons (.seq (.cons .lf (.cons .lf .nil))) (.cons (.seq (.cons .lf (.cons .lf .nil))) (.cons (.seq (.cons .lf (.cons .lf .nil))) (.cons (.seq (.cons .lf (.cons .lf .nil))) .nil))))) .nil)) (.cons .lf .nil)) hpre ?_; clear hpre; intro a2879n k2881n a2892n k2894n a2920n k2922n a2937n d2938n t2939n t2940n t2941n t2942n ha2943n hd2944n hk2945n a2947n d2948n t2949n t2950n t2951n t2952n ha2953n hd2954n hk2955n hm2923n hk2924n a2958n k2960n a2975n d2976n t2977n t2978n t2979n t2980n ha2981n hd2982n hk2983n a2985n d2986n t2987n t2988n t2989n t2990n ha2991n hd2992n hk2993n hm2961n hk2962n a2996n k2998n a3013n d3014n t3015n t3016n t3017n t3018n ha3019n hd3020n hk3021n a3023n d3024n t3025n t3026n t3027n t3028n ha3029n hd3030n hk3031n hm2999n hk3000n a3034n k3036n a3051n d3052n t3053n t3054n t3055n t3056n ha3057n hd3058n hk3059n a3061n d3062n t3063n t3064n t3065n t3066n ha3067n hd3068n hk3069n hm3037n hk3038n hm2895n hk2896n hm2882n hk2883n t3071n _; 
  refine wpAny_call ?_
  k_dflt (refine' code_defCG ?k1 ?k2 ?k3 ?k4 ?k5 ?kA ?kF ?kK ?k6 ?k7 ?k8 ?k9 ?kB ?kD ?_ ?c2 ?c3 ?c4; (case kA => exact rfl); (case kF => exact rfl); (case kK => assumption); (case k1 => exact B); (case k2 => exact F); (case k3 => exact X); (case k4 => exact news_sub N hsub); (case k5 => exact T); (case k6 => k_is); (case k7 => k_is); (case k8 => k_room); (case k9 => first | exact BindsTo.of_eq rfl | exact binds_K (by k_in) rfl (by k_is) rfl rfl rfl); (case kB => exact rfl); (case kD => decide +kernel); (case c2 => exact rfl); (case c3 => exact rfl); (case c4 => exact rfl); k_whole; intro g' L' h' tk' cells' FG' F' N' Y' B' X' T' l1 kG; (try k_lt l1); k_cells Y'; (try simp only [List.cons_append, List.nil_append] at N'); (try dsimp only); (try k_unmd); (try k_fold); (try (refine' aLet ?_; intro AL)))
  k_steps
  all_goals exact Fn.fin kG N hsub hret (by assumption) (by assumption) (by assumption) (by assumption) (by (ktn_no "Sub")) (by ktn_no "VIn")
end
theorem resetD10 : True := by w_top off; trivial
theorem linesD10 : True := by
  (k_with "x89" => skip)
  (k_with "x71" => skip)
  (k_with "x77" => skip)
  (k_with "x78" => skip)
  (k_with "x79" => skip)
  (k_with "x80" => skip)
  (k_with "x81" => skip)
  (k_with "x82" => skip)
  (k_with "x83" => skip)
  (k_with "x84" => skip)
  (k_with "x85" => skip)
  (k_with "x86" => skip)
  (k_with "x87" => skip)
  (k_with "x88" => skip)
  (k_with "x90" => skip)
  (k_with "x91" => skip)
  (k_with "x75" => skip)
  (k_with "x76" => skip)
  trivial
section
noncomputable def crL (x c : Int) : Int := if c < x then -1 else 0
noncomputable def crR (x wd c : Int) : Int := if c < x + wd then 1 else 0
theorem crL_a {x y ht c r : Int} (hh : 1 ≤ ht ∧ ht ≤ 5) (h : 0 < ((x * 10 - x * 10) * ((2 * r + 1) * 5 - (y + ht) * 10) - ((2 * c + 1) * 5 - x * 10) * (y * 10 - (y + ht) * 10)) * -1) : (-1 : Int) = crL x c := by
  have e : ht = 1 ∨ ht = 2 ∨ ht = 3 ∨ ht = 4 ∨ ht = 5 := by omega
  unfold crL
  rcases e with rfl | rfl | rfl | rfl | rfl <;> (rw [if_pos (by omega)])
theorem crL_b {x y ht c r : Int} (hh : 1 ≤ ht ∧ ht ≤ 5) (h : ¬ 0 < ((x * 10 - x * 10) * ((2 * r + 1) * 5 - (y + ht) * 10) - ((2 * c + 1) * 5 - x * 10) * (y * 10 - (y + ht) * 10)) * -1) : (0 : Int) = crL x c := by
  have e : ht = 1 ∨ ht = 2 ∨ ht = 3 ∨ ht = 4 ∨ ht = 5 := by omega
  unfold crL
  rcases e with rfl | rfl | rfl | rfl | rfl <;> (rw [if_neg (by omega)])
theorem crR_a {x y wd ht c r : Int} (hh : 1 ≤ ht ∧ ht ≤ 5) (h : 0 < (((x + wd) * 10 - (x + wd) * 10) * ((2 * r + 1) * 5 - y * 10) - ((2 * c + 1) * 5 - (x + wd) * 10) * ((y + ht) * 10 - y * 10)) * 1) : (1 : Int) = crR x wd c := by
  have e : ht = 1 ∨ ht = 2 ∨ ht = 3 ∨ ht = 4 ∨ ht = 5 := by omega
  unfold crR
  rcases e with rfl | rfl | rfl | rfl | rfl <;> (rw [if_pos (by omega)])
theorem crR_b {x y wd ht c r : Int} (hh : 1 ≤ ht ∧ ht ≤ 5) (h : ¬ 0 < (((x + wd) * 10 - (x + wd) * 10) * ((2 * r + 1) * 5 - y * 10) - ((2 * c + 1) * 5 - (x + wd) * 10) * ((y + ht) * 10 - y * 10)) * 1) : (0 : Int) = crR x wd c := by
  have e : ht = 1 ∨ ht = 2 ∨ ht = 3 ∨ ht = 4 ∨ ht = 5 := by omega
  unfold crR
  rcases e with rfl | rfl | rfl | rfl | rfl <;> (rw [if_neg (by omega)])
set_option maxRecDepth 100000 in
set_option maxHeartbeats 8000000 in
theorem crossl (w : World) (x y ht c r : Int) (hx : -50 ≤ x ∧ x ≤ 50) (hy : -50 ≤ y ∧ y ≤ 50) (hh : 1 ≤ ht ∧ ht ≤ 5) (hc : 0 ≤ c ∧ c ≤ 50) (hr : 0 ≤ r ∧ r ≤ 50) (hin : y ≤ r ∧ r < y + ht) : Fn w 353 4 300 [.tup [.int (x * 10), .int ((y + ht) * 10), .int (x * 10), .int (y * 10)], .int ((2 * c + 1) * 5), .int ((2 * r + 1) * 5)] (.int (crL x c)) := by
  unfold Fn Sp
  k_fill
  intro dp un gd cn cs a ccd cl outer A₀ base h₀ L m news imm s vs p' loose mean mg mb Q E B F X N T hk hsub hpre hd hu hret
  refine VAll.opr (.cons (.seq (.cons .lf (.cons .lf (.cons .lf (.cons .lf .nil))))) (.cons .lf (.cons .lf .nil))) hpre ?_; clear hpre; intro a3090n k3092n t3117n t3119n t3121n t3123n hm3093n hk3094n t3125n t3127n _; 
  refine wpAny_call ?_
  k_dflt (refine' code_defG ?k1 ?k2 ?k3 ?k4 ?k5 ?kA ?kF ?kK ?k6 ?k7 ?k8 ?k9 ?kB ?_ ?c2 ?c3 ?c4 ?c5; (case kA => exact rfl); (case kF => exact rfl); (case kK => assumption); (case k1 => exact B); (case k2 => exact F); (case k3 => exact X); (case k4 => exact news_sub N hsub); (case k5 => exact T); (case k6 => k_is); (case k7 => k_is); (case k8 => k_room); (case k9 => first | exact BindsTo.of_eq rfl | exact binds_K (by k_in) rfl (by k_is) rfl rfl rfl); (case c5 => decide); (case kB => exact locs rfl); (case c2 => exact rfl); (case c3 => exact rfl); (case c4 => exact rfl); k_whole; intro g' L' h' FG' F' N' B' X' T' kG; (try dsimp only); (try k_unmd); (try k_fold); (try (refine' aLet ?_; intro AL)))
  k_steps
  all_goals exact Fn.fin kG N hsub hret (by assumption) (by assumption) (by assumption) (by assumption) (by (ktn_no "Sub")) (VIn.congr (VIn.int _ _) (congrArg V.int (by first | exact crL_a hh (by assumption) | exact crL_b hh (by assumption))))
set_option maxRecDepth 100000 in
set_option maxHeartbeats 8000000 in
theorem crossr (w : World) (x y wd ht c r : Int) (hx : -50 ≤ x ∧ x ≤ 50) (hy : -50 ≤ y ∧ y ≤ 50) (hw : 1 ≤ wd ∧ wd ≤ 5) (hh : 1 ≤ ht ∧ ht ≤ 5) (hc : 0 ≤ c ∧ c ≤ 50) (hr : 0 ≤ r ∧ r ≤ 50) (hin : y ≤ r ∧ r < y + ht) : Fn w 353 4 300 [.tup [.int ((x + wd) * 10), .int (y * 10), .int ((x + wd) * 10), .int ((y + ht) * 10)], .int ((2 * c + 1) * 5), .int ((2 * r + 1) * 5)] (.int (crR x wd c)) := by
  unfold Fn Sp
  k_fill
  intro dp un gd cn cs a ccd cl outer A₀ base h₀ L m news imm s vs p' loose mean mg mb Q E B F X N T hk hsub hpre hd hu hret
  refine VAll.opr (.cons (.seq (.cons .lf (.cons .lf (.cons .lf (.cons .lf .nil))))) (.cons .lf (.cons .lf .nil))) hpre ?_; clear hpre; intro a3146n k3148n t3173n t3175n t3177n t3179n hm3149n hk3150n t3181n t3183n _; 
  refine wpAny_call ?_
  k_dflt (refine' code_defG ?k1 ?k2 ?k3 ?k4 ?k5 ?kA ?kF ?kK ?k6 ?k7 ?k8 ?k9 ?kB ?_ ?c2 ?c3 ?c4 ?c5; (case kA => exact rfl); (case kF => exact rfl); (case kK => assumption); (case k1 => exact B); (case k2 => exact F); (case k3 => exact X); (case k4 => exact news_sub N hsub); (case k5 => exact T); (case k6 => k_is); (case k7 => k_is); (case k8 => k_room); (case k9 => first | exact BindsTo.of_eq rfl | exact binds_K (by k_in) rfl (by k_is) rfl rfl rfl); (case c5 => decide); (case kB => exact locs rfl); (case c2 => exact rfl); (case c3 => exact rfl); (case c4 => exact rfl); k_whole; intro g' L' h' FG' F' N' B' X' T' kG; (try dsimp only); (try k_unmd); (try k_fold); (try (refine' aLet ?_; intro AL)))
  k_steps
  all_goals exact Fn.fin kG N hsub hret (by assumption) (by assumption) (by assumption) (by assumption) (by (ktn_no "Sub")) (VIn.congr (VIn.int _ _) (congrArg V.int (by first | exact crR_a hh (by assumption) | exact crR_b hh (by assumption))))
end
theorem resetD11 : True := by w_top off; trivial
theorem linesD11 : True := by
  (k_with "w:call ref" => ((fail_if_success k_extra "x92"); ((k_here; (with_reducible show wpAny _ _ (PySem.call (Value.ref 353) _) _ _ _); k_dflt ((first | (refine' spUse (crossl _ _ _ _ _ _ ?y0_124 ?y1_124 ?y2_124 ?y3_124 ?y4_124 ?y5_124) ?k1_124 ?k2_124 ?k3_124 ?k4_124 ?k5_124 ?k6_124 _ ?ks_124 ?pre_124 ?kd_124 ?ku_124 ?_; (case k1_124 => k_asm); (case k2_124 => k_asm); (case k3_124 => k_asm); (case k4_124 => k_asm); (case k5_124 => k_asm); (case k6_124 => first | exact rfl | assumption); (case ks_124 => ktn_no "StripA"); (case pre_124 => ktn_no "VAll"); (case y0_124 => omega); (case y1_124 => omega); (case y2_124 => omega); (case y3_124 => omega); (case y4_124 => omega); (case y5_124 => omega); (case kd_124 => k_room); (case ku_124 => k_room); k_whole) | (refine' spUse (crossl _ _ _ _ _ _ ?y0_124 ?y1_124 ?y2_124 ?y3_124 ?y4_124 ?y5_124) ?k1_124 ?k2_124 ?k3_124 ?k4_124 ?k5_124 ?k6_124 _ ?ks_124 ?pre_124 ?kd_124 ?ku_124 ?_; (case k1_124 => k_asm); (case k2_124 => k_asm); (case k3_124 => k_asm); (case k4_124 => k_asm); (case k5_124 => k_asm); (case k6_124 => first | exact rfl | assumption); (case ks_124 => ktn_no "Strip"); (case pre_124 => ktn_no "VAll"); (case y0_124 => omega); (case y1_124 => omega); (case y2_124 => omega); (case y3_124 => omega); (case y4_124 => omega); (case y5_124 => omega); (case kd_124 => k_room); (case ku_124 => k_room); k_whole)); intro r9 tl9 h9 tk9 lg9 li9 F9 N9 ne9 post9; refine VIn.op .lf post9 ?_; clear post9; intro t3185n; (try k_sweep); (try dsimp only); (try k_unmd); (try k_fold))))))
  (k_with "w:call ref" => ((fail_if_success k_extra "x93"); ((k_here; (with_reducible show wpAny _ _ (PySem.call (Value.ref 353) _) _ _ _); k_dflt ((first | (refine' spUse (crossr _ _ _ _ _ _ _ ?y0_125 ?y1_125 ?y2_125 ?y3_125 ?y4_125 ?y5_125 ?y6_125) ?k1_125 ?k2_125 ?k3_125 ?k4_125 ?k5_125 ?k6_125 _ ?ks_125 ?pre_125 ?kd_125 ?ku_125 ?_; (case k1_125 => k_asm); (case k2_125 => k_asm); (case k3_125 => k_asm); (case k4_125 => k_asm); (case k5_125 => k_asm); (case k6_125 => first | exact rfl | assumption); (case ks_125 => ktn_no "StripA"); (case pre_125 => ktn_no "VAll"); (case y0_125 => omega); (case y1_125 => omega); (case y2_125 => omega); (case y3_125 => omega); (case y4_125 => omega); (case y5_125 => omega); (case y6_125 => omega); (case kd_125 => k_room); (case ku_125 => k_room); k_whole) | (refine' spUse (crossr _ _ _ _ _ _ _ ?y0_125 ?y1_125 ?y2_125 ?y3_125 ?y4_125 ?y5_125 ?y6_125) ?k1_125 ?k2_125 ?k3_125 ?k4_125 ?k5_125 ?k6_125 _ ?ks_125 ?pre_125 ?kd_125 ?ku_125 ?_; (case k1_125 => k_asm); (case k2_125 => k_asm); (case k3_125 => k_asm); (case k4_125 => k_asm); (case k5_125 => k_asm); (case k6_125 => first | exact rfl | assumption); (case ks_125 => ktn_no "Strip"); (case pre_125 => ktn_no "VAll"); (case y0_125 => omega); (case y1_125 => omega); (case y2_125 => omega); (case y3_125 => omega); (case y4_125 => omega); (case y5_125 => omega); (case y6_125 => omega); (case kd_125 => k_room); (case ku_125 => k_room); k_whole)); intro r9 tl9 h9 tk9 lg9 li9 F9 N9 ne9 post9; refine VIn.op .lf post9 ?_; clear post9; intro t3187n; (try k_sweep); (try dsimp only); (try k_unmd); (try k_fold))))))
  trivial
section
set_option maxRecDepth 100000 in
set_option maxHeartbeats 8000000 in
theorem wind0 (w : World) (px py : Int) : Fn w 360 4 300 [.lst [], .int px, .int py] (.int 0) := by
  unfold Fn Sp
  k_fill
  intro dp un gd cn cs a ccd cl outer A₀ base h₀ L m news imm s vs p' loose mean mg mb Q E B F X N T hk hsub hpre hd hu hret
  refine VAll.opr (.cons (.seq .nil) (.cons .lf (.cons .lf .nil))) hpre ?_; clear hpre; intro a3206n k3208n hm3209n hk3210n t3213n t3215n _; 
  refine wpAny_call ?_
  k_dflt (refine' code_defG ?k1 ?k2 ?k3 ?k4 ?k5 ?kA ?kF ?kK ?k6 ?k7 ?k8 ?k9 ?kB ?_ ?c2 ?c3 ?c4 ?c5; (case kA => exact rfl); (case kF => exact rfl); (case kK => assumption); (case k1 => exact B); (case k2 => exact F); (case k3 => exact X); (case k4 => exact news_sub N hsub); (case k5 => exact T); (case k6 => k_is); (case k7 => k_is); (case k8 => k_room); (case k9 => first | exact BindsTo.of_eq rfl | exact binds_K (by k_in) rfl (by k_is) rfl rfl rfl); (case c5 => decide); (case kB => exact locs rfl); (case c2 => exact rfl); (case c3 => exact rfl); (case c4 => exact rfl); k_whole; intro g' L' h' FG' F' N' B' X' T' kG; (try dsimp only); (try k_unmd); (try k_fold); (try (refine' aLet ?_; intro AL)))
  k_steps
  all_goals exact Fn.fin kG N hsub hret (by assumption) (by assumption) (by assumption) (by assumption) (by (ktn_no "Sub")) (by ktn_no "VIn")
set_option maxRecDepth 100000 in
set_option maxHeartbeats 8000000 in
theorem wind2 (w : World) (x y wd ht c r : Int) (hx : -50 ≤ x ∧ x ≤ 50) (hy : -50 ≤ y ∧ y ≤ 50) (hw : 1 ≤ wd ∧ wd ≤ 5) (hh : 1 ≤ ht ∧ ht ≤ 5) (hc : 0 ≤ c ∧ c ≤ 50) (hr : 0 ≤ r ∧ r ≤ 50) (hin : y ≤ r ∧ r < y + ht) : Fn w 360 8 600 [edgesV x y wd ht, .int ((2 * c + 1) * 5), .int ((2 * r + 1) * 5)] (.int (0 + crL x c + crR x wd c)) := by
  unfold Fn Sp
  k_fill
  intro dp un gd cn cs a ccd cl outer A₀ base h₀ L m news imm s vs p' loose mean mg mb Q E B F X N T hk hsub hpre hd hu hret
  refine VAll.opr (.cons (.seq (.cons (.seq (.cons .lf (.cons .lf (.cons .lf (.cons .lf .nil))))) (.cons (.seq (.cons .lf (.cons .lf (.cons .lf (.cons .lf .nil))))) .nil))) (.cons .lf (.cons .lf .nil))) hpre ?_; clear hpre; intro a3234n k3236n a3252n k3254n t3279n t3281n t3283n t3285n hm3255n hk3256n a3288n k3290n t3315n t3317n t3319n t3321n hm3291n hk3292n hm3237n hk3238n t3323n t3325n _; 
  refine wpAny_call ?_
  k_dflt (refine' code_defG ?k1 ?k2 ?k3 ?k4 ?k5 ?kA ?kF ?kK ?k6 ?k7 ?k8 ?k9 ?kB ?_ ?c2 ?c3 ?c4 ?c5; (case kA => exact rfl); (case kF => exact rfl); (case kK => assumption); (case k1 => exact B); (case k2 => exact F); (case k3 => exact X); (case k4 => exact news_sub N hsub); (case k5 => exact T); (case k6 => k_is); (case k7 => k_is); (case k8 => k_room); (case k9 => first | exact BindsTo.of_eq rfl | exact binds_K (by k_in) rfl (by k_is) rfl rfl rfl); (case c5 => decide); (case kB => exact locs rfl); (case c2 => exact rfl); (case c3 => exact rfl); (case c4 => exact rfl); k_whole; intro g' L' h' FG' F' N' B' X' T' kG; (try dsimp only); (try k_unmd); (try k_fold); (try (refine' aLet ?_; intro AL)))
  k_steps
  all_goals exact Fn.fin kG N hsub hret (by assumption) (by assumption) (by assumption) (by assumption) (by (ktn_no "Sub")) (by ktn_no "VIn")
end
theorem resetD12 : True := by w_top off; trivial
theorem linesD12 : True := by
  (k_with "x92" => skip)
  (k_with "x93" => skip)
  (k_with "w:compareOp NotIn str ref" => ((fail_if_success k_extra "x94"); ((k_here; (with_reducible show wpAny _ _ (compareOp CmpOp.NotIn (Value.str _ _) (Value.ref _)) _ _ _); k_dflt (refine' notin_tuple_strs ?k1_126 ?k2_126 ?_; (case k1_126 => (refine' tup_K ?tf_126 ?tx_126 ?tl_126; (case tf_126 => k_asm); (case tx_126 => k_asm); (case tl_126 => k_is))); (case k2_126 => kde_strs); k_whole)))))
  trivial
section
set_option maxRecDepth 100000 in
set_option maxHeartbeats 8000000 in
theorem isfill (w : World) (rule : Str) (hrule : rule = Str.ofString "nonzero" ∨ rule = Str.ofString "evenodd") (t : Int) (ht : t = 0 ∨ t = 1) : Fn w 367 4 300 [.int t, .str rule] (.bool (decide (t = 1))) := by
  unfold Fn Sp
  k_fill
  intro dp un gd cn cs a ccd cl outer A₀ base h₀ L m news imm s vs p' loose mean mg mb Q E B F X N T hk hsub hpre hd hu hret
  refine VAll.opr (.cons .lf (.cons .lf .nil)) hpre ?_; clear hpre; intro t3338n t3340n _; 
  rcases hrule with rfl | rfl
  all_goals (
  refine wpAny_call ?_
  k_dflt (refine' code_defG ?k1 ?k2 ?k3 ?k4 ?k5 ?kA ?kF ?kK ?k6 ?k7 ?k8 ?k9 ?kB ?_ ?c2 ?c3 ?c4 ?c5; (case kA => exact rfl); (case kF => exact rfl); (case kK => assumption); (case k1 => exact B); (case k2 => exact F); (case k3 => exact X); (case k4 => exact news_sub N hsub); (case k5 => exact T); (case k6 => k_is); (case k7 => k_is); (case k8 => k_room); (case k9 => first | exact BindsTo.of_eq rfl | exact binds_K (by k_in) rfl (by k_is) rfl rfl rfl); (case c5 => decide); (case kB => exact locs rfl); (case c2 => exact rfl); (case c3 => exact rfl); (case c4 => exact rfl); k_whole; intro g' L' h' FG' F' N' B' X' T' kG; (try dsimp only); (try k_unmd); (try k_fold); (try (refine' aLet ?_; intro AL)))
  k_steps
  )
  all_goals exact Fn.fin kG N hsub hret (by assumption) (by assumption) (by assumption) (by assumption) (by (ktn_no "Sub")) (VIn.congr (VIn.bool _) (congrArg V.bool (by rcases ht with rfl | rfl <;> decide)))
end
theorem resetD13 : True := by w_top off; trivial
theorem linesD13 : True := by
  (k_with "x37" => skip)
  (k_with "x38" => skip)
  (k_with "x39" => skip)
  (k_with "x94" => skip)
  (k_with "w:binaryOp Pow int int" => ((fail_if_success k_extra "x95"); ((k_here; (with_reducible refine pow_int_small ?kb1_46 ?kb2_46 ?kb3_46 ?_); (case kb1_46 => first | decide | omega); (case kb2_46 => first | decide | omega); (case kb3_46 => decide)))))
  (k_with "w:eval ListComp" => ((fail_if_success k_extra "x96"); ((k_here; k_dflt (refine' cmp_e ?cf_101 ?cl_101 ?cc_101 ?ck_101 ?cn_101 ?hs_101 ?_; (case cf_101 => k_asm); (case cl_101 => with_unfolding_all rfl); (case cc_101 => decide); (case ck_101 => exact rfl); (case cn_101 => decide); (case hs_101 => intro _; with_unfolding_all rfl); k_whole)))))
  (k_with "w:exec Assign cons ListComp" => ((fail_if_success k_extra "x97"); ((k_here; k_dflt (refine' cmp_a ?cf_102 ?ce_102 ?cw_102 ?cl_102 ?cc_102 ?ck_102 ?cn_102 ?cy_102 ?cp_102 ?hs_102 ?_; (case cf_102 => k_asm); (case ce_102 => exact rfl); (case cw_102 => with_unfolding_all rfl); (case cl_102 => with_unfolding_all rfl); (case cc_102 => decide); (case ck_102 => exact rfl); (case cn_102 => decide); (case cy_102 => exact rfl); (case cp_102 => exact rfl); (case hs_102 => intro _; with_unfolding_all rfl); k_whole)))))
  (k_with "w:CmpSrc" => ((fail_if_success k_extra "x98"); ((k_dflt (first
  | (refine' cmp_tuple_rest ?fh_103 ?fl_103 ?fz_103 ?fx_103 ?fk_103 ?ff_103 ?fn_103 ?_; (case fl_103 => first | (refine' tup_of ?tn_103 ?th_103; (case tn_103 => k_asm); (case th_103 => k_mem)) | (refine' tup_K ?tf_103 ?tx_103 ?tl_103; (case tf_103 => k_asm); (case tx_103 => k_asm); (case tl_103 => k_is))); (case fh_103 => exact rfl); (case fz_103 => exact Nat.le_of_ble_eq_true rfl); (case fx_103 => exact rfl); (case fk_103 => exact rfl); (case ff_103 => k_asm); (case fn_103 => k_asm); k_whole)
  | (refine' cmp_list_rest ?fh_103 ?fl_103 ?fz_103 ?fx_103 ?fk_103 ?ff_103 ?fn_103 ?_; (case fl_103 => (refine' lst_of ?tn_103 ?th_103; (case tn_103 => k_asm); (case th_103 => k_mem))); (case fh_103 => exact rfl); (case fz_103 => exact Nat.le_of_ble_eq_true rfl); (case fx_103 => exact rfl); (case fk_103 => exact rfl); (case ff_103 => k_asm); (case fn_103 => k_asm); k_whole)
  | (refine' cmp_tuple_restT ?fh_103 ?fl_103 ?fz_103 ?fx_103 ?fk_103 ?ff_103 ?fn_103 ?_; (case fl_103 => first | (refine' tup_of ?tn_103 ?th_103; (case tn_103 => k_asm); (case th_103 => k_mem)) | (refine' tup_K ?tf_103 ?tx_103 ?tl_103; (case tf_103 => k_asm); (case tx_103 => k_asm); (case tl_103 => k_is))); (case fh_103 => exact rfl); (case fz_103 => exact Nat.le_of_ble_eq_true rfl); (case fx_103 => exact rfl); (case fk_103 => exact rfl); (case ff_103 => k_asm); (case fn_103 => k_asm); k_whole)
  | (refine' cmp_list_restT ?fh_103 ?fl_103 ?fz_103 ?fx_103 ?fk_103 ?ff_103 ?fn_103 ?_; (case fl_103 => (refine' lst_of ?tn_103 ?th_103; (case tn_103 => k_asm); (case th_103 => k_mem))); (case fh_103 => exact rfl); (case fz_103 => exact Nat.le_of_ble_eq_true rfl); (case fx_103 => exact rfl); (case fk_103 => exact rfl); (case ff_103 => k_asm); (case fn_103 => k_asm); k_whole))))))
  (k_with "w:CRest" => ((fail_if_success k_extra "x99"); ((k_dflt (first
  | ((with_reducible show CRest _ _ _ _ _ _ _ _ _ _ _ _ _ _ (_ :: _) _ _); intro C9 oC9 m9 ext9 av9 h9 tk9 E9 hC9 hx9 hC9e F9 N9 off9 hav9 hex9; (try k_sweep); (try k_unmd); (try k_fold))
  | ((with_reducible show CRest _ _ _ _ _ _ _ _ _ _ _ _ _ _ [] _ _); intro g9))))))
  (k_with "w:CRestT" => ((fail_if_success k_extra "x100"); ((k_dflt (first
  | ((with_reducible show CRestT _ _ _ _ _ _ _ _ _ _ _ _ _ _ _ (_ :: _) _ _); intro C9 oC9 m9 ext9 av9 h9 tk9 E9 hC9 hx9 hC9e F9 N9 off9 hav9 hex9; (try k_sweep); (try k_unmd); (try k_fold))
  | ((with_reducible show CRestT _ _ _ _ _ _ _ _ _ _ _ _ _ _ _ [] _ _); intro g9))))))
  (k_with "w:CEnd" => ((fail_if_success k_extra "x101"); ((k_dflt (refine' cend_intro ?eF_106 ?eN_106 ?eR_106 ?eO_106 ?_; (case eF_106 => k_asm); (case eN_106 => k_asm); (case eR_106 => repeat' (first | exact rem_base | refine' rem_cons ?_ | refine' rem_app ?_)); (case eO_106 => ktn_no "Off"); k_whole)))))
  (k_with "w:FinE2" => ((fail_if_success k_extra "x102"); ((intro D9 h9 tk9 F9 N9 l9; (try k_sweep); (try simp only [List.nil_append, List.cons_append] at N9); (try dsimp only); (try k_unmd); (try k_fold)))))
  (k_with "w:FinA2" => ((fail_if_success k_extra "x103"); ((intro D9 h9 tk9 F9 N9 l9; (try k_sweep); (try simp only [List.nil_append, List.cons_append] at N9); (try dsimp only); (try k_unmd); (try k_fold)))))
  (k_with "w:call type:range" => ((fail_if_success k_extra "x104"); ((k_here; k_dflt (first
  | (refine' rng1 ?rf_120 ?rn_120 ?_; (case rf_120 => k_asm); (case rn_120 => k_asm); k_whole; intro D9 h9 t19 t29 F9 N9 l9)
  | (refine' rng3 ?rf_120 ?rn_120 ?rc_120 ?rp_120 ?_; (case rf_120 => k_asm); (case rn_120 => k_asm); (case rc_120 => decide); (case rp_120 => first | decide | exact PyProof.noPylong_small (by omega)); k_whole; intro D9 h9 F9 N9 l9)); (try k_lt l9); (try k_sweep)))))
  (k_with "Pick" => with_reducible first | exact sl_refl | (refine' pick_ext ?px_127 ?py_127; (case px_127 => assumption); (case py_127 => k_extra "Pick")) | (refine' pick_cons ?py_127; (case py_127 => k_extra "Pick")) | (refine' pick_app ?py_127; (case py_127 => k_extra "Pick")))
  (k_with "w:call builtin:str.join" => ((fail_if_success k_extra "x105"); ((k_here; (with_reducible show wpAny _ _ (call (Value.builtin "str.join") [Value.str _ _, Value.ref _]) _ _ _); k_dflt (refine' join_v ?jn_128 ?jm_128 ?jv_128 ?jo_128 ?_; (case jn_128 => k_asm); (case jm_128 => ktn_no "Mem"); (case jv_128 => assumption); (case jo_128 => first | assumption | (apply ones_join; omega)); k_whole; intro t9 k9)))))
  (k_with "w:call ref" => ((fail_if_success k_extra "x106"); ((k_here; (with_reducible show wpAny _ _ (PySem.call (Value.ref 360) _) _ _ _); k_dflt ((first | (refine' spUse (wind0 _ _ _) ?k1_129 ?k2_129 ?k3_129 ?k4_129 ?k5_129 ?k6_129 _ ?ks_129 ?pre_129 ?kd_129 ?ku_129 ?_; (case k1_129 => k_asm); (case k2_129 => k_asm); (case k3_129 => k_asm); (case k4_129 => k_asm); (case k5_129 => k_asm); (case k6_129 => first | exact rfl | assumption); (case ks_129 => ktn_no "StripA"); (case pre_129 => ktn_no "VAll"); (case kd_129 => k_room); (case ku_129 => k_room); k_whole) | (refine' spUse (wind0 _ _ _) ?k1_129 ?k2_129 ?k3_129 ?k4_129 ?k5_129 ?k6_129 _ ?ks_129 ?pre_129 ?kd_129 ?ku_129 ?_; (case k1_129 => k_asm); (case k2_129 => k_asm); (case k3_129 => k_asm); (case k4_129 => k_asm); (case k5_129 => k_asm); (case k6_129 => first | exact rfl | assumption); (case ks_129 => ktn_no "Strip"); (case pre_129 => ktn_no "VAll"); (case kd_129 => k_room); (case ku_129 => k_room); k_whole)); intro r9 tl9 h9 tk9 lg9 li9 F9 N9 ne9 post9; refine VIn.op .lf post9 ?_; clear post9; intro t3342n; (try k_sweep); (try dsimp only); (try k_unmd); (try k_fold))))))
  (k_with "w:call ref" => ((fail_if_success k_extra "x107"); ((k_here; (with_reducible show wpAny _ _ (PySem.call (Value.ref 360) _) _ _ _); k_dflt ((first | (refine' spUse (wind2 _ _ _ _ _ _ _ ?y0_130 ?y1_130 ?y2_130 ?y3_130 ?y4_130 ?y5_130 ?y6_130) ?k1_130 ?k2_130 ?k3_130 ?k4_130 ?k5_130 ?k6_130 _ ?ks_130 ?pre_130 ?kd_130 ?ku_130 ?_; (case k1_130 => k_asm); (case k2_130 => k_asm); (case k3_130 => k_asm); (case k4_130 => k_asm); (case k5_130 => k_asm); (case k6_130 => first | exact rfl | assumption); (case ks_130 => ktn_no "StripA"); (case pre_130 => ktn_no "VAll"); (case y0_130 => omega); (case y1_130 => omega); (case y2_130 => omega); (case y3_130 => omega); (case y4_130 => omega); (case y5_130 => omega); (case y6_130 => omega); (case kd_130 => k_room); (case ku_130 => k_room); k_whole) | (refine' spUse (wind2 _ _ _ _ _ _ _ ?y0_130 ?y1_130 ?y2_130 ?y3_130 ?y4_130 ?y5_130 ?y6_130) ?k1_130 ?k2_130 ?k3_130 ?k4_130 ?k5_130 ?k6_130 _ ?ks_130 ?pre_130 ?kd_130 ?ku_130 ?_; (case k1_130 => k_asm); (case k2_130 => k_asm); (case k3_130 => k_asm); (case k4_130 => k_asm); (case k5_130 => k_asm); (case k6_130 => first | exact rfl | assumption); (case ks_130 => ktn_no "Strip"); (case pre_130 => ktn_no "VAll"); (case y0_130 => omega); (case y1_130 => omega); (case y2_130 => omega); (case y3_130 => omega); (case y4_130 => omega); (case y5_130 => omega); (case y6_130 => omega); (case kd_130 => k_room); (case ku_130 => k_room); k_whole)); intro r9 tl9 h9 tk9 lg9 li9 F9 N9 ne9 post9; refine VIn.op .lf post9 ?_; clear post9; intro t3344n; (try k_sweep); (try dsimp only); (try k_unmd); (try k_fold))))))
  (k_with "w:call ref" => ((fail_if_success k_extra "x108"); ((k_here; (with_reducible show wpAny _ _ (PySem.call (Value.ref 367) _) _ _ _); k_dflt ((first | (refine' spUse (isfill _ _ ?y0_131 _ ?y1_131) ?k1_131 ?k2_131 ?k3_131 ?k4_131 ?k5_131 ?k6_131 _ ?ks_131 ?pre_131 ?kd_131 ?ku_131 ?_; (case k1_131 => k_asm); (case k2_131 => k_asm); (case k3_131 => k_asm); (case k4_131 => k_asm); (case k5_131 => k_asm); (case k6_131 => first | exact rfl | assumption); (case ks_131 => ktn_no "StripA"); (case pre_131 => ktn_no "VAll"); (case y0_131 => assumption); (case y1_131 => first | omega | (unfold crL crR; (repeat split) <;> omega)); (case kd_131 => k_room); (case ku_131 => k_room); k_whole) | (refine' spUse (isfill _ _ ?y0_131 _ ?y1_131) ?k1_131 ?k2_131 ?k3_131 ?k4_131 ?k5_131 ?k6_131 _ ?ks_131 ?pre_131 ?kd_131 ?ku_131 ?_; (case k1_131 => k_asm); (case k2_131 => k_asm); (case k3_131 => k_asm); (case k4_131 => k_asm); (case k5_131 => k_asm); (case k6_131 => first | exact rfl | assumption); (case ks_131 => ktn_no "Strip"); (case pre_131 => ktn_no "VAll"); (case y0_131 => assumption); (case y1_131 => first | omega | (unfold crL crR; (repeat split) <;> omega)); (case kd_131 => k_room); (case ku_131 => k_room); k_whole)); intro r9 tl9 h9 tk9 lg9 li9 F9 N9 ne9 post9; refine VIn.opr .lf post9 ?_; clear post9; intro _; (try k_sweep); (try dsimp only); (try k_unmd); (try k_fold))))))
  trivial
section
theorem rowtext_map (x y wd ht r : Int) (width : Nat) : (List.range width).map (fun i : Nat => V.str ⟨#[if hit x y wd ht (i : Int) r then 120 else 46]⟩) = ((rowL x y wd ht width r).map fun c : Nat => (⟨#[c]⟩ : Str)).map V.str := by
  unfold rowL
  rw [List.map_map, List.map_map]
  rfl
theorem rowL_length (x y wd ht r : Int) (width : Nat) : (rowL x y wd ht width r).length = width := by simp [rowL]
theorem fill_yes {x y wd ht r : Int} {i : Nat} (hw : 1 ≤ wd ∧ wd ≤ 5) (hin : y ≤ r ∧ r < y + ht) (h : 0 + crL x (0 + (i : Int) * 1) + crR x wd (0 + (i : Int) * 1) = 1) : V.str (Str.ofString "x") = V.str ⟨#[if hit x y wd ht (i : Int) r then 120 else 46]⟩ := by
  have e : hit x y wd ht (i : Int) r = true := by
    unfold hit
    unfold crL crR at h
    rw [decide_eq_true_eq]
    split at h <;> split at h <;> omega
  rw [e, sign_x]; rfl
theorem fill_no {x y wd ht r : Int} {i : Nat} (hw : 1 ≤ wd ∧ wd ≤ 5) (_hin : y ≤ r ∧ r < y + ht) (h : ¬ 0 + crL x (0 + (i : Int) * 1) + crR x wd (0 + (i : Int) * 1) = 1) : V.str (Str.ofString ".") = V.str ⟨#[if hit x y wd ht (i : Int) r then 120 else 46]⟩ := by
  have e : hit x y wd ht (i : Int) r = false := by
    unfold hit
    unfold crL crR at h
    rw [decide_eq_false_iff_not]
    split at h <;> split at h <;> omega
  rw [e, sign_dot]; rfl
theorem fill_out {x y wd ht r : Int} {i : Nat} (hin : ¬ (y ≤ r ∧ r < y + ht)) : V.str (Str.ofString ".") = V.str ⟨#[if hit x y wd ht (i : Int) r then 120 else 46]⟩ := by
  have e : hit x y wd ht (i : Int) r = false := by
    unfold hit
    rw [decide_eq_false_iff_not]
    omega
  rw [e, sign_dot]; rfl
set_option maxRecDepth 100000 in
set_option maxHeartbeats 8000000 in
theorem rowt_in (w : World) (x y wd ht r : Int) (hx : -50 ≤ x ∧ x ≤ 50) (hy : -50 ≤ y ∧ y ≤ 50) (hw : 1 ≤ wd ∧ wd ≤ 5) (hh : 1 ≤ ht ∧ ht ≤ 5) (hr : 0 ≤ r ∧ r ≤ 50) (width : Nat) (hwd : width ≤ 6) (rule : Str) (hrule : rule = Str.ofString "nonzero" ∨ rule = Str.ofString "evenodd") (hin : y ≤ r ∧ r < y + ht) : Fn w 372 14 1200 [edgesV x y wd ht, .str rule, .int width, .int ((2 * r + 1) * 5), .int 5] (.str (txt (rowL x y wd ht width r))) := by
  unfold Fn Sp
  k_fill
  intro dp un gd cn cs a ccd cl outer A₀ base h₀ L m news imm s vs p' loose mean mg mb Q E B F X N T hk hsub hpre hd hu hret
  refine VAll.opr (.cons (.seq (.cons (.seq (.cons .lf (.cons .lf (.cons .lf (.cons .lf .nil))))) (.cons (.seq (.cons .lf (.cons .lf (.cons .lf (.cons .lf .nil))))) .nil))) (.cons .lf (.cons .lf (.cons .lf (.cons .lf .nil))))) hpre ?_; clear hpre; intro a3374n k3376n a3392n k3394n t3419n t3421n t3423n t3425n hm3395n hk3396n a3428n k3430n t3455n t3457n t3459n t3461n hm3431n hk3432n hm3377n hk3378n t3463n t3465n t3467n t3469n _; 
  have N0 := N
  refine wpAny_call ?_
  k_dflt (refine' code_defCG ?k1 ?k2 ?k3 ?k4 ?k5 ?kA ?kF ?kK ?k6 ?k7 ?k8 ?k9 ?kB ?kD ?_ ?c2 ?c3 ?c4; (case kA => exact rfl); (case kF => exact rfl); (case kK => assumption); (case k1 => exact B); (case k2 => exact F); (case k3 => exact X); (case k4 => exact news_sub N hsub); (case k5 => exact T); (case k6 => k_is); (case k7 => k_is); (case k8 => k_room); (case k9 => first | exact BindsTo.of_eq rfl | exact binds_K (by k_in) rfl (by k_is) rfl rfl rfl); (case kB => exact rfl); (case kD => decide +kernel); (case c2 => exact rfl); (case c3 => exact rfl); (case c4 => exact rfl); k_whole; intro g' L' h' tk' cells' FG' F' N' Y' B' X' T' l1 kG; (try k_lt l1); k_cells Y'; (try simp only [List.cons_append, List.nil_append] at N'); (try dsimp only); (try k_unmd); (try k_fold); (try (refine' aLet ?_; intro AL)))
  ((try k_unmd); (try k_fold); k_steps)
  refine' for_collect (P := w.params) _ _ [(Str.ofString "total")] (fun i : Nat => V.str ⟨#[if hit x y wd ht (i : Int) r then 120 else 46]⟩) ?fh ?fr (small_up (n := width) (by omega)) size_up ?fx ?fp ?ff ?fn ?fX ?fg ?turn ?done
  (case fh => exact rfl)
  (case fr => (refine' rng_of ?tn ?th; (case tn => k_asm); (case th => ktn_no "Mem")))
  (case fx => exact rfl)
  (case fp => exact rfl)
  (case ff => k_asm)
  (case fn => k_asm)
  (case fX => k_extra "Pick")
  (case fg => ktn_no "AllNe")
  (case turn => (intro i t u vs k tl ext av h tk hi hv hlen hg F N off hav hex; ((try k_unmd); (try k_fold); k_steps); all_goals exact fend_collect (by k_asm) (by k_asm) (by ktn_no "Sub") off (by first | exact VIn.congr (VIn.str _ _) (fill_yes hw hin (by first | assumption | simpa using ‹decide _ = true›)) | exact VIn.congr (VIn.str _ _) (fill_no hw hin (by first | assumption | simpa using ‹decide _ = false›))) (by intro z9 hz9 hs9; first | ktn_no "mz" | ((simp only [List.contains_cons, List.contains_nil, Bool.or_false, Bool.or_eq_false_iff, beq_eq_false_iff_ne, ne_eq] at hs9); simp +zetaDelta [hz9, hs9]))))
  (case done => (intro h tk u vs k tl hv hlen hg F N; replace hv := hv.congr (rowtext_map x y wd ht r width); have hjo := ones_join (rowL x y wd ht width r) (by rw [rowL_length]; omega); ((try k_unmd); (try k_fold); k_steps); all_goals exact Fn.fin kG N0 hsub hret (by assumption) (by assumption) (by assumption) (by assumption) (by ktn_no "Sub") (VIn.congr (VIn.str _ _) (congrArg V.str (join_one _)))))
  all_goals exact Fn.fin kG N hsub hret (by assumption) (by assumption) (by assumption) (by assumption) (by (ktn_no "Sub")) (by ktn_no "VIn")
set_option maxRecDepth 100000 in
set_option maxHeartbeats 8000000 in
theorem rowt_lo (w : World) (x y wd ht r : Int) (hx : -50 ≤ x ∧ x ≤ 50) (hy : -50 ≤ y ∧ y ≤ 50) (hw : 1 ≤ wd ∧ wd ≤ 5) (hh : 1 ≤ ht ∧ ht ≤ 5) (hr : 0 ≤ r ∧ r ≤ 50) (width : Nat) (hwd : width ≤ 6) (rule : Str) (hrule : rule = Str.ofString "nonzero" ∨ rule = Str.ofString "evenodd") (hin : r < y) : Fn w 372 14 1200 [edgesV x y wd ht, .str rule, .int width, .int ((2 * r + 1) * 5), .int 5] (.str (txt (rowL x y wd ht width r))) := by
  unfold Fn Sp
  k_fill
  intro dp un gd cn cs a ccd cl outer A₀ base h₀ L m news imm s vs p' loose mean mg mb Q E B F X N T hk hsub hpre hd hu hret
  refine VAll.opr (.cons (.seq (.cons (.seq (.cons .lf (.cons .lf (.cons .lf (.cons .lf .nil))))) (.cons (.seq (.cons .lf (.cons .lf (.cons .lf (.cons .lf .nil))))) .nil))) (.cons .lf (.cons .lf (.cons .lf (.cons .lf .nil))))) hpre ?_; clear hpre; intro a3498n k3500n a3516n k3518n t3543n t3545n t3547n t3549n hm3519n hk3520n a3552n k3554n t3579n t3581n t3583n t3585n hm3555n hk3556n hm3501n hk3502n t3587n t3589n t3591n t3593n _; 
  have N0 := N
  refine wpAny_call ?_
  k_dflt (refine' code_defCG ?k1 ?k2 ?k3 ?k4 ?k5 ?kA ?kF ?kK ?k6 ?k7 ?k8 ?k9 ?kB ?kD ?_ ?c2 ?c3 ?c4; (case kA => exact rfl); (case kF => exact rfl); (case kK => assumption); (case k1 => exact B); (case k2 => exact F); (case k3 => exact X); (case k4 => exact news_sub N hsub); (case k5 => exact T); (case k6 => k_is); (case k7 => k_is); (case k8 => k_room); (case k9 => first | exact BindsTo.of_eq rfl | exact binds_K (by k_in) rfl (by k_is) rfl rfl rfl); (case kB => exact rfl); (case kD => decide +kernel); (case c2 => exact rfl); (case c3 => exact rfl); (case c4 => exact rfl); k_whole; intro g' L' h' tk' cells' FG' F' N' Y' B' X' T' l1 kG; (try k_lt l1); k_cells Y'; (try simp only [List.cons_append, List.nil_append] at N'); (try dsimp only); (try k_unmd); (try k_fold); (try (refine' aLet ?_; intro AL)))
  ((try k_unmd); (try k_fold); k_steps)
  refine' for_collect (P := w.params) _ _ [(Str.ofString "total")] (fun i : Nat => V.str ⟨#[if hit x y wd ht (i : Int) r then 120 else 46]⟩) ?fh ?fr (small_up (n := width) (by omega)) size_up ?fx ?fp ?ff ?fn ?fX ?fg ?turn ?done
  (case fh => exact rfl)
  (case fr => (refine' rng_of ?tn ?th; (case tn => k_asm); (case th => ktn_no "Mem")))
  (case fx => exact rfl)
  (case fp => exact rfl)
  (case ff => k_asm)
  (case fn => k_asm)
  (case fX => k_extra "Pick")
  (case fg => ktn_no "AllNe")
  (case turn => (intro i t u vs k tl ext av h tk hi hv hlen hg F N off hav hex; ((try k_unmd); (try k_fold); k_steps); all_goals exact fend_collect (by k_asm) (by k_asm) (by ktn_no "Sub") off (VIn.congr (VIn.str _ _) (fill_out (by omega))) (by intro z9 hz9 hs9; first | ktn_no "mz" | ((simp only [List.contains_cons, List.contains_nil, Bool.or_false, Bool.or_eq_false_iff, beq_eq_false_iff_ne, ne_eq] at hs9); simp +zetaDelta [hz9, hs9]))))
  (case done => (intro h tk u vs k tl hv hlen hg F N; replace hv := hv.congr (rowtext_map x y wd ht r width); have hjo := ones_join (rowL x y wd ht width r) (by rw [rowL_length]; omega); ((try k_unmd); (try k_fold); k_steps); all_goals exact Fn.fin kG N0 hsub hret (by assumption) (by assumption) (by assumption) (by assumption) (by ktn_no "Sub") (VIn.congr (VIn.str _ _) (congrArg V.str (join_one _)))))
  all_goals exact Fn.fin kG N hsub hret (by assumption) (by assumption) (by assumption) (by assumption) (by (ktn_no "Sub")) (by ktn_no "VIn")
set_option maxRecDepth 100000 in
set_option maxHeartbeats 8000000 in
theorem rowt_hi (w : World) (x y wd ht r : Int) (hx : -50 ≤ x ∧ x ≤ 50) (hy : -50 ≤ y ∧ y ≤ 50) (hw : 1 ≤ wd ∧ wd ≤ 5) (hh : 1 ≤ ht ∧ ht ≤ 5) (hr : 0 ≤ r ∧ r ≤ 50) (width : Nat) (hwd : width ≤ 6) (rule : Str) (hrule : rule = Str.ofString "nonzero" ∨ rule = Str.ofString "evenodd") (hin : y + ht ≤ r) : Fn w 372 14 1200 [edgesV x y wd ht, .str rule, .int width, .int ((2 * r + 1) * 5), .int 5] (.str (txt (rowL x y wd ht width r))) := by
  unfold Fn Sp
  k_fill
  intro dp un gd cn cs a ccd cl outer A₀ base h₀ L m news imm s vs p' loose mean mg mb Q E B F X N T hk hsub hpre hd hu hret
  refine VAll.opr (.cons (.seq (.cons (.seq (.cons .lf (.cons .lf (.cons .lf (.cons .lf .nil))))) (.cons (.seq (.cons .lf (.cons .lf (.cons .lf (.cons .lf .nil))))) .nil))) (.cons .lf (.cons .lf (.cons .lf (.cons .lf .nil))))) hpre ?_; clear hpre; intro a3622n k3624n a3640n k3642n t3667n t3669n t3671n t3673n hm3643n hk3644n a3676n k3678n t3703n t3705n t3707n t3709n hm3679n hk3680n hm3625n hk3626n t3711n t3713n t3715n t3717n _; 
  have N0 := N
  refine wpAny_call ?_
  k_dflt (refine' code_defCG ?k1 ?k2 ?k3 ?k4 ?k5 ?kA ?kF ?kK ?k6 ?k7 ?k8 ?k9 ?kB ?kD ?_ ?c2 ?c3 ?c4; (case kA => exact rfl); (case kF => exact rfl); (case kK => assumption); (case k1 => exact B); (case k2 => exact F); (case k3 => exact X); (case k4 => exact news_sub N hsub); (case k5 => exact T); (case k6 => k_is); (case k7 => k_is); (case k8 => k_room); (case k9 => first | exact BindsTo.of_eq rfl | exact binds_K (by k_in) rfl (by k_is) rfl rfl rfl); (case kB => exact rfl); (case kD => decide +kernel); (case c2 => exact rfl); (case c3 => exact rfl); (case c4 => exact rfl); k_whole; intro g' L' h' tk' cells' FG' F' N' Y' B' X' T' l1 kG; (try k_lt l1); k_cells Y'; (try simp only [List.cons_append, List.nil_append] at N'); (try dsimp only); (try k_unmd); (try k_fold); (try (refine' aLet ?_; intro AL)))
  ((try k_unmd); (try k_fold); k_steps)
  refine' for_collect (P := w.params) _ _ [(Str.ofString "total")] (fun i : Nat => V.str ⟨#[if hit x y wd ht (i : Int) r then 120 else 46]⟩) ?fh ?fr (small_up (n := width) (by omega)) size_up ?fx ?fp ?ff ?fn ?fX ?fg ?turn ?done
  (case fh => exact rfl)
  (case fr => (refine' rng_of ?tn ?th; (case tn => k_asm); (case th => ktn_no "Mem")))
  (case fx => exact rfl)
  (case fp => exact rfl)
  (case ff => k_asm)
  (case fn => k_asm)
  (case fX => k_extra "Pick")
  (case fg => ktn_no "AllNe")
  (case turn => (intro i t u vs k tl ext av h tk hi hv hlen hg F N off hav hex; ((try k_unmd); (try k_fold); k_steps); all_goals exact fend_collect (by k_asm) (by k_asm) (by ktn_no "Sub") off (VIn.congr (VIn.str _ _) (fill_out (by omega))) (by intro z9 hz9 hs9; first | ktn_no "mz" | ((simp only [List.contains_cons, List.contains_nil, Bool.or_false, Bool.or_eq_false_iff, beq_eq_false_iff_ne, ne_eq] at hs9); simp +zetaDelta [hz9, hs9]))))
  (case done => (intro h tk u vs k tl hv hlen hg F N; replace hv := hv.congr (rowtext_map x y wd ht r width); have hjo := ones_join (rowL x y wd ht width r) (by rw [rowL_length]; omega); ((try k_unmd); (try k_fold); k_steps); all_goals exact Fn.fin kG N0 hsub hret (by assumption) (by assumption) (by assumption) (by assumption) (by ktn_no "Sub") (VIn.congr (VIn.str _ _) (congrArg V.str (join_one _)))))
  all_goals exact Fn.fin kG N hsub hret (by assumption) (by assumption) (by assumption) (by assumption) (by (ktn_no "Sub")) (by ktn_no "VIn")
end
theorem resetD14 : True := by w_top off; trivial
theorem linesD14 : True := by
  k_with_none
  (k_with "rk" => (k_dflt (first | (refine' rK 1 ?h_1 ?x_1 ?e_1; (case h_1 => assumption); (case x_1 => exact rfl); (case e_1 => exact rfl)) | (refine' rK 3 ?h_1 ?x_1 ?e_1; (case h_1 => assumption); (case x_1 => exact rfl); (case e_1 => exact rfl)) | (refine' rK0 0 ?h_1 ?x_1 ?e_1; (case h_1 => assumption); (case x_1 => exact rfl); (case e_1 => exact rfl)) | (refine' rK 2 ?h_1 ?x_1 ?e_1; (case h_1 => assumption); (case x_1 => exact rfl); (case e_1 => exact rfl)) | (refine' rK 6 ?h_1 ?x_1 ?e_1; (case h_1 => assumption); (case x_1 => exact rfl); (case e_1 => exact rfl)) | (refine' rK 4 ?h_1 ?x_1 ?e_1; (case h_1 => assumption); (case x_1 => exact rfl); (case e_1 => exact rfl)) | (refine' rK0 1 ?h_1 ?x_1 ?e_1; (case h_1 => assumption); (case x_1 => exact rfl); (case e_1 => exact rfl)) | (refine' rK 9 ?h_1 ?x_1 ?e_1; (case h_1 => assumption); (case x_1 => exact rfl); (case e_1 => exact rfl)) | (refine' rK 7 ?h_1 ?x_1 ?e_1; (case h_1 => assumption); (case x_1 => exact rfl); (case e_1 => exact rfl)) | (refine' rK0 2 ?h_1 ?x_1 ?e_1; (case h_1 => assumption); (case x_1 => exact rfl); (case e_1 => exact rfl)))))
  (k_with "k_room" => ((fail_if_success k_extra "x109"); (first | exact Nat.le_of_ble_eq_true rfl | k_extra "rk" | ((try simp only [depth_under_make, depth_under_kw, depth_in1, depth_deeper, depth_caller, units_in1, units_deeper, Around.mark_units, units_caller]); (try dsimp only [ktrTop, Around.deeper]); omega) | ((try simp +zetaDelta only [depth_under_make, depth_under_kw, depth_in1, depth_deeper, depth_caller, units_in1, units_deeper, Around.mark_units, units_caller]); (try dsimp +zetaDelta only [ktrTop, Around.deeper]); omega))))
  (k_with "h225" => ((with_reducible show Rt _ _ _ _ (eval (Expr.Name _ _) _) _ _ _); first
    | (apply rtL; exact rfl; exact rfl; k_asm; exact rfl; decide +kernel)
    | (apply rtK; exact rfl; exact rfl; k_asm; k_asm; k_asm; k_is; decide +kernel)
    | (apply rtC; exact rfl; exact rfl; k_asm; exact rfl; k_mem; k_asm; decide +kernel)
    | (apply rtB; exact rfl; exact rfl; k_asm; k_asm; k_asm; k_is; boot_fast; decide; decide +kernel)))
  (k_with "h226" => ((with_reducible show Rt _ _ _ _ (eval (Expr.Constant _ _ _) _) _ _ _); with_reducible first | exact rtInt | exact rtStr | exact rtBool | exact rtNone))
  (k_with "h227" => ((with_reducible show Rt _ _ _ _ (eval (Expr.Subscript _ _ _) _) _ _ _); apply rtSub; ktn_no "ev"; ktn_no "ev"; ktn_no "evi"))
  (k_with "h228" => ((with_reducible show Rt _ _ _ _ (eval (Expr.BinOp _ _ _ _) _) _ _ _); apply rtBin; ktn_no "ev"; ktn_no "ev"; (with_reducible first | exact rtAdd | exact rtSubI)))
  (k_with "h229" => ((with_reducible show Rt _ _ _ _ (eval (Expr.UnaryOp _ _ _) _) _ _ _); apply rtUn; ktn_no "ev"; with_reducible exact rtNeg))
  (k_with "ev" => first | ktn_no "h225" | ktn_no "h226" | ktn_no "h227" | ktn_no "h228" | ktn_no "h229")
  (k_with "h239" => (apply rtTup; exact News.isTup (by k_asm) (by ktn_no "Mem"); decide; decide; exact rfl; exact rfl; with_unfolding_all exact rfl))
  (k_with "h240" => (apply rtLst; k_asm; ktn_no "Mem"; (first | decide | omega); (first | decide | omega); exact rfl; with_unfolding_all rfl; (intro _; with_unfolding_all rfl)))
  (k_with "evi" => first | ktn_no "h239" | ktn_no "h240")
  (k_with "evs" => first
  | with_reducible exact rtNil
  | (apply rtCons; ktn_no "ev"; ktn_no "evs"; exact rfl))
  (k_with "spl" => ((with_reducible show wpAny _ _ (PySem.call _ (_ ++ _)) _ _ _); k_dflt (first | refine' (?_ : wpAny _ _ (PySem.call _ []) _ _ _) | refine' (?_ : wpAny _ _ (PySem.call _ [_]) _ _ _) | refine' (?_ : wpAny _ _ (PySem.call _ [_, _]) _ _ _) | refine' (?_ : wpAny _ _ (PySem.call _ [_, _, _]) _ _ _) | refine' (?_ : wpAny _ _ (PySem.call _ [_, _, _, _]) _ _ _) | refine' (?_ : wpAny _ _ (PySem.call _ [_, _, _, _, _]) _ _ _))))
  (k_with "w:spliced" => (k_here; k_dflt (refine' rtUse ?r_10 ?_; (case r_10 => ktn_no "evs"); k_whole); (try k_extra "spl")))
  (k_with "w:eval Tuple" => (k_here; k_dflt (refine' evTupleN ?r_11 ?F_11 ?N_11 ?z_11 ?_; (case r_11 => ktn_no "evs"); (case F_11 => k_asm); (case N_11 => k_asm); (case z_11 => kmk_size); k_whole); intro D' h' t' lg' F' N' l1; (try k_lt l1); (try k_sweep)))
  (k_with "w:newTuple" => (k_here; k_dflt (refine' ntL ?F_12 ?N_12 ?z_12 ?_; (case F_12 => k_asm); (case N_12 => k_asm); (case z_12 => kmk_size); k_whole); intro D' h' t' lg' F' N' l1; (try k_lt l1); (try k_sweep)))
  (k_with "w:execs cons" => (k_here; first
  | ((with_reducible show wpAny _ _ (execs (Stmt.Assign [Expr.Name _ _] _ _ :: _) _) _ _ _); (fail_if_success (with_reducible show wpAny _ _ (execs (Stmt.Assign _ (Expr.ListComp _ _ _) _ :: _) _) _ _ _)); k_dflt (refine' exAs ?_ ?hs_13; (case hs_13 => exact rfl); k_whole))
  | ((with_reducible show wpAny _ _ (execs (Stmt.Return (some _) _ :: _) _) _ _ _); refine' exRe ?_)))
  (k_with "w:KRe" => (dsimp only [KRe]))
  (k_with "w:KAs" => (k_here; k_dflt (first
  | (apply kasL; exact rfl; exact rfl; k_asm; k_asm; k_whole; intro h' t' m' F' N'; (try k_sweep))
  | (apply kasC; exact rfl; exact rfl; k_asm; k_asm; exact rfl; k_updF; k_asm; k_whole; intro h' o' F' N' d'; (try dsimp only at N'); (try k_sweep)))))
  (k_with "w:eval Subscript" => (k_here; k_dflt (first | (refine' rtUse ?r_16 ?_; (case r_16 => ktn_no "ev"); k_whole) | (refine' evSub ?a_16 ?b_16 ?_; (case a_16 => ktn_no "ev"); (case b_16 => ktn_no "ev"); k_whole))))
  (k_with "w:eval BinOp" => (k_here; k_dflt (first | (refine' rtUse ?r_17 ?_; (case r_17 => ktn_no "ev"); k_whole) | (refine' evBin ?a_17 ?b_17 ?_; (case a_17 => ktn_no "ev"); (case b_17 => ktn_no "ev"); k_whole))))
  (k_with "w:eval UnaryOp" => (k_here; k_dflt (refine' rtUse ?r_18 ?_; (case r_18 => ktn_no "ev"); k_whole)))
  (k_with "w:isTrue Compare" => (k_here; k_dflt (refine' evIsCmp ?a_19 ?b_19 ?_ ?hm_19; (case a_19 => ktn_no "ev"); (case b_19 => ktn_no "ev"); (case hm_19 => with_unfolding_all exact rfl); k_whole)))
  (k_with "w:eval Compare" => (k_here; k_dflt (refine' evCmp ?a_20 ?b_20 ?_ ?hm_20; (case a_20 => ktn_no "ev"); (case b_20 => ktn_no "ev"); (case hm_20 => with_unfolding_all exact rfl); k_whole)))
  (k_with "w:eval Call" => (k_here; (with_reducible show wpAny _ _ (eval (Expr.Call (Expr.Name _ _) (_ :: _) [] _) _) _ _ _); k_dflt (refine' evCallK ?a_21 ?X_21 ?hk_21 ?b_21 ?_ ?he_21 ?hs_21 ?hp_21; (case a_21 => ktn_no "ev"); (case X_21 => k_in); (case hk_21 => k_is); (case he_21 => exact rfl); (case hs_21 => exact rfl); (case hp_21 => exact rfl); (case b_21 => ktn_no "evs"); k_whole)))
  (k_with "w:storeName" => (k_here; k_dflt (refine' stL ?a_22 ?b_22 ?F_22 ?N_22 ?_; (case a_22 => exact rfl); (case b_22 => exact rfl); (case F_22 => k_asm); (case N_22 => k_asm); k_whole; intro h' t' m' F' N'; (try k_sweep))))
  (k_with "w:newList" => (k_here; k_dflt (refine' nlL ?F_23 ?N_23 ?z_23 ?_; (case F_23 => k_asm); (case N_23 => k_asm); (case z_23 => size_fits); k_whole); intro l' h' t' lg' F' N' l1; (try k_lt l1); (try k_sweep)))
  (k_with "h201" => (refine' mz_hd ?za1_24 ?zb1_24; (case za1_24 => assumption); (case zb1_24 => ktn_no "mz")))
  (k_with "h202" => (refine' mz_i0 ?za2_24 ?zb2_24; (case za2_24 => assumption); (case zb2_24 => ktn_no "mz")))
  (k_with "h203" => (refine' mz_i1 ?za3_24 ?zb3_24; (case za3_24 => assumption); (case zb3_24 => ktn_no "mz")))
  (k_with "h204" => (refine' mz_i2 ?za4_24 ?zb4_24; (case za4_24 => assumption); (case zb4_24 => ktn_no "mz")))
  (k_with "h205" => (refine' mz_i3 ?za5_24 ?zb5_24; (case za5_24 => assumption); (case zb5_24 => ktn_no "mz")))
  (k_with "h206" => (refine' mz_s1 ?za6_24 ?zb6_24; (case za6_24 => assumption); (case zb6_24 => ktn_no "mz")))
  (k_with "h207" => (refine' mz_in ?za7_24 ?zc7_24 ?zb7_24; (case za7_24 => assumption); (case zc7_24 => decide +kernel); (case zb7_24 => ktn_no "mz")))
  (k_with "mz" => first | with_reducible exact rfl | ktn_no "h201" | ktn_no "h202" | ktn_no "h203" | ktn_no "h204" | ktn_no "h205" | ktn_no "h206" | ktn_no "h207")
  (k_with "w:callWith" => ((with_reducible show wpAny _ _ (callWith _ (Value.builtin _) (_ :: _) (backTo _ (starEach (_ :: _) _)) []) _ _ _); with_reducible refine' callWith_method1 ?_ ?he_25 ?hp_25; (case he_25 => with_unfolding_all exact rfl); (case hp_25 => with_unfolding_all exact rfl)))
  (k_with "ktr_room" => k_room)
  (k_with "k_in" => first | k_in_fast | with_reducible assumption | exact Frag.In.keeps (by with_reducible assumption) (Fr.keep (by with_reducible assumption)) | assumption)
  (k_with "h99" => with_reducible (refine' sl_cons ?_; ktn_no "Sub"))
  (k_with "h100" => with_reducible (refine' sl_app ?_; ktn_no "Sub"))
  (k_with "h101" => with_reducible (refine' sl_skip1 ?_; ktn_no "Sub"))
  (k_with "h102" => with_reducible (refine' sl_skip ?_; ktn_no "Sub"))
  (k_with "Sub" => with_reducible first | exact sl_refl | ktn_no "h99" | ktn_no "h100" | ktn_no "h101" | exact sl_all | ktn_no "h102" | exact sl_nil)
  (k_with "StripA" => ((fail_if_success k_extra "x110"); (with_reducible first | (refine' strip_ext ?sx_50 ?sy_50; (case sx_50 => assumption); (case sy_50 => ktn_no "StripA")) | (refine' strip_lst ?sy_50; (case sy_50 => ktn_no "StripA")) | (refine' strip_cell ?sd_50 ?sy_50; (case sd_50 => assumption); (case sy_50 => ktn_no "StripA")) | (refine' sl_cons ?sy_50; (case sy_50 => ktn_no "StripA")) | (refine' sl_app ?sy_50; (case sy_50 => ktn_no "StripA")) | exact sl_refl)))
  (k_with "Strip" => ((fail_if_success k_extra "x111"); (with_reducible first | (refine' strip_ext ?sx_29 ?sy_29; (case sx_29 => assumption); (case sy_29 => ktn_no "Strip")) | (refine' sl_cons ?sy_29; (case sy_29 => ktn_no "Strip")) | (refine' sl_app ?sy_29; (case sy_29 => ktn_no "Strip")) | exact sl_refl)))
  (k_with "h87" => with_reducible (refine List.mem_cons_of_mem _ ?_; ktn_no "MemD"))
  (k_with "h88" => with_reducible (refine List.mem_append_right _ ?_; ktn_no "MemD"))
  (k_with "MemD" => with_reducible first | exact List.mem_cons_self | ktn_no "h87" | ktn_no "h88" | fail "memd")
  (k_with "h81" => with_reducible (refine' mem_of_sub ?mh_31 ?ms_31; (case mh_31 => assumption); (case ms_31 => ktn_no "Sub")))
  (k_with "Mem" => with_reducible first | ktn_no "MemD" | ktn_no "h81" | fail "mem")
  (k_with "size_fits" => first | exact Nat.le_of_ble_eq_true rfl | fail "sz")
  (k_with "k_mem" => ktn_no "Mem")
  (k_with "h25" => (with_reducible (refine' ne_lt ?qa1_51 ?qa2_51; (case qa1_51 => assumption); (case qa2_51 => ktn_no "Mem"))))
  (k_with "h26" => (with_reducible (refine' ne_gt ?qa1_51 ?qa2_51; (case qa1_51 => assumption); (case qa2_51 => ktn_no "Mem"))))
  (k_with "h27" => (with_reducible (refine' ne_lt2 ?qa1_51 ?qa2_51 ?qa3_51; (case qa1_51 => assumption); (case qa2_51 => assumption); (case qa3_51 => ktn_no "Mem"))))
  (k_with "h28" => (with_reducible (refine' ne_gt2 ?qa1_51 ?qa2_51 ?qa3_51; (case qa1_51 => assumption); (case qa2_51 => assumption); (case qa3_51 => ktn_no "Mem"))))
  (k_with "h29" => (with_reducible (refine' ne_all ?qa1_51 ?qa2_51; (case qa1_51 => assumption); (case qa2_51 => ktn_no "Mem"))))
  (k_with "h30" => (with_reducible (refine' ne_all' ?qa1_51 ?qa2_51; (case qa1_51 => assumption); (case qa2_51 => ktn_no "Mem"))))
  (k_with "h31" => (with_reducible (refine' ne_objB ?qa1_51 ?qa2_51 ?qa3_51 ?qa4_51; (case qa1_51 => assumption); (case qa2_51 => ktn_no "Mem"); (case qa3_51 => ktn_no "Mem"); (case qa4_51 => decide))))
  (k_with "h32" => (refine neN ?_; (try dsimp only); omega))
  (k_with "Ne" => first | with_reducible assumption | ktn_no "h25" | ktn_no "h26" | ktn_no "h27" | ktn_no "h28" | ktn_no "h29" | ktn_no "h30" | ktn_no "h31" | ktn_no "h32")
  (k_with "h55" => (with_reducible (refine' an_lt ?qb1_52 ?qb2_52; (case qb1_52 => assumption); (case qb2_52 => ktn_no "Sub"))))
  (k_with "h56" => (with_reducible (refine' an_sub ?qb1_52 ?qb2_52; (case qb1_52 => assumption); (case qb2_52 => ktn_no "Sub"))))
  (k_with "h57" => (with_reducible (refine' an_cell ?qb1_52 ?qb2_52 ?qb3_52; (case qb1_52 => assumption); (case qb2_52 => ktn_no "Sub"); (case qb3_52 => first | omega | exact leN (by omega)))))
  (k_with "h58" => (with_reducible (refine' an_ne9 ?qb1_52 ?qb2_52; (case qb1_52 => assumption); (case qb2_52 => ktn_no "Mem"))))
  (k_with "h59" => (with_reducible (refine' an_ext ?qb1_52 ?qb2_52 ?qb3_52 ?qb4_52; (case qb1_52 => assumption); (case qb2_52 => assumption); (case qb3_52 => ktn_no "Mem"); (case qb4_52 => first | exact List.forall_mem_nil _ | (refine List.forall_mem_cons.mpr ⟨?_, List.forall_mem_nil _⟩; ktn_no "Ne")))))
  (k_with "AtomNe" => first | ktn_no "h55" | ktn_no "h56" | ktn_no "h57" | ktn_no "h58" | ktn_no "h59" | with_reducible assumption)
  (k_with "h73" => (with_reducible (refine' an_lt0 ?qb1_36; (case qb1_36 => assumption))))
  (k_with "h74" => ((with_reducible refine' an_cons ?a_36 ?b_36); (case a_36 => ktn_no "Ne"); (case b_36 => ktn_no "AllNe")))
  (k_with "h75" => ((with_reducible refine' an_app ?a_36 ?b_36); (case a_36 => ktn_no "AtomNe"); (case b_36 => ktn_no "AllNe")))
  (k_with "AllNe" => first | exact List.forall_mem_nil _ | ktn_no "h73" | ktn_no "h74" | ktn_no "h75" | ktn_no "AtomNe")
  (k_with "k_updF" => first | ((with_reducible refine' UpdF.head ?a_53); (case a_53 => ktn_no "AllNe")) | ((with_reducible refine' UpdF.tail ?a_53 ?b_53); (case a_53 => ktn_no "Ne"); (case b_53 => k_updF)) | ((with_reducible refine' updF_app ?a_53 ?b_53); (case a_53 => ktn_no "AtomNe"); (case b_53 => k_updF)))
  (k_with "k_upd" => first | ((with_reducible refine' Upd.head ?a_37); (case a_37 => ktn_no "AllNe")) | ((with_reducible refine' Upd.tail ?a_37 ?b_37); (case a_37 => ktn_no "Ne"); (case b_37 => k_upd)) | ((with_reducible refine' upd_app ?a_37 ?b_37); (case a_37 => ktn_no "AtomNe"); (case b_37 => k_upd)))
  (k_with "h171" => (with_reducible (refine' off_mem ?qc1_38 ?qc2_38; (case qc1_38 => assumption); (case qc2_38 => ktn_no "Mem"))))
  (k_with "h172" => (with_reducible (refine' off_new ?qc1_38 ?qc2_38 ?qc3_38; (case qc1_38 => assumption); (case qc2_38 => assumption); (case qc3_38 => ktn_no "Sub"))))
  (k_with "h173" => (with_reducible (refine' off_ne ?qc1_38 ?qc2_38 ?qc3_38; (case qc1_38 => assumption); (case qc2_38 => assumption); (case qc3_38 => ktn_no "Sub"))))
  (k_with "h174" => (with_reducible (refine' off_new1 ?qc1_38 ?qc2_38 ?qc3_38 ?qc4_38; (case qc1_38 => assumption); (case qc2_38 => assumption); (case qc3_38 => assumption); (case qc4_38 => ktn_no "Sub"))))
  (k_with "OffA" => first | ktn_no "h171" | ktn_no "h172" | ktn_no "h173" | ktn_no "h174")
  (k_with "h157" => ((with_reducible refine' off_cons ?a_39 ?b_39); (case a_39 => ktn_no "OffA"); (case b_39 => ktn_no "Off")))
  (k_with "h158" => ((with_reducible refine' off_app ?a_39 ?b_39); (case a_39 => first | (with_reducible (refine' off_sub ?qc1_39 ?qc2_39; (case qc1_39 => assumption); (case qc2_39 => ktn_no "Sub"))) | (with_reducible (refine' off_tl ?qc1_39 ?qc2_39 ?qc3_39; (case qc1_39 => assumption); (case qc2_39 => assumption); (case qc3_39 => ktn_no "Sub")))); (case b_39 => ktn_no "Off")))
  (k_with "h159" => (with_reducible (refine' off_sub ?qc1_39 ?qc2_39; (case qc1_39 => assumption); (case qc2_39 => ktn_no "Sub"))))
  (k_with "Off" => first | with_reducible assumption | exact off_nil | ktn_no "h157" | ktn_no "h158" | ktn_no "h159")
  (k_with "Dec" => first | (simp only [decide_eq_true_eq, decide_eq_false_iff_not, Bool.not_eq_true', Bool.not_eq_false', Bool.not_eq_true, Bool.and_eq_true, Bool.or_eq_true, bne_iff_ne, beq_iff_eq, ne_eq, not_and, not_or, not_true_eq_false, not_false_eq_true, Decidable.not_not]; done) | (simp only [decide_eq_true_eq, decide_eq_false_iff_not, Bool.not_eq_true', Bool.not_eq_false', Bool.not_eq_true, Bool.and_eq_true, Bool.or_eq_true, bne_iff_ne, beq_iff_eq, ne_eq, not_and, not_or, not_true_eq_false, not_false_eq_true, Decidable.not_not]; omega) | omega)
  (k_with "w:ite" => (k_dflt (first | ((refine ite_pos ?ic_55 ?_); (case ic_55 => k_extra "Dec")) | ((refine ite_neg ?ic_55 ?_); (case ic_55 => k_extra "Dec")))))
  (k_with "w:VIn" => k_extra "VIn")
  (k_with "h125" => (with_reducible (refine' VIn.mono ?qd1_40 ?qd2_40; (case qd1_40 => assumption); (case qd2_40 => (ktn_no "Sub")))))
  (k_with "h126" => ((with_reducible refine' VIn.tup ?vm_40 ?va_40); (case vm_40 => ktn_no "Mem"); (case va_40 => ktn_no "VAll")))
  (k_with "h127" => ((with_reducible refine' VIn.lst ?vm_40 ?va_40); (case vm_40 => ktn_no "Mem"); (case va_40 => ktn_no "VAll")))
  (k_with "h128" => ((with_reducible refine' lst_arr ?vm_40 ?va_40); (case vm_40 => ktn_no "Mem"); (case va_40 => ktn_no "VAll")))
  (k_with "h129" => ((with_reducible refine' VIn.dec ?vm_40 ?va_40); (case vm_40 => ktn_no "Mem"); (case va_40 => ktn_no "Mem")))
  (k_with "h130" => ((with_reducible refine' VIn.nilp ?vm_40 ?va_40); (case vm_40 => ktn_no "Mem"); (case va_40 => ktn_no "Mem")))
  (k_with "h131" => ((with_reducible refine' VIn.path ?vm_40 ?va_40 ?vp_40); (case vm_40 => ktn_no "Mem"); (case va_40 => ktn_no "Mem"); (case vp_40 => ktn_no "VIn")))
  (k_with "h132" => ((with_reducible refine' VIn.mat ?vm_40 ?va_40 ?v1_40 ?v2_40 ?v3_40 ?v4_40 ?v5_40 ?v6_40); (case vm_40 => ktn_no "Mem"); (case va_40 => ktn_no "Mem"); (case v1_40 => ktn_no "VIn"); (case v2_40 => ktn_no "VIn"); (case v3_40 => ktn_no "VIn"); (case v4_40 => ktn_no "VIn"); (case v5_40 => ktn_no "VIn"); (case v6_40 => ktn_no "VIn")))
  (k_with "h133" => (refine' VIn.mono ?qd1_40 ?qd2_40; (case qd1_40 => assumption); (case qd2_40 => (ktn_no "Sub"))))
  (k_with "VIn" => first | with_reducible exact VIn.int _ _ | with_reducible exact VIn.str _ _ | with_reducible exact VIn.bool _ | with_reducible exact VIn.none | with_reducible exact VIn.bytes _ _ | with_reducible assumption | ktn_no "h125" | ktn_no "h126" | ktn_no "h127" | ktn_no "h128" | ktn_no "h129" | ktn_no "h130" | ktn_no "h131" | ktn_no "h132" | ktn_no "h133")
  (k_with "h147" => (refine VAll.cons ?_ ?_; (ktn_no "VIn"); (ktn_no "VAll")))
  (k_with "h148" => (with_reducible (refine' VAll.mono ?qd1_41 ?qd2_41; (case qd1_41 => assumption); (case qd2_41 => (ktn_no "Sub")))))
  (k_with "VAll" => first | exact VAll.nil | ktn_no "h147" | ktn_no "h148")
  (k_with "w:subscriptTail Name Constant ref int" => ((fail_if_success k_extra "x112"); ((k_here; (with_reducible show wpAny _ _ (subscriptTail _ _ (Value.ref _) (Value.int _ _)) _ _ _); (k_extra "SubIdx")))))
  (k_with "w:subscriptTail Name UnaryOp ref int" => ((fail_if_success k_extra "x113"); ((k_here; (with_reducible show wpAny _ _ (subscriptTail _ _ (Value.ref _) (Value.int _ _)) _ _ _); (k_extra "SubIdx")))))
  (k_with "w:subscriptTail Name Name ref int" => ((fail_if_success k_extra "x114"); ((k_here; (with_reducible show wpAny _ _ (subscriptTail _ _ (Value.ref _) (Value.int _ _)) _ _ _); (k_extra "SubIdx")))))
  (k_with "w:subscriptTail Name BinOp ref int" => ((fail_if_success k_extra "x115"); ((k_here; (with_reducible show wpAny _ _ (subscriptTail _ _ (Value.ref _) (Value.int _ _)) _ _ _); (k_extra "SubIdx")))))
  (k_with "w:subscriptTail Subscript Name Constant Constant ref int" => ((fail_if_success k_extra "x116"); ((k_here; (with_reducible show wpAny _ _ (subscriptTail _ _ (Value.ref _) (Value.int _ _)) _ _ _); (k_extra "SubIdx")))))
  (k_with "w:subscriptTail Subscript Name Constant UnaryOp ref int" => ((fail_if_success k_extra "x117"); ((k_here; (with_reducible show wpAny _ _ (subscriptTail _ _ (Value.ref _) (Value.int _ _)) _ _ _); (k_extra "SubIdx")))))
  (k_with "w:subscriptTail Subscript Name Constant Name ref int" => ((fail_if_success k_extra "x118"); ((k_here; (with_reducible show wpAny _ _ (subscriptTail _ _ (Value.ref _) (Value.int _ _)) _ _ _); (k_extra "SubIdx")))))
  (k_with "w:subscriptTail Subscript Name Constant BinOp ref int" => ((fail_if_success k_extra "x119"); ((k_here; (with_reducible show wpAny _ _ (subscriptTail _ _ (Value.ref _) (Value.int _ _)) _ _ _); (k_extra "SubIdx")))))
  (k_with "w:subscriptTail Subscript Name UnaryOp Constant ref int" => ((fail_if_success k_extra "x120"); ((k_here; (with_reducible show wpAny _ _ (subscriptTail _ _ (Value.ref _) (Value.int _ _)) _ _ _); (k_extra "SubIdx")))))
  (k_with "w:subscriptTail Subscript Name UnaryOp UnaryOp ref int" => ((fail_if_success k_extra "x121"); ((k_here; (with_reducible show wpAny _ _ (subscriptTail _ _ (Value.ref _) (Value.int _ _)) _ _ _); (k_extra "SubIdx")))))
  (k_with "w:subscriptTail Subscript Name UnaryOp Name ref int" => ((fail_if_success k_extra "x122"); ((k_here; (with_reducible show wpAny _ _ (subscriptTail _ _ (Value.ref _) (Value.int _ _)) _ _ _); (k_extra "SubIdx")))))
  (k_with "w:subscriptTail Subscript Name UnaryOp BinOp ref int" => ((fail_if_success k_extra "x123"); ((k_here; (with_reducible show wpAny _ _ (subscriptTail _ _ (Value.ref _) (Value.int _ _)) _ _ _); (k_extra "SubIdx")))))
  (k_with "w:subscriptTail Subscript Name Name Constant ref int" => ((fail_if_success k_extra "x124"); ((k_here; (with_reducible show wpAny _ _ (subscriptTail _ _ (Value.ref _) (Value.int _ _)) _ _ _); (k_extra "SubIdx")))))
  (k_with "w:subscriptTail Subscript Name Name UnaryOp ref int" => ((fail_if_success k_extra "x125"); ((k_here; (with_reducible show wpAny _ _ (subscriptTail _ _ (Value.ref _) (Value.int _ _)) _ _ _); (k_extra "SubIdx")))))
  (k_with "w:subscriptTail Subscript Name Name Name ref int" => ((fail_if_success k_extra "x126"); ((k_here; (with_reducible show wpAny _ _ (subscriptTail _ _ (Value.ref _) (Value.int _ _)) _ _ _); (k_extra "SubIdx")))))
  (k_with "w:subscriptTail Subscript Name Name BinOp ref int" => ((fail_if_success k_extra "x127"); ((k_here; (with_reducible show wpAny _ _ (subscriptTail _ _ (Value.ref _) (Value.int _ _)) _ _ _); (k_extra "SubIdx")))))
  (k_with "w:subscriptTail Attribute Name Constant ref int" => ((fail_if_success k_extra "x128"); ((k_here; (with_reducible show wpAny _ _ (subscriptTail _ _ (Value.ref _) (Value.int _ _)) _ _ _); (k_extra "SubIdx")))))
  (k_with "w:subscriptTail Attribute Name UnaryOp ref int" => ((fail_if_success k_extra "x129"); ((k_here; (with_reducible show wpAny _ _ (subscriptTail _ _ (Value.ref _) (Value.int _ _)) _ _ _); (k_extra "SubIdx")))))
  (k_with "w:subscriptTail Attribute Name Name ref int" => ((fail_if_success k_extra "x130"); ((k_here; (with_reducible show wpAny _ _ (subscriptTail _ _ (Value.ref _) (Value.int _ _)) _ _ _); (k_extra "SubIdx")))))
  (k_with "w:subscriptTail Attribute Name BinOp ref int" => ((fail_if_success k_extra "x131"); ((k_here; (with_reducible show wpAny _ _ (subscriptTail _ _ (Value.ref _) (Value.int _ _)) _ _ _); (k_extra "SubIdx")))))
  (k_with "w:subscriptTail Subscript Attribute Name UnaryOp Constant ref int" => ((fail_if_success k_extra "x132"); ((k_here; (with_reducible show wpAny _ _ (subscriptTail _ _ (Value.ref _) (Value.int _ _)) _ _ _); (k_extra "SubIdx")))))
  (k_with "w:subscriptTail Subscript Attribute Name UnaryOp UnaryOp ref int" => ((fail_if_success k_extra "x133"); ((k_here; (with_reducible show wpAny _ _ (subscriptTail _ _ (Value.ref _) (Value.int _ _)) _ _ _); (k_extra "SubIdx")))))
  (k_with "w:subscriptTail Subscript Attribute Name UnaryOp Name ref int" => ((fail_if_success k_extra "x134"); ((k_here; (with_reducible show wpAny _ _ (subscriptTail _ _ (Value.ref _) (Value.int _ _)) _ _ _); (k_extra "SubIdx")))))
  (k_with "w:subscriptTail Subscript Attribute Name UnaryOp BinOp ref int" => ((fail_if_success k_extra "x135"); ((k_here; (with_reducible show wpAny _ _ (subscriptTail _ _ (Value.ref _) (Value.int _ _)) _ _ _); (k_extra "SubIdx")))))
  (k_with "SubIdx" => ((fail_if_success k_extra "x136"); (k_dflt (first
  | (refine' item_tupleT ?t_80 ?a_80 ?b_80 ?c_80 ?d_80 ?_; (case t_80 => exact News.isTup (by k_asm) (by ktn_no "Mem")); (case a_80 => decide); (case b_80 => decide); (case c_80 => rfl); (case d_80 => rfl); k_whole)
  | (refine' item_lst ?n_80 ?l_80 ?a_80 ?b_80 ?c_80 ?_ ?hs_80 ?hg_80; (case n_80 => k_asm); (case l_80 => ktn_no "Mem"); (case a_80 => first | decide | omega); (case b_80 => first | decide | omega); (case c_80 => rfl); (case hs_80 => with_unfolding_all rfl); (case hg_80 => intro _; with_unfolding_all rfl); k_whole)))))
  (k_with "w:subscriptTail" => ((fail_if_success k_extra "x137"); ((k_here; (with_reducible show wpAny _ _ (subscriptTail _ _ (Value.ref _) (Value.ref _)) _ _ _); (with_unfolding_all (first
  | (refine' slice_init ?sf_81 ?sn_81 ?st_81 ?ss_81 ?sg_81 ?_; (case sf_81 => k_asm); (case sn_81 => k_asm); (case st_81 => first | (refine' tup_of ?tn_81 ?th_81; (case tn_81 => k_asm); (case th_81 => k_mem)) | (refine' tup_K ?tf_81 ?tx_81 ?tl_81; (case tf_81 => k_asm); (case tx_81 => k_asm); (case tl_81 => k_is))); (case ss_81 => rfl); (case sg_81 => intro _; rfl); k_whole)
  | (refine' slice_tail ?sf_81 ?sn_81 ?st_81 ?sm_81 ?sz_81 ?ss_81 ?sg_81 ?_; (case sf_81 => k_asm); (case sn_81 => k_asm); (case st_81 => first | (refine' tup_of ?tn_81 ?th_81; (case tn_81 => k_asm); (case th_81 => k_mem)) | (refine' tup_K ?tf_81 ?tx_81 ?tl_81; (case tf_81 => k_asm); (case tx_81 => k_asm); (case tl_81 => k_is))); (case sm_81 => exact Nat.le_of_ble_eq_true rfl); (case sz_81 => exact Nat.le_of_ble_eq_true rfl); (case ss_81 => rfl); (case sg_81 => intro _; rfl); k_whole))); intro D' h' F' N' l1; (try simp only [List.drop_succ_cons, List.drop_zero] at N'); (try k_lt l1); (try k_sweep)))))
  (k_with "w:exec For Name Tuple cons nil" => ((fail_if_success k_extra "x138"); ((k_here; k_dflt (refine' for_src ?ff_82 ?_ ?hs_82 ?hE_82; (case ff_82 => k_asm); (case hs_82 => intro _; with_unfolding_all rfl); (case hE_82 => passes_own); k_whole)))))
  (k_with "w:ForSrc" => ((fail_if_success k_extra "x139"); ((k_dflt (first
  | (refine' for_tuple_rest ?fh_83 ?fl_83 ?ff_83 ?fn_83 ?_; (case fl_83 => first | (refine' tup_of ?tn_83 ?th_83; (case tn_83 => k_asm); (case th_83 => k_mem)) | (refine' tup_K ?tf_83 ?tx_83 ?tl_83; (case tf_83 => k_asm); (case tx_83 => k_asm); (case tl_83 => k_is))); (case fh_83 => exact rfl); (case ff_83 => k_asm); (case fn_83 => k_asm); k_whole)
  | (refine' for_list_rest ?fh_83 ?fl_83 ?ff_83 ?fn_83 ?_; (case fl_83 => (refine' lst_of ?tn_83 ?th_83; (case tn_83 => k_asm); (case th_83 => k_mem))); (case fh_83 => exact rfl); (case ff_83 => k_asm); (case fn_83 => k_asm); k_whole))))))
  (k_with "w:FRest" => ((fail_if_success k_extra "x140"); ((k_dflt (first
  | ((with_reducible show FRest _ _ _ _ _ _ _ _ _ _ _ (_ :: _) _ _); intro ext9 av9 h9 tk9 F9 N9 off9 hav9 hex9; (try k_sweep); (try k_unmd); (try k_fold))
  | ((with_reducible show FRest _ _ _ _ _ _ _ _ _ _ _ [] _ _); intro h9 tk9 F9 N9; (try k_sweep); (try dsimp only); (try k_unmd); (try k_fold)))))))
  (k_with "w:FPost" => ((fail_if_success k_extra "x141"); ((dsimp only [FPost]))))
  (k_with "w:FEnd" => ((fail_if_success k_extra "x142"); ((k_dflt (refine' fend_intro ?eF_86 ?eN_86 ?eR_86 ?eO_86 ?_; (case eF_86 => k_asm); (case eN_86 => k_asm); (case eR_86 => repeat' (first | exact rem_base | refine' rem_cons ?_ | refine' rem_app ?_)); (case eO_86 => ktn_no "Off"); k_whole)))))
  (k_with "w:compareOp Eq ref ref" => ((fail_if_success k_extra "x143"); ((k_here; (with_reducible show wpAny _ _ (compareOp CmpOp.Eq (Value.ref _) (Value.ref _)) _ _ _); k_dflt (refine' eq_tup_nil ?qa_87 ?qb_87 ?qu_87 ?_; (case qb_87 => first | (refine' tup_of ?tn_87 ?th_87; (case tn_87 => k_asm); (case th_87 => k_mem)) | (refine' tup_K ?tf_87 ?tx_87 ?tl_87; (case tf_87 => k_asm); (case tx_87 => k_asm); (case tl_87 => k_is))); (case qa_87 => first | (refine' tup_of ?tn_87 ?th_87; (case tn_87 => k_asm); (case th_87 => k_mem)) | (refine' tup_K ?tf_87 ?tx_87 ?tl_87; (case tf_87 => k_asm); (case tx_87 => k_asm); (case tl_87 => k_is))); (case qu_87 => k_room); k_whole); (try simp only [List.size_toArray, List.length_cons, List.length_nil])))))
  (k_with "w:compareOp NotEq ref ref" => ((fail_if_success k_extra "x144"); ((k_here; (with_reducible show wpAny _ _ (compareOp CmpOp.NotEq (Value.ref _) (Value.ref _)) _ _ _); k_dflt (refine' ne_tup_nil ?qa_88 ?qb_88 ?qu_88 ?_; (case qb_88 => first | (refine' tup_of ?tn_88 ?th_88; (case tn_88 => k_asm); (case th_88 => k_mem)) | (refine' tup_K ?tf_88 ?tx_88 ?tl_88; (case tf_88 => k_asm); (case tx_88 => k_asm); (case tl_88 => k_is))); (case qa_88 => first | (refine' tup_of ?tn_88 ?th_88; (case tn_88 => k_asm); (case th_88 => k_mem)) | (refine' tup_K ?tf_88 ?tx_88 ?tl_88; (case tf_88 => k_asm); (case tx_88 => k_asm); (case tl_88 => k_is))); (case qu_88 => k_room); k_whole); (try simp only [List.size_toArray, List.length_cons, List.length_nil])))))
  (k_with "w:binaryOp Add ref ref" => ((fail_if_success k_extra "x145"); ((k_here; (with_reducible show wpAny _ _ (binaryOp _ (Value.ref _) (Value.ref _)) _ _ _); k_dflt (refine' add_tt ?af_89 ?an_89 ?apt_89 ?ab_89 ?av_89 ?aw_89 ?az_89 ?_; (case af_89 => k_asm); (case an_89 => k_asm); (case apt_89 => first | (refine' tup_of ?tn_89 ?th_89; (case tn_89 => k_asm); (case th_89 => k_mem)) | (refine' tup_K ?tf_89 ?tx_89 ?tl_89; (case tf_89 => k_asm); (case tx_89 => k_asm); (case tl_89 => k_is))); (case ab_89 => first | (refine' tup_of ?tn_89 ?th_89; (case tn_89 => k_asm); (case th_89 => k_mem)) | (refine' tup_K ?tf_89 ?tx_89 ?tl_89; (case tf_89 => k_asm); (case tx_89 => k_asm); (case tl_89 => k_is))); (case av_89 => exact List.cons_ne_nil _ _); (case aw_89 => exact List.cons_ne_nil _ _); (case az_89 => exact Nat.le_of_ble_eq_true rfl); k_whole); intro D' h' F' N' l1; (try simp only [List.cons_append, List.nil_append] at N'); (try k_lt l1); (try k_sweep)))))
  (k_with "w:binaryOp Add ref ref" => ((fail_if_success k_extra "x146"); ((k_here; (with_reducible show wpAny _ _ (binaryOp _ (Value.ref _) (Value.ref _)) _ _ _); k_dflt (refine' add_t0 ?af_90 ?an_90 ?apt_90 ?ab_90 ?av_90 ?az_90 ?_; (case af_90 => k_asm); (case an_90 => k_asm); (case apt_90 => first | (refine' tup_of ?tn_90 ?th_90; (case tn_90 => k_asm); (case th_90 => k_mem)) | (refine' tup_K ?tf_90 ?tx_90 ?tl_90; (case tf_90 => k_asm); (case tx_90 => k_asm); (case tl_90 => k_is))); (case ab_90 => first | (refine' tup_of ?tn_90 ?th_90; (case tn_90 => k_asm); (case th_90 => k_mem)) | (refine' tup_K ?tf_90 ?tx_90 ?tl_90; (case tf_90 => k_asm); (case tx_90 => k_asm); (case tl_90 => k_is))); (case av_90 => exact rfl); (case az_90 => exact Nat.le_of_ble_eq_true rfl); k_whole)))))
  (k_with "w:exec For Name Name cons nil" => ((fail_if_success k_extra "x147"); ((k_here; k_dflt (refine' for_src ?ff_97 ?_ ?hs_97 ?hE_97; (case ff_97 => k_asm); (case hs_97 => intro _; with_unfolding_all rfl); (case hE_97 => passes_own); k_whole)))))
  (k_with "w:exec For Name Call cons nil" => ((fail_if_success k_extra "x148"); ((k_here; k_dflt (refine' for_src ?ff_98 ?_ ?hs_98 ?hE_98; (case ff_98 => k_asm); (case hs_98 => intro _; with_unfolding_all rfl); (case hE_98 => passes_own); k_whole)))))
  (k_with "w:exec For Name Attribute cons nil" => ((fail_if_success k_extra "x149"); ((k_here; k_dflt (refine' for_src ?ff_99 ?_ ?hs_99 ?hE_99; (case ff_99 => k_asm); (case hs_99 => intro _; with_unfolding_all rfl); (case hE_99 => passes_own); k_whole)))))
  (k_with "w:exec For Name Attribute Name cons nil" => ((fail_if_success k_extra "x150"); ((k_here; k_dflt (refine' for_src ?ff_100 ?_ ?hs_100 ?hE_100; (case ff_100 => k_asm); (case hs_100 => intro _; with_unfolding_all rfl); (case hE_100 => passes_own); k_whole)))))
  (k_with "w:binaryOp Pow int int" => ((fail_if_success k_extra "x151"); ((k_here; (with_reducible refine pow_int_small ?kb1_46 ?kb2_46 ?kb3_46 ?_); (case kb1_46 => first | decide | omega); (case kb2_46 => first | decide | omega); (case kb3_46 => decide)))))
  (k_with "w:eval ListComp" => ((fail_if_success k_extra "x152"); ((k_here; k_dflt (refine' cmp_e ?cf_101 ?cl_101 ?cc_101 ?ck_101 ?cn_101 ?hs_101 ?_; (case cf_101 => k_asm); (case cl_101 => with_unfolding_all rfl); (case cc_101 => decide); (case ck_101 => exact rfl); (case cn_101 => decide); (case hs_101 => intro _; with_unfolding_all rfl); k_whole)))))
  (k_with "w:exec Assign cons ListComp" => ((fail_if_success k_extra "x153"); ((k_here; k_dflt (refine' cmp_a ?cf_102 ?ce_102 ?cw_102 ?cl_102 ?cc_102 ?ck_102 ?cn_102 ?cy_102 ?cp_102 ?hs_102 ?_; (case cf_102 => k_asm); (case ce_102 => exact rfl); (case cw_102 => with_unfolding_all rfl); (case cl_102 => with_unfolding_all rfl); (case cc_102 => decide); (case ck_102 => exact rfl); (case cn_102 => decide); (case cy_102 => exact rfl); (case cp_102 => exact rfl); (case hs_102 => intro _; with_unfolding_all rfl); k_whole)))))
  (k_with "w:CmpSrc" => ((fail_if_success k_extra "x154"); ((k_dflt (first
  | (refine' cmp_tuple_rest ?fh_103 ?fl_103 ?fz_103 ?fx_103 ?fk_103 ?ff_103 ?fn_103 ?_; (case fl_103 => first | (refine' tup_of ?tn_103 ?th_103; (case tn_103 => k_asm); (case th_103 => k_mem)) | (refine' tup_K ?tf_103 ?tx_103 ?tl_103; (case tf_103 => k_asm); (case tx_103 => k_asm); (case tl_103 => k_is))); (case fh_103 => exact rfl); (case fz_103 => exact Nat.le_of_ble_eq_true rfl); (case fx_103 => exact rfl); (case fk_103 => exact rfl); (case ff_103 => k_asm); (case fn_103 => k_asm); k_whole)
  | (refine' cmp_list_rest ?fh_103 ?fl_103 ?fz_103 ?fx_103 ?fk_103 ?ff_103 ?fn_103 ?_; (case fl_103 => (refine' lst_of ?tn_103 ?th_103; (case tn_103 => k_asm); (case th_103 => k_mem))); (case fh_103 => exact rfl); (case fz_103 => exact Nat.le_of_ble_eq_true rfl); (case fx_103 => exact rfl); (case fk_103 => exact rfl); (case ff_103 => k_asm); (case fn_103 => k_asm); k_whole)
  | (refine' cmp_tuple_restT ?fh_103 ?fl_103 ?fz_103 ?fx_103 ?fk_103 ?ff_103 ?fn_103 ?_; (case fl_103 => first | (refine' tup_of ?tn_103 ?th_103; (case tn_103 => k_asm); (case th_103 => k_mem)) | (refine' tup_K ?tf_103 ?tx_103 ?tl_103; (case tf_103 => k_asm); (case tx_103 => k_asm); (case tl_103 => k_is))); (case fh_103 => exact rfl); (case fz_103 => exact Nat.le_of_ble_eq_true rfl); (case fx_103 => exact rfl); (case fk_103 => exact rfl); (case ff_103 => k_asm); (case fn_103 => k_asm); k_whole)
  | (refine' cmp_list_restT ?fh_103 ?fl_103 ?fz_103 ?fx_103 ?fk_103 ?ff_103 ?fn_103 ?_; (case fl_103 => (refine' lst_of ?tn_103 ?th_103; (case tn_103 => k_asm); (case th_103 => k_mem))); (case fh_103 => exact rfl); (case fz_103 => exact Nat.le_of_ble_eq_true rfl); (case fx_103 => exact rfl); (case fk_103 => exact rfl); (case ff_103 => k_asm); (case fn_103 => k_asm); k_whole))))))
  (k_with "w:CRest" => ((fail_if_success k_extra "x155"); ((k_dflt (first
  | ((with_reducible show CRest _ _ _ _ _ _ _ _ _ _ _ _ _ _ (_ :: _) _ _); intro C9 oC9 m9 ext9 av9 h9 tk9 E9 hC9 hx9 hC9e F9 N9 off9 hav9 hex9; (try k_sweep); (try k_unmd); (try k_fold))
  | ((with_reducible show CRest _ _ _ _ _ _ _ _ _ _ _ _ _ _ [] _ _); intro g9))))))
  (k_with "w:CRestT" => ((fail_if_success k_extra "x156"); ((k_dflt (first
  | ((with_reducible show CRestT _ _ _ _ _ _ _ _ _ _ _ _ _ _ _ (_ :: _) _ _); intro C9 oC9 m9 ext9 av9 h9 tk9 E9 hC9 hx9 hC9e F9 N9 off9 hav9 hex9; (try k_sweep); (try k_unmd); (try k_fold))
  | ((with_reducible show CRestT _ _ _ _ _ _ _ _ _ _ _ _ _ _ _ [] _ _); intro g9))))))
  (k_with "w:CEnd" => ((fail_if_success k_extra "x157"); ((k_dflt (refine' cend_intro ?eF_106 ?eN_106 ?eR_106 ?eO_106 ?_; (case eF_106 => k_asm); (case eN_106 => k_asm); (case eR_106 => repeat' (first | exact rem_base | refine' rem_cons ?_ | refine' rem_app ?_)); (case eO_106 => ktn_no "Off"); k_whole)))))
  (k_with "w:FinE2" => ((fail_if_success k_extra "x158"); ((intro D9 h9 tk9 F9 N9 l9; (try k_sweep); (try simp only [List.nil_append, List.cons_append] at N9); (try dsimp only); (try k_unmd); (try k_fold)))))
  (k_with "w:FinA2" => ((fail_if_success k_extra "x159"); ((intro D9 h9 tk9 F9 N9 l9; (try k_sweep); (try simp only [List.nil_append, List.cons_append] at N9); (try dsimp only); (try k_unmd); (try k_fold)))))
  (k_with "w:call type:range" => ((fail_if_success k_extra "x160"); ((k_here; k_dflt (first
  | (refine' rng1 ?rf_120 ?rn_120 ?_; (case rf_120 => k_asm); (case rn_120 => k_asm); k_whole; intro D9 h9 t19 t29 F9 N9 l9)
  | (refine' rng3 ?rf_120 ?rn_120 ?rc_120 ?rp_120 ?_; (case rf_120 => k_asm); (case rn_120 => k_asm); (case rc_120 => decide); (case rp_120 => first | decide | exact PyProof.noPylong_small (by omega)); k_whole; intro D9 h9 F9 N9 l9)); (try k_lt l9); (try k_sweep)))))
  (k_with "Pick" => with_reducible first | exact sl_refl | (refine' pick_ext ?px_127 ?py_127; (case px_127 => assumption); (case py_127 => k_extra "Pick")) | (refine' pick_cons ?py_127; (case py_127 => k_extra "Pick")) | (refine' pick_app ?py_127; (case py_127 => k_extra "Pick")))
  (k_with "w:call ref" => ((fail_if_success k_extra "x161"); ((k_here; (with_reducible show wpAny _ _ (PySem.call (Value.ref 326) _) _ _ _); k_dflt ((first | (refine' spUse (lines _ _ _ _ _) ?k1_132 ?k2_132 ?k3_132 ?k4_132 ?k5_132 ?k6_132 _ ?ks_132 ?pre_132 ?kd_132 ?ku_132 ?_; (case k1_132 => k_asm); (case k2_132 => k_asm); (case k3_132 => k_asm); (case k4_132 => k_asm); (case k5_132 => k_asm); (case k6_132 => first | exact rfl | assumption); (case ks_132 => ktn_no "StripA"); (case pre_132 => ktn_no "VAll"); (case kd_132 => k_room); (case ku_132 => k_room); k_whole) | (refine' spUse (lines _ _ _ _ _) ?k1_132 ?k2_132 ?k3_132 ?k4_132 ?k5_132 ?k6_132 _ ?ks_132 ?pre_132 ?kd_132 ?ku_132 ?_; (case k1_132 => k_asm); (case k2_132 => k_asm); (case k3_132 => k_asm); (case k4_132 => k_asm); (case k5_132 => k_asm); (case k6_132 => first | exact rfl | assumption); (case ks_132 => ktn_no "Strip"); (case pre_132 => ktn_no "VAll"); (case kd_132 => k_room); (case ku_132 => k_room); k_whole)); intro r9 tl9 h9 tk9 lg9 li9 F9 N9 ne9 post9; refine VIn.op (.seq (.cons .any .nil)) post9 ?_; clear post9; intro a3720n k3722n v3728n h3725n hm3723n hk3724n; (try k_sweep); (try dsimp only); (try k_unmd); (try k_fold))))))
  (k_with "w:call ref" => ((fail_if_success k_extra "x162"); ((k_here; (with_reducible show wpAny _ _ (PySem.call (Value.ref 334) _) _ _ _); k_dflt ((first | (refine' spUse (plof _ _ _ _ _) ?k1_133 ?k2_133 ?k3_133 ?k4_133 ?k5_133 ?k6_133 _ ?ks_133 ?pre_133 ?kd_133 ?ku_133 ?_; (case k1_133 => k_asm); (case k2_133 => k_asm); (case k3_133 => k_asm); (case k4_133 => k_asm); (case k5_133 => k_asm); (case k6_133 => first | exact rfl | assumption); (case ks_133 => ktn_no "StripA"); (case pre_133 => ktn_no "VAll"); (case kd_133 => k_room); (case ku_133 => k_room); k_whole) | (refine' spUse (plof _ _ _ _ _) ?k1_133 ?k2_133 ?k3_133 ?k4_133 ?k5_133 ?k6_133 _ ?ks_133 ?pre_133 ?kd_133 ?ku_133 ?_; (case k1_133 => k_asm); (case k2_133 => k_asm); (case k3_133 => k_asm); (case k4_133 => k_asm); (case k5_133 => k_asm); (case k6_133 => first | exact rfl | assumption); (case ks_133 => ktn_no "Strip"); (case pre_133 => ktn_no "VAll"); (case kd_133 => k_room); (case ku_133 => k_room); k_whole)); intro r9 tl9 h9 tk9 lg9 li9 F9 N9 ne9 post9; refine VIn.op .lf post9 ?_; clear post9; intro t3732n; (try k_sweep); (try dsimp only); (try k_unmd); (try k_fold))))))
  (k_with "w:call ref" => ((fail_if_success k_extra "x163"); ((k_here; (with_reducible show wpAny _ _ (PySem.call (Value.ref 346) _) _ _ _); k_dflt ((first | (refine' spUse (wedges _ _ _ _ _ ?y0_134) ?k1_134 ?k2_134 ?k3_134 ?k4_134 ?k5_134 ?k6_134 _ ?ks_134 ?pre_134 ?kd_134 ?ku_134 ?_; (case k1_134 => k_asm); (case k2_134 => k_asm); (case k3_134 => k_asm); (case k4_134 => k_asm); (case k5_134 => k_asm); (case k6_134 => first | exact rfl | assumption); (case ks_134 => ktn_no "StripA"); (case pre_134 => ktn_no "VAll"); (case y0_134 => omega); (case kd_134 => k_room); (case ku_134 => k_room); k_whole) | (refine' spUse (wedges _ _ _ _ _ ?y0_134) ?k1_134 ?k2_134 ?k3_134 ?k4_134 ?k5_134 ?k6_134 _ ?ks_134 ?pre_134 ?kd_134 ?ku_134 ?_; (case k1_134 => k_asm); (case k2_134 => k_asm); (case k3_134 => k_asm); (case k4_134 => k_asm); (case k5_134 => k_asm); (case k6_134 => first | exact rfl | assumption); (case ks_134 => ktn_no "Strip"); (case pre_134 => ktn_no "VAll"); (case y0_134 => omega); (case kd_134 => k_room); (case ku_134 => k_room); k_whole)); intro r9 tl9 h9 tk9 lg9 li9 F9 N9 ne9 post9; have post9k := post9; (try k_sweep); (try dsimp only); (try k_unmd); (try k_fold))))))
  (k_with "w:call ref" => ((fail_if_success k_extra "x164"); ((k_here; (with_reducible show wpAny _ _ (PySem.call (Value.ref 372) _) _ _ _); k_dflt ((first | (refine' spUse (rowt _ _ _ _ _ _ ?q0_135 ?q1_135 ?q2_135 ?q3_135 ?q4_135 _ ?q5_135 _ ?q6_135 _ _ ?q7_135 ?q8_135) ?k1_135 ?k2_135 ?k3_135 ?k4_135 ?k5_135 ?k6_135 _ ?ks_135 ?pre_135 ?kd_135 ?ku_135 ?_; (case k1_135 => k_asm); (case k2_135 => k_asm); (case k3_135 => k_asm); (case k4_135 => k_asm); (case k5_135 => k_asm); (case k6_135 => first | exact rfl | assumption); (case ks_135 => ktn_no "StripA"); (case pre_135 => ktn_no "VAll"); (case q7_135 => first | exact py_of _ | exact rfl); (case q8_135 => first | rfl | decide); (case q0_135 => assumption); (case q1_135 => assumption); (case q2_135 => assumption); (case q3_135 => assumption); (case q4_135 => omega); (case q5_135 => assumption); (case q6_135 => assumption); (case kd_135 => k_room); (case ku_135 => k_room); k_whole) | (refine' spUse (rowt _ _ _ _ _ _ ?q0_135 ?q1_135 ?q2_135 ?q3_135 ?q4_135 _ ?q5_135 _ ?q6_135 _ _ ?q7_135 ?q8_135) ?k1_135 ?k2_135 ?k3_135 ?k4_135 ?k5_135 ?k6_135 _ ?ks_135 ?pre_135 ?kd_135 ?ku_135 ?_; (case k1_135 => k_asm); (case k2_135 => k_asm); (case k3_135 => k_asm); (case k4_135 => k_asm); (case k5_135 => k_asm); (case k6_135 => first | exact rfl | assumption); (case ks_135 => ktn_no "Strip"); (case pre_135 => ktn_no "VAll"); (case q7_135 => first | exact py_of _ | exact rfl); (case q8_135 => first | rfl | decide); (case q0_135 => assumption); (case q1_135 => assumption); (case q2_135 => assumption); (case q3_135 => assumption); (case q4_135 => omega); (case q5_135 => assumption); (case q6_135 => assumption); (case kd_135 => k_room); (case ku_135 => k_room); k_whole)); intro r9 tl9 h9 tk9 lg9 li9 F9 N9 ne9 post9; refine VIn.op .lf post9 ?_; clear post9; intro t3735n; (try k_sweep); (try dsimp only); (try k_unmd); (try k_fold))))))
  trivial
section
theorem rowt (w : World) (x y wd ht r : Int) (hx : -50 ≤ x ∧ x ≤ 50) (hy : -50 ≤ y ∧ y ≤ 50) (hw : 1 ≤ wd ∧ wd ≤ 5) (hh : 1 ≤ ht ∧ ht ≤ 5) (hr : 0 ≤ r ∧ r ≤ 50) (width : Nat) (hwd : width ≤ 6) (rule : Str) (hrule : rule = Str.ofString "nonzero" ∨ rule = Str.ofString "evenodd") (py un : Int) (hpy : py = (2 * r + 1) * 5) (hun : un = 5) : Fn w 372 14 1200 [edgesV x y wd ht, .str rule, .int width, .int py, .int un] (.str (txt (rowL x y wd ht width r))) := by
  subst hpy
  subst hun
  by_cases h1 : r < y
  · exact rowt_lo w x y wd ht r hx hy hw hh hr width hwd rule hrule h1
  · by_cases h2 : y + ht ≤ r
    · exact rowt_hi w x y wd ht r hx hy hw hh hr width hwd rule hrule h2
    · exact rowt_in w x y wd ht r hx hy hw hh hr width hwd rule hrule ⟨by omega, by omega⟩
theorem py_of (q : Int) : (2 * q + 1) * (5 * 10 ^ ((1 : Int) - 1).toNat) = (2 * q + 1) * 5 := by
  have e : (5 : Int) * 10 ^ ((1 : Int) - 1).toNat = 5 := by decide
  rw [e]
set_option maxRecDepth 100000 in
set_option maxHeartbeats 8000000 in
theorem rast (w : World) (x y wd ht : Int) (hx : -50 ≤ x ∧ x ≤ 50) (hy : -50 ≤ y ∧ y ≤ 50) (hw : 1 ≤ wd ∧ wd ≤ 5) (hh : 1 ≤ ht ∧ ht ≤ 5) (width height : Nat) (hwd : width ≤ 6) (hhe : height ≤ 6) (rule : Str) (hrule : rule = Str.ofString "nonzero" ∨ rule = Str.ofString "evenodd") : Fn w 378 30 2500 [rectV x y wd ht, .str rule, .int width, .int height] (rowsV (rasterL x y wd ht width height)) := by
  unfold Fn Sp
  k_fill
  intro dp un gd cn cs a ccd cl outer A₀ base h₀ L m news imm s vs p' loose mean mg mb Q E B F X N T hk hsub hpre hd hu hret
  refine VAll.opr (.cons .any (.cons .lf (.cons .lf (.cons .lf .nil)))) hpre ?_; clear hpre; intro v3739n h3736n t3758n t3760n t3762n _; 
  have N0 := N
  refine wpAny_call ?_
  k_dflt (refine' code_defCG ?k1 ?k2 ?k3 ?k4 ?k5 ?kA ?kF ?kK ?k6 ?k7 ?k8 ?k9 ?kB ?kD ?_ ?c2 ?c3 ?c4; (case kA => exact rfl); (case kF => exact rfl); (case kK => assumption); (case k1 => exact B); (case k2 => exact F); (case k3 => exact X); (case k4 => exact news_sub N hsub); (case k5 => exact T); (case k6 => k_is); (case k7 => k_is); (case k8 => k_room); (case k9 => first | exact BindsTo.of_eq rfl | exact binds_K (by k_in) rfl (by k_is) rfl rfl rfl); (case kB => exact rfl); (case kD => decide +kernel); (case c2 => exact rfl); (case c3 => exact rfl); (case c4 => exact rfl); k_whole; intro g' L' h' tk' cells' FG' F' N' Y' B' X' T' l1 kG; (have lc9 := cellOff_of l1); (try k_lt l1); k_cells Y'; (try simp only [List.cons_append, List.nil_append] at N'); (try dsimp only); (try k_unmd); (try k_fold); (try (refine' aLet ?_; intro AL)))
  ((try k_unmd); (try k_fold); k_steps)
  refine' cmp_collect (P := w.params) _ (fun i : Nat => V.str (txt (rowL x y wd ht width ((height : Int) - 1 + (i : Int) * -1)))) ?fh ?fr (small_dn (n := height) (by omega)) size_dn ?fz ?fx ?fk ?ff ?fn ?fX ?turn ?fin
  (case fh => exact rfl)
  (case fr => (refine' rng_of ?tn ?th; (case tn => k_asm); (case th => ktn_no "Mem")))
  (case fz => exact Nat.le_trans (by omega : _ ≤ 1000) (by decide))
  (case fx => exact rfl)
  (case fk => exact rfl)
  (case ff => k_asm)
  (case fn => k_asm)
  (case fX => ktn_no "Strip")
  (case turn => (intro i t ys tl C oC m2 ext av h tk E' hi hv hoC hxC hCe F N off hav hex; ((try k_unmd); (try k_fold); k_steps)))
  (case fin => (intro g ys tl hv; replace hv := hv.congr (rast_map x y wd ht width height); ((try k_unmd); (try k_fold); k_steps); all_goals exact Fn.fin kG N0 hsub hret (by assumption) (by assumption) (by assumption) (by assumption) (by ktn_no "Sub") (lst_in List.mem_cons_self (VAll.mono (by assumption) (by ktn_no "Sub")))))
  all_goals exact Fn.fin kG N hsub hret (by assumption) (by assumption) (by assumption) (by assumption) (by (ktn_no "Sub")) (by ktn_no "VIn")
end
theorem resetD15 : True := by w_top off; trivial
theorem linesD15 : True := by
  (k_with "x139" => skip)
  (k_with "x140" => skip)
  (k_with "x142" => skip)
  (k_with "x151" => skip)
  (k_with "x161" => skip)
  (k_with "x162" => skip)
  (k_with "x163" => skip)
  (k_with "x164" => skip)
  (k_with "SubIdx" => ((fail_if_success k_extra "x165"); (k_dflt (refine' item_vs ?n_136 ?l_136 ?v_136 ?a_136 ?b_136 ?d_136 ?_ ?hs_136 ?hg_136; (case n_136 => k_asm); (case l_136 => ktn_no "Mem"); (case v_136 => assumption); (case a_136 => omega); (case b_136 => omega); (case d_136 => assumption); (case hs_136 => with_unfolding_all rfl); (case hg_136 => intro _; with_unfolding_all rfl); k_whole; intro t9))))
  (k_with "w:CEnd" => ((fail_if_success k_extra "x166"); ((k_dflt (refine' cend_imm ?eF_139 ?eN_139 ?eR_139 ?eO_139 ?_; (case eF_139 => k_asm); (case eN_139 => k_asm); (case eR_139 => ktn_no "Sub"); (case eO_139 => ktn_no "Off"); k_whole)))))
  (k_with "w:call builtin:str.join" => ((fail_if_success k_extra "x167"); ((k_here; (with_reducible show wpAny _ _ (call (Value.builtin "str.join") [Value.str _ _, Value.ref _]) _ _ _); k_dflt (refine' join_v ?jn_128 ?jm_128 ?jv_128 ?jo_128 ?_; (case jn_128 => k_asm); (case jm_128 => ktn_no "Mem"); (case jv_128 => assumption); (case jo_128 => first | assumption | (apply ones_join; omega)); k_whole; intro t9 k9)))))
  (k_with "w:call builtin:len" => ((fail_if_success k_extra "x168"); ((k_here; (with_reducible show wpAny _ _ (call (Value.builtin "len") [Value.ref _]) _ _ _); k_dflt (refine' len_v ?n_137 ?l_137 ?v_137 ?a_137 ?_; (case n_137 => k_asm); (case l_137 => ktn_no "Mem"); (case v_137 => assumption); (case a_137 => omega); k_whole; intro t9 tk9)))))
  (k_with "w:call type:zip" => ((fail_if_success k_extra "x169"); ((k_here; (with_reducible show wpAny _ _ (call (Value.type "zip") [Value.str _ _, Value.str _ _]) _ _ _); k_dflt (refine' zip_call ?zx_138 ?zy_138 ?zf_138 ?zn_138 ?_; (case zx_138 => assumption); (case zy_138 => assumption); (case zf_138 => k_asm); (case zn_138 => k_asm); k_whole; intro i9 h9 F9 N9 z9; (try k_sweep))))))
  trivial
section
noncomputable def Rows (n width : Nat) (A : List (List Nat)) : Prop := A.length = n ∧ ∀ a ∈ A, a.length = width ∧ ∀ c ∈ a, c < 128
theorem Rows.at {n width : Nat} {A : List (List Nat)} (h : Rows n width A) {i : Nat} (hi : i < n) : (A.map fun r => V.str (txt r))[((0 : Int) + (i : Int) * 1).toNat]? = some (V.str (txt (A.getD i []))) ∧ (A.getD i []).length = width ∧ ascii (txt (A.getD i [])) := by
  have e : ((0 : Int) + (i : Int) * 1).toNat = i := by omega
  have hl : i < A.length := by rw [h.1]; exact hi
  rw [e, List.getElem?_map, List.getElem?_eq_getElem hl]
  have eg : A.getD i [] = A[i] := by simp [List.getD, hl]
  rw [eg]
  (first | (refine' ex_1_0 (h.2 _ (List.getElem_mem hl)) ?_; intro h1 h2) | (obtain ⟨h1, h2⟩ := h.2 _ (List.getElem_mem hl)))
  refine ⟨rfl, h1, ?_⟩
  unfold ascii
  simp only [Array.all_eq_true_iff_forall_mem, decide_eq_true_eq, List.mem_toArray]
  exact h2
set_option maxRecDepth 100000 in
set_option maxHeartbeats 8000000 in
theorem metr (w : World) (R1 R2 : List (List Nat)) (n width : Nat) (hA : Rows n width R1) (hB : Rows n width R2) (hn : n ≤ 6) (hwd : width ≤ 6) : Fn w 383 12 900 [rowsV R1, rowsV R2] (rowsV (metRows n width R1 R2)) := by
  unfold Fn Sp
  k_fill
  intro dp un gd cn cs a ccd cl outer A₀ base h₀ L m news imm s vs p' loose mean mg mb Q E B F X N T hk hsub hpre hd hu hret
  refine VAll.opr (.cons (.seq .rest) (.cons (.seq .rest) .nil)) hpre ?_; clear hpre; intro a3775n k3777n vs3776n hal3780n hm3778n hk3779n a3782n k3784n vs3783n hal3787n hm3785n hk3786n _; 
  have N0 := N
  have hl1 := (VAll.length (by assumption : VAll _ _ _ (R1.map fun r => V.str (txt r)))).trans ((List.length_map _).trans hA.1)
  have hl2 := (VAll.length (by assumption : VAll _ _ _ (R2.map fun r => V.str (txt r)))).trans ((List.length_map _).trans hB.1)
  refine wpAny_call ?_
  k_dflt (refine' code_defG ?k1 ?k2 ?k3 ?k4 ?k5 ?kA ?kF ?kK ?k6 ?k7 ?k8 ?k9 ?kB ?_ ?c2 ?c3 ?c4 ?c5; (case kA => exact rfl); (case kF => exact rfl); (case kK => assumption); (case k1 => exact B); (case k2 => exact F); (case k3 => exact X); (case k4 => exact news_sub N hsub); (case k5 => exact T); (case k6 => k_is); (case k7 => k_is); (case k8 => k_room); (case k9 => first | exact BindsTo.of_eq rfl | exact binds_K (by k_in) rfl (by k_is) rfl rfl rfl); (case c5 => decide); (case kB => exact locs rfl); (case c2 => exact rfl); (case c3 => exact rfl); (case c4 => exact rfl); k_whole; intro g' L' h' FG' F' N' B' X' T' kG; (try dsimp only); (try k_unmd); (try k_fold); (try (refine' aLet ?_; intro AL)))
  ((try k_unmd); (try k_fold); k_steps)
  refine' for_collect (P := w.params) _ _ [] (fun i : Nat => V.str (txt (metL width (R1.getD i []) (R2.getD i [])))) ?fh ?fr (small_up (n := n) (by omega)) size_up ?fx ?fp ?ff ?fn ?fX ?fg ?turn ?done
  (case fh => exact rfl)
  (case fr => (refine' rng_of ?tn ?th; (case tn => k_asm); (case th => ktn_no "Mem")))
  (case fx => exact rfl)
  (case fp => exact rfl)
  (case ff => k_asm)
  (case fn => k_asm)
  (case fX => k_extra "Pick")
  (case fg => ktn_no "AllNe")
  (case turn =>
    intro i t u vs k tl ext av h tk hi hv hlen hg F N off hav hex
    (first | (refine' ex_2_0 (hA.at hi) ?_; intro ha1 ha2 ha3) | (refine' ex_1_1 (hA.at hi) ?_; intro ha1 ha2 ha3) | (obtain ⟨ha1, ha2, ha3⟩ := hA.at hi))
    (first | (refine' ex_2_0 (hB.at hi) ?_; intro hb1 hb2 hb3) | (refine' ex_1_1 (hB.at hi) ?_; intro hb1 hb2 hb3) | (obtain ⟨hb1, hb2, hb3⟩ := hB.at hi))
    ((try k_unmd); (try k_fold); k_steps)
    refine' cmp_zip (P := w.params) (n := width) _ (fun j : Nat => V.str ⟨#[if (R1.getD i []).getD j 0 = 120 ∧ (R2.getD i []).getD j 0 = 120 then 120 else 46]⟩) ?fh ?zz ?xn ?yn ?fz ?fx ?fy ?fxy ?fk ?ff ?fn ?fX ?turn ?fin
    (case zz => assumption)
    (case fh => exact rfl)
    (case xn => (first | assumption | simp | (simp; omega)))
    (case yn => (first | assumption | simp | (simp; omega)))
    (case fz => exact Nat.le_trans (by omega : _ ≤ 1000) (by decide))
    (case fx => exact rfl)
    (case fy => exact rfl)
    (case fxy => decide)
    (case fk => exact rfl)
    (case ff => k_asm)
    (case fn => k_asm)
    (case fX => exact sl_refl)
    (case turn => (intro j cx cy ux uy ys C oC m2 ext2 av2 h2 tk2 E' hcx hcy hvz hoC hxC hyC hCe F N off2 hav2; ((try k_unmd); (try k_fold); k_steps); all_goals first | exact met_yes hcx hcy (by assumption) (by assumption) | exact met_no1 hcx hcy (by assumption) | exact met_no2 hcx hcy (by assumption)))
    (case fin => (intro g ys hvz; replace hvz := hvz.congr (metz_map width (R1.getD i []) (R2.getD i [])); have hjo := ones_join (metL width (R1.getD i []) (R2.getD i [])) (by rw [metL_length]; omega); ((try k_unmd); (try k_fold); k_steps); all_goals exact fend_collect (by k_asm) (by k_asm) (by ktn_no "Sub") off (VIn.congr (VIn.str _ _) (congrArg V.str (join_one _))) (by intro z9 hz9 hs9; first | ktn_no "mz" | ((simp only [List.contains_cons, List.contains_nil, Bool.or_false, Bool.or_eq_false_iff, beq_eq_false_iff_ne, ne_eq] at hs9); simp +zetaDelta [hz9, hs9])))))
  (case done => (intro h tk u vs k tl hv hlen hg F N; replace hv := hv.congr (metr_map R1 R2 width n); ((try k_unmd); (try k_fold); k_steps); all_goals exact Fn.fin kG N0 hsub hret (by assumption) (by assumption) (by assumption) (by assumption) (by ktn_no "Sub") (lst_arr' List.mem_cons_self (VAll.mono (by assumption) (by ktn_no "Sub")))))
  all_goals exact Fn.fin kG N hsub hret (by assumption) (by assumption) (by assumption) (by assumption) (by (ktn_no "Sub")) (by ktn_no "VIn")
end
theorem resetH1 : True := by w_top off; trivial
theorem linesH1 : True := by
  (k_with "x137" => skip)
  (k_with "x138" => skip)
  (k_with "x141" => skip)
  (k_with "x143" => skip)
  (k_with "x144" => skip)
  (k_with "x145" => skip)
  (k_with "x146" => skip)
  (k_with "x147" => skip)
  (k_with "x148" => skip)
  (k_with "x149" => skip)
  (k_with "x150" => skip)
  (k_with "x152" => skip)
  (k_with "x153" => skip)
  (k_with "x154" => skip)
  (k_with "x155" => skip)
  (k_with "x156" => skip)
  (k_with "x157" => skip)
  (k_with "x166" => skip)
  (k_with "x158" => skip)
  (k_with "x159" => skip)
  (k_with "x160" => skip)
  (k_with "x167" => skip)
  (k_with "x169" => skip)
  (k_with "x165" => skip)
  (k_with "SubIdx" => ((fail_if_success k_extra "x170"); (k_dflt (refine' item_vi ?n_141 ?l_141 ?v_141 ?a_141 ?b_141 ?c_141 ?_ ?hs_141 ?hg_141; (case n_141 => k_asm); (case l_141 => ktn_no "Mem"); (case v_141 => assumption); (case a_141 => omega); (case b_141 => omega); (case c_141 => omega); (case hs_141 => with_unfolding_all rfl); (case hg_141 => intro _; with_unfolding_all rfl); k_whole; intro z9 t9))))
  (k_with "w:setItem ref int" => ((fail_if_success k_extra "x171"); ((k_here; (with_reducible show wpAny _ _ (setItem (Value.ref _) (Value.int _ _) _) _ _ _); k_dflt (refine' set_v ?sF_140 ?sN_140 ?sU_140 ?s0_140 ?s1_140 ?s2_140 ?_; (case sF_140 => k_asm); (case sN_140 => k_asm); (case sU_140 => k_upd); (case s0_140 => first | decide | omega); (case s1_140 => first | decide | (simp only [List.length_cons, List.length_nil]; omega) | omega); (case s2_140 => first | decide | omega); k_whole); intro h' F' N'; (try simp only [Int.reduceToNat, List.set_cons_succ, List.set_cons_zero] at N'); (try k_sweep)))))
  (k_with "x168" => skip)
  (k_with "w:call builtin:len" => ((fail_if_success k_extra "x172"); ((k_here; (with_reducible show wpAny _ _ (call (Value.builtin "len") [Value.ref _]) _ _ _); k_dflt (refine' len_v ?n_142 ?l_142 ?v_142 ?a_142 ?_; (case n_142 => k_asm); (case l_142 => ktn_no "Mem"); (case v_142 => first | assumption | exact rfl); (case a_142 => omega); k_whole; intro t9 tk9)))))
  trivial
section
set_option maxRecDepth 100000 in
set_option maxHeartbeats 8000000 in
theorem draw (w : World) (most : Int) (hm : 1 ≤ most ∧ most ≤ 100) (n : Nat) (hn : n ≤ 1000) : Sh w 466 4 300 (fun P o l vs => ∃ t, vs = [.ref P, .int most t] ∧ PoolOk w.params n o l) (fun P o l r => PoolOk w.params (n + 1) o l ∧ ∃ x : Int, VIn w.params l r (.int x) ∧ 0 ≤ x ∧ x < most) := by
  unfold Sh
  k_fill
  intro dp un gd cn cs a ccd cl outer A₀ base h₀ L m P o rest imm s vs p' loose mean mg mb Q E B F X N hP T hk hsub0 hpre hd hu hret
  have hsub : ∀ q ∈ (P, o) :: imm, q ∈ (P, o) :: rest := sl_cons hsub0
  have hPi : ∀ p ∈ imm, p.1 ≠ P := fun p hp => hP p (hsub0 p hp)
  obtain ⟨t, rfl, C, vsC, kC, zs, g, st, pl, t1, t2, t3, k, rfl, hC, hvC, hlen, hg, hst, hpl⟩ := hpre
  refine wpAny_call ?_
  k_dflt (refine' code_defG ?k1 ?k2 ?k3 ?k4 ?k5 ?kA ?kF ?kK ?k6 ?k7 ?k8 ?k9 ?kB ?_ ?c2 ?c3 ?c4 ?c5; (case kA => exact rfl); (case kF => exact rfl); (case kK => assumption); (case k1 => exact B); (case k2 => exact F); (case k3 => exact X); (case k4 => exact news_sub N hsub); (case k5 => exact T); (case k6 => k_is); (case k7 => k_is); (case k8 => k_room); (case k9 => first | exact BindsTo.of_eq rfl | exact binds_K (by k_in) rfl (by k_is) rfl rfl rfl); (case c5 => decide); (case kB => exact locs rfl); (case c2 => exact rfl); (case c3 => exact rfl); (case c4 => exact rfl); k_whole; intro g' L' h' FG' F' N' B' X' T' kG; (try dsimp only); (try k_unmd); (try k_fold); (try (refine' aLet ?_; intro AL)))
  ((try k_unmd); (try k_fold); k_steps)
  all_goals (refine' Sh.fin (Post := fun P o l r => PoolOk w.params (n + 1) o l ∧ ∃ x : Int, VIn w.params l r (.int x) ∧ 0 ≤ x ∧ x < most) kG N hP hsub0 hret ?f1 ?f2 ?f3 ?f4 ?f5 ?f6 ?f7 ?f8; (case f1 => assumption); (case f2 => assumption); (case f3 => assumption); (case f4 => assumption); (case f5 => k_extra "Pick"); (case f6 => ktn_no "AllNe"); (case f7 => ktn_no "Sub"); (case f8 => intro l hl; exact ⟨⟨C, vsC, kC, zs, _, _, _, _, _, _, _, rfl, hl _ hC, hvC.mono hl, hlen, by (first | omega | exact fmod_in (by omega) | exact (fmod_in (by omega)).1 | exact (fmod_in (by omega)).2 | exact Int.fdiv_nonneg (by omega) (by omega)), ⟨by (first | omega | exact fmod_in (by omega) | exact (fmod_in (by omega)).1 | exact (fmod_in (by omega)).2 | exact Int.fdiv_nonneg (by omega) (by omega)), by (first | omega | exact fmod_in (by omega) | exact (fmod_in (by omega)).1 | exact (fmod_in (by omega)).2 | exact Int.fdiv_nonneg (by omega) (by omega))⟩, ⟨by (first | omega | exact fmod_in (by omega) | exact (fmod_in (by omega)).1 | exact (fmod_in (by omega)).2 | exact Int.fdiv_nonneg (by omega) (by omega)), by (first | omega | exact fmod_in (by omega) | exact (fmod_in (by omega)).1 | exact (fmod_in (by omega)).2 | exact Int.fdiv_nonneg (by omega) (by omega))⟩⟩, _, VIn.int _ _, by (first | omega | exact fmod_in (by omega) | exact (fmod_in (by omega)).1 | exact (fmod_in (by omega)).2 | exact Int.fdiv_nonneg (by omega) (by omega)), by (first | omega | exact fmod_in (by omega) | exact (fmod_in (by omega)).1 | exact (fmod_in (by omega)).2 | exact Int.fdiv_nonneg (by omega) (by omega))⟩))
end
theorem resetE7 : True := by w_top off; trivial
section
set_option maxRecDepth 100000
set_option maxHeartbeats 2000000
/-- a mark: comprehensions are told turn by turn -/
noncomputable def Unroll : Prop := True
section
variable {prog : Program} {w : World} {A : Around} {E : Value → Shared → Prop} {s : Shared} {h₀ h' : Heap} {L : Addr} {m : Str → Option Value} {env : Env} {X : List (Addr × Obj)} {scope : Scope} {cl : List (Str × Addr)} {elt : Expr} {x : Str} {px : Pos} {Fin : Shared → List Value → List (Addr × Obj) → Prop}
theorem ApartP.app {a b r : List (Addr × Obj)} (h : ApartP a r) (k : ApartP b r) : ApartP (a ++ b) r := fun q hq p hp => (List.mem_append.mp hp).elim (h q hq p) (k q hq p)
theorem ApartP.nil {r : List (Addr × Obj)} : ApartP [] r := fun _ _ _ h => nomatch h
inductive MapS (P : Params) (rest B : List (Addr × Obj)) (f : Nat → V) (i : Nat) (ys : List Value) (lg : List (Addr × Obj)) : Prop where
  | mk tl : lg = tl ++ rest → ApartP tl rest → VAll P (tl ++ B) ys ((List.range i).map f) → MapS P rest B f i ys lg
inductive MapE (P : Params) (rest B : List (Addr × Obj)) (d : V) (tl : List (Addr × Obj)) (y : Value) (lg : List (Addr × Obj)) : Prop where
  | mk tl' : lg = tl' ++ (tl ++ rest) → ApartP tl' rest → VIn P (tl' ++ (tl ++ B)) y d → MapE P rest B d tl y lg
theorem MapS.step {P : Params} {rest B tl lg : List (Addr × Obj)} {f : Nat → V} {i : Nat} {ys : List Value} {y : Value} (ap : ApartP tl rest) (hv : VAll P (tl ++ B) ys ((List.range i).map f)) (e : MapE P rest B (f i) tl y lg) : MapS P rest B f (i + 1) (ys ++ [y]) lg := by
  (first | (refine' ex_3_0 e ?_; (try clear e); intro tl' ob9; subst ob9; intro ap' hy) | (refine' ex_2_1 e ?_; (try clear e); intro tl' ob9; subst ob9; intro ap' hy) | (refine' ex_1_2 e ?_; (try clear e); intro tl' ob9; subst ob9; intro ap' hy) | (obtain ⟨tl', rfl, ap', hy⟩ := e))
  refine ⟨tl' ++ tl, by simp, ap'.app ap, ?_⟩
  rw [range_snoc, List.append_assoc]
  exact (hv.mono fun q hq => List.mem_append_right _ hq).snoc hy
/-- a comprehension over a tuple; what is new lies apart -/
theorem cmp_mapt {P : Params} {ax : Addr} {vs : List Value} {ds : List V} (B : List (Addr × Obj)) (f : Nat → V) (hh : A.handled = none) (hl : s.heap.IsTuple ax vs.toArray) (hd : VAll P X vs ds) (hsz : vs.length ≤ sizeLine)
    (hx : scope.names.lookup x = some .local) (hkind : scope.kind = .function) (F : Fr h₀ L s.heap m) (N : News h₀ L s.heap X)
    (turn : ∀ (i : Nat) (v : Value) (d : V) (ys : List Value) (tl : List (Addr × Obj)) C oC m₂ ext av h tk E', ds[i]? = some d → VIn P (tl ++ X) v d → ApartP tl X → NsObj oC m₂ → m₂ x = some v → (C, oC) ∈ ext → Fr h₀ L h m → News h₀ L h (ext ++ (tl ++ X)) → Off av (tl ++ X) → HasAv ext av → ExtIn ext av [ax] →
      wpAny (model prog w) A (eval elt (compEnvC scope cl C env)) (fun y s'' => CEnd h₀ L m ext av { s with heap := h, toks := tk } (MapE P X B (f i) tl y) s'') E' { s with heap := h, toks := tk })
    (fin : ∀ g ys tl, ApartP tl X → VAll P (tl ++ B) ys ((List.range ds.length).map f) → Fin { s with heap := g } ys (tl ++ X)) :
    CmpSrc prog w A h₀ L m env scope cl (.Name x px) [] elt Fin E (.ref ax) s := by
  refine cmp_tuple (news := X) (MapS P X B f) hh hl (by simpa using hsz) (binds_name (P' := fun i v => vs[i]? = some v) hx hkind (fun i v h hp => by simpa using hp)) F N ⟨[], rfl, .nil, .nil⟩ ?_ ?_
  · intro g
    constructor
    rintro i ys lg C oC m₂ ext av h tk E' hi ⟨v, hv0, hxv⟩ hoC hCe ⟨tl, rfl, ap, hv⟩ F N h1 h2 h3
    (first | (refine' ex_2_0 (hd.get hv0) ?_; intro d hdi hvd) | (refine' ex_1_1 (hd.get hv0) ?_; intro d hdi hvd) | (obtain ⟨d, hdi, hvd⟩ := hd.get hv0))
    refine wpAny_tests_nil ?_
    simp only [if_true]
    refine wpAny_mono (turn i v d ys tl C oC m₂ ext av h tk E' hdi (hvd.mono fun q hq => List.mem_append_right _ hq) ap hoC hxv hCe F N h1 h2 h3) (fun y s₅ h₅ => ?_) fun _ _ e => e
    obtain ⟨h', tk', lg', e, F', N', ha, hE⟩ := h₅
    exact ⟨h', tk', _, e, F', N', ha, MapS.step ap hv hE⟩
  · rintro g ys lg ⟨tl, rfl, ap, hv⟩
    have hlen : vs.toArray.size = ds.length := by simpa using hd.length
    rw [hlen] at hv
    exact fin g ys tl ap hv
theorem cmp_mapL {P : Params} {ax : Addr} {vs : List Value} {ds : List V} (B : List (Addr × Obj)) (f : Nat → V) (hh : A.handled = none) (hl : s.heap.IsList ax vs.toArray) (hd : VAll P X vs ds) (hsz : vs.length ≤ sizeLine)
    (hx : scope.names.lookup x = some .local) (hkind : scope.kind = .function) (F : Fr h₀ L s.heap m) (N : News h₀ L s.heap X)
    (turn : ∀ (i : Nat) (v : Value) (d : V) (ys : List Value) (tl : List (Addr × Obj)) C oC m₂ ext av h tk E', ds[i]? = some d → VIn P (tl ++ X) v d → ApartP tl X → NsObj oC m₂ → m₂ x = some v → (C, oC) ∈ ext → Fr h₀ L h m → News h₀ L h (ext ++ (tl ++ X)) → Off av (tl ++ X) → HasAv ext av → ExtIn ext av [ax] →
      wpAny (model prog w) A (eval elt (compEnvC scope cl C env)) (fun y s'' => CEnd h₀ L m ext av { s with heap := h, toks := tk } (MapE P X B (f i) tl y) s'') E' { s with heap := h, toks := tk })
    (fin : ∀ g ys tl, ApartP tl X → VAll P (tl ++ B) ys ((List.range ds.length).map f) → Fin { s with heap := g } ys (tl ++ X)) :
    CmpSrc prog w A h₀ L m env scope cl (.Name x px) [] elt Fin E (.ref ax) s := by
  refine cmp_list (news := X) (MapS P X B f) hh hl (by simpa using hsz) (binds_name (P' := fun i v => vs[i]? = some v) hx hkind (fun i v h hp => by simpa using hp)) F N ⟨[], rfl, .nil, .nil⟩ ?_ ?_
  · intro g
    constructor
    rintro i ys lg C oC m₂ ext av h tk E' hi ⟨v, hv0, hxv⟩ hoC hCe ⟨tl, rfl, ap, hv⟩ F N h1 h2 h3
    (first | (refine' ex_2_0 (hd.get hv0) ?_; intro d hdi hvd) | (refine' ex_1_1 (hd.get hv0) ?_; intro d hdi hvd) | (obtain ⟨d, hdi, hvd⟩ := hd.get hv0))
    refine wpAny_tests_nil ?_
    simp only [if_true]
    refine wpAny_mono (turn i v d ys tl C oC m₂ ext av h tk E' hdi (hvd.mono fun q hq => List.mem_append_right _ hq) ap hoC hxv hCe F N h1 h2 h3) (fun y s₅ h₅ => ?_) fun _ _ e => e
    obtain ⟨h', tk', lg', e, F', N', ha, hE⟩ := h₅
    exact ⟨h', tk', _, e, F', N', ha, MapS.step ap hv hE⟩
  · rintro g ys lg ⟨tl, rfl, ap, hv⟩
    have hlen : vs.toArray.size = ds.length := by simpa using hd.length
    rw [hlen] at hv
    exact fin g ys tl ap hv
/-- a turn's end -/
theorem cend_map {P : Params} {rest B tl tl' ext : List (Addr × Obj)} {av : List Addr} {y : Value} {d : V} {X : List (Addr × Obj)} {tk' : Nat} (F : Fr h₀ L h' m) (N : News h₀ L h' X) (T : Tkn X tl' (ext ++ (tl ++ rest))) (O : Off av (tl' ++ (tl ++ rest))) (ap : ApartP tl' rest) (v : VIn P (tl' ++ (tl ++ B)) y d) :
    CEnd h₀ L m ext av s (MapE P rest B d tl y) { s with heap := h', toks := tk' } := by
  refine CEnd.intro (tl' ++ (tl ++ rest)) F (fun p hp => N p (T p ?_)) O ⟨tl', rfl, ap, v⟩
  rcases List.mem_append.mp hp with hp | hp
  · exact List.mem_append_right _ (List.mem_append_left _ hp)
  · rcases List.mem_append.mp hp with hp | hp
    · exact List.mem_append_left _ hp
    · exact List.mem_append_right _ (List.mem_append_right _ hp)
theorem seg_get {x y wd ht : Int} {i : Nat} {d : V} (h : [V.tup [.str (Str.ofString "move"), .tup [.dec x 0, .dec y 0]], .tup [.str (Str.ofString "line"), .tup [.dec (x + wd) 0, .dec y 0]], .tup [.str (Str.ofString "line"), .tup [.dec (x + wd) 0, .dec (y + ht) 0]], .tup [.str (Str.ofString "line"), .tup [.dec x 0, .dec (y + ht) 0]], .tup [.str (Str.ofString "close")]][i]? = some d) :
    (∃ nm a b, d = .tup [.str nm, .tup [.dec a 0, .dec b 0]] ∧ [V.tup [.str (Str.ofString "move"), .tup [.tup [.int x, .int 0], .tup [.int y, .int 0]]], .tup [.str (Str.ofString "line"), .tup [.tup [.int (x + wd), .int 0], .tup [.int y, .int 0]]], .tup [.str (Str.ofString "line"), .tup [.tup [.int (x + wd), .int 0], .tup [.int (y + ht), .int 0]]], .tup [.str (Str.ofString "line"), .tup [.tup [.int x, .int 0], .tup [.int (y + ht), .int 0]]], .tup [.str (Str.ofString "close")]].getD i .none = .tup [.str nm, .tup [.tup [.int a, .int 0], .tup [.int b, .int 0]]]) ∨
    (d = .tup [.str (Str.ofString "close")] ∧ [V.tup [.str (Str.ofString "move"), .tup [.tup [.int x, .int 0], .tup [.int y, .int 0]]], .tup [.str (Str.ofString "line"), .tup [.tup [.int (x + wd), .int 0], .tup [.int y, .int 0]]], .tup [.str (Str.ofString "line"), .tup [.tup [.int (x + wd), .int 0], .tup [.int (y + ht), .int 0]]], .tup [.str (Str.ofString "line"), .tup [.tup [.int x, .int 0], .tup [.int (y + ht), .int 0]]], .tup [.str (Str.ofString "close")]].getD i .none = .tup [.str (Str.ofString "close")]) := by
  match i, h with
  | 0, h => cases h; exact .inl ⟨_, _, _, rfl, rfl⟩
  | 1, h => cases h; exact .inl ⟨_, _, _, rfl, rfl⟩
  | 2, h => cases h; exact .inl ⟨_, _, _, rfl, rfl⟩
  | 3, h => cases h; exact .inl ⟨_, _, _, rfl, rfl⟩
  | 4, h => cases h; exact .inr ⟨rfl, rfl⟩
  | n + 5, h => simp at h
theorem vin_rest {P : Params} {tl l : List (Addr × Obj)} {v : Value} {d : V} (h : VIn P l v d) : VIn P (tl ++ l) v d := h.mono fun _ hq => List.mem_append_right _ hq
end
end
theorem resetE8 : True := by w_top off; trivial
section
set_option maxRecDepth 100000
set_option maxHeartbeats 2000000
/-- a mark: the list that picture fills -/
noncomputable def FoundAt (_a : Addr) : Prop := True
theorem strip_found {X Y : List (Addr × Obj)} {a : Addr} {o : Obj} (_ : FoundAt a) (h : ∀ q ∈ Y, q ∈ X) : ∀ q ∈ Y, q ∈ (a, o) :: X := sl_skip1 h
noncomputable abbrev Q4.rectV (q : Q4) : V := Mine.rectV q.x q.y q.w q.h
noncomputable def RuleOk (rule : Str) : Prop := rule = Str.ofString "nonzero" ∨ rule = Str.ofString "evenodd"
noncomputable def clipsV (crs : Str) (cs : List Q4) : V := .tup (cs.map fun c => .tup [.str crs, c.rectV])
/-- a mark and its clips as picture takes them -/
noncomputable def MarkIs (k : PMk) (dm dc : V) : Prop :=
  (∃ q rule z crs, k.fill = some q ∧ q.Good ∧ RuleOk rule ∧ RuleOk crs ∧ (∀ c ∈ k.clips, c.Good) ∧ k.clips.length ≤ 2 ∧ dm = .tup [.str (Str.ofString "fill"), .str rule, q.rectV, z] ∧ dc = clipsV crs k.clips) ∨
  k.fill = none ∧ ((∃ a b c, dm = .tup [.str (Str.ofString "stroke"), a, b, c]) ∨ (∃ a b, dm = .tup [.str (Str.ofString "clip"), a, b]) ∨ ∃ a b, dm = .tup [.str (Str.ofString "image"), a, b])
theorem dot_mul {n : Nat} (h : n ≤ 6) : Txt.mul (Str.ofString ".") (n : Int) = txt ((List.range n).map fun _ => 46) := by
  match n, h with
  | 0, _ => decide +kernel
  | 1, _ => decide +kernel
  | 2, _ => decide +kernel
  | 3, _ => decide +kernel
  | 4, _ => decide +kernel
  | 5, _ => decide +kernel
  | 6, _ => decide +kernel
  | n + 7, h => omega
theorem signs_item : ∀ r : Nat, r < 36 → Txt.item (Str.ofString "0123456789abcdefghijklmnopqrstuvwxyz") (r : Int) = ⟨#[signs.getD r 0]⟩ := by decide +kernel
theorem sign_item (c : Nat) : Txt.item (Str.ofString "0123456789abcdefghijklmnopqrstuvwxyz") (Int.fmod (c : Int) 36) = ⟨#[signOf c]⟩ := by
  have e : Int.fmod (c : Int) 36 = ((c % 36 : Nat) : Int) := by
    rw [Int.fmod_eq_emod_of_nonneg _ (by decide)]
    omega
  rw [e, signs_item (c % 36) (Nat.mod_lt c (by decide))]
  rfl
theorem sign_item' (c : Nat) : Txt.item (Str.ofString "0123456789abcdefghijklmnopqrstuvwxyz") (Int.fmod (c : Int) ((36 : Nat) : Int)) = ⟨#[signOf c]⟩ := sign_item c
theorem sign_lt (c : Nat) : signOf c < 128 := by
  have h : ∀ r, r < 36 → signs.getD r 0 < 128 := by decide
  exact h _ (Nat.mod_lt _ (by decide))
theorem take_at {α : Type} {l : List α} {i : Nat} {a : α} (h : l[i]? = some a) : l.take (i + 1) = l.take i ++ [a] := by
  rw [List.take_add_one, h]; rfl
theorem pf_none {width height i : Nat} {ks : List PMk} {k : PMk} (hk : ks[i]? = some k) (hf : k.fill = none) : picFold width height (ks.take (i + 1)) = picFold width height (ks.take i) := by
  rw [take_at hk, picFold_snoc]
  unfold picStep
  rw [hf]
theorem pf_some {width height i : Nat} {ks : List PMk} {k : PMk} {q : Q4} (hk : ks[i]? = some k) (hf : k.fill = some q) : picFold width height (ks.take (i + 1)) = ((picFold width height (ks.take i)).1 + 1, overRows height width (signOf (picFold width height (ks.take i)).1) (clipRows height width (q.ras width height) k.clips) (picFold width height (ks.take i)).2) := by
  rw [take_at hk, picFold_snoc]
  unfold picStep
  rw [hf]
theorem row_lt {width : Nat} {f : Nat → Nat} (h : ∀ j, f j < 128) : ((List.range width).map f).length = width ∧ ∀ c ∈ (List.range width).map f, c < 128 := by
  refine ⟨by simp, fun c hc => ?_⟩
  (first | (refine' ex_2_0 (List.mem_map.mp hc) ?_; intro j _ ob9; subst ob9) | (refine' ex_1_1 (List.mem_map.mp hc) ?_; intro j _ ob9; subst ob9) | (obtain ⟨j, _, rfl⟩ := List.mem_map.mp hc))
  exact h j
theorem rows_grid {height width : Nat} {f : Nat → Nat → Nat} (h : ∀ i j, f i j < 128) : Rows height width (grid height width f) := by
  refine ⟨by simp [grid], fun a ha => ?_⟩
  (first | (refine' ex_2_0 (List.mem_map.mp ha) ?_; intro i _ ob9; subst ob9) | (refine' ex_1_1 (List.mem_map.mp ha) ?_; intro i _ ob9; subst ob9) | (obtain ⟨i, _, rfl⟩ := List.mem_map.mp ha))
  exact row_lt (h i)
theorem rows_met {height width : Nat} {A B : List (List Nat)} : Rows height width (metRows height width A B) := by
  refine ⟨by simp [metRows], fun a ha => ?_⟩
  (first | (refine' ex_2_0 (List.mem_map.mp ha) ?_; intro i _ ob9; subst ob9) | (refine' ex_1_1 (List.mem_map.mp ha) ?_; intro i _ ob9; subst ob9) | (obtain ⟨i, _, rfl⟩ := List.mem_map.mp ha))
  exact row_lt fun j => by split <;> decide
theorem rows_ras (q : Q4) (width height : Nat) : Rows height width (q.ras width height) := by
  rw [ras_grid]
  exact rows_grid fun i j => by split <;> decide
theorem rows_clip {height width : Nat} : ∀ (cs : List Q4) {R : List (List Nat)}, Rows height width R → Rows height width (clipRows height width R cs) := by
  intro cs
  induction cs with
  | nil => intro R h; exact h
  | cons c cs ih => intro R _; exact ih rows_met
theorem clip_snoc {height width i : Nat} {R : List (List Nat)} {cs : List Q4} {c : Q4} (h : cs[i]? = some c) : clipRows height width R (cs.take (i + 1)) = metRows height width (clipRows height width R (cs.take i)) (c.ras width height) := by
  rw [take_at h]
  unfold clipRows
  rw [List.foldl_append]
  rfl
/-- the rows laid over, as far as a row -/
noncomputable def overP (height width sign r : Nat) (A B : List (List Nat)) : List (List Nat) := (List.range height).map fun j => if j < r then overL width sign (A.getD j []) (B.getD j []) else B.getD j []
theorem overP_0 {height width sign : Nat} {A B : List (List Nat)} (h : B.length = height) : overP height width sign 0 A B = B := by
  unfold overP
  apply List.ext_getElem
  · simp [h]
  · intro j h1 h2
    simp [List.getD, h2]
theorem overP_n {height width sign : Nat} {A B : List (List Nat)} : overP height width sign height A B = overRows height width sign A B := by
  unfold overP overRows
  refine List.map_congr_left fun j hj => ?_
  rw [if_pos (List.mem_range.mp hj)]
theorem overP_at {height width sign r : Nat} {A B : List (List Nat)} (h : r < height) : (overP height width sign r A B).getD r [] = B.getD r [] := by
  unfold overP
  simp [List.getD, h]
theorem overP_set {height width sign r : Nat} {A B : List (List Nat)} (h : r < height) : (overP height width sign r A B).set r (overL width sign (A.getD r []) (B.getD r [])) = overP height width sign (r + 1) A B := by
  unfold overP
  apply List.ext_getElem
  · simp
  · intro j h1 h2
    rw [List.getElem_set]
    by_cases hj : r = j
    · subst hj; simp
    · rw [if_neg hj]
      have e : (j < r) = (j < r + 1) := by apply propext; omega
      simp [e]
theorem rows_overP {height width sign r : Nat} {A B : List (List Nat)} (hB : Rows height width B) (hs : sign < 128) : Rows height width (overP height width sign r A B) := by
  refine ⟨by simp [overP], fun a ha => ?_⟩
  (first | (refine' ex_2_0 (List.mem_map.mp ha) ?_; intro j hj ob9; subst ob9) | (refine' ex_1_1 (List.mem_map.mp ha) ?_; intro j hj ob9; subst ob9) | (obtain ⟨j, hj, rfl⟩ := List.mem_map.mp ha))
  have hj' := List.mem_range.mp hj
  have hl : j < B.length := by rw [hB.1]; exact hj'
  have eg : B.getD j [] = B[j] := by simp [List.getD, hl]
  (first | (refine' ex_1_0 (hB.2 _ (List.getElem_mem hl)) ?_; intro h1 h2) | (obtain ⟨h1, h2⟩ := hB.2 _ (List.getElem_mem hl)))
  split
  · refine row_lt fun c => ?_
    split
    · exact hs
    · rw [eg]
      simp only [List.getD]
      cases e : B[j][c]? with
      | none => simp
      | some v => simpa using h2 v (List.mem_of_getElem? e)
  · rw [eg]; exact ⟨h1, h2⟩
theorem rows_over {height width sign : Nat} {A B : List (List Nat)} (hB : Rows height width B) (hs : sign < 128) : Rows height width (overRows height width sign A B) := overP_n (A := A) ▸ rows_overP (r := height) hB hs
theorem rows_pf {width height : Nat} (ks : List PMk) : Rows height width (picFold width height ks).2 := by
  rw [picFold_is]
  refine rows_grid fun i j => ?_
  show signCell height i j (fillsOf ks) < 128
  refine list_snoc (P := fun l => signCell height i j l < 128) (show (46 : Nat) < 128 by decide) (fun l a h => ?_) _
  rw [signCell_snoc]
  split
  · exact sign_lt _
  · exact h
/-- a state of picture's loop -/
inductive PicS (P : Params) (ks : List PMk) (width height : Nat) (F c1 c2 : Addr) (o1 : Obj) (rest : List (Addr × Obj)) (i : Nat) (v : Value) (lg : List (Addr × Obj)) : Prop where
  | mk t vs k o sv : v = .int ((picFold width height (ks.take i)).1 : Int) t → lg = (F, lstO vs k) :: (c2, o) :: (c1, o1) :: rest → o.data = .cell sv → VAll P [] vs ((picFold width height (ks.take i)).2.map fun r => V.str (txt r)) → PicS P ks width height F c1 c2 o1 rest i v lg
theorem picS_0 {P : Params} {ks : List PMk} {width height : Nat} {F c1 c2 : Addr} {o1 o : Obj} {rest l : List (Addr × Obj)} {t : Tok} {ys : List Value} {k : Nat} {sv : Option Value} (h : VAll P l ys ((List.range height).map fun _ => V.str (txt ((List.range width).map fun _ => 46)))) (ho : o.data = .cell sv) :
    PicS P ks width height F c1 c2 o1 rest 0 (.int 0 t) ((F, lstO ys k) :: (c2, o) :: (c1, o1) :: rest) := by
  refine ⟨t, ys, k, o, sv, rfl, rfl, ho, ?_⟩
  have : ∀ (ts : List (List Nat)) (ys : List Value), VAll P l ys (ts.map fun r => V.str (txt r)) → VAll P [] ys (ts.map fun r => V.str (txt r)) := by
    intro ts
    induction ts with
    | nil => intro ys h; cases h; exact .nil
    | cons a ts ih =>
      intro ys h
      cases h with
      | cons h1 h2 => (first | (refine' ex_1_0 (h1.xs) ?_; intro u ob9; subst ob9) | (obtain ⟨u, rfl⟩ := h1.xs)); exact .cons (.str _ _) (ih _ h2)
  have e : ((List.range height).map fun _ => V.str (txt ((List.range width).map fun _ => 46))) = ((picFold width height (ks.take 0)).2.map fun r => V.str (txt r)) := by
    show _ = (grid height width fun _ _ => 46).map _
    unfold grid
    rw [List.map_map]
    rfl
  rw [e] at h
  exact this _ _ h
theorem picS_none {P : Params} {ks : List PMk} {width height : Nat} {F c1 c2 : Addr} {o1 o : Obj} {rest : List (Addr × Obj)} {t : Tok} {vs : List Value} {k i : Nat} {sv : Option Value} {km : PMk} (hk : ks[i]? = some km) (hf : km.fill = none) (ho : o.data = .cell sv) (h : VAll P [] vs ((picFold width height (ks.take i)).2.map fun r => V.str (txt r))) :
    PicS P ks width height F c1 c2 o1 rest (i + 1) (.int ((picFold width height (ks.take i)).1 : Int) t) ((F, lstO vs k) :: (c2, o) :: (c1, o1) :: rest) := by
  refine ⟨t, vs, k, o, sv, ?_, rfl, ho, ?_⟩
  · rw [pf_none hk hf]
  · rw [pf_none hk hf]; exact h
theorem picS_some {P : Params} {ks : List PMk} {width height : Nat} {F c1 c2 : Addr} {o1 o : Obj} {rest : List (Addr × Obj)} {t : Tok} {vs : List Value} {k i : Nat} {sv : Option Value} {km : PMk} {q : Q4} {c : Int} (hk : ks[i]? = some km) (hf : km.fill = some q) (ho : o.data = .cell sv) (hc : c = ((picFold width height (ks.take i)).1 : Int) + 1)
    (h : VAll P [] vs ((overRows height width (signOf (picFold width height (ks.take i)).1) (clipRows height width (q.ras width height) km.clips) (picFold width height (ks.take i)).2).map fun r => V.str (txt r))) :
    PicS P ks width height F c1 c2 o1 rest (i + 1) (.int c t) ((F, lstO vs k) :: (c2, o) :: (c1, o1) :: rest) := by
  subst hc
  refine ⟨t, vs, k, o, sv, ?_, rfl, ho, ?_⟩
  · rw [pf_some hk hf]; rfl
  · rw [pf_some hk hf]; exact h
/-- a state of picture's row loop -/
inductive OverS (P : Params) (height width sign : Nat) (A B : List (List Nat)) (F : Addr) (k : Nat) (rest : List (Addr × Obj)) (r : Nat) (lg : List (Addr × Obj)) : Prop where
  | mk vs : lg = (F, lstO vs k) :: rest → VAll P [] vs ((overP height width sign r A B).map fun r => V.str (txt r)) → OverS P height width sign A B F k rest r lg
theorem VAll.set {P : Params} {l : List (Addr × Obj)} {v : Value} {d : V} (hv : VIn P l v d) : ∀ {vs : List Value} {ds : List V} {i : Nat}, VAll P l vs ds → VAll P l (vs.set i v) (ds.set i d) := by
  intro vs
  induction vs with
  | nil => intro ds i h; cases h; exact .nil
  | cons u vs ih =>
    intro ds i h
    cases h with
    | cons a b =>
      cases i with
      | zero => exact .cons hv b
      | succ i => exact .cons a (ih b)
theorem overS_0 {P : Params} {height width sign : Nat} {A B : List (List Nat)} {F : Addr} {k : Nat} {rest : List (Addr × Obj)} {vs : List Value} (h : B.length = height) (hv : VAll P [] vs (B.map fun r => V.str (txt r))) : OverS P height width sign A B F k rest 0 ((F, lstO vs k) :: rest) := by
  refine ⟨_, rfl, ?_⟩
  rw [overP_0 h]
  exact hv
theorem overS_step {P : Params} {height width sign r j : Nat} {A B : List (List Nat)} {F : Addr} {k : Nat} {rest : List (Addr × Obj)} {vs : List Value} {x : Str} {t : Tok} (h : r < height) (hj : j = r) (hv : VAll P [] vs ((overP height width sign r A B).map fun r => V.str (txt r))) (hx : x = txt (overL width sign (A.getD r []) (B.getD r []))) :
    OverS P height width sign A B F k rest (r + 1) ((F, lstO (vs.set j (.str x t)) k) :: rest) := by
  refine ⟨_, rfl, ?_⟩
  subst hx
  subst hj
  have h2 := VAll.set (VIn.str (txt (overL width sign (A.getD j []) (B.getD j []))) t) (i := j) hv
  rw [← overP_set h, List.map_set]
  exact h2
theorem overS_n {P : Params} {height width sign : Nat} {A B : List (List Nat)} {F : Addr} {k : Nat} {rest lg : List (Addr × Obj)} (h : OverS P height width sign A B F k rest height lg) : ∃ vs, lg = (F, lstO vs k) :: rest ∧ VAll P [] vs ((overRows height width sign A B).map fun r => V.str (txt r)) := by
  (first | (refine' ex_2_0 h ?_; (try clear h); intro vs e hv) | (refine' ex_1_1 h ?_; (try clear h); intro vs e hv) | (obtain ⟨vs, e, hv⟩ := h))
  rw [overP_n] at hv
  exact ⟨vs, e, hv⟩
theorem picS_n {P : Params} {ks : List PMk} {width height : Nat} {F c1 c2 : Addr} {o1 : Obj} {rest lg : List (Addr × Obj)} {v : Value} (h : PicS P ks width height F c1 c2 o1 rest ks.length v lg) : ∃ vs k o, lg = (F, lstO vs k) :: (c2, o) :: (c1, o1) :: rest ∧ VAll P [] vs ((picL width height ks).map fun r => V.str (txt r)) := by
  (first | (refine' ex_6_2 h ?_; (try clear h); intro t vs k o sv ob9; subst ob9; intro ob9; subst ob9; intro ho hv) | (refine' ex_4_4 h ?_; (try clear h); intro t vs k o sv ob9; subst ob9; intro ob9; subst ob9; intro ho hv) | (obtain ⟨t, vs, k, o, sv, rfl, rfl, ho, hv⟩ := h))
  rw [List.take_length] at hv
  exact ⟨vs, k, o, rfl, hv⟩
theorem r_mid {X ext r : List (Addr × Obj)} {q : Addr × Obj} (hq : q ∈ X) (h : ∀ p ∈ ext ++ r, p ∈ X) : ∀ p ∈ ext ++ q :: r, p ∈ X := by
  intro p hp
  rcases List.mem_append.mp hp with hp | hp
  · exact h p (List.mem_append_left _ hp)
  · rcases List.mem_cons.mp hp with rfl | hp
    · exact hq
    · exact h p (List.mem_append_right _ hp)
theorem off_head2 {av : List Addr} {a b : Addr} {o o' p p' : Obj} {r : List (Addr × Obj)} (h : Off av ((a, o) :: (b, p) :: r)) : Off av ((a, o') :: (b, p') :: r) := off_cons (h _ (.head _)) (off_cons (h _ (.tail _ (.head _))) (off_rest (off_rest h)))
theorem off_head {av : List Addr} {a : Addr} {o o' : Obj} {r : List (Addr × Obj)} (h : Off av ((a, o) :: r)) : Off av ((a, o') :: r) := off_cons (h _ (.head _)) (off_rest h)
section
variable {prog : Program} {w : World} {A : Around} {E : Value → Shared → Prop} {s : Shared} {h₀ h' : Heap} {L : Addr} {m m' : Str → Option Value} {env : Env} {body : List Stmt} {X ext : List (Addr × Obj)} {av : List Addr} {target : Expr} {Q : Flow → Shared → Prop}
theorem fend_y {S' : Value → List (Addr × Obj) → Prop} {x y : Str} {st : List Str} {v' : Value} {tk' : Nat} (lg' : List (Addr × Obj)) (F : Fr h₀ L h' m') (N : News h₀ L h' X) (R : ∀ p ∈ ext ++ lg', p ∈ X) (O : Off av lg') (hy : m' y = some v') (hS : S' v' lg') (hm : ∀ z, z ≠ x → z ≠ y → st.contains z = false → m' z = m z) :
    FEnd h₀ L ext av s (fun m' lg' => (∃ v', m' y = some v' ∧ S' v' lg') ∧ ∀ z, z ≠ x → z ≠ y → st.contains z = false → m' z = m z) { s with heap := h', toks := tk' } :=
  FEnd.intro lg' F (fun p hp => N p (R p hp)) O ⟨⟨v', hy, hS⟩, hm⟩
theorem fend_0 {S' : List (Addr × Obj) → Prop} {x : Str} {st : List Str} {tk' : Nat} (lg' : List (Addr × Obj)) (F : Fr h₀ L h' m') (N : News h₀ L h' X) (R : ∀ p ∈ ext ++ lg', p ∈ X) (O : Off av lg') (hS : S' lg') (hm : ∀ z, z ≠ x → st.contains z = false → m' z = m z) :
    FEnd h₀ L ext av s (fun m' lg' => S' lg' ∧ ∀ z, z ≠ x → st.contains z = false → m' z = m z) { s with heap := h', toks := tk' } :=
  FEnd.intro lg' F (fun p hp => N p (R p hp)) O ⟨hS, hm⟩
theorem fend_pic {P : Params} {ks : List PMk} {width height : Nat} {D c1 c2 : Addr} {o1 o oc od : Obj} {rest : List (Addr × Obj)} {t : Tok} {vs : List Value} {k i : Nat} {sv : Option Value} {km : PMk} {q : Q4} {c : Int} {x y : Str} {st : List Str} {tk' : Nat} (F : Fr h₀ L h' m') (N : News h₀ L h' X) (off : Off av ((D, od) :: (c2, oc) :: (c1, o1) :: rest)) (r1 : (D, lstO vs k) ∈ X) (r2 : (c2, o) ∈ X) (r3 : ∀ p ∈ ext ++ (c1, o1) :: rest, p ∈ X) (hy : m' y = some (.int c t)) (hk : ks[i]? = some km) (hf : km.fill = some q) (ho : o.data = .cell sv) (hc : c = ((picFold width height (ks.take i)).1 : Int) + 1)
    (h : VAll P [] vs ((overRows height width (signOf (picFold width height (ks.take i)).1) (clipRows height width (q.ras width height) km.clips) (picFold width height (ks.take i)).2).map fun r => V.str (txt r))) (hm : ∀ z, z ≠ x → z ≠ y → st.contains z = false → m' z = m z) :
    FEnd h₀ L ext av s (fun m' lg' => (∃ v', m' y = some v' ∧ PicS P ks width height D c1 c2 o1 rest (i + 1) v' lg') ∧ ∀ z, z ≠ x → z ≠ y → st.contains z = false → m' z = m z) { s with heap := h', toks := tk' } :=
  fend_y _ F N (r_mid r1 (r_mid r2 r3)) (off_head2 off) hy (picS_some hk hf ho hc h) hm
/-- a for over a tuple that turns one value y -/
theorem for_fold {P : Params} {ax : Addr} {its : List Value} {ds : List V} (y : Str) (st : List Str) (f : Nat → V) (B : List (Addr × Obj)) (y₀ : Value) (hB : ∀ q ∈ B, q ∈ X)
    (hh : A.handled = none) (hl : s.heap.IsTuple ax its.toArray) (hd : VAll P B its ds)
    (F : Fr h₀ env.locals s.heap m) (N : News h₀ env.locals s.heap X) (hy : m y = some y₀) (h0 : VIn P B y₀ (f 0))
    (turn : ∀ (i : Nat) (it : Value) (d : V) (u : Str → Option Value) (v : Value) (tl ext : List (Addr × Obj)) (av : List Addr) (h : Heap) (tk : Nat), ds[i]? = some d → VIn P (tl ++ B) it d → ApartP tl X → VIn P (tl ++ B) v (f i) →
      Fr h₀ env.locals h (fun z => if z = y then some v else if st.contains z then u z else m z) → News h₀ env.locals h (ext ++ (tl ++ X)) → Off av (tl ++ X) → HasAv ext av → ExtIn ext av [ax] →
      wpAny (model prog w) A (assign target env it) (fun _ s₃ => wpAny (model prog w) A (execs body env) (FPost h₀ env.locals ext av { s with heap := h, toks := tk } (fun m' lg' => (∃ v', m' y = some v' ∧ ∃ tl', lg' = tl' ++ X ∧ ApartP tl' X ∧ VIn P (tl' ++ B) v' (f (i + 1))) ∧ ∀ z, z ≠ y → st.contains z = false → m' z = m z) Q) E s₃) E { s with heap := h, toks := tk })
    (done : ∀ (h : Heap) (tk : Nat) (u : Str → Option Value) (v : Value) (tl : List (Addr × Obj)), ApartP tl X → VIn P (tl ++ B) v (f ds.length) → Fr h₀ env.locals h (fun z => if z = y then some v else if st.contains z then u z else m z) → News h₀ env.locals h (tl ++ X) → Q .next { s with heap := h, toks := tk }) :
    ForSrc prog w A h₀ env target body Q E (.ref ax) s := by
  refine for_tupleY y st (fun i v lg => ∃ tl, lg = tl ++ X ∧ ApartP tl X ∧ VIn P (tl ++ B) v (f i)) X y₀ hh hl F N (fun _ h => h) hy ⟨[], rfl, .nil, h0⟩ ?_ ?_
  · rintro i it u v lg ext av h tk hi ⟨tl, rfl, ap, hv⟩ F₁ N₁ h1 h2 h3
    (first | (refine' ex_2_0 (hd.get hi) ?_; intro d hdi hvd) | (refine' ex_1_1 (hd.get hi) ?_; intro d hdi hvd) | (obtain ⟨d, hdi, hvd⟩ := hd.get hi))
    exact turn i it d u v tl ext av h tk hdi (hvd.mono fun q hq => List.mem_append_right _ hq) ap hv F₁ N₁ h1 h2 h3
  · rintro h tk u v lg ⟨tl, rfl, ap, hv⟩ F₁ N₁
    rw [hd.length] at hv
    exact done h tk u v tl ap hv F₁ N₁
theorem fend_fold {P : Params} {B tl tl' X' : List (Addr × Obj)} {y : Str} {st : List Str} {v' : Value} {d : V} {tk' : Nat} (F : Fr h₀ L h' m') (N : News h₀ L h' X') (T : Tkn X' tl' (ext ++ (tl ++ X))) (O : Off av (tl' ++ (tl ++ X))) (ap : ApartP tl' X) (ap0 : ApartP tl X) (hy : m' y = some v') (hv : VIn P (tl' ++ (tl ++ B)) v' d) (hm : ∀ z, z ≠ y → st.contains z = false → m' z = m z) :
    FEnd h₀ L ext av s (fun m' lg' => (∃ v', m' y = some v' ∧ ∃ tl', lg' = tl' ++ X ∧ ApartP tl' X ∧ VIn P (tl' ++ B) v' d) ∧ ∀ z, z ≠ y → st.contains z = false → m' z = m z) { s with heap := h', toks := tk' } := by
  refine FEnd.intro (tl' ++ (tl ++ X)) F (fun p hp => N p (T p ?_)) O ⟨⟨v', hy, tl' ++ tl, by simp, ap.app ap0, by rw [List.append_assoc]; exact hv⟩, hm⟩
  rcases List.mem_append.mp hp with hp | hp
  · exact List.mem_append_right _ (List.mem_append_left _ hp)
  · rcases List.mem_append.mp hp with hp | hp
    · exact List.mem_append_left _ hp
    · exact List.mem_append_right _ (List.mem_append_right _ hp)
section
variable {scope : Scope} {cl : List (Str × Addr)} {elt : Expr} {Fin : Shared → List Value → List (Addr × Obj) → Prop} {x : Str} {px : Pos}
/-- a comprehension over a range, its elements at once -/
theorem cmp_rangeI {P : Params} {r : Addr} {a b c : Int} {t₀ u₀ v₀ : Tok} {n : Nat} (rest : List (Addr × Obj)) (f : Nat → V) (hh : A.handled = none) (hr : IsRange s.heap r a b c t₀ u₀ v₀) (hsm : Builtin.Range.small a b c = true) (hn : Builtin.Range.rangeSize a b c = ((n : Nat) : Int)) (hsz : n ≤ sizeLine)
    (hx : scope.names.lookup x = some .local) (hkind : scope.kind = .function) (F : Fr h₀ L s.heap m) (N : News h₀ L s.heap X) (hX : ∀ q ∈ rest, q ∈ X)
    (turn : ∀ (i : Nat) (t : Tok) (ys : List Value) C oC m₂ ext av h tk E', i < n → NsObj oC m₂ → m₂ x = some (.int (a + (i : Int) * c) t) → (C, oC) ∈ ext → Fr h₀ L h m → News h₀ L h (ext ++ rest) → Off av rest → HasAv ext av → ExtIn ext av [] →
      wpAny (model prog w) A (eval elt (compEnvC scope cl C env)) (fun y s'' => CEnd h₀ L m ext av { s with heap := h, toks := tk } (fun lg => lg = rest ∧ VIn P rest y (f i)) s'') E' { s with heap := h, toks := tk })
    (fin : ∀ g ys, VAll P rest ys ((List.range n).map f) → Fin { s with heap := g } ys rest) :
    CmpSrc prog w A h₀ L m env scope cl (.Name x px) [] elt Fin E (.ref r) s := by
  refine cmp_rangeS (fun i ys lg => lg = rest ∧ VAll P rest ys ((List.range i).map f)) rest hh hr hsm hn hsz hx hkind F N hX ⟨rfl, .nil⟩ ?_ ?_
  · rintro i t ys lg C oC m₂ ext av h tk E' hi ⟨rfl, hv⟩ hoC hxC hCe F N h1 h2 h3
    refine wpAny_mono (turn i t ys C oC m₂ ext av h tk E' hi hoC hxC hCe F N h1 h2 h3) (fun y s₅ h₅ => ?_) fun _ _ e => e
    (first | (refine' ex_6_2 h₅ ?_; (try clear h₅); intro h' tk' lg' e F' N' ha ob9; subst ob9; intro hvi) | (refine' ex_4_4 h₅ ?_; (try clear h₅); intro h' tk' lg' e F' N' ha ob9; subst ob9; intro hvi) | (obtain ⟨h', tk', lg', e, F', N', ha, rfl, hvi⟩ := h₅))
    refine ⟨h', tk', _, e, F', N', ha, rfl, ?_⟩
    rw [range_snoc]
    exact hv.snoc hvi
  · rintro g ys lg ⟨rfl, hv⟩
    exact fin g ys hv
end
end
end
theorem resetM1 : True := by w_top off; trivial
theorem linesM1 : True := by
  (k_with "x112" => skip)
  (k_with "x113" => skip)
  (k_with "x114" => skip)
  (k_with "x115" => skip)
  (k_with "x116" => skip)
  (k_with "x117" => skip)
  (k_with "x118" => skip)
  (k_with "x119" => skip)
  (k_with "x120" => skip)
  (k_with "x121" => skip)
  (k_with "x122" => skip)
  (k_with "x123" => skip)
  (k_with "x124" => skip)
  (k_with "x125" => skip)
  (k_with "x126" => skip)
  (k_with "x127" => skip)
  (k_with "x128" => skip)
  (k_with "x129" => skip)
  (k_with "x130" => skip)
  (k_with "x131" => skip)
  (k_with "x132" => skip)
  (k_with "x133" => skip)
  (k_with "x134" => skip)
  (k_with "x135" => skip)
  (k_with "x136" => skip)
  (k_with "x170" => skip)
  (k_with "x172" => skip)
  (k_with "x171" => skip)
  (k_with "k_room" => ((fail_if_success k_extra "x173"); (first | exact Nat.le_of_ble_eq_true rfl | k_extra "rk" | ((try simp only [units_under_make, depth_under_make, depth_under_kw, depth_in1, depth_deeper, depth_caller, units_in1, units_deeper, Around.mark_units, units_caller]); (try dsimp only [ktrTop, Around.deeper]); omega) | ((try simp +zetaDelta only [units_under_make, depth_under_make, depth_under_kw, depth_in1, depth_deeper, depth_caller, units_in1, units_deeper, Around.mark_units, units_caller]); (try dsimp +zetaDelta only [ktrTop, Around.deeper]); omega))))
  (k_with "w:call ref" => ((fail_if_success k_extra "x174"); ((k_here; (with_reducible show wpAny _ _ (PySem.call (Value.ref 173) [Value.int _ _]) _ _ _); k_dflt ((first | (refine' spUse (dof_int _ _) ?k1_144 ?k2_144 ?k3_144 ?k4_144 ?k5_144 ?k6_144 _ ?ks_144 ?pre_144 ?kd_144 ?ku_144 ?_; (case k1_144 => k_asm); (case k2_144 => k_asm); (case k3_144 => k_asm); (case k4_144 => k_asm); (case k5_144 => k_asm); (case k6_144 => first | exact rfl | assumption); (case ks_144 => exact sl_nil); (case pre_144 => ktn_no "VAll"); (case kd_144 => k_room); (case ku_144 => k_room); k_whole) | (refine' spUse (dof_int _ _) ?k1_144 ?k2_144 ?k3_144 ?k4_144 ?k5_144 ?k6_144 _ ?ks_144 ?pre_144 ?kd_144 ?ku_144 ?_; (case k1_144 => k_asm); (case k2_144 => k_asm); (case k3_144 => k_asm); (case k4_144 => k_asm); (case k5_144 => k_asm); (case k6_144 => first | exact rfl | assumption); (case ks_144 => ktn_no "Strip"); (case pre_144 => ktn_no "VAll"); (case kd_144 => k_room); (case ku_144 => k_room); k_whole)); intro r9 tl9 h9 tk9 lg9 li9 F9 N9 ne9 post9; refine VIn.op .lf post9 ?_; clear post9; intro a12n d13n t14n t15n t16n t17n ha18n hd19n hk20n; (try k_sweep); (try dsimp only); (try k_unmd); (try k_fold))))))
  trivial
section
set_option maxRecDepth 100000 in
set_option maxHeartbeats 8000000 in
theorem matr (w : World) (a b c d e f : Int) : Fn w 450 12 800 [.int a, .int b, .int c, .int d, .int e, .int f] (.mat a b c d e f) := by
  unfold Fn Sp
  k_fill
  intro dp un gd cn cs a' ccd cl outer A₀ base h₀ L m news imm s vs p' loose mean mg mb Q E B F X N T hk hsub hpre hd hu hret
  refine VAll.opr (.cons .lf (.cons .lf (.cons .lf (.cons .lf (.cons .lf (.cons .lf .nil)))))) hpre ?_; clear hpre; intro t3851n t3853n t3855n t3857n t3859n t3861n _; 
  k_dflt (refine' call_cls ?k1 ?k2 ?k3 ?k4 ?k5 ?k6 ?_; (case k1 => k_asm); (case k2 => k_asm); (case k3 => k_asm); (case k4 => k_is); (case k5 => k_is); (case k6 => k_is); k_whole; intro x' d' h' F' N' l1 l2; (try k_lt2 l2); (try k_sweep); ktr_enter)
  k_steps
  all_goals (refine' cls_finv hret ?f1 ?f2 ?f3 ?f4 ?f5; (case f1 => assumption); (case f2 => assumption); (case f3 => (repeat' (first | exact tkn_base | refine' tkn_cons ?_ | refine' tkn_app ?_))); (case f4 => (apply apart_of; intro qa9 qo9 hq9; ktn_no "AllNe")); (case f5 => ktn_no "VIn"))
end
theorem resetM2 : True := by w_top off; trivial
theorem linesM2 : True := by
  (k_with "x173" => skip)
  (k_with "w:subscriptTail Name Constant ref int" => ((fail_if_success k_extra "x175"); ((k_here; (with_reducible show wpAny _ _ (subscriptTail _ _ (Value.ref _) (Value.int _ _)) _ _ _); (k_extra "SubIdx")))))
  (k_with "w:subscriptTail Name UnaryOp ref int" => ((fail_if_success k_extra "x176"); ((k_here; (with_reducible show wpAny _ _ (subscriptTail _ _ (Value.ref _) (Value.int _ _)) _ _ _); (k_extra "SubIdx")))))
  (k_with "w:subscriptTail Name Name ref int" => ((fail_if_success k_extra "x177"); ((k_here; (with_reducible show wpAny _ _ (subscriptTail _ _ (Value.ref _) (Value.int _ _)) _ _ _); (k_extra "SubIdx")))))
  (k_with "w:subscriptTail Name BinOp ref int" => ((fail_if_success k_extra "x178"); ((k_here; (with_reducible show wpAny _ _ (subscriptTail _ _ (Value.ref _) (Value.int _ _)) _ _ _); (k_extra "SubIdx")))))
  (k_with "w:subscriptTail Subscript Name Constant Constant ref int" => ((fail_if_success k_extra "x179"); ((k_here; (with_reducible show wpAny _ _ (subscriptTail _ _ (Value.ref _) (Value.int _ _)) _ _ _); (k_extra "SubIdx")))))
  (k_with "w:subscriptTail Subscript Name Constant UnaryOp ref int" => ((fail_if_success k_extra "x180"); ((k_here; (with_reducible show wpAny _ _ (subscriptTail _ _ (Value.ref _) (Value.int _ _)) _ _ _); (k_extra "SubIdx")))))
  (k_with "w:subscriptTail Subscript Name Constant Name ref int" => ((fail_if_success k_extra "x181"); ((k_here; (with_reducible show wpAny _ _ (subscriptTail _ _ (Value.ref _) (Value.int _ _)) _ _ _); (k_extra "SubIdx")))))
  (k_with "w:subscriptTail Subscript Name Constant BinOp ref int" => ((fail_if_success k_extra "x182"); ((k_here; (with_reducible show wpAny _ _ (subscriptTail _ _ (Value.ref _) (Value.int _ _)) _ _ _); (k_extra "SubIdx")))))
  (k_with "w:subscriptTail Subscript Name UnaryOp Constant ref int" => ((fail_if_success k_extra "x183"); ((k_here; (with_reducible show wpAny _ _ (subscriptTail _ _ (Value.ref _) (Value.int _ _)) _ _ _); (k_extra "SubIdx")))))
  (k_with "w:subscriptTail Subscript Name UnaryOp UnaryOp ref int" => ((fail_if_success k_extra "x184"); ((k_here; (with_reducible show wpAny _ _ (subscriptTail _ _ (Value.ref _) (Value.int _ _)) _ _ _); (k_extra "SubIdx")))))
  (k_with "w:subscriptTail Subscript Name UnaryOp Name ref int" => ((fail_if_success k_extra "x185"); ((k_here; (with_reducible show wpAny _ _ (subscriptTail _ _ (Value.ref _) (Value.int _ _)) _ _ _); (k_extra "SubIdx")))))
  (k_with "w:subscriptTail Subscript Name UnaryOp BinOp ref int" => ((fail_if_success k_extra "x186"); ((k_here; (with_reducible show wpAny _ _ (subscriptTail _ _ (Value.ref _) (Value.int _ _)) _ _ _); (k_extra "SubIdx")))))
  (k_with "w:subscriptTail Subscript Name Name Constant ref int" => ((fail_if_success k_extra "x187"); ((k_here; (with_reducible show wpAny _ _ (subscriptTail _ _ (Value.ref _) (Value.int _ _)) _ _ _); (k_extra "SubIdx")))))
  (k_with "w:subscriptTail Subscript Name Name UnaryOp ref int" => ((fail_if_success k_extra "x188"); ((k_here; (with_reducible show wpAny _ _ (subscriptTail _ _ (Value.ref _) (Value.int _ _)) _ _ _); (k_extra "SubIdx")))))
  (k_with "w:subscriptTail Subscript Name Name Name ref int" => ((fail_if_success k_extra "x189"); ((k_here; (with_reducible show wpAny _ _ (subscriptTail _ _ (Value.ref _) (Value.int _ _)) _ _ _); (k_extra "SubIdx")))))
  (k_with "w:subscriptTail Subscript Name Name BinOp ref int" => ((fail_if_success k_extra "x190"); ((k_here; (with_reducible show wpAny _ _ (subscriptTail _ _ (Value.ref _) (Value.int _ _)) _ _ _); (k_extra "SubIdx")))))
  (k_with "w:subscriptTail Attribute Name Constant ref int" => ((fail_if_success k_extra "x191"); ((k_here; (with_reducible show wpAny _ _ (subscriptTail _ _ (Value.ref _) (Value.int _ _)) _ _ _); (k_extra "SubIdx")))))
  (k_with "w:subscriptTail Attribute Name UnaryOp ref int" => ((fail_if_success k_extra "x192"); ((k_here; (with_reducible show wpAny _ _ (subscriptTail _ _ (Value.ref _) (Value.int _ _)) _ _ _); (k_extra "SubIdx")))))
  (k_with "w:subscriptTail Attribute Name Name ref int" => ((fail_if_success k_extra "x193"); ((k_here; (with_reducible show wpAny _ _ (subscriptTail _ _ (Value.ref _) (Value.int _ _)) _ _ _); (k_extra "SubIdx")))))
  (k_with "w:subscriptTail Attribute Name BinOp ref int" => ((fail_if_success k_extra "x194"); ((k_here; (with_reducible show wpAny _ _ (subscriptTail _ _ (Value.ref _) (Value.int _ _)) _ _ _); (k_extra "SubIdx")))))
  (k_with "w:subscriptTail Subscript Attribute Name UnaryOp Constant ref int" => ((fail_if_success k_extra "x195"); ((k_here; (with_reducible show wpAny _ _ (subscriptTail _ _ (Value.ref _) (Value.int _ _)) _ _ _); (k_extra "SubIdx")))))
  (k_with "w:subscriptTail Subscript Attribute Name UnaryOp UnaryOp ref int" => ((fail_if_success k_extra "x196"); ((k_here; (with_reducible show wpAny _ _ (subscriptTail _ _ (Value.ref _) (Value.int _ _)) _ _ _); (k_extra "SubIdx")))))
  (k_with "w:subscriptTail Subscript Attribute Name UnaryOp Name ref int" => ((fail_if_success k_extra "x197"); ((k_here; (with_reducible show wpAny _ _ (subscriptTail _ _ (Value.ref _) (Value.int _ _)) _ _ _); (k_extra "SubIdx")))))
  (k_with "w:subscriptTail Subscript Attribute Name UnaryOp BinOp ref int" => ((fail_if_success k_extra "x198"); ((k_here; (with_reducible show wpAny _ _ (subscriptTail _ _ (Value.ref _) (Value.int _ _)) _ _ _); (k_extra "SubIdx")))))
  (k_with "SubIdx" => ((fail_if_success k_extra "x199"); (k_dflt (first
  | (refine' item_tupleT ?t_80 ?a_80 ?b_80 ?c_80 ?d_80 ?_; (case t_80 => exact News.isTup (by k_asm) (by ktn_no "Mem")); (case a_80 => decide); (case b_80 => decide); (case c_80 => rfl); (case d_80 => rfl); k_whole)
  | (refine' item_lst ?n_80 ?l_80 ?a_80 ?b_80 ?c_80 ?_ ?hs_80 ?hg_80; (case n_80 => k_asm); (case l_80 => ktn_no "Mem"); (case a_80 => first | decide | omega); (case b_80 => first | decide | omega); (case c_80 => rfl); (case hs_80 => with_unfolding_all rfl); (case hg_80 => intro _; with_unfolding_all rfl); k_whole)))))
  (k_with "w:subscriptTail" => ((fail_if_success k_extra "x200"); ((k_here; (with_reducible show wpAny _ _ (subscriptTail _ _ (Value.ref _) (Value.ref _)) _ _ _); (with_unfolding_all (first
  | (refine' slice_init ?sf_81 ?sn_81 ?st_81 ?ss_81 ?sg_81 ?_; (case sf_81 => k_asm); (case sn_81 => k_asm); (case st_81 => first | (refine' tup_of ?tn_81 ?th_81; (case tn_81 => k_asm); (case th_81 => k_mem)) | (refine' tup_K ?tf_81 ?tx_81 ?tl_81; (case tf_81 => k_asm); (case tx_81 => k_asm); (case tl_81 => k_is))); (case ss_81 => rfl); (case sg_81 => intro _; rfl); k_whole)
  | (refine' slice_tail ?sf_81 ?sn_81 ?st_81 ?sm_81 ?sz_81 ?ss_81 ?sg_81 ?_; (case sf_81 => k_asm); (case sn_81 => k_asm); (case st_81 => first | (refine' tup_of ?tn_81 ?th_81; (case tn_81 => k_asm); (case th_81 => k_mem)) | (refine' tup_K ?tf_81 ?tx_81 ?tl_81; (case tf_81 => k_asm); (case tx_81 => k_asm); (case tl_81 => k_is))); (case sm_81 => exact Nat.le_of_ble_eq_true rfl); (case sz_81 => exact Nat.le_of_ble_eq_true rfl); (case ss_81 => rfl); (case sg_81 => intro _; rfl); k_whole))); intro D' h' F' N' l1; (try simp only [List.drop_succ_cons, List.drop_zero] at N'); (try k_lt l1); (try k_sweep)))))
  (k_with "w:compareOp Eq ref ref" => ((fail_if_success k_extra "x201"); ((k_here; (with_reducible show wpAny _ _ (compareOp CmpOp.Eq (Value.ref _) (Value.ref _)) _ _ _); k_dflt (refine' eq_tup_nil ?qa_87 ?qb_87 ?qu_87 ?_; (case qb_87 => first | (refine' tup_of ?tn_87 ?th_87; (case tn_87 => k_asm); (case th_87 => k_mem)) | (refine' tup_K ?tf_87 ?tx_87 ?tl_87; (case tf_87 => k_asm); (case tx_87 => k_asm); (case tl_87 => k_is))); (case qa_87 => first | (refine' tup_of ?tn_87 ?th_87; (case tn_87 => k_asm); (case th_87 => k_mem)) | (refine' tup_K ?tf_87 ?tx_87 ?tl_87; (case tf_87 => k_asm); (case tx_87 => k_asm); (case tl_87 => k_is))); (case qu_87 => k_room); k_whole); (try simp only [List.size_toArray, List.length_cons, List.length_nil])))))
  (k_with "w:compareOp NotEq ref ref" => ((fail_if_success k_extra "x202"); ((k_here; (with_reducible show wpAny _ _ (compareOp CmpOp.NotEq (Value.ref _) (Value.ref _)) _ _ _); k_dflt (refine' ne_tup_nil ?qa_88 ?qb_88 ?qu_88 ?_; (case qb_88 => first | (refine' tup_of ?tn_88 ?th_88; (case tn_88 => k_asm); (case th_88 => k_mem)) | (refine' tup_K ?tf_88 ?tx_88 ?tl_88; (case tf_88 => k_asm); (case tx_88 => k_asm); (case tl_88 => k_is))); (case qa_88 => first | (refine' tup_of ?tn_88 ?th_88; (case tn_88 => k_asm); (case th_88 => k_mem)) | (refine' tup_K ?tf_88 ?tx_88 ?tl_88; (case tf_88 => k_asm); (case tx_88 => k_asm); (case tl_88 => k_is))); (case qu_88 => k_room); k_whole); (try simp only [List.size_toArray, List.length_cons, List.length_nil])))))
  (k_with "w:binaryOp Add ref ref" => ((fail_if_success k_extra "x203"); ((k_here; (with_reducible show wpAny _ _ (binaryOp _ (Value.ref _) (Value.ref _)) _ _ _); k_dflt (refine' add_tt ?af_89 ?an_89 ?apt_89 ?ab_89 ?av_89 ?aw_89 ?az_89 ?_; (case af_89 => k_asm); (case an_89 => k_asm); (case apt_89 => first | (refine' tup_of ?tn_89 ?th_89; (case tn_89 => k_asm); (case th_89 => k_mem)) | (refine' tup_K ?tf_89 ?tx_89 ?tl_89; (case tf_89 => k_asm); (case tx_89 => k_asm); (case tl_89 => k_is))); (case ab_89 => first | (refine' tup_of ?tn_89 ?th_89; (case tn_89 => k_asm); (case th_89 => k_mem)) | (refine' tup_K ?tf_89 ?tx_89 ?tl_89; (case tf_89 => k_asm); (case tx_89 => k_asm); (case tl_89 => k_is))); (case av_89 => exact List.cons_ne_nil _ _); (case aw_89 => exact List.cons_ne_nil _ _); (case az_89 => exact Nat.le_of_ble_eq_true rfl); k_whole); intro D' h' F' N' l1; (try simp only [List.cons_append, List.nil_append] at N'); (try k_lt l1); (try k_sweep)))))
  (k_with "w:binaryOp Add ref ref" => ((fail_if_success k_extra "x204"); ((k_here; (with_reducible show wpAny _ _ (binaryOp _ (Value.ref _) (Value.ref _)) _ _ _); k_dflt (refine' add_t0 ?af_90 ?an_90 ?apt_90 ?ab_90 ?av_90 ?az_90 ?_; (case af_90 => k_asm); (case an_90 => k_asm); (case apt_90 => first | (refine' tup_of ?tn_90 ?th_90; (case tn_90 => k_asm); (case th_90 => k_mem)) | (refine' tup_K ?tf_90 ?tx_90 ?tl_90; (case tf_90 => k_asm); (case tx_90 => k_asm); (case tl_90 => k_is))); (case ab_90 => first | (refine' tup_of ?tn_90 ?th_90; (case tn_90 => k_asm); (case th_90 => k_mem)) | (refine' tup_K ?tf_90 ?tx_90 ?tl_90; (case tf_90 => k_asm); (case tx_90 => k_asm); (case tl_90 => k_is))); (case av_90 => exact rfl); (case az_90 => exact Nat.le_of_ble_eq_true rfl); k_whole)))))
  (k_with "w:eval ListComp" => ((fail_if_success k_extra "x205"); ((k_here; k_dflt (refine' cmp_e ?cf_101 ?cl_101 ?cc_101 ?ck_101 ?cn_101 ?hs_101 ?_; (case cf_101 => k_asm); (case cl_101 => with_unfolding_all rfl); (case cc_101 => decide); (case ck_101 => exact rfl); (case cn_101 => decide); (case hs_101 => intro _; with_unfolding_all rfl); k_whole)))))
  (k_with "w:exec Assign cons ListComp" => ((fail_if_success k_extra "x206"); ((k_here; k_dflt (refine' cmp_a ?cf_102 ?ce_102 ?cw_102 ?cl_102 ?cc_102 ?ck_102 ?cn_102 ?cy_102 ?cp_102 ?hs_102 ?_; (case cf_102 => k_asm); (case ce_102 => exact rfl); (case cw_102 => with_unfolding_all rfl); (case cl_102 => with_unfolding_all rfl); (case cc_102 => decide); (case ck_102 => exact rfl); (case cn_102 => decide); (case cy_102 => exact rfl); (case cp_102 => exact rfl); (case hs_102 => intro _; with_unfolding_all rfl); k_whole)))))
  (k_with "w:CmpSrc" => ((fail_if_success k_extra "x207"); ((k_dflt (first
  | (refine' cmp_tuple_rest ?fh_103 ?fl_103 ?fz_103 ?fx_103 ?fk_103 ?ff_103 ?fn_103 ?_; (case fl_103 => first | (refine' tup_of ?tn_103 ?th_103; (case tn_103 => k_asm); (case th_103 => k_mem)) | (refine' tup_K ?tf_103 ?tx_103 ?tl_103; (case tf_103 => k_asm); (case tx_103 => k_asm); (case tl_103 => k_is))); (case fh_103 => exact rfl); (case fz_103 => exact Nat.le_of_ble_eq_true rfl); (case fx_103 => exact rfl); (case fk_103 => exact rfl); (case ff_103 => k_asm); (case fn_103 => k_asm); k_whole)
  | (refine' cmp_list_rest ?fh_103 ?fl_103 ?fz_103 ?fx_103 ?fk_103 ?ff_103 ?fn_103 ?_; (case fl_103 => (refine' lst_of ?tn_103 ?th_103; (case tn_103 => k_asm); (case th_103 => k_mem))); (case fh_103 => exact rfl); (case fz_103 => exact Nat.le_of_ble_eq_true rfl); (case fx_103 => exact rfl); (case fk_103 => exact rfl); (case ff_103 => k_asm); (case fn_103 => k_asm); k_whole)
  | (refine' cmp_tuple_restT ?fh_103 ?fl_103 ?fz_103 ?fx_103 ?fk_103 ?ff_103 ?fn_103 ?_; (case fl_103 => first | (refine' tup_of ?tn_103 ?th_103; (case tn_103 => k_asm); (case th_103 => k_mem)) | (refine' tup_K ?tf_103 ?tx_103 ?tl_103; (case tf_103 => k_asm); (case tx_103 => k_asm); (case tl_103 => k_is))); (case fh_103 => exact rfl); (case fz_103 => exact Nat.le_of_ble_eq_true rfl); (case fx_103 => exact rfl); (case fk_103 => exact rfl); (case ff_103 => k_asm); (case fn_103 => k_asm); k_whole)
  | (refine' cmp_list_restT ?fh_103 ?fl_103 ?fz_103 ?fx_103 ?fk_103 ?ff_103 ?fn_103 ?_; (case fl_103 => (refine' lst_of ?tn_103 ?th_103; (case tn_103 => k_asm); (case th_103 => k_mem))); (case fh_103 => exact rfl); (case fz_103 => exact Nat.le_of_ble_eq_true rfl); (case fx_103 => exact rfl); (case fk_103 => exact rfl); (case ff_103 => k_asm); (case fn_103 => k_asm); k_whole))))))
  (k_with "w:CRest" => ((fail_if_success k_extra "x208"); ((k_dflt (first
  | ((with_reducible show CRest _ _ _ _ _ _ _ _ _ _ _ _ _ _ (_ :: _) _ _); intro C9 oC9 m9 ext9 av9 h9 tk9 E9 hC9 hx9 hC9e F9 N9 off9 hav9 hex9; (try k_sweep); (try k_unmd); (try k_fold))
  | ((with_reducible show CRest _ _ _ _ _ _ _ _ _ _ _ _ _ _ [] _ _); intro g9))))))
  (k_with "w:CRestT" => ((fail_if_success k_extra "x209"); ((k_dflt (first
  | ((with_reducible show CRestT _ _ _ _ _ _ _ _ _ _ _ _ _ _ _ (_ :: _) _ _); intro C9 oC9 m9 ext9 av9 h9 tk9 E9 hC9 hx9 hC9e F9 N9 off9 hav9 hex9; (try k_sweep); (try k_unmd); (try k_fold))
  | ((with_reducible show CRestT _ _ _ _ _ _ _ _ _ _ _ _ _ _ _ [] _ _); intro g9))))))
  (k_with "w:CEnd" => ((fail_if_success k_extra "x210"); ((k_dflt (refine' cend_intro ?eF_106 ?eN_106 ?eR_106 ?eO_106 ?_; (case eF_106 => k_asm); (case eN_106 => k_asm); (case eR_106 => repeat' (first | exact rem_base | refine' rem_cons ?_ | refine' rem_app ?_)); (case eO_106 => ktn_no "Off"); k_whole)))))
  (k_with "w:FinE2" => ((fail_if_success k_extra "x211"); ((intro D9 h9 tk9 F9 N9 l9; (try k_sweep); (try simp only [List.nil_append, List.cons_append] at N9); (try dsimp only); (try k_unmd); (try k_fold)))))
  (k_with "w:FinA2" => ((fail_if_success k_extra "x212"); ((intro D9 h9 tk9 F9 N9 l9; (try k_sweep); (try simp only [List.nil_append, List.cons_append] at N9); (try dsimp only); (try k_unmd); (try k_fold)))))
  (k_with "x174" => skip)
  (k_with "w:call ref" => ((fail_if_success k_extra "x213"); ((k_here; (with_reducible show wpAny _ _ (PySem.call (Value.ref 138) _) _ _ _); k_dflt ((first | (refine' spUse (told _ _ _) ?k1_45 ?k2_45 ?k3_45 ?k4_45 ?k5_45 ?k6_45 _ ?ks_45 ?pre_45 ?kd_45 ?ku_45 ?_; (case k1_45 => k_asm); (case k2_45 => k_asm); (case k3_45 => k_asm); (case k4_45 => k_asm); (case k5_45 => k_asm); (case k6_45 => first | exact rfl | assumption); (case ks_45 => ktn_no "StripA"); (case pre_45 => ktn_no "VAll"); (case kd_45 => k_room); (case ku_45 => k_room); k_whole) | (refine' spUse (told _ _ _) ?k1_45 ?k2_45 ?k3_45 ?k4_45 ?k5_45 ?k6_45 _ ?ks_45 ?pre_45 ?kd_45 ?ku_45 ?_; (case k1_45 => k_asm); (case k2_45 => k_asm); (case k3_45 => k_asm); (case k4_45 => k_asm); (case k5_45 => k_asm); (case k6_45 => first | exact rfl | assumption); (case ks_45 => ktn_no "Strip"); (case pre_45 => ktn_no "VAll"); (case kd_45 => k_room); (case ku_45 => k_room); k_whole)); intro r9 tl9 h9 tk9 lg9 li9 F9 N9 ne9 post9; refine VIn.op (.seq (.cons .lf (.cons .lf .nil))) post9 ?_; clear post9; intro a33n k35n t50n t52n hm36n hk37n; (try k_sweep); (try dsimp only); (try k_unmd); (try k_fold))))))
  (k_with "w:call ref" => ((fail_if_success k_extra "x214"); ((k_here; (with_reducible show wpAny _ _ (PySem.call (Value.ref 442) _) _ _ _); k_dflt ((first | (refine' spUse (mparts _ _ _ _ _ _ _) ?k1_145 ?k2_145 ?k3_145 ?k4_145 ?k5_145 ?k6_145 _ ?ks_145 ?pre_145 ?kd_145 ?ku_145 ?_; (case k1_145 => k_asm); (case k2_145 => k_asm); (case k3_145 => k_asm); (case k4_145 => k_asm); (case k5_145 => k_asm); (case k6_145 => first | exact rfl | assumption); (case ks_145 => ktn_no "StripA"); (case pre_145 => ktn_no "VAll"); (case kd_145 => k_room); (case ku_145 => k_room); k_whole) | (refine' spUse (mparts _ _ _ _ _ _ _) ?k1_145 ?k2_145 ?k3_145 ?k4_145 ?k5_145 ?k6_145 _ ?ks_145 ?pre_145 ?kd_145 ?ku_145 ?_; (case k1_145 => k_asm); (case k2_145 => k_asm); (case k3_145 => k_asm); (case k4_145 => k_asm); (case k5_145 => k_asm); (case k6_145 => first | exact rfl | assumption); (case ks_145 => ktn_no "Strip"); (case pre_145 => ktn_no "VAll"); (case kd_145 => k_room); (case ku_145 => k_room); k_whole)); intro r9 tl9 h9 tk9 lg9 li9 F9 N9 ne9 post9; refine VIn.op (.seq (.cons .lf (.cons .lf (.cons .lf (.cons .lf (.cons .lf (.cons .lf .nil))))))) post9 ?_; clear post9; intro a3864n k3866n a3901n d3902n t3903n t3904n t3905n t3906n ha3907n hd3908n hk3909n a3911n d3912n t3913n t3914n t3915n t3916n ha3917n hd3918n hk3919n a3921n d3922n t3923n t3924n t3925n t3926n ha3927n hd3928n hk3929n a3931n d3932n t3933n t3934n t3935n t3936n ha3937n hd3938n hk3939n a3941n d3942n t3943n t3944n t3945n t3946n ha3947n hd3948n hk3949n a3951n d3952n t3953n t3954n t3955n t3956n ha3957n hd3958n hk3959n hm3867n hk3868n; (try k_sweep); (try dsimp only); (try k_unmd); (try k_fold))))))
  trivial
section
set_option maxRecDepth 100000 in
set_option maxHeartbeats 8000000 in
theorem mparts (w : World) (a b c d e f : Int) : Fn w 442 4 300 [.mat a b c d e f] (.lst [.dec a 0, .dec b 0, .dec c 0, .dec d 0, .dec e 0, .dec f 0]) := by
  unfold Fn Sp
  k_fill
  intro dp un gd cn cs a ccd cl outer A₀ base h₀ L m news imm s vs p' loose mean mg mb Q E B F X N T hk hsub hpre hd hu hret
  refine VAll.opr (.cons (.mt .lf) .nil) hpre ?_; clear hpre; intro x3973n d3974n t3981n t3982n t3983n t3984n t3985n t3986n a3991n d3992n t3993n t3994n t3995n t3996n ha3997n hd3998n hk3999n a4001n d4002n t4003n t4004n t4005n t4006n ha4007n hd4008n hk4009n a4011n d4012n t4013n t4014n t4015n t4016n ha4017n hd4018n hk4019n a4021n d4022n t4023n t4024n t4025n t4026n ha4027n hd4028n hk4029n a4031n d4032n t4033n t4034n t4035n t4036n ha4037n hd4038n hk4039n a4041n d4042n t4043n t4044n t4045n t4046n ha4047n hd4048n hk4049n ha3987n hd3988n hk3989n _; 
  refine wpAny_call ?_
  k_dflt (refine' code_defG ?k1 ?k2 ?k3 ?k4 ?k5 ?kA ?kF ?kK ?k6 ?k7 ?k8 ?k9 ?kB ?_ ?c2 ?c3 ?c4 ?c5; (case kA => exact rfl); (case kF => exact rfl); (case kK => assumption); (case k1 => exact B); (case k2 => exact F); (case k3 => exact X); (case k4 => exact news_sub N hsub); (case k5 => exact T); (case k6 => k_is); (case k7 => k_is); (case k8 => k_room); (case k9 => first | exact BindsTo.of_eq rfl | exact binds_K (by k_in) rfl (by k_is) rfl rfl rfl); (case c5 => decide); (case kB => exact locs rfl); (case c2 => exact rfl); (case c3 => exact rfl); (case c4 => exact rfl); k_whole; intro g' L' h' FG' F' N' B' X' T' kG; (try dsimp only); (try k_unmd); (try k_fold); (try (refine' aLet ?_; intro AL)))
  ((try k_unmd); (try k_fold); k_steps)
  all_goals exact Fn.fin kG N hsub hret (by assumption) (by assumption) (by assumption) (by assumption) (by (ktn_no "Sub")) (by ktn_no "VIn")
set_option maxRecDepth 100000 in
set_option maxHeartbeats 8000000 in
theorem mtold (w : World) (a b c d e f : Int) : Fn w 447 10 900 [.mat a b c d e f] (.tup [.tup [.int a, .int 0], .tup [.int b, .int 0], .tup [.int c, .int 0], .tup [.int d, .int 0], .tup [.int e, .int 0], .tup [.int f, .int 0]]) := by
  unfold Fn Sp
  k_fill
  intro dp un gd cn cs a ccd cl outer A₀ base h₀ L m news imm s vs p' loose mean mg mb Q E B F X N T hk hsub hpre hd hu hret
  refine VAll.opr (.cons (.mt .lf) .nil) hpre ?_; clear hpre; intro x4063n d4064n t4071n t4072n t4073n t4074n t4075n t4076n a4081n d4082n t4083n t4084n t4085n t4086n ha4087n hd4088n hk4089n a4091n d4092n t4093n t4094n t4095n t4096n ha4097n hd4098n hk4099n a4101n d4102n t4103n t4104n t4105n t4106n ha4107n hd4108n hk4109n a4111n d4112n t4113n t4114n t4115n t4116n ha4117n hd4118n hk4119n a4121n d4122n t4123n t4124n t4125n t4126n ha4127n hd4128n hk4129n a4131n d4132n t4133n t4134n t4135n t4136n ha4137n hd4138n hk4139n ha4077n hd4078n hk4079n _; 
  refine wpAny_call ?_
  k_dflt (refine' code_defG ?k1 ?k2 ?k3 ?k4 ?k5 ?kA ?kF ?kK ?k6 ?k7 ?k8 ?k9 ?kB ?_ ?c2 ?c3 ?c4 ?c5; (case kA => exact rfl); (case kF => exact rfl); (case kK => assumption); (case k1 => exact B); (case k2 => exact F); (case k3 => exact X); (case k4 => exact news_sub N hsub); (case k5 => exact T); (case k6 => k_is); (case k7 => k_is); (case k8 => k_room); (case k9 => first | exact BindsTo.of_eq rfl | exact binds_K (by k_in) rfl (by k_is) rfl rfl rfl); (case c5 => decide); (case kB => exact locs rfl); (case c2 => exact rfl); (case c3 => exact rfl); (case c4 => exact rfl); k_whole; intro g' L' h' FG' F' N' B' X' T' kG; (try dsimp only); (try k_unmd); (try k_fold); (try (refine' aLet ?_; intro AL)))
  ((try k_unmd); (try k_fold); k_steps)
  all_goals exact Fn.fin kG N hsub hret (by assumption) (by assumption) (by assumption) (by assumption) (by (ktn_no "Sub")) (by ktn_no "VIn")
end
theorem resetM3 : True := by w_top off; trivial
theorem linesM3 : True := by
  (k_with "x214" => skip)
  trivial
section
set_option maxRecDepth 100000 in
set_option maxHeartbeats 8000000 in
theorem tcolP (w : World) : Fn w 388 8 600 [.tup [.str (Str.ofString "Pattern"), .tup [.dec 5 1, .str (Str.ofString "P")]]] (.tup [.str (Str.ofString "Pattern"), .tup [.int 5, .int 1], .str (Str.ofString "P")]) := by
  unfold Fn Sp
  k_fill
  intro dp un gd cn cs a ccd cl outer A₀ base h₀ L m news imm s vs p' loose mean mg mb Q E B F X N T hk hsub hpre hd hu hret
  refine VAll.opr (.cons (.seq (.cons .lf (.cons (.seq (.cons .lf (.cons .lf .nil))) .nil))) .nil) hpre ?_; clear hpre; intro a4148n k4150n t4165n a4168n k4170n a4185n d4186n t4187n t4188n t4189n t4190n ha4191n hd4192n hk4193n t4195n hm4171n hk4172n hm4151n hk4152n _; 
  refine wpAny_call ?_
  k_dflt (refine' code_defG ?k1 ?k2 ?k3 ?k4 ?k5 ?kA ?kF ?kK ?k6 ?k7 ?k8 ?k9 ?kB ?_ ?c2 ?c3 ?c4 ?c5; (case kA => exact rfl); (case kF => exact rfl); (case kK => assumption); (case k1 => exact B); (case k2 => exact F); (case k3 => exact X); (case k4 => exact news_sub N hsub); (case k5 => exact T); (case k6 => k_is); (case k7 => k_is); (case k8 => k_room); (case k9 => first | exact BindsTo.of_eq rfl | exact binds_K (by k_in) rfl (by k_is) rfl rfl rfl); (case c5 => decide); (case kB => exact locs rfl); (case c2 => exact rfl); (case c3 => exact rfl); (case c4 => exact rfl); k_whole; intro g' L' h' FG' F' N' B' X' T' kG; (try dsimp only); (try k_unmd); (try k_fold); (try (refine' aLet ?_; intro AL)))
  ((try k_unmd); (try k_fold); k_steps)
  all_goals exact Fn.fin kG N hsub hret (by assumption) (by assumption) (by assumption) (by assumption) (by (ktn_no "Sub")) (by ktn_no "VIn")
set_option maxRecDepth 100000 in
set_option maxHeartbeats 8000000 in
theorem tcolG (w : World) : Fn w 388 8 600 [.tup [.str (Str.ofString "DeviceGray"), .tup [.dec 1 0]]] (.tup [.str (Str.ofString "DeviceGray"), .tup [.int 1, .int 0]]) := by
  unfold Fn Sp
  k_fill
  intro dp un gd cn cs a ccd cl outer A₀ base h₀ L m news imm s vs p' loose mean mg mb Q E B F X N T hk hsub hpre hd hu hret
  refine VAll.opr (.cons (.seq (.cons .lf (.cons (.seq (.cons .lf .nil)) .nil))) .nil) hpre ?_; clear hpre; intro a4204n k4206n t4221n a4224n k4226n a4236n d4237n t4238n t4239n t4240n t4241n ha4242n hd4243n hk4244n hm4227n hk4228n hm4207n hk4208n _; 
  refine wpAny_call ?_
  k_dflt (refine' code_defG ?k1 ?k2 ?k3 ?k4 ?k5 ?kA ?kF ?kK ?k6 ?k7 ?k8 ?k9 ?kB ?_ ?c2 ?c3 ?c4 ?c5; (case kA => exact rfl); (case kF => exact rfl); (case kK => assumption); (case k1 => exact B); (case k2 => exact F); (case k3 => exact X); (case k4 => exact news_sub N hsub); (case k5 => exact T); (case k6 => k_is); (case k7 => k_is); (case k8 => k_room); (case k9 => first | exact BindsTo.of_eq rfl | exact binds_K (by k_in) rfl (by k_is) rfl rfl rfl); (case c5 => decide); (case kB => exact locs rfl); (case c2 => exact rfl); (case c3 => exact rfl); (case c4 => exact rfl); k_whole; intro g' L' h' FG' F' N' B' X' T' kG; (try dsimp only); (try k_unmd); (try k_fold); (try (refine' aLet ?_; intro AL)))
  ((try k_unmd); (try k_fold); k_steps)
  all_goals exact Fn.fin kG N hsub hret (by assumption) (by assumption) (by assumption) (by assumption) (by (ktn_no "Sub")) (by ktn_no "VIn")
end
theorem resetH2 : True := by w_top off; trivial
theorem linesH2 : True := by
  (k_with "x200" => skip)
  (k_with "x201" => skip)
  (k_with "x202" => skip)
  (k_with "x203" => skip)
  (k_with "x204" => skip)
  (k_with "x205" => skip)
  (k_with "x206" => skip)
  (k_with "x207" => skip)
  (k_with "x208" => skip)
  (k_with "x209" => skip)
  (k_with "x210" => skip)
  (k_with "x211" => skip)
  (k_with "x212" => skip)
  (k_with "x213" => skip)
  (k_with "w:call ref" => ((fail_if_success k_extra "x215"); ((k_here; (with_reducible show wpAny _ _ (PySem.call (Value.ref 466) [Value.ref _, Value.int _ _]) _ _ _); k_dflt (refine' Sh.use (draw _ _ ?hm_146 _ ?hn_146) ?k1_146 ?k2_146 ?k3_146 ?k4_146 ?k5_146 ?k6_146 _ _ _ _ ?kp_146 ?kn_146 ?ks_146 ?pre_146 ?kd_146 ?ku_146 ?_; (case k1_146 => k_asm); (case k2_146 => k_asm); (case k3_146 => k_asm); (case k4_146 => k_asm); (case k5_146 => k_asm); (case k6_146 => first | exact rfl | assumption); (case kp_146 => k_extra "Pick"); (case kn_146 => ktn_no "AllNe"); (case ks_146 => exact sl_refl); (case pre_146 => refine draw_pre ?_; assumption); (case hm_146 => decide); (case hn_146 => omega); (case kd_146 => k_room); (case ku_146 => k_room); k_whole; intro r9 o9 tl9 h9 tk9 F9 N9 ne9 post9; (first | (refine' ex_3_1 post9 ?_; (try clear post9); intro pk9 x9 hv9 hx91 hx92) | (refine' ex_2_2 post9 ?_; (try clear post9); intro pk9 x9 hv9 hx91 hx92) | (obtain ⟨pk9, x9, hv9, hx91, hx92⟩ := post9)); refine VIn.op .lf hv9 ?_; clear hv9; intro t9; (try k_sweep); (try dsimp only); (try k_unmd); (try k_fold))))))
  trivial
section
set_option maxRecDepth 100000 in
set_option maxHeartbeats 8000000 in
theorem four (w : World) (n : Nat) (hn : n ≤ 900) : Sh w 473 8 600 (fun P o l vs => vs = [.ref P] ∧ PoolOk w.params n o l) (fun P o l r => PoolOk w.params (n + 4) o l ∧ ∃ q : Q4, VIn w.params l r q.four ∧ q.Good) := by
  unfold Sh
  k_fill
  intro dp un gd cn cs a ccd cl outer A₀ base h₀ L m P o rest imm s vs p' loose mean mg mb Q E B F X N hP T hk hsub0 hpre hd hu hret
  have hsub : ∀ q ∈ (P, o) :: imm, q ∈ (P, o) :: rest := sl_cons hsub0
  have hPi : ∀ p ∈ imm, p.1 ≠ P := fun p hp => hP p (hsub0 p hp)
  (first | (refine' ex_1_0 hpre ?_; (try clear hpre); intro ob9; subst ob9; intro hpl) | (obtain ⟨rfl, hpl⟩ := hpre))
  refine wpAny_call ?_
  k_dflt (refine' code_defG ?k1 ?k2 ?k3 ?k4 ?k5 ?kA ?kF ?kK ?k6 ?k7 ?k8 ?k9 ?kB ?_ ?c2 ?c3 ?c4 ?c5; (case kA => exact rfl); (case kF => exact rfl); (case kK => assumption); (case k1 => exact B); (case k2 => exact F); (case k3 => exact X); (case k4 => exact news_sub N hsub); (case k5 => exact T); (case k6 => k_is); (case k7 => k_is); (case k8 => k_room); (case k9 => first | exact BindsTo.of_eq rfl | exact binds_K (by k_in) rfl (by k_is) rfl rfl rfl); (case c5 => decide); (case kB => exact locs rfl); (case c2 => exact rfl); (case c3 => exact rfl); (case c4 => exact rfl); k_whole; intro g' L' h' FG' F' N' B' X' T' kG; (try dsimp only); (try k_unmd); (try k_fold); (try (refine' aLet ?_; intro AL)))
  ((try k_unmd); (try k_fold); k_steps)
  all_goals (refine' Sh.fin (Post := fun P o l r => PoolOk w.params (n + 4) o l ∧ ∃ q : Q4, VIn w.params l r q.four ∧ q.Good) kG N hP hsub0 hret ?f1 ?f2 ?f3 ?f4 ?f5 ?f6 ?f7 ?f8; (case f1 => assumption); (case f2 => assumption); (case f3 => assumption); (case f4 => assumption); (case f5 => k_extra "Pick"); (case f6 => ktn_no "AllNe"); (case f7 => ktn_no "Sub"); (case f8 => intro l hl; exact ⟨poolSub (by assumption) (by (intro q9 hq9; apply hl; revert q9 hq9; ktn_no "Sub")), four_good (VIn.mono (by ktn_no "VIn") hl) (by omega) (by omega) (by omega) (by omega)⟩))
end
theorem resetH3 : True := by w_top off; trivial
theorem linesH3 : True := by
  (k_with "x215" => skip)
  trivial
section
set_option maxRecDepth 100000 in
set_option maxHeartbeats 8000000 in
theorem holds (w : World) (q : Q4) (hq : q.Good) (c r : Int) : Fn w 480 4 300 [q.four, .int c, .int r] (.bool (q.hit c r)) := by
  unfold Fn Sp
  k_fill
  intro dp un gd cn cs a ccd cl outer A₀ base h₀ L m news imm s vs p' loose mean mg mb Q E B F X N T hk hsub hpre hd hu hret
  refine VAll.opr (.cons (.seq (.cons .lf (.cons .lf (.cons .lf (.cons .lf .nil))))) (.cons .lf (.cons .lf .nil))) hpre ?_; clear hpre; intro a3781n k3783n t3808n t3810n t3812n t3814n hm3784n hk3785n t3816n t3818n _; 
  refine wpAny_call ?_
  k_dflt (refine' code_defG ?k1 ?k2 ?k3 ?k4 ?k5 ?kA ?kF ?kK ?k6 ?k7 ?k8 ?k9 ?kB ?_ ?c2 ?c3 ?c4 ?c5; (case kA => exact rfl); (case kF => exact rfl); (case kK => assumption); (case k1 => exact B); (case k2 => exact F); (case k3 => exact X); (case k4 => exact news_sub N hsub); (case k5 => exact T); (case k6 => k_is); (case k7 => k_is); (case k8 => k_room); (case k9 => first | exact BindsTo.of_eq rfl | exact binds_K (by k_in) rfl (by k_is) rfl rfl rfl); (case c5 => decide); (case kB => exact locs rfl); (case c2 => exact rfl); (case c3 => exact rfl); (case c4 => exact rfl); k_whole; intro g' L' h' FG' F' N' B' X' T' kG; (try dsimp only); (try k_unmd); (try k_fold); (try (refine' aLet ?_; intro AL)))
  ((try k_unmd); (try k_fold); k_steps)
  all_goals exact Fn.fin kG N hsub hret (by assumption) (by assumption) (by assumption) (by assumption) (by (ktn_no "Sub")) (VIn.congr (VIn.bool _) (congrArg V.bool (hit_of (by constructor <;> intro h <;> simp only [decide_eq_true_eq] at * <;> omega))))
end
theorem resetN1 : True := by w_top off; trivial
theorem linesN1 : True := by
  (k_with "k_room" => ((fail_if_success k_extra "x216"); (first | exact Nat.le_of_ble_eq_true rfl | k_extra "rk" | ((try simp only [units_under_make, depth_under_make, depth_under_kw, depth_in1, depth_deeper, depth_caller, units_in1, units_deeper, Around.mark_units, units_caller]); (try dsimp only [ktrTop, Around.deeper]); omega) | ((try simp +zetaDelta only [units_under_make, depth_under_make, depth_under_kw, depth_in1, depth_deeper, depth_caller, units_in1, units_deeper, Around.mark_units, units_caller]); (try dsimp +zetaDelta only [ktrTop, Around.deeper]); omega))))
  (k_with "w:subscriptTail" => ((fail_if_success k_extra "x217"); ((k_here; (with_reducible show wpAny _ _ (subscriptTail _ _ (Value.ref _) (Value.ref _)) _ _ _); (with_unfolding_all (first
  | (refine' slice_init ?sf_81 ?sn_81 ?st_81 ?ss_81 ?sg_81 ?_; (case sf_81 => k_asm); (case sn_81 => k_asm); (case st_81 => first | (refine' tup_of ?tn_81 ?th_81; (case tn_81 => k_asm); (case th_81 => k_mem)) | (refine' tup_K ?tf_81 ?tx_81 ?tl_81; (case tf_81 => k_asm); (case tx_81 => k_asm); (case tl_81 => k_is))); (case ss_81 => rfl); (case sg_81 => intro _; rfl); k_whole)
  | (refine' slice_tail ?sf_81 ?sn_81 ?st_81 ?sm_81 ?sz_81 ?ss_81 ?sg_81 ?_; (case sf_81 => k_asm); (case sn_81 => k_asm); (case st_81 => first | (refine' tup_of ?tn_81 ?th_81; (case tn_81 => k_asm); (case th_81 => k_mem)) | (refine' tup_K ?tf_81 ?tx_81 ?tl_81; (case tf_81 => k_asm); (case tx_81 => k_asm); (case tl_81 => k_is))); (case sm_81 => exact Nat.le_of_ble_eq_true rfl); (case sz_81 => exact Nat.le_of_ble_eq_true rfl); (case ss_81 => rfl); (case sg_81 => intro _; rfl); k_whole))); intro D' h' F' N' l1; (try simp only [List.drop_succ_cons, List.drop_zero] at N'); (try k_lt l1); (try k_sweep)))))
  (k_with "w:compareOp Eq ref ref" => ((fail_if_success k_extra "x218"); ((k_here; (with_reducible show wpAny _ _ (compareOp CmpOp.Eq (Value.ref _) (Value.ref _)) _ _ _); k_dflt (refine' eq_tup_nil ?qa_87 ?qb_87 ?qu_87 ?_; (case qb_87 => first | (refine' tup_of ?tn_87 ?th_87; (case tn_87 => k_asm); (case th_87 => k_mem)) | (refine' tup_K ?tf_87 ?tx_87 ?tl_87; (case tf_87 => k_asm); (case tx_87 => k_asm); (case tl_87 => k_is))); (case qa_87 => first | (refine' tup_of ?tn_87 ?th_87; (case tn_87 => k_asm); (case th_87 => k_mem)) | (refine' tup_K ?tf_87 ?tx_87 ?tl_87; (case tf_87 => k_asm); (case tx_87 => k_asm); (case tl_87 => k_is))); (case qu_87 => k_room); k_whole); (try simp only [List.size_toArray, List.length_cons, List.length_nil])))))
  (k_with "w:compareOp NotEq ref ref" => ((fail_if_success k_extra "x219"); ((k_here; (with_reducible show wpAny _ _ (compareOp CmpOp.NotEq (Value.ref _) (Value.ref _)) _ _ _); k_dflt (refine' ne_tup_nil ?qa_88 ?qb_88 ?qu_88 ?_; (case qb_88 => first | (refine' tup_of ?tn_88 ?th_88; (case tn_88 => k_asm); (case th_88 => k_mem)) | (refine' tup_K ?tf_88 ?tx_88 ?tl_88; (case tf_88 => k_asm); (case tx_88 => k_asm); (case tl_88 => k_is))); (case qa_88 => first | (refine' tup_of ?tn_88 ?th_88; (case tn_88 => k_asm); (case th_88 => k_mem)) | (refine' tup_K ?tf_88 ?tx_88 ?tl_88; (case tf_88 => k_asm); (case tx_88 => k_asm); (case tl_88 => k_is))); (case qu_88 => k_room); k_whole); (try simp only [List.size_toArray, List.length_cons, List.length_nil])))))
  (k_with "w:binaryOp Add ref ref" => ((fail_if_success k_extra "x220"); ((k_here; (with_reducible show wpAny _ _ (binaryOp _ (Value.ref _) (Value.ref _)) _ _ _); k_dflt (refine' add_tt ?af_89 ?an_89 ?apt_89 ?ab_89 ?av_89 ?aw_89 ?az_89 ?_; (case af_89 => k_asm); (case an_89 => k_asm); (case apt_89 => first | (refine' tup_of ?tn_89 ?th_89; (case tn_89 => k_asm); (case th_89 => k_mem)) | (refine' tup_K ?tf_89 ?tx_89 ?tl_89; (case tf_89 => k_asm); (case tx_89 => k_asm); (case tl_89 => k_is))); (case ab_89 => first | (refine' tup_of ?tn_89 ?th_89; (case tn_89 => k_asm); (case th_89 => k_mem)) | (refine' tup_K ?tf_89 ?tx_89 ?tl_89; (case tf_89 => k_asm); (case tx_89 => k_asm); (case tl_89 => k_is))); (case av_89 => exact List.cons_ne_nil _ _); (case aw_89 => exact List.cons_ne_nil _ _); (case az_89 => exact Nat.le_of_ble_eq_true rfl); k_whole); intro D' h' F' N' l1; (try simp only [List.cons_append, List.nil_append] at N'); (try k_lt l1); (try k_sweep)))))
  (k_with "w:binaryOp Add ref ref" => ((fail_if_success k_extra "x221"); ((k_here; (with_reducible show wpAny _ _ (binaryOp _ (Value.ref _) (Value.ref _)) _ _ _); k_dflt (refine' add_t0 ?af_90 ?an_90 ?apt_90 ?ab_90 ?av_90 ?az_90 ?_; (case af_90 => k_asm); (case an_90 => k_asm); (case apt_90 => first | (refine' tup_of ?tn_90 ?th_90; (case tn_90 => k_asm); (case th_90 => k_mem)) | (refine' tup_K ?tf_90 ?tx_90 ?tl_90; (case tf_90 => k_asm); (case tx_90 => k_asm); (case tl_90 => k_is))); (case ab_90 => first | (refine' tup_of ?tn_90 ?th_90; (case tn_90 => k_asm); (case th_90 => k_mem)) | (refine' tup_K ?tf_90 ?tx_90 ?tl_90; (case tf_90 => k_asm); (case tx_90 => k_asm); (case tl_90 => k_is))); (case av_90 => exact rfl); (case az_90 => exact Nat.le_of_ble_eq_true rfl); k_whole)))))
  (k_with "w:binaryOp Add ref ref" => ((fail_if_success k_extra "x222"); ((k_here; (with_reducible show wpAny _ _ (binaryOp _ (Value.ref _) (Value.ref _)) _ _ _); k_dflt (refine' add_tn ?af_147 ?an_147 ?apt_147 ?ab_147 ?av_147 ?aw_147 ?az_147 ?_; (case af_147 => k_asm); (case an_147 => k_asm); (case apt_147 => first | (refine' tup_of ?tn_147 ?th_147; (case tn_147 => k_asm); (case th_147 => ktn_no "Mem")) | (refine' tup_K ?tf_147 ?tx_147 ?tl_147; (case tf_147 => k_asm); (case tx_147 => k_asm); (case tl_147 => k_is))); (case ab_147 => first | (refine' tup_of ?tn_147 ?th_147; (case tn_147 => k_asm); (case th_147 => ktn_no "Mem")) | (refine' tup_K ?tf_147 ?tx_147 ?tl_147; (case tf_147 => k_asm); (case tx_147 => k_asm); (case tl_147 => k_is))); (case av_147 => exact List.cons_ne_nil _ _); (case aw_147 => exact rfl); (case az_147 => exact Nat.le_of_ble_eq_true rfl); k_whole)))))
  (k_with "w:call type:tuple" => ((fail_if_success k_extra "x223"); ((k_here; (with_reducible show wpAny _ _ (call (Value.type _) [Value.ref _]) _ _ _); k_dflt (refine' tup_v ?af_148 ?an_148 ?am_148 ?av_148 ?az_148 ?_; (case af_148 => k_asm); (case an_148 => k_asm); (case am_148 => first | exact List.mem_cons_self | ktn_no "Mem"); (case av_148 => with_reducible assumption); (case az_148 => first | (simp only [List.length_map, List.length_range, List.length_cons, List.length_nil]; omega) | omega); k_whole); intro D' h' F' N' l1; (try k_lt l1); (try k_sweep)))))
  (k_with "w:ForSrc" => ((fail_if_success k_extra "x224"); ((k_dflt (first
  | (refine' for_tuple_rest ?fh_83 ?fl_83 ?ff_83 ?fn_83 ?_; (case fl_83 => first | (refine' tup_of ?tn_83 ?th_83; (case tn_83 => k_asm); (case th_83 => k_mem)) | (refine' tup_K ?tf_83 ?tx_83 ?tl_83; (case tf_83 => k_asm); (case tx_83 => k_asm); (case tl_83 => k_is))); (case fh_83 => exact rfl); (case ff_83 => k_asm); (case fn_83 => k_asm); k_whole)
  | (refine' for_list_rest ?fh_83 ?fl_83 ?ff_83 ?fn_83 ?_; (case fl_83 => (refine' lst_of ?tn_83 ?th_83; (case tn_83 => k_asm); (case th_83 => k_mem))); (case fh_83 => exact rfl); (case ff_83 => k_asm); (case fn_83 => k_asm); k_whole))))))
  (k_with "w:FRest" => ((fail_if_success k_extra "x225"); ((k_dflt (first
  | ((with_reducible show FRest _ _ _ _ _ _ _ _ _ _ _ (_ :: _) _ _); intro ext9 av9 h9 tk9 F9 N9 off9 hav9 hex9; (try k_sweep); (try k_unmd); (try k_fold))
  | ((with_reducible show FRest _ _ _ _ _ _ _ _ _ _ _ [] _ _); intro h9 tk9 F9 N9; (try k_sweep); (try dsimp only); (try k_unmd); (try k_fold)))))))
  (k_with "w:FPost" => ((fail_if_success k_extra "x226"); ((dsimp only [FPost]))))
  (k_with "w:FEnd" => ((fail_if_success k_extra "x227"); ((k_dflt (refine' fend_intro ?eF_86 ?eN_86 ?eR_86 ?eO_86 ?_; (case eF_86 => k_asm); (case eN_86 => k_asm); (case eR_86 => repeat' (first | exact rem_base | refine' rem_cons ?_ | refine' rem_app ?_)); (case eO_86 => ktn_no "Off"); k_whole)))))
  (k_with "w:exec For Name Attribute cons nil" => ((fail_if_success k_extra "x228"); ((k_here; k_dflt (refine' for_src ?ff_99 ?_ ?hs_99 ?hE_99; (case ff_99 => k_asm); (case hs_99 => intro _; with_unfolding_all rfl); (case hE_99 => passes_own); k_whole)))))
  (k_with "w:exec For Name Name cons nil" => ((fail_if_success k_extra "x229"); ((k_here; k_dflt (refine' for_src ?ff_97 ?_ ?hs_97 ?hE_97; (case ff_97 => k_asm); (case hs_97 => intro _; with_unfolding_all rfl); (case hE_97 => passes_own); k_whole)))))
  (k_with "w:eval ListComp" => ((fail_if_success k_extra "x230"); ((k_here; k_dflt (refine' cmp_e ?cf_101 ?cl_101 ?cc_101 ?ck_101 ?cn_101 ?hs_101 ?_; (case cf_101 => k_asm); (case cl_101 => with_unfolding_all rfl); (case cc_101 => decide); (case ck_101 => exact rfl); (case cn_101 => decide); (case hs_101 => intro _; with_unfolding_all rfl); k_whole)))))
  (k_with "w:exec Assign cons ListComp" => ((fail_if_success k_extra "x231"); ((k_here; k_dflt (refine' cmp_a ?cf_102 ?ce_102 ?cw_102 ?cl_102 ?cc_102 ?ck_102 ?cn_102 ?cy_102 ?cp_102 ?hs_102 ?_; (case cf_102 => k_asm); (case ce_102 => exact rfl); (case cw_102 => with_unfolding_all rfl); (case cl_102 => with_unfolding_all rfl); (case cc_102 => decide); (case ck_102 => exact rfl); (case cn_102 => decide); (case cy_102 => exact rfl); (case cp_102 => exact rfl); (case hs_102 => intro _; with_unfolding_all rfl); k_whole)))))
  (k_with "w:CmpSrc" => ((fail_if_success k_extra "x232"); (((have hun9 : Unroll := by with_reducible assumption); clear hun9; k_dflt (first
  | (refine' cmp_tuple_rest ?fh_149 ?fl_149 ?fz_149 ?fx_149 ?fk_149 ?ff_149 ?fn_149 ?_; (case fl_149 => first | (refine' tup_of ?tn_149 ?th_149; (case tn_149 => k_asm); (case th_149 => k_mem)) | (refine' tup_K ?tf_149 ?tx_149 ?tl_149; (case tf_149 => k_asm); (case tx_149 => k_asm); (case tl_149 => k_is))); (case fh_149 => exact rfl); (case fz_149 => exact Nat.le_of_ble_eq_true rfl); (case fx_149 => exact rfl); (case fk_149 => exact rfl); (case ff_149 => k_asm); (case fn_149 => k_asm); k_whole)
  | (refine' cmp_list_rest ?fh_149 ?fl_149 ?fz_149 ?fx_149 ?fk_149 ?ff_149 ?fn_149 ?_; (case fl_149 => (refine' lst_of ?tn_149 ?th_149; (case tn_149 => k_asm); (case th_149 => k_mem))); (case fh_149 => exact rfl); (case fz_149 => exact Nat.le_of_ble_eq_true rfl); (case fx_149 => exact rfl); (case fk_149 => exact rfl); (case ff_149 => k_asm); (case fn_149 => k_asm); k_whole)
  | (refine' cmp_tuple_restT ?fh_149 ?fl_149 ?fz_149 ?fx_149 ?fk_149 ?ff_149 ?fn_149 ?_; (case fl_149 => first | (refine' tup_of ?tn_149 ?th_149; (case tn_149 => k_asm); (case th_149 => k_mem)) | (refine' tup_K ?tf_149 ?tx_149 ?tl_149; (case tf_149 => k_asm); (case tx_149 => k_asm); (case tl_149 => k_is))); (case fh_149 => exact rfl); (case fz_149 => exact Nat.le_of_ble_eq_true rfl); (case fx_149 => exact rfl); (case fk_149 => exact rfl); (case ff_149 => k_asm); (case fn_149 => k_asm); k_whole)
  | (refine' cmp_list_restT ?fh_149 ?fl_149 ?fz_149 ?fx_149 ?fk_149 ?ff_149 ?fn_149 ?_; (case fl_149 => (refine' lst_of ?tn_149 ?th_149; (case tn_149 => k_asm); (case th_149 => k_mem))); (case fh_149 => exact rfl); (case fz_149 => exact Nat.le_of_ble_eq_true rfl); (case fx_149 => exact rfl); (case fk_149 => exact rfl); (case ff_149 => k_asm); (case fn_149 => k_asm); k_whole))))))
  (k_with "w:CRest" => ((fail_if_success k_extra "x233"); ((k_dflt (first
  | ((with_reducible show CRest _ _ _ _ _ _ _ _ _ _ _ _ _ _ (_ :: _) _ _); intro C9 oC9 m9 ext9 av9 h9 tk9 E9 hC9 hx9 hC9e F9 N9 off9 hav9 hex9; (try k_sweep); (try k_unmd); (try k_fold))
  | ((with_reducible show CRest _ _ _ _ _ _ _ _ _ _ _ _ _ _ [] _ _); intro g9))))))
  (k_with "w:CRestT" => ((fail_if_success k_extra "x234"); ((k_dflt (first
  | ((with_reducible show CRestT _ _ _ _ _ _ _ _ _ _ _ _ _ _ _ (_ :: _) _ _); intro C9 oC9 m9 ext9 av9 h9 tk9 E9 hC9 hx9 hC9e F9 N9 off9 hav9 hex9; (try k_sweep); (try k_unmd); (try k_fold))
  | ((with_reducible show CRestT _ _ _ _ _ _ _ _ _ _ _ _ _ _ _ [] _ _); intro g9))))))
  (k_with "w:CEnd" => ((fail_if_success k_extra "x235"); ((k_dflt (refine' cend_intro ?eF_106 ?eN_106 ?eR_106 ?eO_106 ?_; (case eF_106 => k_asm); (case eN_106 => k_asm); (case eR_106 => repeat' (first | exact rem_base | refine' rem_cons ?_ | refine' rem_app ?_)); (case eO_106 => ktn_no "Off"); k_whole)))))
  (k_with "w:CEnd" => ((fail_if_success k_extra "x236"); ((k_dflt (refine' cend_map ?eF_150 ?eN_150 ?eT_150 ?eO_150 ?eA_150 ?eV_150; (case eF_150 => k_asm); (case eN_150 => k_asm); (case eT_150 => (repeat' (first | exact tkn_base | refine' tkn_cons ?_ | refine' tkn_app ?_))); (case eO_150 => ((try simp only [List.cons_append, List.append_assoc, List.nil_append, List.append_nil]); ktn_no "Off")); (case eA_150 => (apply apart_of; intro qa9 qo9 hq9; ktn_no "AllNe")); (case eV_150 => ((try simp only [List.cons_append, List.append_assoc, List.nil_append, List.append_nil]); ktn_no "VIn")))))))
  (k_with "w:FinE2" => ((fail_if_success k_extra "x237"); ((intro D9 h9 tk9 F9 N9 l9; (try k_sweep); (try simp only [List.nil_append, List.cons_append] at N9); (try dsimp only); (try k_unmd); (try k_fold)))))
  (k_with "w:FinA2" => ((fail_if_success k_extra "x238"); ((intro D9 h9 tk9 F9 N9 l9; (try k_sweep); (try simp only [List.nil_append, List.cons_append] at N9); (try dsimp only); (try k_unmd); (try k_fold)))))
  (k_with "w:call ref" => ((fail_if_success k_extra "x239"); ((k_here; (with_reducible show wpAny _ _ (PySem.call (Value.ref 138) _) _ _ _); k_dflt ((first | (refine' spUse (told _ _ _) ?k1_45 ?k2_45 ?k3_45 ?k4_45 ?k5_45 ?k6_45 _ ?ks_45 ?pre_45 ?kd_45 ?ku_45 ?_; (case k1_45 => k_asm); (case k2_45 => k_asm); (case k3_45 => k_asm); (case k4_45 => k_asm); (case k5_45 => k_asm); (case k6_45 => first | exact rfl | assumption); (case ks_45 => ktn_no "StripA"); (case pre_45 => ktn_no "VAll"); (case kd_45 => k_room); (case ku_45 => k_room); k_whole) | (refine' spUse (told _ _ _) ?k1_45 ?k2_45 ?k3_45 ?k4_45 ?k5_45 ?k6_45 _ ?ks_45 ?pre_45 ?kd_45 ?ku_45 ?_; (case k1_45 => k_asm); (case k2_45 => k_asm); (case k3_45 => k_asm); (case k4_45 => k_asm); (case k5_45 => k_asm); (case k6_45 => first | exact rfl | assumption); (case ks_45 => ktn_no "Strip"); (case pre_45 => ktn_no "VAll"); (case kd_45 => k_room); (case ku_45 => k_room); k_whole)); intro r9 tl9 h9 tk9 lg9 li9 F9 N9 ne9 post9; refine VIn.op (.seq (.cons .lf (.cons .lf .nil))) post9 ?_; clear post9; intro a33n k35n t50n t52n hm36n hk37n; (try k_sweep); (try dsimp only); (try k_unmd); (try k_fold))))))
  trivial
section
theorem toldv_at {P : Params} {l : List (Addr × Obj)} {D D1 : Addr} {k k1 : Nat} {ys : List Value} {x y wd ht : Int} (m1 : (D, tupO [.ref D1] k) ∈ l) (m2 : (D1, tupO ys k1) ∈ l) (v : VAll P l ys [.tup [.str (Str.ofString "move"), .tup [.tup [.int x, .int 0], .tup [.int y, .int 0]]], .tup [.str (Str.ofString "line"), .tup [.tup [.int (x + wd), .int 0], .tup [.int y, .int 0]]], .tup [.str (Str.ofString "line"), .tup [.tup [.int (x + wd), .int 0], .tup [.int (y + ht), .int 0]]], .tup [.str (Str.ofString "line"), .tup [.tup [.int x, .int 0], .tup [.int (y + ht), .int 0]]], .tup [.str (Str.ofString "close")]]) : VIn P l (.ref D) (toldV x y wd ht) := .tup m1 (.cons (.tup m2 v) .nil)
theorem apart_to {a b : List (Addr × Obj)} (h : ApartP a b) : ∀ q ∈ b, ∀ p ∈ a, p.1 ≠ q.1 := h
theorem toldv_part {P : Params} {l : List (Addr × Obj)} {ys : List Value} {x y wd ht : Int} (h : VAll P l ys ((List.range 5).map fun i => [.tup [.str (Str.ofString "move"), .tup [.tup [.int x, .int 0], .tup [.int y, .int 0]]], .tup [.str (Str.ofString "line"), .tup [.tup [.int (x + wd), .int 0], .tup [.int y, .int 0]]], .tup [.str (Str.ofString "line"), .tup [.tup [.int (x + wd), .int 0], .tup [.int (y + ht), .int 0]]], .tup [.str (Str.ofString "line"), .tup [.tup [.int x, .int 0], .tup [.int (y + ht), .int 0]]], .tup [.str (Str.ofString "close")]].getD i V.none)) : VAll P l ys [.tup [.str (Str.ofString "move"), .tup [.tup [.int x, .int 0], .tup [.int y, .int 0]]], .tup [.str (Str.ofString "line"), .tup [.tup [.int (x + wd), .int 0], .tup [.int y, .int 0]]], .tup [.str (Str.ofString "line"), .tup [.tup [.int (x + wd), .int 0], .tup [.int (y + ht), .int 0]]], .tup [.str (Str.ofString "line"), .tup [.tup [.int x, .int 0], .tup [.int (y + ht), .int 0]]], .tup [.str (Str.ofString "close")]] := h
theorem add_tn {prog : Program} {w : World} {A : Around} {E : Value → Shared → Prop} {s : Shared} {h₀ : Heap} {L : Addr} {news : List (Addr × Obj)} {t b : Addr} {xs ys : List Value} {m : Str → Option Value} {Q : Value → Shared → Prop} (F : Fr h₀ L s.heap m) (N : News h₀ L s.heap news) (ht : s.heap.IsTuple t xs.toArray) (hb : s.heap.IsTuple b ys.toArray) (hv : xs ≠ []) (hw : ys = []) (hz : xs.length + ys.length ≤ 16384)
    (h : Q (.ref t) s) : wpAny (model prog w) A (binaryOp .Add (.ref t) (.ref b)) Q E s :=
  add_tuples F N ht hb (fun q => absurd q hv) (fun _ _ => h) (fun _ q => absurd hw q) (by rw [sizeLine_eq]; omega)
theorem tup_v {prog : Program} {w : World} {A : Around} {E : Value → Shared → Prop} {s : Shared} {h₀ : Heap} {L : Addr} {news : List (Addr × Obj)} {l : Addr} {vs : List Value} {k : Nat} {ds : List V} {P : Params} {lv : List (Addr × Obj)} {m : Str → Option Value} {Q : Value → Shared → Prop} (F : Fr h₀ L s.heap m) (N : News h₀ L s.heap news) (hm : (l, lstO vs k) ∈ news) (hv : VAll P lv vs ds) (hz : ds.length ≤ 16384)
    (h : ∀ D h', Fr h₀ L h' m → News h₀ L h' ((D, tupO vs 0) :: news) → (∀ p ∈ news, p.1 < D) → Q (.ref D) { s with heap := h' }) : wpAny (model prog w) A (call (.type "tuple") [.ref l]) Q E s :=
  kde_tupleOf F N (lst_of N hm) (by rw [List.size_toArray, hv.length]; exact hz) rfl h
set_option maxRecDepth 100000 in
set_option maxHeartbeats 8000000 in
theorem toldp0 (w : World) (x y wd ht : Int) : Sc w 286 40 3000 (fun P o l vs => P = 281 ∧ o = tabObj #[] ∧ VAll w.params l vs [rectV x y wd ht]) (fun P o l r => TabOk 136 28 (Str.ofString "told_path.<locals>.<lambda>") o l ∧ VIn w.params l r (toldV x y wd ht)) := by
  unfold Sc
  k_fill
  intro dp un gd cn cs a ccd cl outer A₀ base h₀ L m P o rest imm s vs p' loose mean mg mb Q E CH B F X N hP T hk hsub0 hpre hd hu hret
  have hsub : ∀ q ∈ (P, o) :: imm, q ∈ (P, o) :: rest := sl_cons hsub0
  have hPi : ∀ p ∈ imm, p.1 ≠ P := fun p hp => hP p (hsub0 p hp)
  (first | (refine' ex_2_0 hpre ?_; (try clear hpre); intro ob9; subst ob9; intro ob9; subst ob9; intro hpre) | (refine' ex_1_1 hpre ?_; (try clear hpre); intro ob9; subst ob9; intro ob9; subst ob9; intro hpre) | (obtain ⟨rfl, rfl, hpre⟩ := hpre))
  refine VAll.opr (.cons (.pth (.seq (.cons (.seq .rest) .nil))) .nil) hpre ?_; clear hpre; intro a4326n d4327n t4329n a4335n k4337n a4347n k4349n vs4348n hal4352n hm4350n hk4351n hm4338n hk4339n ha4330n hd4331n hk4332n _; 
  refine wpAny_call ?_
  k_dflt (refine' code_defG ?k1 ?k2 ?k3 ?k4 ?k5 ?kA ?kF ?kK ?k6 ?k7 ?k8 ?k9 ?kB ?_ ?c2 ?c3 ?c4 ?c5; (case kA => exact rfl); (case kF => exact rfl); (case kK => assumption); (case k1 => exact B); (case k2 => exact F); (case k3 => exact X); (case k4 => exact news_sub N hsub); (case k5 => exact T); (case k6 => k_is); (case k7 => k_is); (case k8 => k_room); (case k9 => first | exact BindsTo.of_eq rfl | exact binds_K (by k_in) rfl (by k_is) rfl rfl rfl); (case c5 => decide); (case kB => exact locs rfl); (case c2 => exact rfl); (case c3 => exact rfl); (case c4 => exact rfl); k_whole; intro g' L' h' FG' F' N' B' X' T' kG; (try dsimp only); (try k_unmd); (try k_fold); (try (refine' aLet ?_; intro AL)))
  ((try k_unmd); (try k_fold); k_steps)
  refine' cmp_mapt (P := w.params) [] (fun i => [.tup [.str (Str.ofString "move"), .tup [.tup [.int x, .int 0], .tup [.int y, .int 0]]], .tup [.str (Str.ofString "line"), .tup [.tup [.int (x + wd), .int 0], .tup [.int y, .int 0]]], .tup [.str (Str.ofString "line"), .tup [.tup [.int (x + wd), .int 0], .tup [.int (y + ht), .int 0]]], .tup [.str (Str.ofString "line"), .tup [.tup [.int x, .int 0], .tup [.int (y + ht), .int 0]]], .tup [.str (Str.ofString "close")]].getD i V.none) ?fh ?fl ?fd ?fz ?fx ?fk ?ff ?fn ?turn ?fin
  (case fh => exact rfl)
  (case ff => k_asm)
  (case fn => k_asm)
  (case fl => (first | (refine' tup_of ?tn ?th; (case tn => k_asm); (case th => ktn_no "Mem")) | (refine' tup_K ?tf ?tx ?tl; (case tf => k_asm); (case tx => k_asm); (case tl => k_is))))
  (case fx => exact rfl)
  (case fk => exact rfl)
  (case fd => exact VAll.mono (by assumption) (by ktn_no "Sub"))
  (case fz => exact Nat.le_trans (by first | omega | (rw [VAll.length (by assumption)]; simp only [List.length_cons, List.length_nil]; omega) : _ ≤ 1000) (by decide))
  (case turn =>
    intro i v d ys tl C oC m2 ext av h tk E' hdi hvd ap hoC hxC hCe F N off hav hex
    rcases seg_get hdi with ⟨nm, a9, b9, rfl, hf⟩ | ⟨rfl, hf⟩
    all_goals rw [hf]
    all_goals clear hf hdi
    · revert hxC; refine VIn.op (.seq (.cons .lf (.cons (.seq (.cons .lf (.cons .lf .nil))) .nil))) hvd ?_; clear hvd; intro a4247n k4249n t4264n a4267n k4269n a4284n d4285n t4286n t4287n t4288n t4289n ha4290n hd4291n hk4292n a4294n d4295n t4296n t4297n t4298n t4299n ha4300n hd4301n hk4302n hm4270n hk4271n hm4250n hk4251n hxC; 
      have hun : Unroll := trivial
      ((try k_unmd); (try k_fold); k_steps)
    · revert hxC; refine VIn.op (.seq (.cons .lf .nil)) hvd ?_; clear hvd; intro a4305n k4307n t4317n hm4308n hk4309n hxC; 
      have hun : Unroll := trivial
      ((try k_unmd); (try k_fold); k_steps))
  (case fin =>
    intro g ys tl ap hv
    simp only [List.append_nil] at hv
    replace hv := toldv_part hv
    have ap9 := apart_to ap
    ((try k_unmd); (try k_fold); k_steps)
    all_goals (refine' Sh.fin (Post := fun P o l r => TabOk 136 28 (Str.ofString "told_path.<locals>.<lambda>") o l ∧ VIn w.params l r (toldV x y wd ht)) kG N hP hsub0 hret ?f1 ?f2 ?f3 ?f4 ?f5 ?f6 ?f7 ?f8; (case f1 => assumption); (case f2 => assumption); (case f3 => assumption); (case f4 => assumption); (case f5 => k_extra "Pick"); (case f6 => ktn_no "AllNe"); (case f7 => ktn_no "Sub"); (case f8 => intro l hl; exact ⟨.inr ⟨_, _, _, _, rfl, hl _ (by ktn_no "Mem"), by assumption, by assumption⟩, VIn.mono (toldv_at (by ktn_no "Mem") (by ktn_no "Mem") (VAll.mono (by with_reducible assumption) (by ktn_no "Sub"))) hl⟩)))
end
theorem resetN1b : True := by w_top off; trivial
section
set_option maxRecDepth 100000 in
set_option maxHeartbeats 8000000 in
theorem toldp1 (w : World) (x y wd ht : Int) : Sc w 286 40 3000 (fun P o l vs => P = 281 ∧ (∃ c' oc vs t, o = tabObj #[rawInt 136, rawInt 28, .ref c'] ∧ (c', oc) ∈ l ∧ oc.data = .fields vs ∧ vs[1]? = some (.str (Str.ofString "told_path.<locals>.<lambda>") t)) ∧ VAll w.params l vs [rectV x y wd ht]) (fun P o l r => TabOk 136 28 (Str.ofString "told_path.<locals>.<lambda>") o l ∧ VIn w.params l r (toldV x y wd ht)) := by
  unfold Sc
  k_fill
  intro dp un gd cn cs a ccd cl outer A₀ base h₀ L m P o rest imm s vs p' loose mean mg mb Q E CH B F X N hP T hk hsub0 hpre hd hu hret
  have hsub : ∀ q ∈ (P, o) :: imm, q ∈ (P, o) :: rest := sl_cons hsub0
  have hPi : ∀ p ∈ imm, p.1 ≠ P := fun p hp => hP p (hsub0 p hp)
  obtain ⟨rfl, ⟨c7, oc7, vs7, t7, rfl, hc7, hd7, he7⟩, hpre⟩ := hpre
  refine VAll.opr (.cons (.pth (.seq (.cons (.seq .rest) .nil))) .nil) hpre ?_; clear hpre; intro a4361n d4362n t4364n a4370n k4372n a4382n k4384n vs4383n hal4387n hm4385n hk4386n hm4373n hk4374n ha4365n hd4366n hk4367n _; 
  refine wpAny_call ?_
  k_dflt (refine' code_defG ?k1 ?k2 ?k3 ?k4 ?k5 ?kA ?kF ?kK ?k6 ?k7 ?k8 ?k9 ?kB ?_ ?c2 ?c3 ?c4 ?c5; (case kA => exact rfl); (case kF => exact rfl); (case kK => assumption); (case k1 => exact B); (case k2 => exact F); (case k3 => exact X); (case k4 => exact news_sub N hsub); (case k5 => exact T); (case k6 => k_is); (case k7 => k_is); (case k8 => k_room); (case k9 => first | exact BindsTo.of_eq rfl | exact binds_K (by k_in) rfl (by k_is) rfl rfl rfl); (case c5 => decide); (case kB => exact locs rfl); (case c2 => exact rfl); (case c3 => exact rfl); (case c4 => exact rfl); k_whole; intro g' L' h' FG' F' N' B' X' T' kG; (try dsimp only); (try k_unmd); (try k_fold); (try (refine' aLet ?_; intro AL)))
  ((try k_unmd); (try k_fold); k_steps)
  refine' cmp_mapt (P := w.params) [] (fun i => [.tup [.str (Str.ofString "move"), .tup [.tup [.int x, .int 0], .tup [.int y, .int 0]]], .tup [.str (Str.ofString "line"), .tup [.tup [.int (x + wd), .int 0], .tup [.int y, .int 0]]], .tup [.str (Str.ofString "line"), .tup [.tup [.int (x + wd), .int 0], .tup [.int (y + ht), .int 0]]], .tup [.str (Str.ofString "line"), .tup [.tup [.int x, .int 0], .tup [.int (y + ht), .int 0]]], .tup [.str (Str.ofString "close")]].getD i V.none) ?fh ?fl ?fd ?fz ?fx ?fk ?ff ?fn ?turn ?fin
  (case fh => exact rfl)
  (case ff => k_asm)
  (case fn => k_asm)
  (case fl => (first | (refine' tup_of ?tn ?th; (case tn => k_asm); (case th => ktn_no "Mem")) | (refine' tup_K ?tf ?tx ?tl; (case tf => k_asm); (case tx => k_asm); (case tl => k_is))))
  (case fx => exact rfl)
  (case fk => exact rfl)
  (case fd => exact VAll.mono (by assumption) (by ktn_no "Sub"))
  (case fz => exact Nat.le_trans (by first | omega | (rw [VAll.length (by assumption)]; simp only [List.length_cons, List.length_nil]; omega) : _ ≤ 1000) (by decide))
  (case turn =>
    intro i v d ys tl C oC m2 ext av h tk E' hdi hvd ap hoC hxC hCe F N off hav hex
    rcases seg_get hdi with ⟨nm, a9, b9, rfl, hf⟩ | ⟨rfl, hf⟩
    all_goals rw [hf]
    all_goals clear hf hdi
    · revert hxC; refine VIn.op (.seq (.cons .lf (.cons (.seq (.cons .lf (.cons .lf .nil))) .nil))) hvd ?_; clear hvd; intro a4247n k4249n t4264n a4267n k4269n a4284n d4285n t4286n t4287n t4288n t4289n ha4290n hd4291n hk4292n a4294n d4295n t4296n t4297n t4298n t4299n ha4300n hd4301n hk4302n hm4270n hk4271n hm4250n hk4251n hxC; 
      have hun : Unroll := trivial
      ((try k_unmd); (try k_fold); k_steps)
    · revert hxC; refine VIn.op (.seq (.cons .lf .nil)) hvd ?_; clear hvd; intro a4305n k4307n t4317n hm4308n hk4309n hxC; 
      have hun : Unroll := trivial
      ((try k_unmd); (try k_fold); k_steps))
  (case fin =>
    intro g ys tl ap hv
    simp only [List.append_nil] at hv
    replace hv := toldv_part hv
    have ap9 := apart_to ap
    ((try k_unmd); (try k_fold); k_steps)
    all_goals (refine' Sh.fin (Post := fun P o l r => TabOk 136 28 (Str.ofString "told_path.<locals>.<lambda>") o l ∧ VIn w.params l r (toldV x y wd ht)) kG N hP hsub0 hret ?f1 ?f2 ?f3 ?f4 ?f5 ?f6 ?f7 ?f8; (case f1 => assumption); (case f2 => assumption); (case f3 => assumption); (case f4 => assumption); (case f5 => k_extra "Pick"); (case f6 => ktn_no "AllNe"); (case f7 => ktn_no "Sub"); (case f8 => intro l hl; exact ⟨.inr ⟨_, _, _, _, rfl, hl _ (by ktn_no "Mem"), by assumption, by assumption⟩, VIn.mono (toldv_at (by ktn_no "Mem") (by ktn_no "Mem") (VAll.mono (by with_reducible assumption) (by ktn_no "Sub"))) hl⟩)))
theorem Sc.or {w : World} {f : Addr} {D U : Nat} {P1 P2 Pre : Addr → Obj → List (Addr × Obj) → List Value → Prop} {Post : Addr → Obj → List (Addr × Obj) → Value → Prop} (h1 : Sc w f D U P1 Post) (h2 : Sc w f D U P2 Post) (h : ∀ P o l vs, Pre P o l vs → P1 P o l vs ∨ P2 P o l vs) : Sc w f D U Pre Post := by
  intro dp un gd cn cs a ccd cl outer A₀ base h₀ L m P o rest imm s vs p' loose mean mg mb Q E CH B F X N hP T hk hsub hpre hd hu hret
  rcases h _ _ _ _ hpre with q | q
  · exact h1 _ _ _ _ _ _ _ _ _ _ _ _ _ _ _ _ _ _ _ _ _ _ _ _ _ _ _ CH B F X N hP T hk hsub q hd hu hret
  · exact h2 _ _ _ _ _ _ _ _ _ _ _ _ _ _ _ _ _ _ _ _ _ _ _ _ _ _ _ CH B F X N hP T hk hsub q hd hu hret
theorem toldp (w : World) (x y wd ht : Int) : Sc w 286 40 3000 (fun P o l vs => P = 281 ∧ TabOk 136 28 (Str.ofString "told_path.<locals>.<lambda>") o l ∧ VAll w.params l vs [rectV x y wd ht]) (fun P o l r => TabOk 136 28 (Str.ofString "told_path.<locals>.<lambda>") o l ∧ VIn w.params l r (toldV x y wd ht)) :=
  Sc.or (toldp0 w x y wd ht) (toldp1 w x y wd ht) fun P o l vs h => h.2.1.elim (fun q => .inl ⟨h.1, q, h.2.2⟩) fun q => .inr ⟨h.1, q, h.2.2⟩
end
theorem resetN2 : True := by w_top off; trivial
theorem linesN2 : True := by
  (k_with "x217" => skip)
  (k_with "x224" => skip)
  (k_with "x225" => skip)
  (k_with "x226" => skip)
  (k_with "x227" => skip)
  (k_with "x218" => skip)
  (k_with "x219" => skip)
  (k_with "x220" => skip)
  (k_with "x221" => skip)
  (k_with "x222" => skip)
  (k_with "x229" => skip)
  (k_with "x228" => skip)
  (k_with "x230" => skip)
  (k_with "x231" => skip)
  (k_with "x232" => skip)
  (k_with "x233" => skip)
  (k_with "x234" => skip)
  (k_with "x235" => skip)
  (k_with "x236" => skip)
  (k_with "x237" => skip)
  (k_with "x238" => skip)
  (k_with "x223" => skip)
  (k_with "StripA" => ((fail_if_success k_extra "x240"); (with_reducible (refine' strip_tab ?sy_151; (case sy_151 => ktn_no "StripA")))))
  (k_with "Strip" => ((fail_if_success k_extra "x241"); (with_reducible (refine' strip_tab ?sy_152; (case sy_152 => ktn_no "Strip")))))
  (k_with "x239" => skip)
  (k_with "w:call ref" => ((fail_if_success k_extra "x242"); ((k_here; (with_reducible show wpAny _ _ (PySem.call (Value.ref 286) _) _ _ _); k_dflt (refine' Sc.use (toldp _ _ _ _ _) ?k0_153 ?k1_153 ?k2_153 ?k3_153 ?k4_153 ?k5_153 ?k6_153 281 _ _ _ ?kp_153 ?kn_153 ?ks_153 ?pre_153 ?kd_153 ?ku_153 ?_; (case k0_153 => assumption); (case k1_153 => k_asm); (case k2_153 => k_asm); (case k3_153 => k_asm); (case k4_153 => k_asm); (case k5_153 => k_asm); (case k6_153 => first | exact rfl | assumption); (case kp_153 => k_extra "Pick"); (case kn_153 => ktn_no "AllNe"); (case ks_153 => exact sl_refl); (case pre_153 => refine told_pre ?ta_153 ?tb_153; (case ta_153 => (first | assumption | exact TabOk.mono (by assumption) (by ktn_no "Sub"))); (case tb_153 => ktn_no "VAll")); (case kd_153 => k_room); (case ku_153 => k_room); k_whole; intro r9 o9 tl9 h9 tk9 F9 N9 ne9 post9; (first | (refine' ex_1_0 post9 ?_; (try clear post9); intro tab9 hv9) | (obtain ⟨tab9, hv9⟩ := post9)); (try k_sweep); (try dsimp only); (try k_unmd); (try k_fold))))))
  (k_with "w:call ref" => ((fail_if_success k_extra "x243"); ((k_here; (with_reducible show wpAny _ _ (PySem.call (Value.ref 286) _) _ _ _); k_dflt (refine' Sc.use (toldp _ _ _ _ _) ?k0_153 ?k1_153 ?k2_153 ?k3_153 ?k4_153 ?k5_153 ?k6_153 281 _ _ _ ?kp_153 ?kn_153 ?ks_153 ?pre_153 ?kd_153 ?ku_153 ?_; (case k0_153 => assumption); (case k1_153 => k_asm); (case k2_153 => k_asm); (case k3_153 => k_asm); (case k4_153 => k_asm); (case k5_153 => k_asm); (case k6_153 => first | exact rfl | assumption); (case kp_153 => k_extra "Pick"); (case kn_153 => ktn_no "AllNe"); (case ks_153 => exact sl_refl); (case pre_153 => refine told_pre ?ta_153 ?tb_153; (case ta_153 => (first | assumption | exact TabOk.mono (by assumption) (by ktn_no "Sub"))); (case tb_153 => ktn_no "VAll")); (case kd_153 => k_room); (case ku_153 => k_room); k_whole; intro r9 o9 tl9 h9 tk9 F9 N9 ne9 post9; (first | (refine' ex_1_0 post9 ?_; (try clear post9); intro tab9 hv9) | (obtain ⟨tab9, hv9⟩ := post9)); (try k_sweep); (try dsimp only); (try k_unmd); (try k_fold))))))
  (k_with "w:call ref" => ((fail_if_success k_extra "x244"); ((k_here; (with_reducible show wpAny _ _ (PySem.call (Value.ref 388) _) _ _ _); k_dflt ((first | (refine' spUse (tcolP _) ?k1_154 ?k2_154 ?k3_154 ?k4_154 ?k5_154 ?k6_154 _ ?ks_154 ?pre_154 ?kd_154 ?ku_154 ?_; (case k1_154 => k_asm); (case k2_154 => k_asm); (case k3_154 => k_asm); (case k4_154 => k_asm); (case k5_154 => k_asm); (case k6_154 => first | exact rfl | assumption); (case ks_154 => ktn_no "StripA"); (case pre_154 => ktn_no "VAll"); (case kd_154 => k_room); (case ku_154 => k_room); k_whole) | (refine' spUse (tcolP _) ?k1_154 ?k2_154 ?k3_154 ?k4_154 ?k5_154 ?k6_154 _ ?ks_154 ?pre_154 ?kd_154 ?ku_154 ?_; (case k1_154 => k_asm); (case k2_154 => k_asm); (case k3_154 => k_asm); (case k4_154 => k_asm); (case k5_154 => k_asm); (case k6_154 => first | exact rfl | assumption); (case ks_154 => ktn_no "Strip"); (case pre_154 => ktn_no "VAll"); (case kd_154 => k_room); (case ku_154 => k_room); k_whole)); intro r9 tl9 h9 tk9 lg9 li9 F9 N9 ne9 post9; have post9k := post9; (try k_sweep); (try dsimp only); (try k_unmd); (try k_fold))))))
  (k_with "w:call ref" => ((fail_if_success k_extra "x245"); ((k_here; (with_reducible show wpAny _ _ (PySem.call (Value.ref 286) _) _ _ _); k_dflt (refine' Sc.use (toldp _ _ _ _ _) ?k0_153 ?k1_153 ?k2_153 ?k3_153 ?k4_153 ?k5_153 ?k6_153 281 _ _ _ ?kp_153 ?kn_153 ?ks_153 ?pre_153 ?kd_153 ?ku_153 ?_; (case k0_153 => assumption); (case k1_153 => k_asm); (case k2_153 => k_asm); (case k3_153 => k_asm); (case k4_153 => k_asm); (case k5_153 => k_asm); (case k6_153 => first | exact rfl | assumption); (case kp_153 => k_extra "Pick"); (case kn_153 => ktn_no "AllNe"); (case ks_153 => exact sl_refl); (case pre_153 => refine told_pre ?ta_153 ?tb_153; (case ta_153 => (first | assumption | exact TabOk.mono (by assumption) (by ktn_no "Sub"))); (case tb_153 => ktn_no "VAll")); (case kd_153 => k_room); (case ku_153 => k_room); k_whole; intro r9 o9 tl9 h9 tk9 F9 N9 ne9 post9; (first | (refine' ex_1_0 post9 ?_; (try clear post9); intro tab9 hv9) | (obtain ⟨tab9, hv9⟩ := post9)); (try k_sweep); (try dsimp only); (try k_unmd); (try k_fold))))))
  (k_with "w:call ref" => ((fail_if_success k_extra "x246"); ((k_here; (with_reducible show wpAny _ _ (PySem.call (Value.ref 388) _) _ _ _); k_dflt ((first | (refine' spUse (tcolG _) ?k1_155 ?k2_155 ?k3_155 ?k4_155 ?k5_155 ?k6_155 _ ?ks_155 ?pre_155 ?kd_155 ?ku_155 ?_; (case k1_155 => k_asm); (case k2_155 => k_asm); (case k3_155 => k_asm); (case k4_155 => k_asm); (case k5_155 => k_asm); (case k6_155 => first | exact rfl | assumption); (case ks_155 => ktn_no "StripA"); (case pre_155 => ktn_no "VAll"); (case kd_155 => k_room); (case ku_155 => k_room); k_whole) | (refine' spUse (tcolG _) ?k1_155 ?k2_155 ?k3_155 ?k4_155 ?k5_155 ?k6_155 _ ?ks_155 ?pre_155 ?kd_155 ?ku_155 ?_; (case k1_155 => k_asm); (case k2_155 => k_asm); (case k3_155 => k_asm); (case k4_155 => k_asm); (case k5_155 => k_asm); (case k6_155 => first | exact rfl | assumption); (case ks_155 => ktn_no "Strip"); (case pre_155 => ktn_no "VAll"); (case kd_155 => k_room); (case ku_155 => k_room); k_whole)); intro r9 tl9 h9 tk9 lg9 li9 F9 N9 ne9 post9; have post9k := post9; (try k_sweep); (try dsimp only); (try k_unmd); (try k_fold))))))
  (k_with "w:call ref" => ((fail_if_success k_extra "x247"); ((k_here; (with_reducible show wpAny _ _ (PySem.call (Value.ref 138) _) _ _ _); k_dflt ((first | (refine' spUse (told _ _ _) ?k1_45 ?k2_45 ?k3_45 ?k4_45 ?k5_45 ?k6_45 _ ?ks_45 ?pre_45 ?kd_45 ?ku_45 ?_; (case k1_45 => k_asm); (case k2_45 => k_asm); (case k3_45 => k_asm); (case k4_45 => k_asm); (case k5_45 => k_asm); (case k6_45 => first | exact rfl | assumption); (case ks_45 => ktn_no "StripA"); (case pre_45 => ktn_no "VAll"); (case kd_45 => k_room); (case ku_45 => k_room); k_whole) | (refine' spUse (told _ _ _) ?k1_45 ?k2_45 ?k3_45 ?k4_45 ?k5_45 ?k6_45 _ ?ks_45 ?pre_45 ?kd_45 ?ku_45 ?_; (case k1_45 => k_asm); (case k2_45 => k_asm); (case k3_45 => k_asm); (case k4_45 => k_asm); (case k5_45 => k_asm); (case k6_45 => first | exact rfl | assumption); (case ks_45 => ktn_no "Strip"); (case pre_45 => ktn_no "VAll"); (case kd_45 => k_room); (case ku_45 => k_room); k_whole)); intro r9 tl9 h9 tk9 lg9 li9 F9 N9 ne9 post9; refine VIn.op (.seq (.cons .lf (.cons .lf .nil))) post9 ?_; clear post9; intro a33n k35n t50n t52n hm36n hk37n; (try k_sweep); (try dsimp only); (try k_unmd); (try k_fold))))))
  (k_with "w:call ref" => ((fail_if_success k_extra "x248"); ((k_here; (with_reducible show wpAny _ _ (PySem.call (Value.ref 447) _) _ _ _); k_dflt ((first | (refine' spUse (mtold _ _ _ _ _ _ _) ?k1_156 ?k2_156 ?k3_156 ?k4_156 ?k5_156 ?k6_156 _ ?ks_156 ?pre_156 ?kd_156 ?ku_156 ?_; (case k1_156 => k_asm); (case k2_156 => k_asm); (case k3_156 => k_asm); (case k4_156 => k_asm); (case k5_156 => k_asm); (case k6_156 => first | exact rfl | assumption); (case ks_156 => ktn_no "StripA"); (case pre_156 => ktn_no "VAll"); (case kd_156 => k_room); (case ku_156 => k_room); k_whole) | (refine' spUse (mtold _ _ _ _ _ _ _) ?k1_156 ?k2_156 ?k3_156 ?k4_156 ?k5_156 ?k6_156 _ ?ks_156 ?pre_156 ?kd_156 ?ku_156 ?_; (case k1_156 => k_asm); (case k2_156 => k_asm); (case k3_156 => k_asm); (case k4_156 => k_asm); (case k5_156 => k_asm); (case k6_156 => first | exact rfl | assumption); (case ks_156 => ktn_no "Strip"); (case pre_156 => ktn_no "VAll"); (case kd_156 => k_room); (case ku_156 => k_room); k_whole)); intro r9 tl9 h9 tk9 lg9 li9 F9 N9 ne9 post9; have post9k := post9; (try k_sweep); (try dsimp only); (try k_unmd); (try k_fold))))))
  (k_with "w:call ref" => ((fail_if_success k_extra "x249"); ((k_here; (with_reducible show wpAny _ _ (PySem.call (Value.ref 447) _) _ _ _); k_dflt ((first | (refine' spUse (mtold _ _ _ _ _ _ _) ?k1_156 ?k2_156 ?k3_156 ?k4_156 ?k5_156 ?k6_156 _ ?ks_156 ?pre_156 ?kd_156 ?ku_156 ?_; (case k1_156 => k_asm); (case k2_156 => k_asm); (case k3_156 => k_asm); (case k4_156 => k_asm); (case k5_156 => k_asm); (case k6_156 => first | exact rfl | assumption); (case ks_156 => ktn_no "StripA"); (case pre_156 => ktn_no "VAll"); (case kd_156 => k_room); (case ku_156 => k_room); k_whole) | (refine' spUse (mtold _ _ _ _ _ _ _) ?k1_156 ?k2_156 ?k3_156 ?k4_156 ?k5_156 ?k6_156 _ ?ks_156 ?pre_156 ?kd_156 ?ku_156 ?_; (case k1_156 => k_asm); (case k2_156 => k_asm); (case k3_156 => k_asm); (case k4_156 => k_asm); (case k5_156 => k_asm); (case k6_156 => first | exact rfl | assumption); (case ks_156 => ktn_no "Strip"); (case pre_156 => ktn_no "VAll"); (case kd_156 => k_room); (case ku_156 => k_room); k_whole)); intro r9 tl9 h9 tk9 lg9 li9 F9 N9 ne9 post9; have post9k := post9; (try k_sweep); (try dsimp only); (try k_unmd); (try k_fold))))))
  (k_with "w:call ref" => ((fail_if_success k_extra "x250"); ((k_here; (with_reducible show wpAny _ _ (PySem.call (Value.ref 138) _) _ _ _); k_dflt ((first | (refine' spUse (told _ _ _) ?k1_45 ?k2_45 ?k3_45 ?k4_45 ?k5_45 ?k6_45 _ ?ks_45 ?pre_45 ?kd_45 ?ku_45 ?_; (case k1_45 => k_asm); (case k2_45 => k_asm); (case k3_45 => k_asm); (case k4_45 => k_asm); (case k5_45 => k_asm); (case k6_45 => first | exact rfl | assumption); (case ks_45 => ktn_no "StripA"); (case pre_45 => ktn_no "VAll"); (case kd_45 => k_room); (case ku_45 => k_room); k_whole) | (refine' spUse (told _ _ _) ?k1_45 ?k2_45 ?k3_45 ?k4_45 ?k5_45 ?k6_45 _ ?ks_45 ?pre_45 ?kd_45 ?ku_45 ?_; (case k1_45 => k_asm); (case k2_45 => k_asm); (case k3_45 => k_asm); (case k4_45 => k_asm); (case k5_45 => k_asm); (case k6_45 => first | exact rfl | assumption); (case ks_45 => ktn_no "Strip"); (case pre_45 => ktn_no "VAll"); (case kd_45 => k_room); (case ku_45 => k_room); k_whole)); intro r9 tl9 h9 tk9 lg9 li9 F9 N9 ne9 post9; refine VIn.op (.seq (.cons .lf (.cons .lf .nil))) post9 ?_; clear post9; intro a33n k35n t50n t52n hm36n hk37n; (try k_sweep); (try dsimp only); (try k_unmd); (try k_fold))))))
  trivial
section
theorem strip_tab {X Y : List (Addr × Obj)} {o : Obj} (h : ∀ q ∈ Y, q ∈ X) : ∀ q ∈ Y, q ∈ ((281 : Addr), o) :: X := sl_skip1 h
theorem told_pre {P : Params} {ln cl : Int} {q : Str} {o : Obj} {l : List (Addr × Obj)} {vs : List Value} {ds : List V} (a : TabOk ln cl q o l) (b : VAll P l vs ds) : (281 : Addr) = 281 ∧ TabOk ln cl q o l ∧ VAll P l vs ds := ⟨rfl, a, b⟩
section
set_option maxRecDepth 100000 in
set_option maxHeartbeats 8000000 in
theorem tmclip (w : World) (x y wd ht : Int) (rule : Str) : Sc w 395 50 4200 (fun P o l vs => P = 281 ∧ TabOk 136 28 (Str.ofString "told_path.<locals>.<lambda>") o l ∧ VAll w.params l vs [.tup [.str (Str.ofString "clip"), .str rule, rectV x y wd ht]]) (fun P o l r => TabOk 136 28 (Str.ofString "told_path.<locals>.<lambda>") o l ∧ VIn w.params l r (.tup [.str (Str.ofString "clip"), .str rule, toldV x y wd ht])) := by
  unfold Sc
  k_fill
  intro dp un gd cn cs a ccd cl outer A₀ base h₀ L m P o rest imm s vs p' loose mean mg mb Q E CH B F X N hP T hk hsub0 hpre hd hu hret
  have hsub : ∀ q ∈ (P, o) :: imm, q ∈ (P, o) :: rest := sl_cons hsub0
  have hPi : ∀ p ∈ imm, p.1 ≠ P := fun p hp => hP p (hsub0 p hp)
  (first | (refine' ex_2_0 hpre ?_; (try clear hpre); intro ob9; subst ob9; intro htab hpre) | (refine' ex_1_1 hpre ?_; (try clear hpre); intro ob9; subst ob9; intro htab hpre) | (obtain ⟨rfl, htab, hpre⟩ := hpre))
  refine VAll.opr (.cons (.seq (.cons .lf (.cons .lf (.cons .any .nil)))) .nil) hpre ?_; clear hpre; intro a4399n k4401n t4421n t4423n v4417n h4414n hm4402n hk4403n _; 
  refine wpAny_call ?_
  k_dflt (refine' code_defG ?k1 ?k2 ?k3 ?k4 ?k5 ?kA ?kF ?kK ?k6 ?k7 ?k8 ?k9 ?kB ?_ ?c2 ?c3 ?c4 ?c5; (case kA => exact rfl); (case kF => exact rfl); (case kK => assumption); (case k1 => exact B); (case k2 => exact F); (case k3 => exact X); (case k4 => exact news_sub N hsub); (case k5 => exact T); (case k6 => k_is); (case k7 => k_is); (case k8 => k_room); (case k9 => first | exact BindsTo.of_eq rfl | exact binds_K (by k_in) rfl (by k_is) rfl rfl rfl); (case c5 => decide); (case kB => exact locs rfl); (case c2 => exact rfl); (case c3 => exact rfl); (case c4 => exact rfl); k_whole; intro g' L' h' FG' F' N' B' X' T' kG; (try dsimp only); (try k_unmd); (try k_fold); (try (refine' aLet ?_; intro AL)))
  ((try k_unmd); (try k_fold); k_steps)
  all_goals (refine' Sh.fin (Post := fun P o l r => TabOk 136 28 (Str.ofString "told_path.<locals>.<lambda>") o l ∧ VIn w.params l r (.tup [.str (Str.ofString "clip"), .str rule, toldV x y wd ht])) kG N hP hsub0 hret ?f1 ?f2 ?f3 ?f4 ?f5 ?f6 ?f7 ?f8; (case f1 => assumption); (case f2 => assumption); (case f3 => assumption); (case f4 => assumption); (case f5 => k_extra "Pick"); (case f6 => ktn_no "AllNe"); (case f7 => ktn_no "Sub"); (case f8 => intro l hl; exact ⟨TabOk.mono (by assumption) (by (intro q9 hq9; apply hl; revert q9 hq9; ktn_no "Sub")), VIn.mono (by ktn_no "VIn") hl⟩))
end
section
set_option maxRecDepth 100000 in
set_option maxHeartbeats 8000000 in
theorem tmfill (w : World) (x y wd ht : Int) (rule : Str) : Sc w 395 50 4200 (fun P o l vs => P = 281 ∧ TabOk 136 28 (Str.ofString "told_path.<locals>.<lambda>") o l ∧ VAll w.params l vs [.tup [.str (Str.ofString "fill"), .str rule, rectV x y wd ht, .tup [.str (Str.ofString "Pattern"), .tup [.dec 5 1, .str (Str.ofString "P")]]]]) (fun P o l r => TabOk 136 28 (Str.ofString "told_path.<locals>.<lambda>") o l ∧ VIn w.params l r (.tup [.str (Str.ofString "fill"), .str rule, toldV x y wd ht, .tup [.str (Str.ofString "Pattern"), .tup [.int 5, .int 1], .str (Str.ofString "P")]])) := by
  unfold Sc
  k_fill
  intro dp un gd cn cs a ccd cl outer A₀ base h₀ L m P o rest imm s vs p' loose mean mg mb Q E CH B F X N hP T hk hsub0 hpre hd hu hret
  have hsub : ∀ q ∈ (P, o) :: imm, q ∈ (P, o) :: rest := sl_cons hsub0
  have hPi : ∀ p ∈ imm, p.1 ≠ P := fun p hp => hP p (hsub0 p hp)
  (first | (refine' ex_2_0 hpre ?_; (try clear hpre); intro ob9; subst ob9; intro htab hpre) | (refine' ex_1_1 hpre ?_; (try clear hpre); intro ob9; subst ob9; intro htab hpre) | (obtain ⟨rfl, htab, hpre⟩ := hpre))
  refine VAll.opr (.cons (.seq (.cons .lf (.cons .lf (.cons .any (.cons .any .nil))))) .nil) hpre ?_; clear hpre; intro a4432n k4434n t4459n t4461n v4450n h4447n v4455n h4452n hm4435n hk4436n _; 
  refine wpAny_call ?_
  k_dflt (refine' code_defG ?k1 ?k2 ?k3 ?k4 ?k5 ?kA ?kF ?kK ?k6 ?k7 ?k8 ?k9 ?kB ?_ ?c2 ?c3 ?c4 ?c5; (case kA => exact rfl); (case kF => exact rfl); (case kK => assumption); (case k1 => exact B); (case k2 => exact F); (case k3 => exact X); (case k4 => exact news_sub N hsub); (case k5 => exact T); (case k6 => k_is); (case k7 => k_is); (case k8 => k_room); (case k9 => first | exact BindsTo.of_eq rfl | exact binds_K (by k_in) rfl (by k_is) rfl rfl rfl); (case c5 => decide); (case kB => exact locs rfl); (case c2 => exact rfl); (case c3 => exact rfl); (case c4 => exact rfl); k_whole; intro g' L' h' FG' F' N' B' X' T' kG; (try dsimp only); (try k_unmd); (try k_fold); (try (refine' aLet ?_; intro AL)))
  ((try k_unmd); (try k_fold); k_steps)
  all_goals (refine' Sh.fin (Post := fun P o l r => TabOk 136 28 (Str.ofString "told_path.<locals>.<lambda>") o l ∧ VIn w.params l r (.tup [.str (Str.ofString "fill"), .str rule, toldV x y wd ht, .tup [.str (Str.ofString "Pattern"), .tup [.int 5, .int 1], .str (Str.ofString "P")]])) kG N hP hsub0 hret ?f1 ?f2 ?f3 ?f4 ?f5 ?f6 ?f7 ?f8; (case f1 => assumption); (case f2 => assumption); (case f3 => assumption); (case f4 => assumption); (case f5 => k_extra "Pick"); (case f6 => ktn_no "AllNe"); (case f7 => ktn_no "Sub"); (case f8 => intro l hl; exact ⟨TabOk.mono (by assumption) (by (intro q9 hq9; apply hl; revert q9 hq9; ktn_no "Sub")), VIn.mono (by ktn_no "VIn") hl⟩))
end
section
set_option maxRecDepth 100000 in
set_option maxHeartbeats 8000000 in
theorem tmstroke (w : World) (x y wd ht : Int) (n : Int) : Sc w 395 50 4200 (fun P o l vs => P = 281 ∧ TabOk 136 28 (Str.ofString "told_path.<locals>.<lambda>") o l ∧ VAll w.params l vs [.tup [.str (Str.ofString "stroke"), rectV x y wd ht, .tup [.str (Str.ofString "DeviceGray"), .tup [.dec 1 0]], .dec n 0]]) (fun P o l r => TabOk 136 28 (Str.ofString "told_path.<locals>.<lambda>") o l ∧ VIn w.params l r (.tup [.str (Str.ofString "stroke"), toldV x y wd ht, .tup [.str (Str.ofString "DeviceGray"), .tup [.int 1, .int 0]], .tup [.int n, .int 0]])) := by
  unfold Sc
  k_fill
  intro dp un gd cn cs a ccd cl outer A₀ base h₀ L m P o rest imm s vs p' loose mean mg mb Q E CH B F X N hP T hk hsub0 hpre hd hu hret
  have hsub : ∀ q ∈ (P, o) :: imm, q ∈ (P, o) :: rest := sl_cons hsub0
  have hPi : ∀ p ∈ imm, p.1 ≠ P := fun p hp => hP p (hsub0 p hp)
  (first | (refine' ex_2_0 hpre ?_; (try clear hpre); intro ob9; subst ob9; intro htab hpre) | (refine' ex_1_1 hpre ?_; (try clear hpre); intro ob9; subst ob9; intro htab hpre) | (obtain ⟨rfl, htab, hpre⟩ := hpre))
  refine VAll.opr (.cons (.seq (.cons .lf (.cons .any (.cons .any (.cons .lf .nil))))) .nil) hpre ?_; clear hpre; intro a4470n k4472n t4497n v4483n h4480n v4488n h4485n a4499n d4500n t4501n t4502n t4503n t4504n ha4505n hd4506n hk4507n hm4473n hk4474n _; 
  refine wpAny_call ?_
  k_dflt (refine' code_defG ?k1 ?k2 ?k3 ?k4 ?k5 ?kA ?kF ?kK ?k6 ?k7 ?k8 ?k9 ?kB ?_ ?c2 ?c3 ?c4 ?c5; (case kA => exact rfl); (case kF => exact rfl); (case kK => assumption); (case k1 => exact B); (case k2 => exact F); (case k3 => exact X); (case k4 => exact news_sub N hsub); (case k5 => exact T); (case k6 => k_is); (case k7 => k_is); (case k8 => k_room); (case k9 => first | exact BindsTo.of_eq rfl | exact binds_K (by k_in) rfl (by k_is) rfl rfl rfl); (case c5 => decide); (case kB => exact locs rfl); (case c2 => exact rfl); (case c3 => exact rfl); (case c4 => exact rfl); k_whole; intro g' L' h' FG' F' N' B' X' T' kG; (try dsimp only); (try k_unmd); (try k_fold); (try (refine' aLet ?_; intro AL)))
  ((try k_unmd); (try k_fold); k_steps)
  all_goals (refine' Sh.fin (Post := fun P o l r => TabOk 136 28 (Str.ofString "told_path.<locals>.<lambda>") o l ∧ VIn w.params l r (.tup [.str (Str.ofString "stroke"), toldV x y wd ht, .tup [.str (Str.ofString "DeviceGray"), .tup [.int 1, .int 0]], .tup [.int n, .int 0]])) kG N hP hsub0 hret ?f1 ?f2 ?f3 ?f4 ?f5 ?f6 ?f7 ?f8; (case f1 => assumption); (case f2 => assumption); (case f3 => assumption); (case f4 => assumption); (case f5 => k_extra "Pick"); (case f6 => ktn_no "AllNe"); (case f7 => ktn_no "Sub"); (case f8 => intro l hl; exact ⟨TabOk.mono (by assumption) (by (intro q9 hq9; apply hl; revert q9 hq9; ktn_no "Sub")), VIn.mono (by ktn_no "VIn") hl⟩))
end
section
set_option maxRecDepth 100000 in
set_option maxHeartbeats 8000000 in
theorem tmimage (w : World) (q1 q2 q3 q4 q5 q6 : Int) : Sc w 395 50 4200 (fun P o l vs => P = 281 ∧ TabOk 136 28 (Str.ofString "told_path.<locals>.<lambda>") o l ∧ VAll w.params l vs [.tup [.str (Str.ofString "image"), .str (Str.ofString "I"), .mat q1 q2 q3 q4 q5 q6]]) (fun P o l r => TabOk 136 28 (Str.ofString "told_path.<locals>.<lambda>") o l ∧ VIn w.params l r (.tup [.str (Str.ofString "image"), .str (Str.ofString "I"), .tup [.tup [.int q1, .int 0], .tup [.int q2, .int 0], .tup [.int q3, .int 0], .tup [.int q4, .int 0], .tup [.int q5, .int 0], .tup [.int q6, .int 0]]])) := by
  unfold Sc
  k_fill
  intro dp un gd cn cs a ccd cl outer A₀ base h₀ L m P o rest imm s vs p' loose mean mg mb Q E CH B F X N hP T hk hsub0 hpre hd hu hret
  have hsub : ∀ q ∈ (P, o) :: imm, q ∈ (P, o) :: rest := sl_cons hsub0
  have hPi : ∀ p ∈ imm, p.1 ≠ P := fun p hp => hP p (hsub0 p hp)
  (first | (refine' ex_2_0 hpre ?_; (try clear hpre); intro ob9; subst ob9; intro htab hpre) | (refine' ex_1_1 hpre ?_; (try clear hpre); intro ob9; subst ob9; intro htab hpre) | (obtain ⟨rfl, htab, hpre⟩ := hpre))
  refine VAll.opr (.cons (.seq (.cons .lf (.cons .lf (.cons (.mt .lf) .nil)))) .nil) hpre ?_; clear hpre; intro a4516n k4518n t4538n t4540n x4548n d4549n t4556n t4557n t4558n t4559n t4560n t4561n a4566n d4567n t4568n t4569n t4570n t4571n ha4572n hd4573n hk4574n a4576n d4577n t4578n t4579n t4580n t4581n ha4582n hd4583n hk4584n a4586n d4587n t4588n t4589n t4590n t4591n ha4592n hd4593n hk4594n a4596n d4597n t4598n t4599n t4600n t4601n ha4602n hd4603n hk4604n a4606n d4607n t4608n t4609n t4610n t4611n ha4612n hd4613n hk4614n a4616n d4617n t4618n t4619n t4620n t4621n ha4622n hd4623n hk4624n ha4562n hd4563n hk4564n hm4519n hk4520n _; 
  refine wpAny_call ?_
  k_dflt (refine' code_defG ?k1 ?k2 ?k3 ?k4 ?k5 ?kA ?kF ?kK ?k6 ?k7 ?k8 ?k9 ?kB ?_ ?c2 ?c3 ?c4 ?c5; (case kA => exact rfl); (case kF => exact rfl); (case kK => assumption); (case k1 => exact B); (case k2 => exact F); (case k3 => exact X); (case k4 => exact news_sub N hsub); (case k5 => exact T); (case k6 => k_is); (case k7 => k_is); (case k8 => k_room); (case k9 => first | exact BindsTo.of_eq rfl | exact binds_K (by k_in) rfl (by k_is) rfl rfl rfl); (case c5 => decide); (case kB => exact locs rfl); (case c2 => exact rfl); (case c3 => exact rfl); (case c4 => exact rfl); k_whole; intro g' L' h' FG' F' N' B' X' T' kG; (try dsimp only); (try k_unmd); (try k_fold); (try (refine' aLet ?_; intro AL)))
  ((try k_unmd); (try k_fold); k_steps)
  all_goals (refine' Sh.fin (Post := fun P o l r => TabOk 136 28 (Str.ofString "told_path.<locals>.<lambda>") o l ∧ VIn w.params l r (.tup [.str (Str.ofString "image"), .str (Str.ofString "I"), .tup [.tup [.int q1, .int 0], .tup [.int q2, .int 0], .tup [.int q3, .int 0], .tup [.int q4, .int 0], .tup [.int q5, .int 0], .tup [.int q6, .int 0]]])) kG N hP hsub0 hret ?f1 ?f2 ?f3 ?f4 ?f5 ?f6 ?f7 ?f8; (case f1 => assumption); (case f2 => assumption); (case f3 => assumption); (case f4 => assumption); (case f5 => k_extra "Pick"); (case f6 => ktn_no "AllNe"); (case f7 => ktn_no "Sub"); (case f8 => intro l hl; exact ⟨TabOk.mono (by assumption) (by (intro q9 hq9; apply hl; revert q9 hq9; ktn_no "Sub")), VIn.mono (by ktn_no "VIn") hl⟩))
end
section
set_option maxRecDepth 100000 in
set_option maxHeartbeats 8000000 in
theorem tmtext (w : World) (q1 q2 q3 q4 q5 q6 : Int) (bs : Array UInt8) (n p : Int) : Sc w 395 50 4200 (fun P o l vs => P = 281 ∧ TabOk 136 28 (Str.ofString "told_path.<locals>.<lambda>") o l ∧ VAll w.params l vs [.tup [.str (Str.ofString "text"), .bytes bs, .mat q1 q2 q3 q4 q5 q6, .str (Str.ofString "F"), .dec n p]]) (fun P o l r => TabOk 136 28 (Str.ofString "told_path.<locals>.<lambda>") o l ∧ VIn w.params l r (.tup [.str (Str.ofString "text"), .bytes bs, .tup [.tup [.int q1, .int 0], .tup [.int q2, .int 0], .tup [.int q3, .int 0], .tup [.int q4, .int 0], .tup [.int q5, .int 0], .tup [.int q6, .int 0]], .str (Str.ofString "F"), .tup [.int n, .int p]])) := by
  unfold Sc
  k_fill
  intro dp un gd cn cs a ccd cl outer A₀ base h₀ L m P o rest imm s vs p' loose mean mg mb Q E CH B F X N hP T hk hsub0 hpre hd hu hret
  have hsub : ∀ q ∈ (P, o) :: imm, q ∈ (P, o) :: rest := sl_cons hsub0
  have hPi : ∀ p ∈ imm, p.1 ≠ P := fun p hp => hP p (hsub0 p hp)
  (first | (refine' ex_2_0 hpre ?_; (try clear hpre); intro ob9; subst ob9; intro htab hpre) | (refine' ex_1_1 hpre ?_; (try clear hpre); intro ob9; subst ob9; intro htab hpre) | (obtain ⟨rfl, htab, hpre⟩ := hpre))
  refine VAll.opr (.cons (.seq (.cons .lf (.cons .lf (.cons (.mt .lf) (.cons .lf (.cons .lf .nil)))))) .nil) hpre ?_; clear hpre; intro a4633n k4635n t4665n t4667n x4675n d4676n t4683n t4684n t4685n t4686n t4687n t4688n a4693n d4694n t4695n t4696n t4697n t4698n ha4699n hd4700n hk4701n a4703n d4704n t4705n t4706n t4707n t4708n ha4709n hd4710n hk4711n a4713n d4714n t4715n t4716n t4717n t4718n ha4719n hd4720n hk4721n a4723n d4724n t4725n t4726n t4727n t4728n ha4729n hd4730n hk4731n a4733n d4734n t4735n t4736n t4737n t4738n ha4739n hd4740n hk4741n a4743n d4744n t4745n t4746n t4747n t4748n ha4749n hd4750n hk4751n ha4689n hd4690n hk4691n t4753n a4755n d4756n t4757n t4758n t4759n t4760n ha4761n hd4762n hk4763n hm4636n hk4637n _; 
  refine wpAny_call ?_
  k_dflt (refine' code_defG ?k1 ?k2 ?k3 ?k4 ?k5 ?kA ?kF ?kK ?k6 ?k7 ?k8 ?k9 ?kB ?_ ?c2 ?c3 ?c4 ?c5; (case kA => exact rfl); (case kF => exact rfl); (case kK => assumption); (case k1 => exact B); (case k2 => exact F); (case k3 => exact X); (case k4 => exact news_sub N hsub); (case k5 => exact T); (case k6 => k_is); (case k7 => k_is); (case k8 => k_room); (case k9 => first | exact BindsTo.of_eq rfl | exact binds_K (by k_in) rfl (by k_is) rfl rfl rfl); (case c5 => decide); (case kB => exact locs rfl); (case c2 => exact rfl); (case c3 => exact rfl); (case c4 => exact rfl); k_whole; intro g' L' h' FG' F' N' B' X' T' kG; (try dsimp only); (try k_unmd); (try k_fold); (try (refine' aLet ?_; intro AL)))
  ((try k_unmd); (try k_fold); k_steps)
  all_goals (refine' Sh.fin (Post := fun P o l r => TabOk 136 28 (Str.ofString "told_path.<locals>.<lambda>") o l ∧ VIn w.params l r (.tup [.str (Str.ofString "text"), .bytes bs, .tup [.tup [.int q1, .int 0], .tup [.int q2, .int 0], .tup [.int q3, .int 0], .tup [.int q4, .int 0], .tup [.int q5, .int 0], .tup [.int q6, .int 0]], .str (Str.ofString "F"), .tup [.int n, .int p]])) kG N hP hsub0 hret ?f1 ?f2 ?f3 ?f4 ?f5 ?f6 ?f7 ?f8; (case f1 => assumption); (case f2 => assumption); (case f3 => assumption); (case f4 => assumption); (case f5 => k_extra "Pick"); (case f6 => ktn_no "AllNe"); (case f7 => ktn_no "Sub"); (case f8 => intro l hl; exact ⟨TabOk.mono (by assumption) (by (intro q9 hq9; apply hl; revert q9 hq9; ktn_no "Sub")), VIn.mono (by ktn_no "VIn") hl⟩))
end
end
theorem resetN3 : True := by w_top off; trivial
theorem linesN3 : True := by
  (k_with "x216" => skip)
  (k_with "x240" => skip)
  (k_with "StripA" => ((fail_if_success k_extra "x251"); (with_reducible (refine' strip_found ?sx_162 ?sy_162; (case sx_162 => assumption); (case sy_162 => ktn_no "StripA")))))
  (k_with "x241" => skip)
  (k_with "Strip" => ((fail_if_success k_extra "x252"); (with_reducible (refine' strip_found ?sx_163 ?sy_163; (case sx_163 => assumption); (case sy_163 => ktn_no "Strip")))))
  (k_with "SubIdx" => ((fail_if_success k_extra "x253"); (k_dflt (refine' item_vs ?n_136 ?l_136 ?v_136 ?a_136 ?b_136 ?d_136 ?_ ?hs_136 ?hg_136; (case n_136 => k_asm); (case l_136 => ktn_no "Mem"); (case v_136 => assumption); (case a_136 => omega); (case b_136 => omega); (case d_136 => assumption); (case hs_136 => with_unfolding_all rfl); (case hg_136 => intro _; with_unfolding_all rfl); k_whole; intro t9))))
  (k_with "SubIdx" => ((fail_if_success k_extra "x254"); (k_dflt (first
  | (refine' item_tupleT ?t_160 ?a_160 ?b_160 ?c_160 ?d_160 ?_; (case t_160 => exact News.isTup (by k_asm) (by ktn_no "Mem")); (case a_160 => decide); (case b_160 => decide); (case c_160 => rfl); (case d_160 => rfl); k_whole)
  | (refine' item_lst ?n_160 ?l_160 ?a_160 ?b_160 ?c_160 ?_ ?hs_160 ?hg_160; (case n_160 => k_asm); (case l_160 => ktn_no "Mem"); (case a_160 => omega); (case b_160 => omega); (case c_160 => assumption); (case hs_160 => with_unfolding_all rfl); (case hg_160 => intro _; with_unfolding_all rfl); k_whole)))))
  (k_with "w:subscriptTail" => ((fail_if_success k_extra "x255"); ((k_here; (with_reducible show wpAny _ _ (subscriptTail _ _ (Value.ref _) (Value.ref _)) _ _ _); (with_unfolding_all (first
  | (refine' slice_init ?sf_81 ?sn_81 ?st_81 ?ss_81 ?sg_81 ?_; (case sf_81 => k_asm); (case sn_81 => k_asm); (case st_81 => first | (refine' tup_of ?tn_81 ?th_81; (case tn_81 => k_asm); (case th_81 => k_mem)) | (refine' tup_K ?tf_81 ?tx_81 ?tl_81; (case tf_81 => k_asm); (case tx_81 => k_asm); (case tl_81 => k_is))); (case ss_81 => rfl); (case sg_81 => intro _; rfl); k_whole)
  | (refine' slice_tail ?sf_81 ?sn_81 ?st_81 ?sm_81 ?sz_81 ?ss_81 ?sg_81 ?_; (case sf_81 => k_asm); (case sn_81 => k_asm); (case st_81 => first | (refine' tup_of ?tn_81 ?th_81; (case tn_81 => k_asm); (case th_81 => k_mem)) | (refine' tup_K ?tf_81 ?tx_81 ?tl_81; (case tf_81 => k_asm); (case tx_81 => k_asm); (case tl_81 => k_is))); (case sm_81 => exact Nat.le_of_ble_eq_true rfl); (case sz_81 => exact Nat.le_of_ble_eq_true rfl); (case ss_81 => rfl); (case sg_81 => intro _; rfl); k_whole))); intro D' h' F' N' l1; (try simp only [List.drop_succ_cons, List.drop_zero] at N'); (try k_lt l1); (try k_sweep)))))
  (k_with "w:compareOp Eq ref ref" => ((fail_if_success k_extra "x256"); ((k_here; (with_reducible show wpAny _ _ (compareOp CmpOp.Eq (Value.ref _) (Value.ref _)) _ _ _); k_dflt (refine' eq_tup_nil ?qa_87 ?qb_87 ?qu_87 ?_; (case qb_87 => first | (refine' tup_of ?tn_87 ?th_87; (case tn_87 => k_asm); (case th_87 => k_mem)) | (refine' tup_K ?tf_87 ?tx_87 ?tl_87; (case tf_87 => k_asm); (case tx_87 => k_asm); (case tl_87 => k_is))); (case qa_87 => first | (refine' tup_of ?tn_87 ?th_87; (case tn_87 => k_asm); (case th_87 => k_mem)) | (refine' tup_K ?tf_87 ?tx_87 ?tl_87; (case tf_87 => k_asm); (case tx_87 => k_asm); (case tl_87 => k_is))); (case qu_87 => k_room); k_whole); (try simp only [List.size_toArray, List.length_cons, List.length_nil])))))
  (k_with "w:compareOp NotEq ref ref" => ((fail_if_success k_extra "x257"); ((k_here; (with_reducible show wpAny _ _ (compareOp CmpOp.NotEq (Value.ref _) (Value.ref _)) _ _ _); k_dflt (refine' ne_tup_nil ?qa_88 ?qb_88 ?qu_88 ?_; (case qb_88 => first | (refine' tup_of ?tn_88 ?th_88; (case tn_88 => k_asm); (case th_88 => k_mem)) | (refine' tup_K ?tf_88 ?tx_88 ?tl_88; (case tf_88 => k_asm); (case tx_88 => k_asm); (case tl_88 => k_is))); (case qa_88 => first | (refine' tup_of ?tn_88 ?th_88; (case tn_88 => k_asm); (case th_88 => k_mem)) | (refine' tup_K ?tf_88 ?tx_88 ?tl_88; (case tf_88 => k_asm); (case tx_88 => k_asm); (case tl_88 => k_is))); (case qu_88 => k_room); k_whole); (try simp only [List.size_toArray, List.length_cons, List.length_nil])))))
  (k_with "w:binaryOp Add ref ref" => ((fail_if_success k_extra "x258"); ((k_here; (with_reducible show wpAny _ _ (binaryOp _ (Value.ref _) (Value.ref _)) _ _ _); k_dflt (refine' add_tt ?af_89 ?an_89 ?apt_89 ?ab_89 ?av_89 ?aw_89 ?az_89 ?_; (case af_89 => k_asm); (case an_89 => k_asm); (case apt_89 => first | (refine' tup_of ?tn_89 ?th_89; (case tn_89 => k_asm); (case th_89 => k_mem)) | (refine' tup_K ?tf_89 ?tx_89 ?tl_89; (case tf_89 => k_asm); (case tx_89 => k_asm); (case tl_89 => k_is))); (case ab_89 => first | (refine' tup_of ?tn_89 ?th_89; (case tn_89 => k_asm); (case th_89 => k_mem)) | (refine' tup_K ?tf_89 ?tx_89 ?tl_89; (case tf_89 => k_asm); (case tx_89 => k_asm); (case tl_89 => k_is))); (case av_89 => exact List.cons_ne_nil _ _); (case aw_89 => exact List.cons_ne_nil _ _); (case az_89 => exact Nat.le_of_ble_eq_true rfl); k_whole); intro D' h' F' N' l1; (try simp only [List.cons_append, List.nil_append] at N'); (try k_lt l1); (try k_sweep)))))
  (k_with "w:binaryOp Add ref ref" => ((fail_if_success k_extra "x259"); ((k_here; (with_reducible show wpAny _ _ (binaryOp _ (Value.ref _) (Value.ref _)) _ _ _); k_dflt (refine' add_t0 ?af_90 ?an_90 ?apt_90 ?ab_90 ?av_90 ?az_90 ?_; (case af_90 => k_asm); (case an_90 => k_asm); (case apt_90 => first | (refine' tup_of ?tn_90 ?th_90; (case tn_90 => k_asm); (case th_90 => k_mem)) | (refine' tup_K ?tf_90 ?tx_90 ?tl_90; (case tf_90 => k_asm); (case tx_90 => k_asm); (case tl_90 => k_is))); (case ab_90 => first | (refine' tup_of ?tn_90 ?th_90; (case tn_90 => k_asm); (case th_90 => k_mem)) | (refine' tup_K ?tf_90 ?tx_90 ?tl_90; (case tf_90 => k_asm); (case tx_90 => k_asm); (case tl_90 => k_is))); (case av_90 => exact rfl); (case az_90 => exact Nat.le_of_ble_eq_true rfl); k_whole)))))
  (k_with "w:exec For Name Tuple cons nil" => ((fail_if_success k_extra "x260"); ((k_here; k_dflt (refine' for_src ?ff_82 ?_ ?hs_82 ?hE_82; (case ff_82 => k_asm); (case hs_82 => intro _; with_unfolding_all rfl); (case hE_82 => passes_own); k_whole)))))
  (k_with "w:FPost" => ((fail_if_success k_extra "x261"); ((dsimp only [FPost]))))
  (k_with "w:exec For Name Name cons nil" => ((fail_if_success k_extra "x262"); ((k_here; k_dflt (refine' for_src ?ff_97 ?_ ?hs_97 ?hE_97; (case ff_97 => k_asm); (case hs_97 => intro _; with_unfolding_all rfl); (case hE_97 => passes_own); k_whole)))))
  (k_with "w:exec For Name Call cons nil" => ((fail_if_success k_extra "x263"); ((k_here; k_dflt (refine' for_src ?ff_98 ?_ ?hs_98 ?hE_98; (case ff_98 => k_asm); (case hs_98 => intro _; with_unfolding_all rfl); (case hE_98 => passes_own); k_whole)))))
  (k_with "w:exec For Name Attribute cons nil" => ((fail_if_success k_extra "x264"); ((k_here; k_dflt (refine' for_src ?ff_99 ?_ ?hs_99 ?hE_99; (case ff_99 => k_asm); (case hs_99 => intro _; with_unfolding_all rfl); (case hE_99 => passes_own); k_whole)))))
  (k_with "w:exec For Name Attribute Name cons nil" => ((fail_if_success k_extra "x265"); ((k_here; k_dflt (refine' for_src ?ff_100 ?_ ?hs_100 ?hE_100; (case ff_100 => k_asm); (case hs_100 => intro _; with_unfolding_all rfl); (case hE_100 => passes_own); k_whole)))))
  (k_with "w:exec For Tuple Subscript cons nil" => ((fail_if_success k_extra "x266"); ((k_here; k_dflt (refine' for_src ?ff_157 ?_ ?hs_157 ?hE_157; (case ff_157 => k_asm); (case hs_157 => intro _; with_unfolding_all rfl); (case hE_157 => passes_own); k_whole)))))
  (k_with "w:exec For Tuple Subscript Name Name cons nil" => ((fail_if_success k_extra "x267"); ((k_here; k_dflt (refine' for_src ?ff_158 ?_ ?hs_158 ?hE_158; (case ff_158 => k_asm); (case hs_158 => intro _; with_unfolding_all rfl); (case hE_158 => passes_own); k_whole)))))
  (k_with "w:exec For Tuple Subscript Name cons nil" => ((fail_if_success k_extra "x268"); ((k_here; k_dflt (refine' for_src ?ff_159 ?_ ?hs_159 ?hE_159; (case ff_159 => k_asm); (case hs_159 => intro _; with_unfolding_all rfl); (case hE_159 => passes_own); k_whole)))))
  (k_with "w:eval ListComp" => ((fail_if_success k_extra "x269"); ((k_here; k_dflt (refine' cmp_e ?cf_101 ?cl_101 ?cc_101 ?ck_101 ?cn_101 ?hs_101 ?_; (case cf_101 => k_asm); (case cl_101 => with_unfolding_all rfl); (case cc_101 => decide); (case ck_101 => exact rfl); (case cn_101 => decide); (case hs_101 => intro _; with_unfolding_all rfl); k_whole)))))
  (k_with "w:exec Assign cons ListComp" => ((fail_if_success k_extra "x270"); ((k_here; k_dflt (refine' cmp_a ?cf_102 ?ce_102 ?cw_102 ?cl_102 ?cc_102 ?ck_102 ?cn_102 ?cy_102 ?cp_102 ?hs_102 ?_; (case cf_102 => k_asm); (case ce_102 => exact rfl); (case cw_102 => with_unfolding_all rfl); (case cl_102 => with_unfolding_all rfl); (case cc_102 => decide); (case ck_102 => exact rfl); (case cn_102 => decide); (case cy_102 => exact rfl); (case cp_102 => exact rfl); (case hs_102 => intro _; with_unfolding_all rfl); k_whole)))))
  (k_with "w:CmpSrc" => ((fail_if_success k_extra "x271"); ((k_dflt (first
  | (refine' cmp_tuple_rest ?fh_103 ?fl_103 ?fz_103 ?fx_103 ?fk_103 ?ff_103 ?fn_103 ?_; (case fl_103 => first | (refine' tup_of ?tn_103 ?th_103; (case tn_103 => k_asm); (case th_103 => k_mem)) | (refine' tup_K ?tf_103 ?tx_103 ?tl_103; (case tf_103 => k_asm); (case tx_103 => k_asm); (case tl_103 => k_is))); (case fh_103 => exact rfl); (case fz_103 => exact Nat.le_of_ble_eq_true rfl); (case fx_103 => exact rfl); (case fk_103 => exact rfl); (case ff_103 => k_asm); (case fn_103 => k_asm); k_whole)
  | (refine' cmp_list_rest ?fh_103 ?fl_103 ?fz_103 ?fx_103 ?fk_103 ?ff_103 ?fn_103 ?_; (case fl_103 => (refine' lst_of ?tn_103 ?th_103; (case tn_103 => k_asm); (case th_103 => k_mem))); (case fh_103 => exact rfl); (case fz_103 => exact Nat.le_of_ble_eq_true rfl); (case fx_103 => exact rfl); (case fk_103 => exact rfl); (case ff_103 => k_asm); (case fn_103 => k_asm); k_whole)
  | (refine' cmp_tuple_restT ?fh_103 ?fl_103 ?fz_103 ?fx_103 ?fk_103 ?ff_103 ?fn_103 ?_; (case fl_103 => first | (refine' tup_of ?tn_103 ?th_103; (case tn_103 => k_asm); (case th_103 => k_mem)) | (refine' tup_K ?tf_103 ?tx_103 ?tl_103; (case tf_103 => k_asm); (case tx_103 => k_asm); (case tl_103 => k_is))); (case fh_103 => exact rfl); (case fz_103 => exact Nat.le_of_ble_eq_true rfl); (case fx_103 => exact rfl); (case fk_103 => exact rfl); (case ff_103 => k_asm); (case fn_103 => k_asm); k_whole)
  | (refine' cmp_list_restT ?fh_103 ?fl_103 ?fz_103 ?fx_103 ?fk_103 ?ff_103 ?fn_103 ?_; (case fl_103 => (refine' lst_of ?tn_103 ?th_103; (case tn_103 => k_asm); (case th_103 => k_mem))); (case fh_103 => exact rfl); (case fz_103 => exact Nat.le_of_ble_eq_true rfl); (case fx_103 => exact rfl); (case fk_103 => exact rfl); (case ff_103 => k_asm); (case fn_103 => k_asm); k_whole))))))
  (k_with "w:CRest" => ((fail_if_success k_extra "x272"); ((k_dflt (first
  | ((with_reducible show CRest _ _ _ _ _ _ _ _ _ _ _ _ _ _ (_ :: _) _ _); intro C9 oC9 m9 ext9 av9 h9 tk9 E9 hC9 hx9 hC9e F9 N9 off9 hav9 hex9; (try k_sweep); (try k_unmd); (try k_fold))
  | ((with_reducible show CRest _ _ _ _ _ _ _ _ _ _ _ _ _ _ [] _ _); intro g9))))))
  (k_with "w:CRestT" => ((fail_if_success k_extra "x273"); ((k_dflt (first
  | ((with_reducible show CRestT _ _ _ _ _ _ _ _ _ _ _ _ _ _ _ (_ :: _) _ _); intro C9 oC9 m9 ext9 av9 h9 tk9 E9 hC9 hx9 hC9e F9 N9 off9 hav9 hex9; (try k_sweep); (try k_unmd); (try k_fold))
  | ((with_reducible show CRestT _ _ _ _ _ _ _ _ _ _ _ _ _ _ _ [] _ _); intro g9))))))
  (k_with "w:CEnd" => ((fail_if_success k_extra "x274"); ((k_dflt (refine' cend_intro ?eF_106 ?eN_106 ?eR_106 ?eO_106 ?_; (case eF_106 => k_asm); (case eN_106 => k_asm); (case eR_106 => repeat' (first | exact rem_base | refine' rem_cons ?_ | refine' rem_app ?_)); (case eO_106 => ktn_no "Off"); k_whole)))))
  (k_with "w:CEnd" => ((fail_if_success k_extra "x275"); ((k_dflt (refine' cend_imm ?eF_139 ?eN_139 ?eR_139 ?eO_139 ?_; (case eF_139 => k_asm); (case eN_139 => k_asm); (case eR_139 => ktn_no "Sub"); (case eO_139 => ktn_no "Off"); k_whole)))))
  (k_with "w:FinE2" => ((fail_if_success k_extra "x276"); ((intro D9 h9 tk9 F9 N9 l9; (try k_sweep); (try simp only [List.nil_append, List.cons_append] at N9); (try dsimp only); (try k_unmd); (try k_fold)))))
  (k_with "w:FinA2" => ((fail_if_success k_extra "x277"); ((intro D9 h9 tk9 F9 N9 l9; (try k_sweep); (try simp only [List.nil_append, List.cons_append] at N9); (try dsimp only); (try k_unmd); (try k_fold)))))
  (k_with "w:call type:range" => ((fail_if_success k_extra "x278"); ((k_here; k_dflt (first
  | (refine' rng1 ?rf_120 ?rn_120 ?_; (case rf_120 => k_asm); (case rn_120 => k_asm); k_whole; intro D9 h9 t19 t29 F9 N9 l9)
  | (refine' rng3 ?rf_120 ?rn_120 ?rc_120 ?rp_120 ?_; (case rf_120 => k_asm); (case rn_120 => k_asm); (case rc_120 => decide); (case rp_120 => first | decide | exact PyProof.noPylong_small (by omega)); k_whole; intro D9 h9 F9 N9 l9)); (try k_lt l9); (try k_sweep)))))
  (k_with "w:call builtin:len" => ((fail_if_success k_extra "x279"); ((k_here; (with_reducible show wpAny _ _ (call (Value.builtin "len") [Value.ref _]) _ _ _); k_dflt (refine' len_v ?n_137 ?l_137 ?v_137 ?a_137 ?_; (case n_137 => k_asm); (case l_137 => ktn_no "Mem"); (case v_137 => assumption); (case a_137 => omega); k_whole; intro t9 tk9)))))
  (k_with "w:call type:zip" => ((fail_if_success k_extra "x280"); ((k_here; (with_reducible show wpAny _ _ (call (Value.type "zip") [Value.str _ _, Value.str _ _]) _ _ _); k_dflt (refine' zip_call ?zx_138 ?zy_138 ?zf_138 ?zn_138 ?_; (case zx_138 => assumption); (case zy_138 => assumption); (case zf_138 => k_asm); (case zn_138 => k_asm); k_whole; intro i9 h9 F9 N9 z9; (try k_sweep))))))
  (k_with "w:call builtin:str.join" => ((fail_if_success k_extra "x281"); ((k_here; (with_reducible show wpAny _ _ (call (Value.builtin "str.join") [Value.str _ _, Value.ref _]) _ _ _); k_dflt (refine' join_v ?jn_128 ?jm_128 ?jv_128 ?jo_128 ?_; (case jn_128 => k_asm); (case jm_128 => ktn_no "Mem"); (case jv_128 => assumption); (case jo_128 => first | assumption | (apply ones_join; omega)); k_whole; intro t9 k9)))))
  (k_with "w:setItem ref int" => ((fail_if_success k_extra "x282"); ((k_here; (with_reducible show wpAny _ _ (setItem (Value.ref _) (Value.int _ _) _) _ _ _); k_dflt (refine' set_v ?sF_140 ?sN_140 ?sU_140 ?s0_140 ?s1_140 ?s2_140 ?_; (case sF_140 => k_asm); (case sN_140 => k_asm); (case sU_140 => k_upd); (case s0_140 => first | decide | omega); (case s1_140 => first | decide | (simp only [List.length_cons, List.length_nil]; omega) | omega); (case s2_140 => first | decide | omega); k_whole); intro h' F' N'; (try simp only [Int.reduceToNat, List.set_cons_succ, List.set_cons_zero] at N'); (try k_sweep)))))
  (k_with "PickK" => with_reducible first | exact sl_refl | (refine' pick_cons ?py_161; (case py_161 => k_extra "PickK")) | (refine' pick_app ?py_161; (case py_161 => k_extra "PickK")))
  (k_with "x242" => skip)
  (k_with "x243" => skip)
  (k_with "x244" => skip)
  (k_with "x245" => skip)
  (k_with "x246" => skip)
  (k_with "x247" => skip)
  (k_with "x248" => skip)
  (k_with "x249" => skip)
  (k_with "x250" => skip)
  (k_with "w:call ref" => ((fail_if_success k_extra "x283"); ((k_here; (with_reducible show wpAny _ _ (PySem.call (Value.ref 378) _) _ _ _); k_dflt ((first | (refine' spUse (rastq _ _ ?q0_164 _ _ ?q1_164 ?q2_164 _ ?q3_164) ?k1_164 ?k2_164 ?k3_164 ?k4_164 ?k5_164 ?k6_164 _ ?ks_164 ?pre_164 ?kd_164 ?ku_164 ?_; (case k1_164 => k_asm); (case k2_164 => k_asm); (case k3_164 => k_asm); (case k4_164 => k_asm); (case k5_164 => k_asm); (case k6_164 => first | exact rfl | assumption); (case ks_164 => ktn_no "StripA"); (case pre_164 => ktn_no "VAll"); (case q0_164 => assumption); (case q1_164 => assumption); (case q2_164 => assumption); (case q3_164 => assumption); (case kd_164 => k_room); (case ku_164 => k_room); k_whole) | (refine' spUse (rastq _ _ ?q0_164 _ _ ?q1_164 ?q2_164 _ ?q3_164) ?k1_164 ?k2_164 ?k3_164 ?k4_164 ?k5_164 ?k6_164 _ ?ks_164 ?pre_164 ?kd_164 ?ku_164 ?_; (case k1_164 => k_asm); (case k2_164 => k_asm); (case k3_164 => k_asm); (case k4_164 => k_asm); (case k5_164 => k_asm); (case k6_164 => first | exact rfl | assumption); (case ks_164 => ktn_no "Strip"); (case pre_164 => ktn_no "VAll"); (case q0_164 => assumption); (case q1_164 => assumption); (case q2_164 => assumption); (case q3_164 => assumption); (case kd_164 => k_room); (case ku_164 => k_room); k_whole)); intro r9 tl9 h9 tk9 lg9 li9 F9 N9 ne9 post9; refine VIn.op (.seq .rest) post9 ?_; clear post9; intro a4790n k4792n vs4791n hal4795n hm4793n hk4794n; (try k_sweep); (try dsimp only); (try k_unmd); (try k_fold))))))
  (k_with "w:call ref" => ((fail_if_success k_extra "x284"); ((k_here; (with_reducible show wpAny _ _ (PySem.call (Value.ref 383) _) _ _ _); k_dflt ((first | (refine' spUse (metr _ _ _ _ _ ?q0_165 ?q1_165 ?q2_165 ?q3_165) ?k1_165 ?k2_165 ?k3_165 ?k4_165 ?k5_165 ?k6_165 _ ?ks_165 ?pre_165 ?kd_165 ?ku_165 ?_; (case k1_165 => k_asm); (case k2_165 => k_asm); (case k3_165 => k_asm); (case k4_165 => k_asm); (case k5_165 => k_asm); (case k6_165 => first | exact rfl | assumption); (case ks_165 => ktn_no "StripA"); (case pre_165 => ktn_no "VAll"); (case q0_165 => assumption); (case q1_165 => assumption); (case q2_165 => assumption); (case q3_165 => assumption); (case kd_165 => k_room); (case ku_165 => k_room); k_whole) | (refine' spUse (metr _ _ _ _ _ ?q0_165 ?q1_165 ?q2_165 ?q3_165) ?k1_165 ?k2_165 ?k3_165 ?k4_165 ?k5_165 ?k6_165 _ ?ks_165 ?pre_165 ?kd_165 ?ku_165 ?_; (case k1_165 => k_asm); (case k2_165 => k_asm); (case k3_165 => k_asm); (case k4_165 => k_asm); (case k5_165 => k_asm); (case k6_165 => first | exact rfl | assumption); (case ks_165 => ktn_no "Strip"); (case pre_165 => ktn_no "VAll"); (case q0_165 => assumption); (case q1_165 => assumption); (case q2_165 => assumption); (case q3_165 => assumption); (case kd_165 => k_room); (case ku_165 => k_room); k_whole)); intro r9 tl9 h9 tk9 lg9 li9 F9 N9 ne9 post9; refine VIn.op (.seq .rest) post9 ?_; clear post9; intro a4797n k4799n vs4798n hal4802n hm4800n hk4801n; (try k_sweep); (try dsimp only); (try k_unmd); (try k_fold))))))
  trivial
section
theorem lst_in' {P : Params} {l : List (Addr × Obj)} {D : Addr} {vs : List Value} {k : Nat} {ds : List V} (h : (D, lstO vs k) ∈ l) (r : VAll P [] vs ds) : VIn P l (.ref D) (.lst ds) := .lst h (r.mono fun _ q => nomatch q)
theorem take_all {α : Type} {l : List α} {n : Nat} (h : n = l.length) : l.take n = l := by rw [h, List.take_length]
theorem rastq (w : World) (q : Q4) (hq : q.Good) (width height : Nat) (hwd : width ≤ 6) (hhe : height ≤ 6) (rule : Str) (hr : RuleOk rule) : Fn w 378 30 2500 [q.rectV, .str rule, .int width, .int height] (rowsV (q.ras width height)) := by
  (first | (refine' ex_3_0 hq ?_; (try clear hq); intro h1 h2 h3 h4) | (refine' ex_2_1 hq ?_; (try clear hq); intro h1 h2 h3 h4) | (refine' ex_1_2 hq ?_; (try clear hq); intro h1 h2 h3 h4) | (obtain ⟨h1, h2, h3, h4⟩ := hq))
  exact rast w q.x q.y q.w q.h (by omega) (by omega) h3 h4 width height hwd hhe rule hr
theorem pict_at {P : Params} {l : List (Addr × Obj)} {vs : List Value} {ds : List V} {n i : Nat} (h : VAll P l vs ds) (hn : ds.length = n) (hi : i < n) : ∃ v d, vs[((0 : Int) + (i : Int) * 1).toNat]? = some v ∧ ds[i]? = some d ∧ VIn P l v d := by
  have e : ((0 : Int) + (i : Int) * 1).toNat = i := by omega
  rw [e]
  have hl : i < ds.length := by omega
  (first | (refine' ex_2_0 (h.get' (List.getElem?_eq_getElem hl)) ?_; intro v h1 h2) | (refine' ex_1_1 (h.get' (List.getElem?_eq_getElem hl)) ?_; intro v h1 h2) | (obtain ⟨v, h1, h2⟩ := h.get' (List.getElem?_eq_getElem hl)))
  exact ⟨v, _, h1, List.getElem?_eq_getElem hl, h2⟩
theorem clip_at {crs : Str} {cs : List Q4} {i : Nat} {d : V} (h : (cs.map fun c => V.tup [.str crs, c.rectV])[i]? = some d) : ∃ c, cs[i]? = some c ∧ d = .tup [.str crs, c.rectV] := by
  rw [List.getElem?_map] at h
  cases e : cs[i]? with
  | none => rw [e] at h; cases h
  | some c => rw [e] at h; exact ⟨c, rfl, (Option.some.inj h).symm⟩
set_option maxRecDepth 100000 in
set_option maxHeartbeats 8000000 in
theorem pict (w : World) (ks : List PMk) (dms dcs : List V) (hm : dms.length = ks.length) (hc : dcs.length = ks.length) (hks : ∀ (i : Nat) k dm dc, ks[i]? = some k → dms[i]? = some dm → dcs[i]? = some dc → MarkIs k dm dc) (hn : ks.length ≤ 100) (width height : Nat) (hwd : width ≤ 6) (hhe : height ≤ 6) : Fn w 400 40 4000 [.lst dms, .lst dcs, .int width, .int height] (rowsV (picL width height ks)) := by
  unfold Fn Sp
  k_fill
  intro dp un gd cn cs a ccd cl outer A₀ base h₀ L m news imm s vs p' loose mean mg mb Q E B F X N T hk hsub hpre hd hu hret
  refine VAll.opr (.cons (.seq .rest) (.cons (.seq .rest) (.cons .lf (.cons .lf .nil)))) hpre ?_; clear hpre; intro a4978n k4980n vs4979n hal4983n hm4981n hk4982n a4985n k4987n vs4986n hal4990n hm4988n hk4989n t4992n t4994n _; 
  have N0 := N
  have hl1 := (VAll.length (by assumption : VAll _ _ _ dms)).trans hm
  have hl2 := (VAll.length (by assumption : VAll _ _ _ dcs)).trans hc
  refine wpAny_call ?_
  k_dflt (refine' code_defCG ?k1 ?k2 ?k3 ?k4 ?k5 ?kA ?kF ?kK ?k6 ?k7 ?k8 ?k9 ?kB ?kD ?_ ?c2 ?c3 ?c4; (case kA => exact rfl); (case kF => exact rfl); (case kK => assumption); (case k1 => exact B); (case k2 => exact F); (case k3 => exact X); (case k4 => exact news_sub N hsub); (case k5 => exact T); (case k6 => k_is); (case k7 => k_is); (case k8 => k_room); (case k9 => first | exact BindsTo.of_eq rfl | exact binds_K (by k_in) rfl (by k_is) rfl rfl rfl); (case kB => exact rfl); (case kD => decide +kernel); (case c2 => exact rfl); (case c3 => exact rfl); (case c4 => exact rfl); k_whole; intro g' L' h' tk' cells' FG' F' N' Y' B' X' T' l1 kG; (have lc9 := cellOff_of l1); (try k_lt l1); k_cells Y'; (try simp only [List.cons_append, List.nil_append] at N'); (try dsimp only); (try k_unmd); (try k_fold); (try (refine' aLet ?_; intro AL)))
  ((try k_unmd); (try k_fold); k_steps)
  refine' cmp_rangeI (P := w.params) _ (fun _ : Nat => V.str (txt ((List.range width).map fun _ => 46))) ?fh ?fr (small_up (n := height) (by omega)) size_up ?fz ?fx ?fk ?ff ?fn ?fX ?turn ?fin
  (case fh => exact rfl)
  (case fr => (refine' rng_of ?tn ?th; (case tn => k_asm); (case th => ktn_no "Mem")))
  (case fz => exact Nat.le_trans (by omega : _ ≤ 1000) (by decide))
  (case fx => exact rfl)
  (case fk => exact rfl)
  (case ff => k_asm)
  (case fn => k_asm)
  (case fX => (apply sl_skip1; exact sl_refl))
  (case turn => (intro i t ys C oC m2 ext av h tk E' hi hoC hxC hCe F N off hav hex; ((try k_unmd); (try k_fold); k_steps); all_goals exact congrArg V.str (dot_mul hwd).symm))
  (case fin =>
    intro g ys hv
    ((try k_unmd); (try k_fold); k_steps)
    refine' for_rangeY (Str.ofString "count") [(Str.ofString "rows"), (Str.ofString "rule"), (Str.ofString "path"), (Str.ofString "row")] (PicS w.params ks width height _ _ _ _ _) _ _ ?fh ?fr (small_up (n := ks.length) (by omega)) size_up ?fx ?fxy ?fp ?ff ?fn ?fX ?fy ?f0 ?turn ?done
    (case fh => exact rfl)
    (case ff => k_asm)
    (case fn => k_asm)
    (case fr => (refine' rng_of ?tn ?th; (case tn => k_asm); (case th => ktn_no "Mem")))
    (case fx => exact rfl)
    (case fxy => decide)
    (case fp => exact rfl)
    (case fX => (apply sl_skip1; exact sl_refl))
    (case fy => exact rfl)
    (case f0 => (refine' picS_0 ?p1 ?p2; (case p1 => assumption); (case p2 => assumption)))
    (case turn =>
      intro i t u v lg ext av h tk hi hS F N off hav hex
      (first | (refine' ex_6_2 hS ?_; (try clear hS); intro tv vs kf oc sv ob9; subst ob9; intro ob9; subst ob9; intro hoc hfv) | (refine' ex_4_4 hS ?_; (try clear hS); intro tv vs kf oc sv ob9; subst ob9; intro ob9; subst ob9; intro hoc hfv) | (obtain ⟨tv, vs, kf, oc, sv, rfl, rfl, hoc, hfv⟩ := hS))
      (first | (refine' ex_3_1 (pict_at (by assumption : VAll _ _ _ dms) hm hi) ?_; intro vm dm hvi hdm hvm) | (refine' ex_2_2 (pict_at (by assumption : VAll _ _ _ dms) hm hi) ?_; intro vm dm hvi hdm hvm) | (obtain ⟨vm, dm, hvi, hdm, hvm⟩ := pict_at (by assumption : VAll _ _ _ dms) hm hi))
      (first | (refine' ex_3_1 (pict_at (by assumption : VAll _ _ _ dcs) hc hi) ?_; intro vc dc hci hdc hvc) | (refine' ex_2_2 (pict_at (by assumption : VAll _ _ _ dcs) hc hi) ?_; intro vc dc hci hdc hvc) | (obtain ⟨vc, dc, hci, hdc, hvc⟩ := pict_at (by assumption : VAll _ _ _ dcs) hc hi))
      have hki : ks[i]? = some (ks[i]'hi) := List.getElem?_eq_getElem hi
      have hM := hks i _ dm dc hki hdm hdc
      clear hdm hdc
      rcases hM with hM | ⟨hf, hM | hM | hM⟩
      · (first | (refine' ex_4_7 hM ?_; (try clear hM); intro q rule z crs hf hq hrule hcrs hcs hcl ob9; subst ob9; intro ob9; subst ob9) | (obtain ⟨q, rule, z, crs, hf, hq, hrule, hcrs, hcs, hcl, rfl, rfl⟩ := hM))
        refine VIn.ope (.seq (.cons .lf (.cons .lf (.cons .any (.cons .any .nil))))) hvm ?_; clear hvm; intro a4839n k4841n t4866n t4868n v4857n h4854n v4862n h4859n hm4842n hk4843n e9x; subst e9x; refine VIn.ope (.seq .rest) hvc ?_; clear hvc; intro a4870n k4872n vs4871n hal4875n hm4873n hk4874n e9x; subst e9x; 
        ((try k_unmd); (try k_fold); k_steps)
        have hlc : (List.map (fun c => V.tup [V.str crs, c.rectV]) (ks[i]'hi).clips).length = (ks[i]'hi).clips.length := List.length_map _
        refine' for_fold (P := w.params) (Str.ofString "rows") [(Str.ofString "rule"), (Str.ofString "path")] (fun j => rowsV (clipRows height width (q.ras width height) ((ks[i]'hi).clips.take j))) _ _ ?hB ?fh ?fl ?fd ?ff ?fn ?fy ?f0 ?fturn ?fdone
        (case fh => exact rfl)
        (case ff => k_asm)
        (case fn => k_asm)
        (case fl => (first | (refine' tup_of ?tn ?th; (case tn => k_asm); (case th => ktn_no "Mem")) | (refine' tup_K ?tf ?tx ?tl; (case tf => k_asm); (case tx => k_asm); (case tl => k_is))))
        (case fy => exact rfl)
        (case hB => ktn_no "StripA")
        (case fd => exact VAll.mono (by assumption) (by ktn_no "Sub"))
        (case f0 => exact VIn.mono (by assumption) (by ktn_no "Sub"))
        (case fturn =>
          intro j it d u2 v2 tl2 ext2 av2 h2 tk2 hdj hit ap2 hv2 F2 N2 off2 hav2 hex2
          (first | (refine' ex_2_0 (clip_at hdj) ?_; intro c hcj ob9; subst ob9) | (refine' ex_1_1 (clip_at hdj) ?_; intro c hcj ob9; subst ob9) | (obtain ⟨c, hcj, rfl⟩ := clip_at hdj))
          have hgc := hcs c (List.mem_of_getElem? hcj)
          have hra := rows_clip ((ks[i]'hi).clips.take j) (rows_ras q width height)
          have hrb := rows_ras c width height
          refine VIn.ope (.seq (.cons .lf (.cons .any .nil))) hit ?_; clear hit; intro a4805n k4807n t4822n v4818n h4815n hm4808n hk4809n e9x; subst e9x; refine VIn.ope (.seq .rest) hv2 ?_; clear hv2; intro a4824n k4826n vs4825n hal4829n hm4827n hk4828n e9x; subst e9x; 
          ((try k_unmd); (try k_fold); k_steps)
          all_goals (refine' fend_fold ?eF ?eN ?eT ?eO ?eA ap2 ?ey ?ev ?em; (case eF => k_asm); (case eN => k_asm); (case eT => (repeat' (first | exact tkn_base | refine' tkn_cons ?_ | refine' tkn_app ?_))); (case eO => ((try simp only [List.cons_append, List.append_assoc, List.nil_append, List.append_nil]); ktn_no "Off")); (case eA => (apply apart_of; intro qa9 qo9 hq9; ktn_no "AllNe")); (case ey => exact rfl); (case ev => ((try simp only [List.cons_append, List.append_assoc, List.nil_append, List.append_nil]); exact VIn.congr (VIn.mono (by assumption) (by ktn_no "Sub")) (congrArg rowsV (clip_snoc hcj).symm))); (case em => exact (by intro z9 hz9 hs9; first | ktn_no "mz" | ((simp only [List.contains_cons, List.contains_nil, Bool.or_false, Bool.or_eq_false_iff, beq_eq_false_iff_ne, ne_eq] at hs9); simp +zetaDelta [hz9, hs9])))))
        (case fdone =>
          intro h2 tk2 u2 v2 tl2 ap2 hv2 F2 N2
          have ap9 := apart_to ap2
          have hv3 := VIn.congr hv2 (congrArg (fun cs => rowsV (clipRows height width (q.ras width height) cs)) (take_all hlc))
          refine VIn.ope (.seq .rest) hv3 ?_; clear hv3; intro a4831n k4833n vs4832n hal4836n hm4834n hk4835n e9x; subst e9x; 
          ((try k_unmd); (try k_fold); k_steps)
          refine' for_range0 [] (OverS w.params height width (signOf (picFold width height (ks.take i)).1) (clipRows height width (q.ras width height) (ks[i]'hi).clips) (picFold width height (ks.take i)).2 _ kf _) _ ?gh ?gr (small_up (n := height) (by omega)) size_up ?gx ?gp ?gf ?gn ?gX ?g0 ?gturn ?gdone
          (case gh => exact rfl)
          (case gf => k_asm)
          (case gn => k_asm)
          (case gr => (refine' rng_of ?tn ?th; (case tn => k_asm); (case th => ktn_no "Mem")))
          (case gx => exact rfl)
          (case gp => exact rfl)
          (case g0 => exact overS_0 (rows_pf _).1 hfv)
          (case gX => k_extra "PickK")
          (case gturn =>
            intro r tr u3 lg3 ext3 av3 h3 tk3 hr hS3 F3 N3 off3 hav3 hex3
            (first | (refine' ex_2_0 hS3 ?_; (try clear hS3); intro vs3 ob9; subst ob9; intro hv3r) | (refine' ex_1_1 hS3 ?_; (try clear hS3); intro vs3 ob9; subst ob9; intro hv3r) | (obtain ⟨vs3, rfl, hv3r⟩ := hS3))
            (first | (refine' ex_2_0 ((rows_clip (ks[i]'hi).clips (rows_ras q width height)).at hr) ?_; intro ha1 ha2 ha3) | (refine' ex_1_1 ((rows_clip (ks[i]'hi).clips (rows_ras q width height)).at hr) ?_; intro ha1 ha2 ha3) | (obtain ⟨ha1, ha2, ha3⟩ := (rows_clip (ks[i]'hi).clips (rows_ras q width height)).at hr))
            (first | (refine' ex_2_0 ((rows_overP (r := r) (A := (clipRows height width (q.ras width height) (ks[i]'hi).clips)) (rows_pf (width := width) (height := height) (ks.take i)) (sign_lt (picFold width height (ks.take i)).1)).at hr) ?_; intro hb1 hb2 hb3) | (refine' ex_1_1 ((rows_overP (r := r) (A := (clipRows height width (q.ras width height) (ks[i]'hi).clips)) (rows_pf (width := width) (height := height) (ks.take i)) (sign_lt (picFold width height (ks.take i)).1)).at hr) ?_; intro hb1 hb2 hb3) | (obtain ⟨hb1, hb2, hb3⟩ := (rows_overP (r := r) (A := (clipRows height width (q.ras width height) (ks[i]'hi).clips)) (rows_pf (width := width) (height := height) (ks.take i)) (sign_lt (picFold width height (ks.take i)).1)).at hr))
            rw [overP_at hr] at hb1 hb2 hb3
            have hl3 := VAll.length hv3r
            rw [List.length_map, (rows_overP (r := r) (A := (clipRows height width (q.ras width height) (ks[i]'hi).clips)) (rows_pf (width := width) (height := height) (ks.take i)) (sign_lt (picFold width height (ks.take i)).1)).1] at hl3
            ((try k_unmd); (try k_fold); k_steps)
            refine' cmp_zip (P := w.params) (n := width) _ (fun j : Nat => V.str ⟨#[if ((clipRows height width (q.ras width height) (ks[i]'hi).clips).getD r []).getD j 0 = 120 then signOf (picFold width height (ks.take i)).1 else ((picFold width height (ks.take i)).2.getD r []).getD j 0]⟩) ?fh ?zz ?xn ?yn ?fz ?fx ?fy ?fxy ?fk ?ff ?fn ?fX ?turn ?fin
            (case zz => assumption)
            (case fh => exact rfl)
            (case xn => (first | assumption | simp | (simp; omega)))
            (case yn => (first | assumption | simp | (simp; omega)))
            (case fz => exact Nat.le_trans (by omega : _ ≤ 1000) (by decide))
            (case fx => exact rfl)
            (case fy => exact rfl)
            (case fxy => decide)
            (case fk => exact rfl)
            (case ff => k_asm)
            (case fn => k_asm)
            (case fX => exact sl_refl)
            (case turn => (intro j cx cy ux uy ys C oC m2 ext2 av2 h2 tk2 E' hcx hcy hvz hoC hxC hyC hCe F N off2 hav2; ((try k_unmd); (try k_fold); k_steps); all_goals first | exact (over_yes hcx hcy (by assumption)).trans (congrArg V.str (sign_item' _).symm) | exact over_no hcx hcy (by assumption)))
            (case fin => (intro g ys hvz; replace hvz := hvz.congr (overz_map width (signOf (picFold width height (ks.take i)).1) ((clipRows height width (q.ras width height) (ks[i]'hi).clips).getD r []) ((picFold width height (ks.take i)).2.getD r [])); have hjo := ones_join (overL width (signOf (picFold width height (ks.take i)).1) ((clipRows height width (q.ras width height) (ks[i]'hi).clips).getD r []) ((picFold width height (ks.take i)).2.getD r [])) (by rw [overL_length]; omega); ((try k_unmd); (try k_fold); k_steps); all_goals (refine' fend_0 _ ?eF ?eN ?eR ?eO ?eS ?em; (case eF => k_asm); (case eN => k_asm); (case eR => ktn_no "Sub"); (case eS => exact overS_step hr (by omega) hv3r (join_one _)); (case eO => exact off_head off3); (case em => exact (by intro z9 hz9 hs9; first | ktn_no "mz" | ((simp only [List.contains_cons, List.contains_nil, Bool.or_false, Bool.or_eq_false_iff, beq_eq_false_iff_ne, ne_eq] at hs9); simp +zetaDelta [hz9, hs9]))))))
        )
          (case gdone =>
            intro h4 tk4 u4 lg4 hS4 F4 N4
            (first | (refine' ex_2_0 (overS_n hS4) ?_; intro vs4 ob9; subst ob9; intro hv4) | (refine' ex_1_1 (overS_n hS4) ?_; intro vs4 ob9; subst ob9; intro hv4) | (obtain ⟨vs4, rfl, hv4⟩ := overS_n hS4))
            ((try k_unmd); (try k_fold); k_steps)
            all_goals (refine' fend_pic ?eF ?eN off ?r1 ?r2 ?r3 ?ey hki hf ?ed rfl hv4 ?em; (case eF => k_asm); (case eN => k_asm); (case r1 => ktn_no "Mem"); (case r2 => ktn_no "Mem"); (case r3 => ktn_no "Sub"); (case ey => exact rfl); (case ed => assumption); (case em => exact (by intro z9 hz9 hy9 hs9; (simp only [List.contains_cons, List.contains_nil, Bool.or_false, Bool.or_eq_false_iff, beq_eq_false_iff_ne, ne_eq] at hs9); simp +zetaDelta [hz9, hy9, hs9])))))
  
      · (first | (refine' ex_3_0 hM ?_; (try clear hM); intro z0 z1 z2 ob9; subst ob9) | (refine' ex_2_1 hM ?_; (try clear hM); intro z0 z1 z2 ob9; subst ob9) | (refine' ex_1_2 hM ?_; (try clear hM); intro z0 z1 z2 ob9; subst ob9) | (obtain ⟨z0, z1, z2, rfl⟩ := hM))
        refine VIn.ope (.seq (.cons .lf (.cons .any (.cons .any (.cons .any .nil))))) hvm ?_; clear hvm; intro a4878n k4880n t4905n v4891n h4888n v4896n h4893n v4901n h4898n hm4881n hk4882n e9x; subst e9x; 
        ((try k_unmd); (try k_fold); k_steps)
        all_goals exact fend_y _ (by k_asm) (by k_asm) sl_refl off (by exact rfl) (picS_none hki hf hoc hfv) (by intro z9 hz9 hy9 hs9; (simp only [List.contains_cons, List.contains_nil, Bool.or_false, Bool.or_eq_false_iff, beq_eq_false_iff_ne, ne_eq] at hs9); simp +zetaDelta [hz9, hy9, hs9])
  
      · (first | (refine' ex_2_0 hM ?_; (try clear hM); intro z0 z1 ob9; subst ob9) | (refine' ex_1_1 hM ?_; (try clear hM); intro z0 z1 ob9; subst ob9) | (obtain ⟨z0, z1, rfl⟩ := hM))
        refine VIn.ope (.seq (.cons .lf (.cons .any (.cons .any .nil)))) hvm ?_; clear hvm; intro a4908n k4910n t4930n v4921n h4918n v4926n h4923n hm4911n hk4912n e9x; subst e9x; 
        ((try k_unmd); (try k_fold); k_steps)
        all_goals exact fend_y _ (by k_asm) (by k_asm) sl_refl off (by exact rfl) (picS_none hki hf hoc hfv) (by intro z9 hz9 hy9 hs9; (simp only [List.contains_cons, List.contains_nil, Bool.or_false, Bool.or_eq_false_iff, beq_eq_false_iff_ne, ne_eq] at hs9); simp +zetaDelta [hz9, hy9, hs9])
  
      · (first | (refine' ex_2_0 hM ?_; (try clear hM); intro z0 z1 ob9; subst ob9) | (refine' ex_1_1 hM ?_; (try clear hM); intro z0 z1 ob9; subst ob9) | (obtain ⟨z0, z1, rfl⟩ := hM))
        refine VIn.ope (.seq (.cons .lf (.cons .any (.cons .any .nil)))) hvm ?_; clear hvm; intro a4933n k4935n t4955n v4946n h4943n v4951n h4948n hm4936n hk4937n e9x; subst e9x; 
        ((try k_unmd); (try k_fold); k_steps)
        all_goals exact fend_y _ (by k_asm) (by k_asm) sl_refl off (by exact rfl) (picS_none hki hf hoc hfv) (by intro z9 hz9 hy9 hs9; (simp only [List.contains_cons, List.contains_nil, Bool.or_false, Bool.or_eq_false_iff, beq_eq_false_iff_ne, ne_eq] at hs9); simp +zetaDelta [hz9, hy9, hs9])
  
  )
    (case done =>
      intro h tk u v lg hS F N
      (first | (refine' ex_3_1 (picS_n hS) ?_; intro vs kf oc ob9; subst ob9; intro hfv) | (refine' ex_2_2 (picS_n hS) ?_; intro vs kf oc ob9; subst ob9; intro hfv) | (obtain ⟨vs, kf, oc, rfl, hfv⟩ := picS_n hS))
      ((try k_unmd); (try k_fold); k_steps)
      all_goals exact Fn.fin kG N0 hsub hret (by assumption) (by assumption) (by assumption) (by assumption) (by ktn_no "Sub") (lst_in' (by ktn_no "Mem") hfv))
)
  all_goals exact Fn.fin kG N hsub hret (by assumption) (by assumption) (by assumption) (by assumption) (by (ktn_no "Sub")) (by ktn_no "VIn")
end
theorem resetE9 : True := by w_top off; trivial
section
set_option maxRecDepth 100000
set_option maxHeartbeats 2000000
theorem ints_vall {P : Params} {l : List (Addr × Obj)} {vs : List Value} {zs : List Int} (h : IntsAre vs zs) : VAll P l vs (zs.map V.int) := by
  induction h with
  | nil => exact .nil
  | cons n t _ ih => exact .cons (.int n t) ih
theorem range_getD (ds : List V) : (List.range ds.length).map (fun i => ds.getD i V.none) = ds := by
  apply List.ext_getElem
  · simp
  · intro i h1 h2
    simp [List.getD, h2]
section
variable {prog : Program} {w : World} {A : Around} {E : Value → Shared → Prop} {s : Shared} {h₀ h' g : Heap} {L L' : Addr} {m m' : Str → Option Value} {env : Env} {body : List Stmt} {X news ext fl : List (Addr × Obj)} {av : List Addr} {target : Expr} {Q : Flow → Shared → Prop}
/-- a for over a list; the turns change the ledger and the name y -/
theorem for_listY {ax : Addr} {its : List Value} (y : Str) (st : List Str) (S : Nat → Value → List (Addr × Obj) → Prop) (lg₀ : List (Addr × Obj)) (y₀ : Value)
    (hh : A.handled = none) (hl : s.heap.IsList ax its.toArray)
    (F : Fr h₀ env.locals s.heap m) (N : News h₀ env.locals s.heap X) (hX : ∀ q ∈ lg₀, q ∈ X) (hy : m y = some y₀) (h0 : S 0 y₀ lg₀)
    (turn : ∀ (i : Nat) (it : Value) (u : Str → Option Value) (v : Value) (lg ext : List (Addr × Obj)) (av : List Addr) (h : Heap) (tk : Nat), its[i]? = some it → S i v lg →
      Fr h₀ env.locals h (fun z => if z = y then some v else if st.contains z then u z else m z) → News h₀ env.locals h (ext ++ lg) → Off av lg → HasAv ext av → ExtIn ext av [ax] →
      wpAny (model prog w) A (assign target env it) (fun _ s₃ => wpAny (model prog w) A (execs body env) (FPost h₀ env.locals ext av { s with heap := h, toks := tk } (fun m' lg' => (∃ v', m' y = some v' ∧ S (i + 1) v' lg') ∧ ∀ z, z ≠ y → st.contains z = false → m' z = m z) Q) E s₃) E { s with heap := h, toks := tk })
    (done : ∀ (h : Heap) (tk : Nat) (u : Str → Option Value) (v : Value) (lg : List (Addr × Obj)), S its.length v lg → Fr h₀ env.locals h (fun z => if z = y then some v else if st.contains z then u z else m z) → News h₀ env.locals h lg → Q .next { s with heap := h, toks := tk }) :
    ForSrc prog w A h₀ env target body Q E (.ref ax) s := by
  have em : ∀ {m' : Str → Option Value} {v : Value}, m' y = some v → (∀ z, z ≠ y → st.contains z = false → m' z = m z) → m' = fun z => if z = y then some v else if st.contains z then m' z else m z := by
    intro m' v hv hm
    funext z
    by_cases hzy : z = y
    · simp only [hzy, if_true, hv]
    · simp only [hzy, if_false]
      cases hst : st.contains z with
      | true => simp
      | false => simp [hm z hzy hst]
  refine for_list (news := lg₀) (fun i m' lg => (∃ v, m' y = some v ∧ S i v lg) ∧ ∀ z, z ≠ y → st.contains z = false → m' z = m z)
    hh hl F (fun p hp => N p (hX p hp)) ⟨⟨y₀, hy, h0⟩, fun _ _ _ => rfl⟩ ?_ ?_
  · rintro gg i it m₁ lg ext av h tk hi ⟨⟨v, hv, hS⟩, hm⟩ F₁ N₁ h1 h2 h3
    rw [em hv hm] at F₁
    exact wpAny_mono (turn i it m₁ v lg ext av h tk (by simpa using hi) hS F₁ N₁ h1 h2 h3) (fun _ s₃ h₃ => wpAny_mono h₃ (fun fl s₄ h₄ => FPost.up (fun _ _ k => k) h₄) fun _ _ e => e) fun _ _ e => e
  · rintro h tk m' lg F' N' ⟨⟨v, hv, hS⟩, hm⟩
    rw [em hv hm] at F'
    exact done h tk m' v lg (by simpa using hS) F' N'
theorem fend_t {S' : Value → List (Addr × Obj) → Prop} {y : Str} {st : List Str} {v' : Value} {tk' : Nat} (lg' : List (Addr × Obj)) (F : Fr h₀ L h' m') (N : News h₀ L h' X) (R : ∀ p ∈ ext ++ lg', p ∈ X) (O : Off av lg') (hy : m' y = some v') (hS : S' v' lg') (hm : ∀ z, z ≠ y → st.contains z = false → m' z = m z) :
    FEnd h₀ L ext av s (fun m' lg' => (∃ v', m' y = some v' ∧ S' v' lg') ∧ ∀ z, z ≠ y → st.contains z = false → m' z = m z) { s with heap := h', toks := tk' } :=
  FEnd.intro lg' F (fun p hp => N p (R p hp)) O ⟨⟨v', hy, hS⟩, hm⟩
/-- a for over a list that turns one value y; the ledger stands -/
theorem for_listC {ax : Addr} {its : List Value} (y : Str) (st : List Str) (I : Value → Prop) (y₀ : Value)
    (hh : A.handled = none) (hl : s.heap.IsList ax its.toArray)
    (F : Fr h₀ env.locals s.heap m) (N : News h₀ env.locals s.heap X) (hy : m y = some y₀) (h0 : I y₀)
    (turn : ∀ (i : Nat) (it : Value) (u : Str → Option Value) (v : Value) (ext : List (Addr × Obj)) (av : List Addr) (h : Heap) (tk : Nat), its[i]? = some it → I v →
      Fr h₀ env.locals h (fun z => if z = y then some v else if st.contains z then u z else m z) → News h₀ env.locals h (ext ++ X) → Off av X → HasAv ext av → ExtIn ext av [ax] →
      wpAny (model prog w) A (assign target env it) (fun _ s₃ => wpAny (model prog w) A (execs body env) (FPost h₀ env.locals ext av { s with heap := h, toks := tk } (fun m' lg' => (∃ v', m' y = some v' ∧ (I v' ∧ lg' = X)) ∧ ∀ z, z ≠ y → st.contains z = false → m' z = m z) Q) E s₃) E { s with heap := h, toks := tk })
    (done : ∀ (h : Heap) (tk : Nat) (u : Str → Option Value) (v : Value), I v → Fr h₀ env.locals h (fun z => if z = y then some v else if st.contains z then u z else m z) → News h₀ env.locals h X → Q .next { s with heap := h, toks := tk }) :
    ForSrc prog w A h₀ env target body Q E (.ref ax) s := by
  refine for_listY y st (fun _ v lg => I v ∧ lg = X) X y₀ hh hl F N (fun _ h => h) hy ⟨h0, rfl⟩ ?_ ?_
  · rintro i it u v lg ext av h tk hi ⟨hI, rfl⟩ F₁ N₁ h1 h2 h3
    exact turn i it u v ext av h tk hi hI F₁ N₁ h1 h2 h3
  · rintro h tk u v lg ⟨hI, rfl⟩ F₁ N₁
    exact done h tk u v hI F₁ N₁
theorem cend_v {P : Params} {rest : List (Addr × Obj)} {v : Value} {d : V} {tk' : Nat} (F : Fr h₀ L h' m) (N : News h₀ L h' X) (R : ∀ p ∈ ext ++ rest, p ∈ X) (O : Off av rest) (e : VIn P rest v d) :
    CEnd h₀ L m ext av s (fun lg => lg = rest ∧ VIn P rest v d) { s with heap := h', toks := tk' } :=
  CEnd.intro _ F (fun p hp => N p (R p hp)) O ⟨rfl, e⟩
theorem back_all (kG : GSub s.heap g (([] : List (Addr × Obj)).map (·.1))) (N : News h₀ L s.heap news) (F' : Fr g L' h' m') (kN : News h₀ L h' fl) (N' : News g L' h' fl) : News h₀ L h' (fl ++ news) ∧ ∀ q ∈ news, ∀ p ∈ fl, p.1 ≠ q.1 := by
  refine ⟨fun p hp => ?_, fun q hq p hp e => ?_⟩
  · rcases List.mem_append.mp hp with hp | hp
    · exact kN p hp
    · exact ⟨F'.keep _ _ (kG _ _ (N p hp).1 (fun h => nomatch h)), (N p hp).2⟩
  · have h1 := (N' p hp).2.2
    rw [e, kG _ _ (N q hq).1 (fun h => nomatch h)] at h1
    cases h1
theorem box_fin {P : Params} {D : Addr} {o : Obj} {Q : Value → Shared → Prop} {tk' : Nat} (kG : GSub s.heap g (([] : List (Addr × Obj)).map (·.1))) (N : News h₀ L s.heap news)
    (ret : ∀ D o tl h' tk', Fr h₀ L h' m → News h₀ L h' ((D, o) :: (tl ++ news)) → (∀ q ∈ news, ∀ p ∈ (D, o) :: tl, p.1 ≠ q.1) → (∀ p ∈ tl, p.1 ≠ D) → PoolOk P 0 o tl → Q (.ref D) { s with heap := h', toks := tk' })
    (F' : Fr g L' h' m') (N' : News g L' h' ((D, o) :: fl)) (kF : Fr h₀ L h' m) (kN : News h₀ L h' ((D, o) :: fl)) (hne : ∀ p ∈ fl, p.1 ≠ D) (post : PoolOk P 0 o fl) : Q (.ref D) { s with heap := h', toks := tk' } := by
  (first | (refine' ex_1_0 (back_all kG N F' kN N') ?_; intro h1 h2) | (obtain ⟨h1, h2⟩ := back_all kG N F' kN N'))
  exact ret D o fl h' tk' kF h1 h2 hne post
section
variable {scope : Scope} {cl : List (Str × Addr)} {elt : Expr} {Fin : Shared → List Value → List (Addr × Obj) → Prop} {x : Str} {px : Pos}
/-- a comprehension over a list, its elements at once -/
theorem cmp_listI {P : Params} {ax : Addr} {vs : List Value} {ds : List V} (rest : List (Addr × Obj)) (f : Nat → V) (hh : A.handled = none) (hl : s.heap.IsList ax vs.toArray) (hd : VAll P rest vs ds) (hsz : vs.length ≤ sizeLine)
    (hx : scope.names.lookup x = some .local) (hkind : scope.kind = .function) (F : Fr h₀ L s.heap m) (N : News h₀ L s.heap X) (hX : ∀ q ∈ rest, q ∈ X)
    (turn : ∀ (i : Nat) (v : Value) (d : V) C oC m₂ ext av h tk E', ds[i]? = some d → VIn P rest v d → NsObj oC m₂ → m₂ x = some v → (C, oC) ∈ ext → Fr h₀ L h m → News h₀ L h (ext ++ rest) → Off av rest → HasAv ext av → ExtIn ext av [ax] →
      wpAny (model prog w) A (eval elt (compEnvC scope cl C env)) (fun y s'' => CEnd h₀ L m ext av { s with heap := h, toks := tk } (fun lg => lg = rest ∧ VIn P rest y (f i)) s'') E' { s with heap := h, toks := tk })
    (fin : ∀ g ys, VAll P rest ys ((List.range ds.length).map f) → Fin { s with heap := g } ys rest) :
    CmpSrc prog w A h₀ L m env scope cl (.Name x px) [] elt Fin E (.ref ax) s := by
  refine cmp_listS (fun i ys lg => lg = rest ∧ VAll P rest ys ((List.range i).map f)) rest hh hl hsz hx hkind F N hX ⟨rfl, .nil⟩ ?_ ?_
  · rintro i v ys lg C oC m₂ ext av h tk E' hi ⟨rfl, hv⟩ hoC hxC hCe F N h1 h2 h3
    (first | (refine' ex_2_0 (hd.get hi) ?_; intro d hdi hvd) | (refine' ex_1_1 (hd.get hi) ?_; intro d hdi hvd) | (obtain ⟨d, hdi, hvd⟩ := hd.get hi))
    refine wpAny_mono (turn i v d C oC m₂ ext av h tk E' hdi hvd hoC hxC hCe F N h1 h2 h3) (fun y s₅ h₅ => ?_) fun _ _ e => e
    (first | (refine' ex_6_2 h₅ ?_; (try clear h₅); intro h' tk' lg' e F' N' ha ob9; subst ob9; intro hvi) | (refine' ex_4_4 h₅ ?_; (try clear h₅); intro h' tk' lg' e F' N' ha ob9; subst ob9; intro hvi) | (obtain ⟨h', tk', lg', e, F', N', ha, rfl, hvi⟩ := h₅))
    refine ⟨h', tk', _, e, F', N', ha, rfl, ?_⟩
    rw [range_snoc]
    exact hv.snoc hvi
  · rintro g ys lg ⟨rfl, hv⟩
    rw [hd.length] at hv
    exact fin g ys hv
end
end
/-- the contract of the law's box -/
noncomputable def Bx (w : World) (f : Addr) (D U : Nat) : Prop :=
  ∀ (dp un : Nat) (gd : Option (List Code)) (cn : Str) (cs : Scope) (a : Addr) (ccd : Value) (cl : List (Str × Addr)) (outer : List Env) (A₀ : Around) (base h₀ : Heap) (L : Addr) (m : Str → Option Value) (news : List (Addr × Obj)) (s : Shared) (S : Addr) (vs : List Value) (zs : List Int) (p : Program) (loose : List Str) (mean : ExcName → Option Value) (mg mb : Str → Option Value)
    (Q E : Value → Shared → Prop),
    Below A₀ base outer h₀ → Fr h₀ L s.heap m → (foo0.heap_1_39 w.params).In h₀ → News h₀ L s.heap news → Top p loose mean mg mb h₀ → cs.kind = .function → h₀.IsList S vs.toArray → IntsAre vs zs → zs.length ≤ 63 → dp + D < recursionLimit → un + U < cLine →
    (∀ D o tl h' tk', Fr h₀ L h' m → News h₀ L h' ((D, o) :: (tl ++ news)) → (∀ q ∈ news, ∀ p ∈ (D, o) :: tl, p.1 ≠ q.1) → (∀ p ∈ tl, p.1 ≠ D) → PoolOk w.params 0 o tl → Q (.ref D) { s with heap := h', toks := tk' }) →
    wpAny (model PySem.Challenge.rw_nn0221_01.row.prog w) (ktrTop dp un gd cn cs L a ccd cl outer) (call (.ref f) [.ref S]) Q E s
end
theorem resetNB : True := by w_top off; trivial
theorem linesNB : True := by
  (k_with "x255" => skip)
  (k_with "x260" => skip)
  (k_with "x256" => skip)
  (k_with "x257" => skip)
  (k_with "x258" => skip)
  (k_with "x259" => skip)
  (k_with "x263" => skip)
  (k_with "x264" => skip)
  (k_with "x265" => skip)
  (k_with "x283" => skip)
  (k_with "x284" => skip)
  (k_with "x281" => skip)
  (k_with "x280" => skip)
  (k_with "x282" => skip)
  (k_with "x266" => skip)
  (k_with "x267" => skip)
  (k_with "x268" => skip)
  (k_with "x251" => skip)
  (k_with "x252" => skip)
  (k_with "x253" => skip)
  (k_with "x254" => skip)
  (k_with "w:binaryOp Pow int int" => ((fail_if_success k_extra "x285"); ((k_here; (with_reducible refine pow_int_small ?kb1_46 ?kb2_46 ?kb3_46 ?_); (case kb1_46 => first | decide | omega); (case kb2_46 => first | decide | omega); (case kb3_46 => decide)))))
  (k_with "x275" => skip)
  (k_with "w:CEnd" => ((fail_if_success k_extra "x286"); ((k_dflt (refine' cend_v ?eF_166 ?eN_166 ?eR_166 ?eO_166 ?_; (case eF_166 => k_asm); (case eN_166 => k_asm); (case eR_166 => ktn_no "Sub"); (case eO_166 => ktn_no "Off"); k_whole)))))
  trivial
section
noncomputable def BoxI (v : Value) : Prop := ∃ st t, v = .int st t ∧ (0 ≤ st ∧ st < 2147483647)
theorem lst_arr_of {h₀ h : Heap} {L : Addr} {news : List (Addr × Obj)} {a : Addr} {vs : List Value} {k : Nat} (N : News h₀ L h news) (hm : (a, PySem.W.listOf vs.toArray k) ∈ news) : h.IsList a vs.toArray := ⟨_, (N _ hm).1, rfl, _, rfl⟩
theorem int_at {zs : List Int} {i : Nat} {d : V} (h : (zs.map V.int)[i]? = some d) : ∃ z, d = V.int z := by
  rw [List.getElem?_map] at h
  cases e : zs[i]? with
  | none => rw [e] at h; cases h
  | some z => rw [e] at h; exact ⟨z, (Option.some.inj h).symm⟩
theorem getD_at {ds : List V} {i : Nat} {d : V} (h : ds[i]? = some d) : ds.getD i V.none = d := by simp [List.getD, h]
set_option maxRecDepth 100000 in
set_option maxHeartbeats 8000000 in
theorem box (w : World) : Bx w 459 10 600 := by
  unfold Bx
  k_fill
  intro dp un gd cn cs a ccd cl outer A₀ base h₀ L m news s S vs zs p' loose mean mg mb Q E B F X N T hk hS hI hz hd hu hret
  have hsub : ∀ q ∈ ([] : List (Addr × Obj)), q ∈ news := sl_nil
  refine wpAny_call ?_
  have N0 := N
  k_dflt (refine' code_defG ?k1 ?k2 ?k3 ?k4 ?k5 ?kA ?kF ?kK ?k6 ?k7 ?k8 ?k9 ?kB ?_ ?c2 ?c3 ?c4 ?c5; (case kA => exact rfl); (case kF => exact rfl); (case kK => assumption); (case k1 => exact B); (case k2 => exact F); (case k3 => exact X); (case k4 => exact news_sub N hsub); (case k5 => exact T); (case k6 => k_is); (case k7 => k_is); (case k8 => k_room); (case k9 => first | exact BindsTo.of_eq rfl | exact binds_K (by k_in) rfl (by k_is) rfl rfl rfl); (case c5 => decide); (case kB => exact locs rfl); (case c2 => exact rfl); (case c3 => exact rfl); (case c4 => exact rfl); k_whole; intro g' L' h' FG' F' N' B' X' T' kG; (try dsimp only); (try k_unmd); (try k_fold); (try (refine' aLet ?_; intro AL)))
  have hS' := Fr.lst FG' hS
  ((try k_unmd); (try k_fold); k_steps)
  (rename IntsAre _ (List.take 40 _) => hI9)
  have hd9 := ints_vall (P := w.params) (l := []) hI9
  have hl9 : (zs.take 40).length ≤ 40 := List.length_take_le _ _
  refine' cmp_listI (P := w.params) _ (fun i => ((zs.take 40).map V.int).getD i V.none) ?fh ?fl ?fd ?fz ?fx ?fk ?ff ?fn ?fX ?turn ?fin
  (case fh => exact rfl)
  (case ff => k_asm)
  (case fn => k_asm)
  (case fl => (refine' lst_arr_of ?tn ?th; (case tn => k_asm); (case th => ktn_no "Mem")))
  (case fx => exact rfl)
  (case fk => exact rfl)
  (case fX => exact sl_refl)
  (case fd => exact VAll.mono hd9 sl_nil)
  (case fz => exact Nat.le_trans (by rw [hd9.length, List.length_map]; omega : _ ≤ 1000) (by decide))
  (case turn =>
    intro i v d C oC m2 ext av h tk E' hdi hvd hoC hxC hCe F N off hav hex
    (first | (refine' ex_1_0 (int_at hdi) ?_; intro z ob9; subst ob9) | (obtain ⟨z, rfl⟩ := int_at hdi))
    (first | (refine' ex_1_0 (VIn.x hvd) ?_; intro tz ob9; subst ob9) | (obtain ⟨tz, rfl⟩ := VIn.x hvd))
    ((try k_unmd); (try k_fold); k_steps)
    all_goals exact VIn.congr (VIn.int _ _) (getD_at hdi).symm)
  (case fin =>
    intro g ys hv
    rw [range_getD] at hv
    have hvl := hv.length
    rw [List.length_map] at hvl
    clear hd9 hI9
    generalize zs.take 40 = zc at hv hl9 hvl
    rcases zc with _ | ⟨z0, zr⟩
    · have e9 := VAll.n hv
      subst e9
      ((try k_unmd); (try k_fold); k_steps)
      all_goals (
        refine' for_listC (Str.ofString "state") [(Str.ofString "cell")] BoxI _ ?gh ?gl ?gf ?gn ?gy ?g0 ?gturn ?gdone
        (case gh => exact rfl)
        (case gf => k_asm)
        (case gn => k_asm)
        (case gl => (refine' lst_of ?tn ?th; (case tn => k_asm); (case th => exact List.mem_cons_self)))
        (case gy => exact rfl)
        (case g0 => exact ⟨_, _, rfl, by decide, by decide⟩)
        (case gturn =>
          intro i it u v ext av h tk hit hSt F N off hav hex
          (first | (refine' ex_3_0 hSt ?_; (try clear hSt); intro st ts ob9; subst ob9; intro hst) | (refine' ex_2_1 hSt ?_; (try clear hSt); intro st ts ob9; subst ob9; intro hst) | (refine' ex_1_2 hSt ?_; (try clear hSt); intro st ts ob9; subst ob9; intro hst) | (obtain ⟨st, ts, rfl, hst⟩ := hSt))
          (first | (refine' ex_2_0 (hv.get hit) ?_; intro d hdi hvd) | (refine' ex_1_1 (hv.get hit) ?_; intro d hdi hvd) | (obtain ⟨d, hdi, hvd⟩ := hv.get hit))
          (first | (refine' ex_1_0 (int_at hdi) ?_; intro z ob9; subst ob9) | (obtain ⟨z, rfl⟩ := int_at hdi))
          (first | (refine' ex_1_0 (VIn.x hvd) ?_; intro tz ob9; subst ob9) | (obtain ⟨tz, rfl⟩ := VIn.x hvd))
          ((try k_unmd); (try k_fold); k_steps)
          all_goals exact fend_t _ (by k_asm) (by k_asm) (by ktn_no "Sub") off (by exact rfl) ⟨⟨_, _, rfl, by (first | omega | exact fmod_in (by decide) | exact (fmod_in (by decide)).1 | exact (fmod_in (Int.pow_pos (by decide))).1)⟩, rfl⟩ (by intro z9 hz9 hs9; first | ktn_no "mz" | ((simp only [List.contains_cons, List.contains_nil, Bool.or_false, Bool.or_eq_false_iff, beq_eq_false_iff_ne, ne_eq] at hs9); simp +zetaDelta [hz9, hs9])))
        (case gdone =>
          intro h tk u v hSt F N
          (first | (refine' ex_3_0 hSt ?_; (try clear hSt); intro st ts ob9; subst ob9; intro hst) | (refine' ex_2_1 hSt ?_; (try clear hSt); intro st ts ob9; subst ob9; intro hst) | (refine' ex_1_2 hSt ?_; (try clear hSt); intro st ts ob9; subst ob9; intro hst) | (obtain ⟨st, ts, rfl, hst⟩ := hSt))
          ((try k_unmd); (try k_fold); k_steps)
          all_goals (refine' box_fin kG N0 hret ?f1 ?f2 ?f3 ?f4 ?f5 ?f6; (case f1 => assumption); (case f2 => assumption); (case f3 => assumption); (case f4 => assumption); (case f5 => ktn_no "AllNe"); (case f6 => exact ⟨_, _, _, _, _, _, _, _, _, _, _, rfl, (by exact List.mem_cons_self), (hv.mono (by ktn_no "Sub")), (by simp only [List.length_cons, List.length_nil] at hl9 hvl ⊢; omega), (by (first | omega | exact fmod_in (by decide) | exact (fmod_in (by decide)).1 | exact (fmod_in (Int.pow_pos (by decide))).1)), hst, (by omega)⟩))))
    · (first | (refine' ex_3_1 (VAll.x hv) ?_; intro v0 yr e9 hv0 hvr) | (refine' ex_2_2 (VAll.x hv) ?_; intro v0 yr e9 hv0 hvr) | (obtain ⟨v0, yr, e9, hv0, hvr⟩ := VAll.x hv))
      subst e9
      (first | (refine' ex_1_0 (VIn.x hv0) ?_; intro t0 e9) | (obtain ⟨t0, e9⟩ := VIn.x hv0))
      subst e9
      ((try k_unmd); (try k_fold); k_steps)
      all_goals (
        refine' for_listC (Str.ofString "state") [(Str.ofString "cell")] BoxI _ ?gh ?gl ?gf ?gn ?gy ?g0 ?gturn ?gdone
        (case gh => exact rfl)
        (case gf => k_asm)
        (case gn => k_asm)
        (case gl => (refine' lst_of ?tn ?th; (case tn => k_asm); (case th => exact List.mem_cons_self)))
        (case gy => exact rfl)
        (case g0 => exact ⟨_, _, rfl, by decide, by decide⟩)
        (case gturn =>
          intro i it u v ext av h tk hit hSt F N off hav hex
          (first | (refine' ex_3_0 hSt ?_; (try clear hSt); intro st ts ob9; subst ob9; intro hst) | (refine' ex_2_1 hSt ?_; (try clear hSt); intro st ts ob9; subst ob9; intro hst) | (refine' ex_1_2 hSt ?_; (try clear hSt); intro st ts ob9; subst ob9; intro hst) | (obtain ⟨st, ts, rfl, hst⟩ := hSt))
          (first | (refine' ex_2_0 (hv.get hit) ?_; intro d hdi hvd) | (refine' ex_1_1 (hv.get hit) ?_; intro d hdi hvd) | (obtain ⟨d, hdi, hvd⟩ := hv.get hit))
          (first | (refine' ex_1_0 (int_at hdi) ?_; intro z ob9; subst ob9) | (obtain ⟨z, rfl⟩ := int_at hdi))
          (first | (refine' ex_1_0 (VIn.x hvd) ?_; intro tz ob9; subst ob9) | (obtain ⟨tz, rfl⟩ := VIn.x hvd))
          ((try k_unmd); (try k_fold); k_steps)
          all_goals exact fend_t _ (by k_asm) (by k_asm) (by ktn_no "Sub") off (by exact rfl) ⟨⟨_, _, rfl, by (first | omega | exact fmod_in (by decide) | exact (fmod_in (by decide)).1 | exact (fmod_in (Int.pow_pos (by decide))).1)⟩, rfl⟩ (by intro z9 hz9 hs9; first | ktn_no "mz" | ((simp only [List.contains_cons, List.contains_nil, Bool.or_false, Bool.or_eq_false_iff, beq_eq_false_iff_ne, ne_eq] at hs9); simp +zetaDelta [hz9, hs9])))
        (case gdone =>
          intro h tk u v hSt F N
          (first | (refine' ex_3_0 hSt ?_; (try clear hSt); intro st ts ob9; subst ob9; intro hst) | (refine' ex_2_1 hSt ?_; (try clear hSt); intro st ts ob9; subst ob9; intro hst) | (refine' ex_1_2 hSt ?_; (try clear hSt); intro st ts ob9; subst ob9; intro hst) | (obtain ⟨st, ts, rfl, hst⟩ := hSt))
          ((try k_unmd); (try k_fold); k_steps)
          all_goals (refine' box_fin kG N0 hret ?f1 ?f2 ?f3 ?f4 ?f5 ?f6; (case f1 => assumption); (case f2 => assumption); (case f3 => assumption); (case f4 => assumption); (case f5 => ktn_no "AllNe"); (case f6 => exact ⟨_, _, _, _, _, _, _, _, _, _, _, rfl, (by exact List.mem_cons_self), (hv.mono (by ktn_no "Sub")), (by simp only [List.length_cons, List.length_nil] at hl9 hvl ⊢; omega), (by (first | omega | exact fmod_in (by decide) | exact (fmod_in (by decide)).1 | exact (fmod_in (Int.pow_pos (by decide))).1)), hst, (by omega)⟩)))))
end
theorem resetL1 : True := by w_top off; trivial
section
set_option maxRecDepth 100000
set_option maxHeartbeats 2000000
noncomputable abbrev Q4.toldV (q : Q4) : V := Mine.toldV q.x q.y q.w q.h
/-- the rule at a place of the law's list -/
noncomputable def ruleAt (k : Int) : Str := if k = 1 then Str.ofString "evenodd" else Str.ofString "nonzero"
theorem ruleOk_at (k : Int) : RuleOk (ruleAt k) := by
  unfold ruleAt RuleOk
  split
  · exact .inr rfl
  · exact .inl rfl
/-- a turn of the law's loop -/
structure Turn where
  sort : Int
  four : Q4
  rule : Str
  clips : List Q4
structure Turn.Good (t : Turn) : Prop where
  s : 0 ≤ t.sort ∧ t.sort < 6
  f : t.four.Good
  r : RuleOk t.rule
  n : t.clips.length ≤ 2
  c : ∀ c ∈ t.clips, c.Good
noncomputable def Turn.crule (t : Turn) : Str := ruleAt ((t.clips.length : Int) - 1)
noncomputable abbrev fillV (rule : Str) (q : Q4) : V := .tup [.str (Str.ofString "fill"), .str rule, q.rectV, .tup [.str (Str.ofString "Pattern"), .tup [.dec 5 1, .str (Str.ofString "P")]]]
noncomputable abbrev strokeV (q : Q4) : V := .tup [.str (Str.ofString "stroke"), q.rectV, .tup [.str (Str.ofString "DeviceGray"), .tup [.dec 1 0]], .dec q.w 0]
noncomputable abbrev clipV (rule : Str) (q : Q4) : V := .tup [.str (Str.ofString "clip"), .str rule, q.rectV]
noncomputable abbrev imageV (q : Q4) : V := .tup [.str (Str.ofString "image"), .str (Str.ofString "I"), .mat q.x 0 0 q.y 2 3]
noncomputable def Turn.mark (t : Turn) : V := if t.sort < 3 then fillV t.rule t.four else if t.sort = 3 then strokeV t.four else if t.sort = 4 then clipV t.rule t.four else imageV t.four
noncomputable abbrev fillT (rule : Str) (q : Q4) : V := .tup [.str (Str.ofString "fill"), .str rule, q.toldV, .tup [.str (Str.ofString "Pattern"), .tup [.int 5, .int 1], .str (Str.ofString "P")]]
noncomputable abbrev strokeT (q : Q4) : V := .tup [.str (Str.ofString "stroke"), q.toldV, .tup [.str (Str.ofString "DeviceGray"), .tup [.int 1, .int 0]], .tup [.int q.w, .int 0]]
noncomputable abbrev clipT (rule : Str) (q : Q4) : V := .tup [.str (Str.ofString "clip"), .str rule, q.toldV]
noncomputable abbrev imageT (q : Q4) : V := .tup [.str (Str.ofString "image"), .str (Str.ofString "I"), .tup [.tup [.int q.x, .int 0], .tup [.int 0, .int 0], .tup [.int 0, .int 0], .tup [.int q.y, .int 0], .tup [.int 2, .int 0], .tup [.int 3, .int 0]]]
noncomputable def Turn.due (t : Turn) : V := if t.sort < 3 then fillT t.rule t.four else if t.sort = 3 then strokeT t.four else if t.sort = 4 then clipT t.rule t.four else imageT t.four
noncomputable def Turn.held (t : Turn) : V := clipsV t.crule t.clips
noncomputable def Turn.pm (t : Turn) : PMk := ⟨if t.sort < 3 then some t.four else none, t.clips⟩
noncomputable abbrev fillIV (k : Q4 × List Q4) : V := .tup [k.1.four, .lst (k.2.map Q4.four)]
theorem Turn.isMark (t : Turn) (h : t.Good) : MarkIs t.pm t.mark t.held := by
  unfold Turn.pm Turn.mark Turn.held MarkIs
  by_cases h1 : t.sort < 3
  · rw [if_pos h1, if_pos h1]
    exact .inl ⟨_, _, _, _, rfl, h.f, h.r, ruleOk_at _, h.c, h.n, rfl, rfl⟩
  · rw [if_neg h1, if_neg h1]
    refine .inr ⟨rfl, ?_⟩
    split
    · exact .inl ⟨_, _, _, rfl⟩
    · split
      · exact .inr (.inl ⟨_, _, rfl⟩)
      · exact .inr (.inr ⟨_, _, rfl⟩)
noncomputable def ApartA (tl : List (Addr × Obj)) (as : List Addr) : Prop := ∀ a ∈ as, ∀ p ∈ tl, p.1 ≠ a
theorem ApartA.app {a b : List (Addr × Obj)} {as : List Addr} (h : ApartA a as) (k : ApartA b as) : ApartA (a ++ b) as := fun x hx p hp => (List.mem_append.mp hp).elim (h x hx p) (k x hx p)
theorem ApartA.nil {as : List Addr} : ApartA [] as := fun _ _ _ h => nomatch h
theorem an_addr {X : List (Addr × Obj)} {as : List Addr} {d : Addr} (h : ApartA X as) (m : d ∈ as) : ∀ p ∈ X, p.1 ≠ d := h d m
theorem apartA_of {X : List (Addr × Obj)} {as : List Addr} (h : ∀ a ∈ as, ∀ p ∈ X, p.1 ≠ a) : ApartA X as := h
theorem apartA_cons {X : List (Addr × Obj)} {a : Addr} {as : List Addr} (h : ∀ p ∈ X, p.1 ≠ a) (k : ApartA X as) : ApartA X (a :: as) := by
  intro b hb
  rcases List.mem_cons.mp hb with rfl | hb
  · exact h
  · exact k b hb
theorem apartA_nil {X : List (Addr × Obj)} : ApartA X [] := fun _ h => nomatch h
/-- addresses that stand in a ledger -/
noncomputable def AIn (as : List Addr) (Y : List (Addr × Obj)) : Prop := ∀ a ∈ as, ∃ o, (a, o) ∈ Y
theorem ain_nil {Y : List (Addr × Obj)} : AIn [] Y := fun _ h => nomatch h
theorem ain_put {Y : List (Addr × Obj)} {as : List Addr} {a : Addr} {o : Obj} (m : (a, o) ∈ Y) (r : AIn as Y) : AIn (a :: as) Y := List.forall_mem_cons.mpr ⟨⟨o, m⟩, r⟩
theorem ain_cons {as : List Addr} {x : Addr × Obj} {Y : List (Addr × Obj)} (h : AIn as Y) : AIn as (x :: Y) := fun a ha => (h a ha).elim fun o m => ⟨o, .tail _ m⟩
theorem ain_app {as : List Addr} {T Y : List (Addr × Obj)} (h : AIn as Y) : AIn as (T ++ Y) := fun a ha => (h a ha).elim fun o m => ⟨o, List.mem_append_right _ m⟩
theorem ain_here {as : List Addr} {x : Addr × Obj} {X : List (Addr × Obj)} (_ : x.1 ∈ as) (h : AIn as (x :: X)) : AIn as (x :: X) := h
theorem apA_nil {as : List Addr} : ApartA [] as := fun _ _ _ h => nomatch h
theorem apA_gt {as : List Addr} {x : Addr × Obj} {X Y : List (Addr × Obj)} (h : ∀ p ∈ Y, p.1 < x.1) (m : AIn as Y) (r : ApartA X as) : ApartA (x :: X) as := fun a ha => List.forall_mem_cons.mpr ⟨(m a ha).elim fun _ k => Nat.ne_of_gt (h _ k), r a ha⟩
theorem apA_ne {as : List Addr} {x : Addr × Obj} {X Y : List (Addr × Obj)} (h : ∀ p ∈ Y, p.1 ≠ x.1) (m : AIn as Y) (r : ApartA X as) : ApartA (x :: X) as := fun a ha => List.forall_mem_cons.mpr ⟨(m a ha).elim fun _ k e => h _ k e.symm, r a ha⟩
theorem apA_seg {as : List Addr} {T Y : List (Addr × Obj)} (h : ∀ q ∈ Y, ∀ p ∈ T, p.1 ≠ q.1) (m : AIn as Y) : ApartA T as := fun a ha => (m a ha).elim fun _ k => h _ k
theorem PoolOk.le {P : Params} {n n' : Nat} {o : Obj} {l : List (Addr × Obj)} (h : PoolOk P n o l) (hn : n ≤ n') : PoolOk P n' o l := by
  (first | (refine' ex_11_6 h ?_; (try clear h); intro C vsC kC zs g st pl t1 t2 t3 k e h1 h2 h3 h4 h5 h6) | (obtain ⟨C, vsC, kC, zs, g, st, pl, t1, t2, t3, k, e, h1, h2, h3, h4, h5, h6⟩ := h))
  exact ⟨C, vsC, kC, zs, g, st, pl, t1, t2, t3, k, e, h1, h2, h3, h4, h5, by omega⟩
/-- what the law's loop has gathered -/
structure LawI (P : Params) (B : List (Addr × Obj)) (i : Nat) (ts : List Turn) (o : Obj) (ms hs fs ds : List Value) (tl : List (Addr × Obj)) : Prop where
  pool : PoolOk P (3 + 20 * i) o (tl ++ B)
  good : ∀ t ∈ ts, t.Good
  len : ts.length = i
  vm : VAll P (tl ++ B) ms (ts.map Turn.mark)
  vh : VAll P (tl ++ B) hs (ts.map Turn.held)
  vf : VAll P (tl ++ B) fs ((fillsOf (ts.map Turn.pm)).map fillIV)
  vd : VAll P (tl ++ B) ds (ts.map Turn.due)
theorem all_snoc {ts : List Turn} {t : Turn} (h : ∀ t ∈ ts, t.Good) (g : t.Good) : ∀ u ∈ ts ++ [t], u.Good := by
  intro u hu
  rcases List.mem_append.mp hu with hu | hu
  · exact h u hu
  · rw [List.mem_singleton.mp hu]; exact g
theorem LawI.step {P : Params} {B : List (Addr × Obj)} {i n : Nat} {ts : List Turn} {o o' : Obj} {ms hs fs ds fs' : List Value} {tl tl' : List (Addr × Obj)} {v1 v2 v4 : Value} (h : LawI P B i ts o ms hs fs ds tl) (t : Turn) (g : t.Good) (pl : PoolOk P n o' (tl' ++ (tl ++ B))) (hn : n ≤ 3 + 20 * (i + 1))
    (m : VIn P (tl' ++ (tl ++ B)) v1 t.mark) (hh : VIn P (tl' ++ (tl ++ B)) v2 t.held) (f : VAll P (tl' ++ (tl ++ B)) fs' ((fillsOf ((ts ++ [t]).map Turn.pm)).map fillIV)) (d : VIn P (tl' ++ (tl ++ B)) v4 t.due) :
    LawI P B (i + 1) (ts ++ [t]) o' (ms ++ [v1]) (hs ++ [v2]) fs' (ds ++ [v4]) (tl' ++ tl) := by
  have s : ∀ q ∈ tl ++ B, q ∈ tl' ++ (tl ++ B) := fun q hq => List.mem_append_right _ hq
  refine ⟨?_, all_snoc h.good g, by simp [h.len], ?_, ?_, ?_, ?_⟩
  · rw [List.append_assoc]; exact pl.le hn
  · rw [List.append_assoc, List.map_append]; exact (h.vm.mono s).snoc m
  · rw [List.append_assoc, List.map_append]; exact (h.vh.mono s).snoc hh
  · rw [List.append_assoc]; exact f
  · rw [List.append_assoc, List.map_append]; exact (h.vd.mono s).snoc d
theorem fills_step1 {P : Params} {l l' : List (Addr × Obj)} {ts : List Turn} {t : Turn} {fs : List Value} {v : Value} (h : VAll P l fs ((fillsOf (ts.map Turn.pm)).map fillIV)) (s : ∀ q ∈ l, q ∈ l') (hs : t.sort < 3) (hv : VIn P l' v (fillIV (t.four, t.clips))) : VAll P l' (fs ++ [v]) ((fillsOf ((ts ++ [t]).map Turn.pm)).map fillIV) := by
  rw [List.map_append, List.map_cons, List.map_nil, fillsOf_snoc]
  have e : t.pm.fill = some t.four := by unfold Turn.pm; rw [if_pos hs]
  rw [e, List.map_append]
  exact (h.mono s).snoc hv
theorem fills_step0 {P : Params} {l l' : List (Addr × Obj)} {ts : List Turn} {t : Turn} {fs : List Value} (h : VAll P l fs ((fillsOf (ts.map Turn.pm)).map fillIV)) (s : ∀ q ∈ l, q ∈ l') (hs : ¬ t.sort < 3) : VAll P l' fs ((fillsOf ((ts ++ [t]).map Turn.pm)).map fillIV) := by
  rw [List.map_append, List.map_cons, List.map_nil, fillsOf_snoc]
  have e : t.pm.fill = none := by unfold Turn.pm; rw [if_neg hs]
  rw [e, List.append_nil]
  exact h.mono s
/-- the ledger of the law's loop -/
noncomputable abbrev lawLg (p c D Fl H M : Addr) (o oc : Obj) (ds fs hs ms : List Value) (kd kf kh km : Nat) (tl R : List (Addr × Obj)) : List (Addr × Obj) :=
  (p, o) :: (c, oc) :: (tl ++ (D, PySem.W.listOf ds.toArray kd) :: (Fl, PySem.W.listOf fs.toArray kf) :: (H, PySem.W.listOf hs.toArray kh) :: (M, PySem.W.listOf ms.toArray km) :: R)
/-- addresses that differ, two by two -/
inductive DistA : List Addr → Prop
  | nil : DistA []
  | cons {a : Addr} {as : List Addr} : (∀ b ∈ as, a ≠ b) → DistA as → DistA (a :: as)
theorem dn_head {a b : Addr} {as : List Addr} (h : DistA (a :: as)) (m : b ∈ as) : a ≠ b := by
  cases h with
  | cons h _ => exact h b m
theorem dn_head' {a b : Addr} {as : List Addr} (h : DistA (a :: as)) (m : b ∈ as) : b ≠ a := (dn_head h m).symm
theorem dn_tail {a : Addr} {as : List Addr} (h : DistA (a :: as)) : DistA as := by
  cases h with
  | cons _ h => exact h
theorem all_cons {q : Addr → Prop} {b : Addr} {as : List Addr} (h : q b) (k : ∀ x ∈ as, q x) : ∀ x ∈ b :: as, q x := List.forall_mem_cons.mpr ⟨h, k⟩
theorem all_nil {q : Addr → Prop} : ∀ x ∈ ([] : List Addr), q x := fun _ h => nomatch h
inductive LawS (P : Params) (p c D Fl H M cp e e2 e3 : Addr) (ocp : Obj) (B R2 : List (Addr × Obj)) (i : Nat) (lg : List (Addr × Obj)) : Prop where
  | mk ts o oc sv ms hs fs ds kd kf kh km tl : lg = lawLg p c D Fl H M o oc ds fs hs ms kd kf kh km tl ((cp, ocp) :: (B ++ R2)) → oc.data = .cell sv → LawI P B i ts o ms hs fs ds tl → ApartA tl [p, c, D, Fl, H, M, cp, e, e2, e3] → LawS P p c D Fl H M cp e e2 e3 ocp B R2 i lg
theorem lawS_0 {P : Params} {p c D Fl H M cp e e2 e3 : Addr} {R2 B : List (Addr × Obj)} {o oc ocp : Obj} {sv : Option Value} (ho : oc.data = .cell sv) (hp : PoolOk P 3 o B) :
    LawS P p c D Fl H M cp e e2 e3 ocp B R2 0 ((p, o) :: (c, oc) :: (D, PySem.W.listOf #[] 0) :: (Fl, PySem.W.listOf #[] 0) :: (H, PySem.W.listOf #[] 0) :: (M, PySem.W.listOf #[] 0) :: (cp, ocp) :: (B ++ R2)) :=
  ⟨[], o, oc, sv, [], [], [], [], 0, 0, 0, 0, [], rfl, ho, ⟨hp, (fun _ h => nomatch h), rfl, .nil, .nil, .nil, .nil⟩, .nil⟩
theorem lawX2 {rng p c Du Fl H M cp tup cy cc tb : Addr × Obj} {tl t1 t2 t3 : List (Addr × Obj)} : ∀ q ∈ p :: c :: Du :: Fl :: H :: M :: cp :: ((tl ++ (t1 ++ (t2 ++ t3))) ++ [cy, cc, tb]), q ∈ rng :: p :: (tl ++ Du :: Fl :: H :: M :: tup :: (t1 ++ (t2 ++ (t3 ++ [cy, cc, c, cp, tb])))) := by
  intro q hq
  simp only [List.mem_cons, List.mem_append, List.not_mem_nil, or_false] at hq ⊢
  rcases hq with h | h | h | h | h | h | h | (h | h | h | h) | h | h | h <;> simp [h]
theorem pick_two {X r1 r2 : List (Addr × Obj)} {q1 q2 : Addr × Obj} (h1 : ∀ q ∈ q1 :: r1, q ∈ X) (h2 : ∀ q ∈ q2 :: r2, q ∈ r1) : ∀ q ∈ q1 :: q2 :: r2, q ∈ X := by
  intro q hq
  rcases List.mem_cons.mp hq with rfl | hq
  · exact h1 _ (.head _)
  · exact h1 _ (.tail _ (h2 _ hq))
theorem strip_pool {P : Params} {n : Nat} {X Y l : List (Addr × Obj)} {a : Addr} {o : Obj} (_ : PoolOk P n o l) (h : ∀ q ∈ Y, q ∈ X) : ∀ q ∈ Y, q ∈ (a, o) :: X := sl_skip1 h
section
variable {prog : Program} {w : World} {A : Around} {E : Value → Shared → Prop} {s : Shared} {h₀ h' : Heap} {L : Addr} {m m' : Str → Option Value} {X ext : List (Addr × Obj)} {av : List Addr}
theorem fend_law {P : Params} {p c D Fl H M cp e e2 e3 : Addr} {ocp : Obj} {R2 B tl tl' : List (Addr × Obj)} {i n : Nat} {ts : List Turn} {t : Turn} {o o' oc oc' : Obj} {sv : Option Value} {ms hs fs ds fs' : List Value} {d0 f0 g0 m0 : Obj} {kd kf kh km : Nat} {v1 v2 v4 : Value} {x : Str} {st : List Str} {tk' : Nat}
    (F : Fr h₀ L h' m') (N : News h₀ L h' X)
    (r1 : (p, o') ∈ X) (r2 : (c, oc') ∈ X) (T : Tkn X tl' (ext ++ (tl ++ (D, PySem.W.listOf (ds.toArray.push v4) kd) :: (Fl, PySem.W.listOf fs'.toArray kf) :: (H, PySem.W.listOf (hs.toArray.push v2) kh) :: (M, PySem.W.listOf (ms.toArray.push v1) km) :: (cp, ocp) :: (B ++ R2))))
    (off : Off av ((p, o) :: (c, oc) :: (tl ++ (D, d0) :: (Fl, f0) :: (H, g0) :: (M, m0) :: (cp, ocp) :: (B ++ R2)))) (off' : Off av tl')
    (ho : oc'.data = .cell sv) (h : LawI P B i ts o ms hs fs ds tl) (ap0 : ApartA tl [p, c, D, Fl, H, M, cp, e, e2, e3]) (ap : ApartA tl' [p, c, D, Fl, H, M, cp, e, e2, e3]) (g : t.Good) (pl : PoolOk P n o' (tl' ++ (tl ++ B))) (hn : n ≤ 3 + 20 * (i + 1))
    (mk : VIn P (tl' ++ (tl ++ B)) v1 t.mark) (hh : VIn P (tl' ++ (tl ++ B)) v2 t.held) (f : VAll P (tl' ++ (tl ++ B)) fs' ((fillsOf ((ts ++ [t]).map Turn.pm)).map fillIV)) (d : VIn P (tl' ++ (tl ++ B)) v4 t.due) (hm : ∀ z, z ≠ x → st.contains z = false → m' z = m z) :
    FEnd h₀ L ext av s (fun m' lg' => LawS P p c D Fl H M cp e e2 e3 ocp B R2 (i + 1) lg' ∧ ∀ z, z ≠ x → st.contains z = false → m' z = m z) { s with heap := h', toks := tk' } := by
  refine FEnd.intro (lawLg p c D Fl H M o' oc' (ds ++ [v4]) fs' (hs ++ [v2]) (ms ++ [v1]) kd kf kh km (tl' ++ tl) ((cp, ocp) :: (B ++ R2))) F (fun q hq => N q ?_) ?_ ⟨⟨ts ++ [t], o', oc', sv, _, _, _, _, _, _, _, _, _, rfl, ho, h.step t g pl hn mk hh f d, ap.app ap0⟩, hm⟩
  · have e1 : ∀ (xs : List Value) (v : Value), (xs ++ [v]).toArray = xs.toArray.push v := fun xs v => by simp
    rw [lawLg, e1, e1, e1] at hq
    rcases List.mem_append.mp hq with hq | hq
    · exact T q (List.mem_append_right _ (List.mem_append_left _ hq))
    · rcases List.mem_cons.mp hq with rfl | hq
      · exact r1
      · rcases List.mem_cons.mp hq with rfl | hq
        · exact r2
        · rw [List.append_assoc] at hq
          rcases List.mem_append.mp hq with hq | hq
          · exact T q (List.mem_append_left _ hq)
          · exact T q (List.mem_append_right _ (List.mem_append_right _ hq))
  · refine off_cons (off _ (.head _)) (off_cons (off _ (.tail _ (.head _))) ?_)
    intro q hq
    rw [List.append_assoc] at hq
    rcases List.mem_append.mp hq with hq | hq
    · exact off' q hq
    · rcases List.mem_append.mp hq with hq | hq
      · exact off _ (.tail _ (.tail _ (List.mem_append_left _ hq)))
      · have k : ∀ q0 : Addr × Obj, q0 ∈ (D, d0) :: (Fl, f0) :: (H, g0) :: (M, m0) :: (cp, ocp) :: (B ++ R2) → q0.1 ∉ av := fun q0 h0 => off _ (.tail _ (.tail _ (List.mem_append_right _ h0)))
        rcases List.mem_cons.mp hq with rfl | hq
        · exact k (D, d0) (.head _)
        · rcases List.mem_cons.mp hq with rfl | hq
          · exact k (Fl, f0) (.tail _ (.head _))
          · rcases List.mem_cons.mp hq with rfl | hq
            · exact k (H, g0) (.tail _ (.tail _ (.head _)))
            · rcases List.mem_cons.mp hq with rfl | hq
              · exact k (M, m0) (.tail _ (.tail _ (.tail _ (.head _))))
              · exact k _ (.tail _ (.tail _ (.tail _ (.tail _ hq))))
/-- the law's loop -/
theorem for_law {P : Params} {env : Env} {body : List Stmt} {Q : Flow → Shared → Prop} {r : Addr} {t₀ u₀ v₀ : Tok} {n : Nat} {x : Str} {px : Pos} {p c D Fl H M cp e e2 e3 : Addr} {o oc ocp : Obj} {sv : Option Value} {B R2 : List (Addr × Obj)} (st : List Str)
    (hh : A.handled = none) (hr : IsRange s.heap r 0 (n : Int) 1 t₀ u₀ v₀) (hn : n ≤ 1000)
    (hx : env.kindOf x = some .local) (hp : (env.scope.kind == .class || (env.scope.kind == .module && env.locals != env.globals)) = false)
    (F : Fr h₀ env.locals s.heap m) (N : News h₀ env.locals s.heap X) (pk : PoolOk P 3 o B)
    (gX : ∀ q ∈ (p, o) :: (c, oc) :: (D, PySem.W.listOf #[] 0) :: (Fl, PySem.W.listOf #[] 0) :: (H, PySem.W.listOf #[] 0) :: (M, PySem.W.listOf #[] 0) :: (cp, ocp) :: (B ++ R2), q ∈ X)
    (hoc : oc.data = .cell sv) (hocp : ocp.data = .cell (some (.ref p))) (aB : ApartA B [p, c, D, Fl, H, M, cp]) (aR : ApartA R2 [p, c, D, Fl, H, M, cp]) (dd : DistA [p, c, D, Fl, H, M, cp]) {oe oe2 oe3 : Obj} (he : (e, oe) ∈ R2 ∧ (e2, oe2) ∈ R2 ∧ (e3, oe3) ∈ R2)
    (turn : ∀ (B R2 : List (Addr × Obj)) (ocp : Obj) (i : Nat) (t : Tok) (u : Str → Option Value) (ts : List Turn) (o oc : Obj) (sv : Option Value) (ms hs fs ds : List Value) (kd kf kh km : Nat) (tl ext : List (Addr × Obj)) (av : List Addr) (h : Heap) (tk : Nat), i < n → ApartA B [p, c, D, Fl, H, M, cp] → ApartA R2 [p, c, D, Fl, H, M, cp] → DistA [p, c, D, Fl, H, M, cp] → ((e, oe) ∈ R2 ∧ (e2, oe2) ∈ R2 ∧ (e3, oe3) ∈ R2) → ocp.data = .cell (some (.ref p)) → oc.data = .cell sv → LawI P B i ts o ms hs fs ds tl → ApartA tl [p, c, D, Fl, H, M, cp, e, e2, e3] →
      Fr h₀ env.locals h (fun z => if z = x then some (.int (0 + (i : Int) * 1) t) else if st.contains z then u z else m z) → News h₀ env.locals h (ext ++ (p, o) :: (c, oc) :: (tl ++ (D, PySem.W.listOf ds.toArray kd) :: (Fl, PySem.W.listOf fs.toArray kf) :: (H, PySem.W.listOf hs.toArray kh) :: (M, PySem.W.listOf ms.toArray km) :: (cp, ocp) :: (B ++ R2))) → Off av ((p, o) :: (c, oc) :: (tl ++ (D, PySem.W.listOf ds.toArray kd) :: (Fl, PySem.W.listOf fs.toArray kf) :: (H, PySem.W.listOf hs.toArray kh) :: (M, PySem.W.listOf ms.toArray km) :: (cp, ocp) :: (B ++ R2))) → HasAv ext av → ExtIn ext av [] →
      wpAny (model prog w) A (execs body env) (FPost h₀ env.locals ext av { s with heap := h, toks := tk } (fun m' lg' => LawS P p c D Fl H M cp e e2 e3 ocp B R2 (i + 1) lg' ∧ ∀ z, z ≠ x → st.contains z = false → m' z = m z) Q) E { s with heap := h, toks := tk })
    (done : ∀ (h : Heap) (tk : Nat) (u : Str → Option Value) (lg : List (Addr × Obj)), LawS P p c D Fl H M cp e e2 e3 ocp B R2 n lg → Fr h₀ env.locals h (fun z => if (x :: st).contains z then u z else m z) → News h₀ env.locals h lg → Q .next { s with heap := h, toks := tk }) :
    ForSrc prog w A h₀ env (.Name x px) body Q E (.ref r) s := by
  refine for_range0 st (LawS P p c D Fl H M cp e e2 e3 ocp B R2) _ hh hr (small_up hn) size_up hx hp F N gX (lawS_0 hoc pk) ?_ done
  rintro i t u lg ext av h tk hi ⟨ts, o, oc, sv, ms, hs, fs, ds, kd, kf, kh, km, tl, rfl, hoc, hL, ap⟩ F₁ N₁ h1 h2 h3
  exact turn B R2 ocp i t u ts o oc sv ms hs fs ds kd kf kh km tl ext av h tk hi aB aR dd he hocp hoc hL ap F₁ N₁ h1 h2 h3
theorem item_rule {value slice : Expr} {a : Addr} {arr : Array Value} {k0 : Nat} {k : Int} {u t1 t2 : Tok} {news : List (Addr × Obj)} {Q : Value → Shared → Prop} (N : News h₀ L s.heap news) (hm : (a, PySem.W.listOf arr k0) ∈ news) (ha : arr = #[.str (Str.ofString "nonzero") t1, .str (Str.ofString "evenodd") t2])
    (h0 : 0 ≤ k) (hk : k < 2) (h : ∀ t, Q (.str (ruleAt k) t) s)
    (hs : subscripted slice false (.ref a) (.int k u) = operate [.ref a, .int k u] (getItem (.ref a) (.int k u))) (hg : ∀ r, letTemporaryGo value (.ref a) r = pure ()) :
    wpAny (model prog w) A (subscriptTail value slice (.ref a) (.int k u)) Q E s := by
  subst ha
  have e : k = 0 ∨ k = 1 := by omega
  rcases e with rfl | rfl
  · exact item_lst (vs := [.str (Str.ofString "nonzero") t1, .str (Str.ofString "evenodd") t2]) N hm h0 (by omega) rfl (h _) hs hg
  · exact item_lst (vs := [.str (Str.ofString "nonzero") t1, .str (Str.ofString "evenodd") t2]) N hm h0 (by omega) rfl (h _) hs hg
end
end
theorem resetN4 : True := by w_top off; trivial
theorem linesN4 : True := by
  (k_with "x175" => skip)
  (k_with "x176" => skip)
  (k_with "x177" => skip)
  (k_with "x178" => skip)
  (k_with "x179" => skip)
  (k_with "x180" => skip)
  (k_with "x181" => skip)
  (k_with "x182" => skip)
  (k_with "x183" => skip)
  (k_with "x184" => skip)
  (k_with "x185" => skip)
  (k_with "x186" => skip)
  (k_with "x187" => skip)
  (k_with "x188" => skip)
  (k_with "x189" => skip)
  (k_with "x190" => skip)
  (k_with "x191" => skip)
  (k_with "x192" => skip)
  (k_with "x193" => skip)
  (k_with "x194" => skip)
  (k_with "x195" => skip)
  (k_with "x196" => skip)
  (k_with "x197" => skip)
  (k_with "x198" => skip)
  (k_with "x199" => skip)
  (k_with "x261" => skip)
  (k_with "x262" => skip)
  (k_with "x285" => skip)
  (k_with "x269" => skip)
  (k_with "x270" => skip)
  (k_with "x271" => skip)
  (k_with "x272" => skip)
  (k_with "x273" => skip)
  (k_with "x274" => skip)
  (k_with "x286" => skip)
  (k_with "x276" => skip)
  (k_with "x277" => skip)
  (k_with "x278" => skip)
  (k_with "x279" => skip)
  trivial
section
theorem Bx.use {w : World} {A₀ : Around} {s : Shared} {base h₀ : Heap} {outer : List Env} {L : Addr} {m : Str → Option Value} {X : List (Addr × Obj)} {f : Addr} {D U : Nat} {dp un : Nat} {gd : Option (List Code)} {cn : Str} {cs : Scope} {a : Addr} {ccd : Value} {cl : List (Str × Addr)} {S : Addr} {vs : List Value} {zs : List Int} {p : Program} {loose : List Str} {mean : ExcName → Option Value} {mg mb : Str → Option Value}
    {Q E : Value → Shared → Prop} (C : Bx w f D U) (B : Below A₀ base outer h₀) (F : Fr h₀ L s.heap m) (X₀ : (foo0.heap_1_39 w.params).In h₀) (N : News h₀ L s.heap X) (T : Top p loose mean mg mb h₀) (hk : cs.kind = .function) (hS : h₀.IsList S vs.toArray) (hI : IntsAre vs zs) (hz : zs.length ≤ 63) (hd : dp + D < recursionLimit) (hu : un + U < cLine)
    (ret : ∀ D o tl h' tk', Fr h₀ L h' m → News h₀ L h' ((D, o) :: (tl ++ X)) → (∀ q ∈ X, ∀ p ∈ tl, p.1 ≠ q.1) → (∀ p ∈ tl ++ X, p.1 ≠ D) → PoolOk w.params 0 o tl → Q (.ref D) { s with heap := h', toks := tk' }) :
    wpAny (model PySem.Challenge.rw_nn0221_01.row.prog w) (ktrTop dp un gd cn cs L a ccd cl outer) (call (.ref f) [.ref S]) Q E s :=
  C _ _ _ _ _ _ _ _ _ _ _ _ _ _ _ _ _ _ _ _ _ _ _ _ _ _ B F X₀ N T hk hS hI hz hd hu (fun D o tl h' tk' F' N' ne nd pk => ret D o tl h' tk' F' N' (fun q hq p hp => ne q hq p (.tail _ hp)) (fun p hp => (List.mem_append.mp hp).elim (nd p) (fun hx e => ne p hx (D, o) (.head _) e.symm)) pk)
theorem drawn (w : World) (most : Int) (hm : 1 ≤ most ∧ most ≤ 100) (n : Nat) (hn : n ≤ 1000) : Sh w 466 4 300 (fun P o l vs => ∃ t, vs = [.ref P, .int most t] ∧ PoolOk w.params n o l) (fun P o l r => PoolOk w.params (n + 1) o l ∧ ∃ (k : Nat) (t : Tok), r = .int (k : Int) t ∧ (k : Int) < most) := by
  intro dp un gd cn cs a ccd cl outer A₀ base h₀ L m P o rest imm s vs p' loose mean mg mb Q E B F X N hP T hk hsub hpre hd hu hret
  refine draw w most hm n hn _ _ _ _ _ _ _ _ _ _ _ _ _ _ _ _ _ _ _ _ _ _ _ _ _ _ _ B F X N hP T hk hsub hpre hd hu (fun r o' tl h' tk' F' N' ne post => ?_)
  (first | (refine' ex_3_1 post ?_; (try clear post); intro pk x hv h1 h2) | (refine' ex_2_2 post ?_; (try clear post); intro pk x hv h1 h2) | (obtain ⟨pk, x, hv, h1, h2⟩ := post))
  (first | (refine' ex_1_0 (hv.x) ?_; intro t ob9; subst ob9) | (obtain ⟨t, rfl⟩ := hv.x))
  (first | (refine' ex_1_0 (Int.eq_ofNat_of_zero_le h1) ?_; intro k ob9; subst ob9) | (obtain ⟨k, rfl⟩ := Int.eq_ofNat_of_zero_le h1))
  exact hret _ _ _ _ _ F' N' ne ⟨pk, k, t, rfl, h2⟩
theorem four_pre {P : Params} {D : Addr} {n : Nat} {o : Obj} {l : List (Addr × Obj)} (h : PoolOk P n o l) : [Value.ref D] = [Value.ref D] ∧ PoolOk P n o l := ⟨rfl, h⟩
theorem add_one {prog : Program} {w : World} {A : Around} {E : Value → Shared → Prop} {s : Shared} {k : Nat} {t u : Tok} {Q : Value → Shared → Prop} (h : ∀ t' tk, Q (.int ((1 + k : Nat) : Int) t') { s with toks := tk }) : wpAny (model prog w) A (binaryOp .Add (.int 1 t) (.int (k : Int) u)) Q E s := by
  have e : ((1 + k : Nat) : Int) = 1 + (k : Int) := by omega
  rw [e] at h
  refine add_int ?_
  exact h _ _
section
variable {prog : Program} {w : World} {A : Around} {E : Value → Shared → Prop} {s : Shared} {h₀ : Heap} {L : Addr}
theorem item_ruleT {value slice : Expr} {a : Addr} {arr : Array Value} {k0 : Nat} {k : Int} {u t1 t2 : Tok} {news : List (Addr × Obj)} {Q : Value → Shared → Prop} (N : News h₀ L s.heap news) (hm : (a, PySem.W.listOf arr k0) ∈ news) (ha : arr = #[.str (Str.ofString "nonzero") t1, .str (Str.ofString "evenodd") t2])
    (h0 : 0 ≤ k) (hk : k < 2) (h : ∀ t, Q (.str (ruleAt k) t) s)
    (hs : subscripted slice false (.ref a) (.int k u) = operate [.ref a, .int k u] (getItem (.ref a) (.int k u))) :
    wpAny (model prog w) A (subscriptTail value slice (.ref a) (.int k u)) Q E s := by
  subst ha
  have hl : s.heap.IsList a #[.str (Str.ofString "nonzero") t1, .str (Str.ofString "evenodd") t2] := ⟨_, (N _ hm).1, rfl, _, rfl⟩
  have e : k = 0 ∨ k = 1 := by omega
  rcases e with rfl | rfl
  · exact tail_any hl.typeIs slot_list_getitem.lookup (wpAny_getItem_list hl (by decide) (by decide) rfl (h _)) hs
  · exact tail_any hl.typeIs slot_list_getitem.lookup (wpAny_getItem_list hl (by decide) (by decide) rfl (h _)) hs
end
theorem Sp.pre {w : World} {f : Addr} {D U : Nat} {Pre Pre' : List (Addr × Obj) → List Value → Prop} {Post : List (Addr × Obj) → Value → Prop} (S : Sp w f D U Pre Post) (k : ∀ l vs, Pre' l vs → Pre l vs) : Sp w f D U Pre' Post := by
  intro dp un gd cn cs a ccd cl outer A₀ base h₀ L m news imm s vs p loose mean mg mb Q E B F X N T hk hsub hpre hd hu hret
  exact Sp.use S B F X N T hk imm hsub (k _ _ hpre) hd hu hret
theorem matrI (w : World) (a b c d e f : Int) (t1 t2 t3 t4 t5 t6 : Tok) : Sp w 450 12 800 (fun _ vs => vs = [.int a t1, .int b t2, .int c t3, .int d t4, .int e t5, .int f t6]) (fun l v => VIn w.params l v (.mat a b c d e f)) := by
  refine Sp.pre (matr w a b c d e f) ?_
  rintro l vs rfl
  exact VAll.cons (VIn.int _ _) (VAll.cons (VIn.int _ _) (VAll.cons (VIn.int _ _) (VAll.cons (VIn.int _ _) (VAll.cons (VIn.int _ _) (VAll.cons (VIn.int _ _) VAll.nil)))))
theorem dn_guard {a b : Addr} {as : List Addr} (_ : DistA as) (_ : a ∈ as) (_ : b ∈ as) (h : a ≠ b) : a ≠ b := h
section
variable {prog : Program} {w : World} {A : Around} {E : Value → Shared → Prop} {s : Shared} {h₀ h' : Heap} {L : Addr} {m : Str → Option Value} {env : Env} {X ext : List (Addr × Obj)} {av : List Addr} {scope : Scope} {cl : List (Str × Addr)} {elt : Expr} {x : Str} {px : Pos} {Fin : Shared → List Value → List (Addr × Obj) → Prop}
/-- the law's clips, as far as drawn -/
inductive ClipS (P : Params) (p : Addr) (rest B : List (Addr × Obj)) (n0 i : Nat) (ys : List Value) (lg : List (Addr × Obj)) : Prop where
  | mk (o : Obj) (qs : List Q4) (tl : List (Addr × Obj)) : lg = (p, o) :: (tl ++ rest) → PoolOk P (n0 + 4 * i) o (tl ++ B) → VAll P (tl ++ B) ys (qs.map Q4.four) → (∀ q ∈ qs, q.Good) → qs.length = i → ApartP tl rest → (∀ e ∈ tl, e.1 ≠ p) → ClipS P p rest B n0 i ys lg
inductive ClipE (P : Params) (p : Addr) (rest B tl : List (Addr × Obj)) (n1 : Nat) (y : Value) (lg : List (Addr × Obj)) : Prop where
  | mk (o : Obj) (tl' : List (Addr × Obj)) (q : Q4) : lg = (p, o) :: (tl' ++ (tl ++ rest)) → PoolOk P n1 o (tl' ++ (tl ++ B)) → VIn P (tl' ++ (tl ++ B)) y (Q4.four q) → q.Good → ApartP tl' rest → (∀ e ∈ tl', e.1 ≠ p) → ClipE P p rest B tl n1 y lg
theorem cmp_clips {P : Params} {r p : Addr} {o : Obj} {rest B : List (Addr × Obj)} {n0 : Nat} {t₀ u₀ v₀ : Tok} {n : Nat} (hh : A.handled = none) (hr : IsRange s.heap r 0 (n : Int) 1 t₀ u₀ v₀) (hn : n ≤ 1000)
    (hx : scope.names.lookup x = some .local) (hkind : scope.kind = .function) (F : Fr h₀ L s.heap m) (N : News h₀ L s.heap X) (hX : ∀ q ∈ (p, o) :: rest, q ∈ X) (hp : PoolOk P n0 o B)
    (turn : ∀ (i : Nat) (t : Tok) (ys : List Value) (qs : List Q4) (tl : List (Addr × Obj)) (o' : Obj) C oC m₂ ext av h tk E', i < n → PoolOk P (n0 + 4 * i) o' (tl ++ B) → VAll P (tl ++ B) ys (qs.map Q4.four) → ApartP tl rest → ApartA tl [p] → NsObj oC m₂ → m₂ x = some (.int (0 + (i : Int) * 1) t) → (C, oC) ∈ ext → Fr h₀ L h m → News h₀ L h (ext ++ (p, o') :: (tl ++ rest)) → Off av ((p, o') :: (tl ++ rest)) → HasAv ext av → ExtIn ext av [] →
      wpAny (model prog w) A (eval elt (compEnvC scope cl C env)) (fun y s'' => CEnd h₀ L m ext av { s with heap := h, toks := tk } (ClipE P p rest B tl (n0 + 4 * i + 4) y) s'') E' { s with heap := h, toks := tk })
    (fin : ∀ g (o' : Obj) (ys : List Value) (qs : List Q4) (tl : List (Addr × Obj)), PoolOk P (n0 + 4 * n) o' (tl ++ B) → VAll P (tl ++ B) ys (qs.map Q4.four) → (∀ q ∈ qs, q.Good) → qs.length = n → ApartP tl rest → ApartA tl [p] → Fin { s with heap := g } ys ((p, o') :: (tl ++ rest))) :
    CmpSrc prog w A h₀ L m env scope cl (.Name x px) [] elt Fin E (.ref r) s := by
  refine cmp_rangeS (ClipS P p rest B n0) ((p, o) :: rest) hh hr (small_up hn) size_up (Nat.le_trans hn (by decide)) hx hkind F N hX ⟨o, [], [], rfl, hp, .nil, (fun _ h => nomatch h), rfl, .nil, fun _ h => nomatch h⟩ ?_ ?_
  · rintro i t ys lg C oC m₂ ext av h tk E' hi ⟨o', qs, tl, rfl, hp', hv, hg, hl, ap, hne⟩ hoC hxC hCe F N h1 h2 h3
    refine wpAny_mono (turn i t ys qs tl o' C oC m₂ ext av h tk E' hi hp' hv ap (apartA_cons hne apartA_nil) hoC hxC hCe F N h1 h2 h3) (fun y s₅ h₅ => ?_) fun _ _ e => e
    obtain ⟨h', tk', lg', e, F', N', ha, o'', tl', q, rfl, hp2, hvi, hgi, ap2, hne2⟩ := h₅
    refine ⟨h', tk', _, e, F', N', ha, o'', qs ++ [q], tl' ++ tl, by simp, ?_, ?_, ?_, by simp [hl], ap2.app ap, ?_⟩
    · rw [List.append_assoc]; exact hp2
    · rw [List.append_assoc, List.map_append]
      exact (hv.mono fun q hq => List.mem_append_right _ hq).snoc hvi
    · intro u hu
      rcases List.mem_append.mp hu with hu | hu
      · exact hg u hu
      · rw [List.mem_singleton.mp hu]; exact hgi
    · intro e he
      exact (List.mem_append.mp he).elim (hne2 e) (hne e)
  · rintro g ys lg ⟨o', qs, tl, rfl, hp', hv, hg, hl, ap, hne⟩
    exact fin g o' ys qs tl hp' hv hg hl ap (apartA_cons hne apartA_nil)
theorem cend_clip {P : Params} {p : Addr} {o o' : Obj} {rest B tl tl' : List (Addr × Obj)} {n1 n2 : Nat} {y : Value} {q : Q4} {tk' : Nat} (F : Fr h₀ L h' m) (N : News h₀ L h' X) (pick : ∀ q ∈ (p, o') :: (tl' ++ (ext ++ (tl ++ rest))), q ∈ X) (off : Off av ((p, o) :: (tl ++ rest))) (off' : Off av tl')
    (hp : PoolOk P n2 o' (tl' ++ (tl ++ B))) (hn : n2 = n1) (hv : VIn P (tl' ++ (tl ++ B)) y (Q4.four q)) (hg : q.Good) (ap : ApartP tl' rest) (apn : ∀ e ∈ tl', e.1 ≠ p) :
    CEnd h₀ L m ext av s (ClipE P p rest B tl n1 y) { s with heap := h', toks := tk' } := by
  subst hn
  refine CEnd.intro ((p, o') :: (tl' ++ (tl ++ rest))) F (fun e he => N e (pick e ?_)) ?_ ⟨o', tl', q, rfl, hp, hv, hg, ap, apn⟩
  · rcases List.mem_append.mp he with he | he
    · exact .tail _ (List.mem_append_right _ (List.mem_append_left _ he))
    · rcases List.mem_cons.mp he with rfl | he
      · exact .head _
      · refine .tail _ ?_
        rcases List.mem_append.mp he with he | he
        · exact List.mem_append_left _ he
        · exact List.mem_append_right _ (List.mem_append_right _ he)
  · refine off_cons (off _ (.head _)) ?_
    intro e he
    rcases List.mem_append.mp he with he | he
    · exact off' e he
    · exact off e (.tail _ he)
end
section
variable {prog : Program} {w : World} {A : Around} {E : Value → Shared → Prop} {s : Shared} {h₀ h' : Heap} {L : Addr} {m : Str → Option Value} {env : Env} {X ext : List (Addr × Obj)} {av : List Addr} {scope : Scope} {cl : List (Str × Addr)} {elt : Expr} {x : Str} {px : Pos} {Fin : Shared → List Value → List (Addr × Obj) → Prop}
/-- a comprehension over a list; its items lie in B; what is new lies apart -/
theorem cmp_mapB {P : Params} {ax : Addr} {vs : List Value} {ds : List V} (B : List (Addr × Obj)) (f : Nat → V) (hh : A.handled = none) (hl : s.heap.IsList ax vs.toArray) (hd : VAll P B vs ds) (hsz : vs.length ≤ sizeLine)
    (hx : scope.names.lookup x = some .local) (hkind : scope.kind = .function) (F : Fr h₀ L s.heap m) (N : News h₀ L s.heap X)
    (turn : ∀ (i : Nat) (v : Value) (d : V) (ys : List Value) (tl : List (Addr × Obj)) C oC m₂ ext av h tk E', ds[i]? = some d → VIn P (tl ++ B) v d → ApartP tl X → NsObj oC m₂ → m₂ x = some v → (C, oC) ∈ ext → Fr h₀ L h m → News h₀ L h (ext ++ (tl ++ X)) → Off av (tl ++ X) → HasAv ext av → ExtIn ext av [ax] →
      wpAny (model prog w) A (eval elt (compEnvC scope cl C env)) (fun y s'' => CEnd h₀ L m ext av { s with heap := h, toks := tk } (MapE P X B (f i) tl y) s'') E' { s with heap := h, toks := tk })
    (fin : ∀ g ys tl, ApartP tl X → VAll P (tl ++ B) ys ((List.range ds.length).map f) → Fin { s with heap := g } ys (tl ++ X)) :
    CmpSrc prog w A h₀ L m env scope cl (.Name x px) [] elt Fin E (.ref ax) s := by
  refine cmp_list (news := X) (MapS P X B f) hh hl (by simpa using hsz) (binds_name (P' := fun i v => vs[i]? = some v) hx hkind (fun i v h hp => by simpa using hp)) F N ⟨[], rfl, .nil, .nil⟩ ?_ ?_
  · intro g
    constructor
    rintro i ys lg C oC m₂ ext av h tk E' hi ⟨v, hv0, hxv⟩ hoC hCe ⟨tl, rfl, ap, hv⟩ F N h1 h2 h3
    (first | (refine' ex_2_0 (hd.get hv0) ?_; intro d hdi hvd) | (refine' ex_1_1 (hd.get hv0) ?_; intro d hdi hvd) | (obtain ⟨d, hdi, hvd⟩ := hd.get hv0))
    refine wpAny_tests_nil ?_
    simp only [if_true]
    refine wpAny_mono (turn i v d ys tl C oC m₂ ext av h tk E' hdi (hvd.mono fun q hq => List.mem_append_right _ hq) ap hoC hxv hCe F N h1 h2 h3) (fun y s₅ h₅ => ?_) fun _ _ e => e
    obtain ⟨h', tk', lg', e, F', N', ha, hE⟩ := h₅
    exact ⟨h', tk', _, e, F', N', ha, MapS.step ap hv hE⟩
  · rintro g ys lg ⟨tl, rfl, ap, hv⟩
    have hlen : vs.toArray.size = ds.length := by simpa using hd.length
    rw [hlen] at hv
    exact fin g ys tl ap hv
end
theorem held_at {qs : List Q4} {i : Nat} {d : V} (h : (qs.map Q4.four)[i]? = some d) : ∃ c : Q4, d = c.four ∧ i < qs.length ∧ ∀ crs, (qs.map fun c => V.tup [.str crs, c.rectV]).getD i V.none = V.tup [.str crs, c.rectV] := by
  rw [List.getElem?_map] at h
  cases e : qs[i]? with
  | none => rw [e] at h; cases h
  | some c =>
    rw [e] at h
    refine ⟨c, (Option.some.inj h).symm, ?_, fun crs => ?_⟩
    · exact (List.getElem?_eq_some_iff.mp e).1
    · simp [List.getD, e]
theorem held_all {P : Params} {l : List (Addr × Obj)} {ys : List Value} {qs : List Q4} {crs : Str} (h : VAll P l ys ((List.range (qs.map Q4.four).length).map fun i => (qs.map fun c => V.tup [.str crs, c.rectV]).getD i V.none)) : VAll P l ys (qs.map fun c => V.tup [.str crs, c.rectV]) := by
  have e : (qs.map Q4.four).length = (qs.map fun c => V.tup [.str crs, c.rectV]).length := by simp
  rw [e, range_getD] at h
  exact h
theorem fills_le {ks : List PMk} : (fillsOf ks).length ≤ ks.length := by
  unfold fillsOf
  exact List.length_filterMap_le _ _
theorem lawI_len {P : Params} {B : List (Addr × Obj)} {i : Nat} {ts : List Turn} {o : Obj} {ms hs fs ds : List Value} {tl : List (Addr × Obj)} (h : LawI P B i ts o ms hs fs ds tl) : ms.length = i ∧ hs.length = i ∧ fs.length ≤ i ∧ ds.length = i := by
  refine ⟨?_, ?_, ?_, ?_⟩
  · rw [h.vm.length, List.length_map, h.len]
  · rw [h.vh.length, List.length_map, h.len]
  · rw [h.vf.length, List.length_map, ← h.len]
    have e := fills_le (ks := ts.map Turn.pm)
    rw [List.length_map] at e
    exact e
  · rw [h.vd.length, List.length_map, h.len]
theorem tkn_skip {X fl news : List (Addr × Obj)} {e : Addr × Obj} (h : Tkn X fl news) : Tkn (e :: X) fl news := fun p hp => .tail _ (h p hp)
theorem tkn_cell {X fl news : List (Addr × Obj)} {a : Addr} {o : Obj} {v : Option Value} (_ : o.data = .cell v) (h : Tkn X fl news) : Tkn ((a, o) :: X) fl news := tkn_skip h
theorem tkn_pool {P : Params} {n : Nat} {l X fl news : List (Addr × Obj)} {a : Addr} {o : Obj} (_ : PoolOk P n o l) (h : Tkn X fl news) : Tkn ((a, o) :: X) fl news := tkn_skip h
theorem tkn_base_c {ext r : List (Addr × Obj)} {e : Addr × Obj} : Tkn (ext ++ e :: r) [] (ext ++ r) := by
  intro p hp
  rcases List.mem_append.mp hp with hp | hp
  · exact absurd hp List.not_mem_nil
  · rcases List.mem_append.mp hp with hp | hp
    · exact List.mem_append_left _ hp
    · exact List.mem_append_right _ (.tail _ hp)
theorem mark_stroke {k : Int} {q : Q4} {rule : Str} {qs : List Q4} (h : k = 3) : Turn.mark ⟨k, q, rule, qs⟩ = strokeV q ∧ Turn.due ⟨k, q, rule, qs⟩ = strokeT q := by
  subst h; exact ⟨rfl, rfl⟩
theorem mark_clip {k : Int} {q : Q4} {rule : Str} {qs : List Q4} (h : k = 4) : Turn.mark ⟨k, q, rule, qs⟩ = clipV rule q ∧ Turn.due ⟨k, q, rule, qs⟩ = clipT rule q := by
  subst h; exact ⟨rfl, rfl⟩
theorem mark_image {k : Int} {q : Q4} {rule : Str} {qs : List Q4} (h1 : ¬ k < 3) (h2 : ¬ k = 3) (h3 : ¬ k = 4) : Turn.mark ⟨k, q, rule, qs⟩ = imageV q ∧ Turn.due ⟨k, q, rule, qs⟩ = imageT q := by
  unfold Turn.mark Turn.due
  simp only [h1, h2, h3, if_false, and_self]
section
variable {prog : Program} {w : World} {A : Around} {E : Value → Shared → Prop} {s : Shared} {h₀ h' : Heap} {L : Addr} {m m' : Str → Option Value} {X ext : List (Addr × Obj)} {av : List Addr}
theorem fend_fill {P : Params} {p c D Fl H M cp e e2 e3 : Addr} {ocp : Obj} {R2 B tl tl' : List (Addr × Obj)} {i n : Nat} {ts : List Turn} {k : Int} {q : Q4} {kr : Nat} {qs : List Q4} {o o' oc oc' : Obj} {sv : Option Value} {ms hs fs ds : List Value} {d0 f0 g0 m0 : Obj} {kd kf kh km : Nat} {v1 v2 v3 v4 : Value} {x : Str} {st : List Str} {tk' : Nat}
    (gs : k < 6) (g1 : 0 ≤ k) (g2 : k < 3) (gr : (kr : Int) < 2) (g6 : ∀ c ∈ qs, c.Good) (g5 : qs.length ≤ 2) (g3 : q.Good)
    (F : Fr h₀ L h' m') (N : News h₀ L h' X) (T : Tkn X tl' (ext ++ (tl ++ (D, PySem.W.listOf (ds.toArray.push v4) kd) :: (Fl, PySem.W.listOf (fs.toArray.push v3) kf) :: (H, PySem.W.listOf (hs.toArray.push v2) kh) :: (M, PySem.W.listOf (ms.toArray.push v1) km) :: (cp, ocp) :: (B ++ R2))))
    (pl : PoolOk P n o' (tl' ++ (tl ++ B))) (r1 : (p, o') ∈ X) (ho : oc'.data = .cell sv) (r2 : (c, oc') ∈ X)
    (off : Off av ((p, o) :: (c, oc) :: (tl ++ (D, d0) :: (Fl, f0) :: (H, g0) :: (M, m0) :: (cp, ocp) :: (B ++ R2)))) (off' : Off av tl')
    (h : LawI P B i ts o ms hs fs ds tl) (ap0 : ApartA tl [p, c, D, Fl, H, M, cp, e, e2, e3]) (ap : ApartA tl' [p, c, D, Fl, H, M, cp, e, e2, e3]) (hn : n ≤ 3 + 20 * (i + 1))
    (mk : VIn P (tl' ++ (tl ++ B)) v1 (.tup [.str (Str.ofString "fill"), .str (ruleAt kr), q.rectV, .tup [.str (Str.ofString "Pattern"), .tup [.dec 5 1, .str (Str.ofString "P")]]])) (hh : VIn P (tl' ++ (tl ++ B)) v2 (.tup (qs.map fun c => .tup [.str (ruleAt ((qs.length : Int) - 1)), c.rectV]))) (fv : VIn P (tl' ++ (tl ++ B)) v3 (.tup [q.four, .lst (qs.map Q4.four)])) (d : VIn P (tl' ++ (tl ++ B)) v4 (.tup [.str (Str.ofString "fill"), .str (ruleAt kr), q.toldV, .tup [.str (Str.ofString "Pattern"), .tup [.int 5, .int 1], .str (Str.ofString "P")]])) (hm : ∀ z, z ≠ x → st.contains z = false → m' z = m z) :
    FEnd h₀ L ext av s (fun m' lg' => LawS P p c D Fl H M cp e e2 e3 ocp B R2 (i + 1) lg' ∧ ∀ z, z ≠ x → st.contains z = false → m' z = m z) { s with heap := h', toks := tk' } := by
  have e : fs.toArray.push v3 = (fs ++ [v3]).toArray := by simp
  rw [e] at T
  have e1 : Turn.mark ⟨k, q, ruleAt kr, qs⟩ = fillV (ruleAt kr) q := by unfold Turn.mark; rw [if_pos g2]
  have e2 : Turn.due ⟨k, q, ruleAt kr, qs⟩ = fillT (ruleAt kr) q := by unfold Turn.due; rw [if_pos g2]
  exact fend_law (t := ⟨k, q, ruleAt kr, qs⟩) F N r1 r2 T off off' ho h ap0 ap ⟨⟨g1, gs⟩, g3, ruleOk_at _, g5, g6⟩ pl hn (e1 ▸ mk) hh (fills_step1 h.vf (fun q hq => List.mem_append_right _ hq) g2 fv) (e2 ▸ d) hm
theorem fend_stroke {P : Params} {p c D Fl H M cp e e2 e3 : Addr} {ocp : Obj} {R2 B tl tl' : List (Addr × Obj)} {i n : Nat} {ts : List Turn} {k : Int} {q : Q4} {kr : Nat} {qs : List Q4} {o o' oc oc' : Obj} {sv : Option Value} {ms hs fs ds : List Value} {d0 f0 g0 m0 : Obj} {kd kf kh km : Nat} {v1 v2 v4 : Value} {x : Str} {st : List Str} {tk' : Nat}
    (gs : k < 6) (g1 : k = 3) (gr : (kr : Int) < 2) (g6 : ∀ c ∈ qs, c.Good) (g5 : qs.length ≤ 2) (g3 : q.Good)
    (F : Fr h₀ L h' m') (N : News h₀ L h' X) (T : Tkn X tl' (ext ++ (tl ++ (D, PySem.W.listOf (ds.toArray.push v4) kd) :: (Fl, PySem.W.listOf fs.toArray kf) :: (H, PySem.W.listOf (hs.toArray.push v2) kh) :: (M, PySem.W.listOf (ms.toArray.push v1) km) :: (cp, ocp) :: (B ++ R2))))
    (pl : PoolOk P n o' (tl' ++ (tl ++ B))) (r1 : (p, o') ∈ X) (ho : oc'.data = .cell sv) (r2 : (c, oc') ∈ X)
    (off : Off av ((p, o) :: (c, oc) :: (tl ++ (D, d0) :: (Fl, f0) :: (H, g0) :: (M, m0) :: (cp, ocp) :: (B ++ R2)))) (off' : Off av tl')
    (h : LawI P B i ts o ms hs fs ds tl) (ap0 : ApartA tl [p, c, D, Fl, H, M, cp, e, e2, e3]) (ap : ApartA tl' [p, c, D, Fl, H, M, cp, e, e2, e3]) (hn : n ≤ 3 + 20 * (i + 1))
    (mk : VIn P (tl' ++ (tl ++ B)) v1 (.tup [.str (Str.ofString "stroke"), q.rectV, .tup [.str (Str.ofString "DeviceGray"), .tup [.dec 1 0]], .dec q.w 0])) (hh : VIn P (tl' ++ (tl ++ B)) v2 (.tup (qs.map fun c => .tup [.str (ruleAt ((qs.length : Int) - 1)), c.rectV]))) (d : VIn P (tl' ++ (tl ++ B)) v4 (.tup [.str (Str.ofString "stroke"), q.toldV, .tup [.str (Str.ofString "DeviceGray"), .tup [.int 1, .int 0]], .tup [.int q.w, .int 0]])) (hm : ∀ z, z ≠ x → st.contains z = false → m' z = m z) :
    FEnd h₀ L ext av s (fun m' lg' => LawS P p c D Fl H M cp e e2 e3 ocp B R2 (i + 1) lg' ∧ ∀ z, z ≠ x → st.contains z = false → m' z = m z) { s with heap := h', toks := tk' } := by
  obtain ⟨e1, e2⟩ : Turn.mark ⟨k, q, ruleAt kr, qs⟩ = _ ∧ Turn.due ⟨k, q, ruleAt kr, qs⟩ = _ := mark_stroke g1
  have g0 : 0 ≤ k := by omega
  have g1 : ¬ k < 3 := by omega
  exact fend_law (t := ⟨k, q, ruleAt kr, qs⟩) F N r1 r2 T off off' ho h ap0 ap ⟨⟨g0, gs⟩, g3, ruleOk_at _, g5, g6⟩ pl hn (e1 ▸ mk) hh (fills_step0 h.vf (fun q hq => List.mem_append_right _ hq) g1) (e2 ▸ d) hm
theorem fend_clip {P : Params} {p c D Fl H M cp e e2 e3 : Addr} {ocp : Obj} {R2 B tl tl' : List (Addr × Obj)} {i n : Nat} {ts : List Turn} {k : Int} {q : Q4} {kr : Nat} {qs : List Q4} {o o' oc oc' : Obj} {sv : Option Value} {ms hs fs ds : List Value} {d0 f0 g0 m0 : Obj} {kd kf kh km : Nat} {v1 v2 v4 : Value} {x : Str} {st : List Str} {tk' : Nat}
    (gs : k < 6) (g1 : k = 4) (gr : (kr : Int) < 2) (g6 : ∀ c ∈ qs, c.Good) (g5 : qs.length ≤ 2) (g3 : q.Good)
    (F : Fr h₀ L h' m') (N : News h₀ L h' X) (T : Tkn X tl' (ext ++ (tl ++ (D, PySem.W.listOf (ds.toArray.push v4) kd) :: (Fl, PySem.W.listOf fs.toArray kf) :: (H, PySem.W.listOf (hs.toArray.push v2) kh) :: (M, PySem.W.listOf (ms.toArray.push v1) km) :: (cp, ocp) :: (B ++ R2))))
    (pl : PoolOk P n o' (tl' ++ (tl ++ B))) (r1 : (p, o') ∈ X) (ho : oc'.data = .cell sv) (r2 : (c, oc') ∈ X)
    (off : Off av ((p, o) :: (c, oc) :: (tl ++ (D, d0) :: (Fl, f0) :: (H, g0) :: (M, m0) :: (cp, ocp) :: (B ++ R2)))) (off' : Off av tl')
    (h : LawI P B i ts o ms hs fs ds tl) (ap0 : ApartA tl [p, c, D, Fl, H, M, cp, e, e2, e3]) (ap : ApartA tl' [p, c, D, Fl, H, M, cp, e, e2, e3]) (hn : n ≤ 3 + 20 * (i + 1))
    (mk : VIn P (tl' ++ (tl ++ B)) v1 (.tup [.str (Str.ofString "clip"), .str (ruleAt kr), q.rectV])) (hh : VIn P (tl' ++ (tl ++ B)) v2 (.tup (qs.map fun c => .tup [.str (ruleAt ((qs.length : Int) - 1)), c.rectV]))) (d : VIn P (tl' ++ (tl ++ B)) v4 (.tup [.str (Str.ofString "clip"), .str (ruleAt kr), q.toldV])) (hm : ∀ z, z ≠ x → st.contains z = false → m' z = m z) :
    FEnd h₀ L ext av s (fun m' lg' => LawS P p c D Fl H M cp e e2 e3 ocp B R2 (i + 1) lg' ∧ ∀ z, z ≠ x → st.contains z = false → m' z = m z) { s with heap := h', toks := tk' } := by
  obtain ⟨e1, e2⟩ : Turn.mark ⟨k, q, ruleAt kr, qs⟩ = _ ∧ Turn.due ⟨k, q, ruleAt kr, qs⟩ = _ := mark_clip g1
  have g0 : 0 ≤ k := by omega
  have g1 : ¬ k < 3 := by omega
  exact fend_law (t := ⟨k, q, ruleAt kr, qs⟩) F N r1 r2 T off off' ho h ap0 ap ⟨⟨g0, gs⟩, g3, ruleOk_at _, g5, g6⟩ pl hn (e1 ▸ mk) hh (fills_step0 h.vf (fun q hq => List.mem_append_right _ hq) g1) (e2 ▸ d) hm
theorem fend_image {P : Params} {p c D Fl H M cp e e2 e3 : Addr} {ocp : Obj} {R2 B tl tl' : List (Addr × Obj)} {i n : Nat} {ts : List Turn} {k : Int} {q : Q4} {kr : Nat} {qs : List Q4} {o o' oc oc' : Obj} {sv : Option Value} {ms hs fs ds : List Value} {d0 f0 g0 m0 : Obj} {kd kf kh km : Nat} {v1 v2 v4 : Value} {x : Str} {st : List Str} {tk' : Nat}
    (gs : k < 6) (g1 : 5 ≤ k) (gr : (kr : Int) < 2) (g6 : ∀ c ∈ qs, c.Good) (g5 : qs.length ≤ 2) (g3 : q.Good)
    (F : Fr h₀ L h' m') (N : News h₀ L h' X) (T : Tkn X tl' (ext ++ (tl ++ (D, PySem.W.listOf (ds.toArray.push v4) kd) :: (Fl, PySem.W.listOf fs.toArray kf) :: (H, PySem.W.listOf (hs.toArray.push v2) kh) :: (M, PySem.W.listOf (ms.toArray.push v1) km) :: (cp, ocp) :: (B ++ R2))))
    (pl : PoolOk P n o' (tl' ++ (tl ++ B))) (r1 : (p, o') ∈ X) (ho : oc'.data = .cell sv) (r2 : (c, oc') ∈ X)
    (off : Off av ((p, o) :: (c, oc) :: (tl ++ (D, d0) :: (Fl, f0) :: (H, g0) :: (M, m0) :: (cp, ocp) :: (B ++ R2)))) (off' : Off av tl')
    (h : LawI P B i ts o ms hs fs ds tl) (ap0 : ApartA tl [p, c, D, Fl, H, M, cp, e, e2, e3]) (ap : ApartA tl' [p, c, D, Fl, H, M, cp, e, e2, e3]) (hn : n ≤ 3 + 20 * (i + 1))
    (mk : VIn P (tl' ++ (tl ++ B)) v1 (.tup [.str (Str.ofString "image"), .str (Str.ofString "I"), .mat q.x 0 0 q.y 2 3])) (hh : VIn P (tl' ++ (tl ++ B)) v2 (.tup (qs.map fun c => .tup [.str (ruleAt ((qs.length : Int) - 1)), c.rectV]))) (d : VIn P (tl' ++ (tl ++ B)) v4 (.tup [.str (Str.ofString "image"), .str (Str.ofString "I"), .tup [.tup [.int q.x, .int 0], .tup [.int 0, .int 0], .tup [.int 0, .int 0], .tup [.int q.y, .int 0], .tup [.int 2, .int 0], .tup [.int 3, .int 0]]])) (hm : ∀ z, z ≠ x → st.contains z = false → m' z = m z) :
    FEnd h₀ L ext av s (fun m' lg' => LawS P p c D Fl H M cp e e2 e3 ocp B R2 (i + 1) lg' ∧ ∀ z, z ≠ x → st.contains z = false → m' z = m z) { s with heap := h', toks := tk' } := by
  obtain ⟨e1, e2⟩ : Turn.mark ⟨k, q, ruleAt kr, qs⟩ = _ ∧ Turn.due ⟨k, q, ruleAt kr, qs⟩ = _ := mark_image (by omega) (by omega) (by omega)
  have g0 : 0 ≤ k := by omega
  have g1 : ¬ k < 3 := by omega
  exact fend_law (t := ⟨k, q, ruleAt kr, qs⟩) F N r1 r2 T off off' ho h ap0 ap ⟨⟨g0, gs⟩, g3, ruleOk_at _, g5, g6⟩ pl hn (e1 ▸ mk) hh (fills_step0 h.vf (fun q hq => List.mem_append_right _ hq) g1) (e2 ▸ d) hm
end
end
theorem resetN5 : True := by w_top off; trivial
section
/-- plain data of bounded depth -/
noncomputable def V.dataN : Nat → V → Bool
  | _, .none => true
  | _, .bool _ => true
  | _, .int _ => true
  | _, .str _ => true
  | _, .bytes _ => true
  | n + 1, .tup ds => ds.all (V.dataN n)
  | n + 1, .lst ds => ds.all (V.dataN n)
  | _, _ => false
theorem eqAt_bytes {A : Around} {s : Shared} (b : Array UInt8) (t u : Tok) : SeqAt.EqAt A s (.bytes b t) (.bytes b u) true := fun prog w E Q hq => by
  unfold eqBool
  refine wpAny_holding ?_
  refine wpAny_ite_split (fun _ => wpAny_bind (wpAny_rule (wpAny_pure hq))) (fun _ => ?_)
  refine wpAny_bind ?_
  refine PySem.W.eq_bytes (t := t) (u := u) ?_
  rw [beq_self_eq_true]
  exact wpAny_truthy_bool hq
theorem VAll.nth {P : Params} {l l2 : List (Addr × Obj)} {vs ws : List Value} {ds : List V} (h : VAll P l vs ds) (k : VAll P l2 ws ds) (j : Nat) (h1 : j < vs.length) (h2 : j < ws.length) : ∃ d, d ∈ ds ∧ VIn P l vs[j] d ∧ VIn P l2 ws[j] d := by
  (first | (refine' ex_2_0 (h.get (List.getElem?_eq_getElem h1)) ?_; intro d e1 e2) | (refine' ex_1_1 (h.get (List.getElem?_eq_getElem h1)) ?_; intro d e1 e2) | (obtain ⟨d, e1, e2⟩ := h.get (List.getElem?_eq_getElem h1)))
  (first | (refine' ex_2_0 (k.get (List.getElem?_eq_getElem h2)) ?_; intro d' e3 e4) | (refine' ex_1_1 (k.get (List.getElem?_eq_getElem h2)) ?_; intro d' e3 e4) | (obtain ⟨d', e3, e4⟩ := k.get (List.getElem?_eq_getElem h2)))
  rw [e1] at e3
  cases e3
  exact ⟨d, List.mem_of_getElem? e1, e2, e4⟩
theorem all_true (n : Nat) : (List.range n).all (fun _ => true) = true := by simp
theorem VIn.two {P : Params} {l l2 : List (Addr × Obj)} {C : Value → Value → Prop} {a b : Value} {d : V} (ha : VIn P l a d) (hb : VIn P l2 b d) (k : VK P l .lf d fun a => VK P l2 .lf d fun b => C a b) : C a b :=
  VIn.op (C := fun b => C a b) .lf hb (VIn.op (C := fun a => VK P l2 .lf d fun b => C a b) .lf ha k)
theorem VIn.eqAt {P : Params} {l l2 : List (Addr × Obj)} {s : Shared} (g1 : ∀ p ∈ l, s.heap.get? p.1 = some p.2) (g2 : ∀ p ∈ l2, s.heap.get? p.1 = some p.2) : ∀ (n : Nat) {a b : Value} {d : V} {A : Around}, VIn P l a d → VIn P l2 b d → V.dataN n d = true → A.units + n < cLine → SeqAt.EqAt A s a b true := by
  have flat : ∀ {a b : Value} {d : V} {A : Around}, VIn P l a d → VIn P l2 b d → (∀ ds, d ≠ .tup ds) → (∀ ds, d ≠ .lst ds) → (∃ n, V.dataN n d = true) → SeqAt.EqAt A s a b true := by
    intro a b d A ha hb n1 n2 ⟨n, hd⟩
    cases d with
    | none => exact VIn.two (C := fun a b => SeqAt.EqAt A s a b true) ha hb (SeqAt.EqAt.same _)
    | bool x => exact VIn.two (C := fun a b => SeqAt.EqAt A s a b true) ha hb (SeqAt.EqAt.same _)
    | int i => exact VIn.two (C := fun a b => SeqAt.EqAt A s a b true) ha hb fun t u => beq_self_eq_true i ▸ SeqAt.EqAt.int_int (A := A) (s := s) i t i u
    | str x => exact VIn.two (C := fun a b => SeqAt.EqAt A s a b true) ha hb fun t u => beq_self_eq_true x ▸ SeqAt.EqAt.str_str (A := A) (s := s) x t x u
    | bytes x => exact VIn.two (C := fun a b => SeqAt.EqAt A s a b true) ha hb fun t u => eqAt_bytes x t u
    | tup ds => exact absurd rfl (n1 ds)
    | lst ds => exact absurd rfl (n2 ds)
    | _ => cases n <;> exact Bool.noConfusion (show false = true from hd)
  intro n
  induction n with
  | zero =>
    intro a b d A ha hb hd hu
    cases d with
    | tup ds => exact Bool.noConfusion (show false = true from hd)
    | lst ds => exact Bool.noConfusion (show false = true from hd)
    | _ => exact flat ha hb (by intro _ e; cases e) (by intro _ e; cases e) ⟨_, hd⟩
  | succ n ih =>
    intro a b d A ha hb hd hu
    cases d with
    | tup ds =>
      refine VIn.op (C := fun a => SeqAt.EqAt A s a b true) (.seq .rest) ha (fun a k vs hv hm _ => ?_)
      refine VIn.op (C := fun b => SeqAt.EqAt A s (.ref a) b true) (.seq .rest) hb (fun b k2 ws hv2 hm2 _ => ?_)
      by_cases e : a = b
      · subst e; exact SeqAt.EqAt.same _
      · have t1 : s.heap.IsTuple a vs.toArray := ⟨_, g1 _ hm, rfl, _, rfl⟩
        have t2 : s.heap.IsTuple b ws.toArray := ⟨_, g2 _ hm2, rfl, _, rfl⟩
        have h := SeqAt.RcAt.tuples (A := A) (e := fun _ => true) t1 t2 (by omega) (fun j j1 j2 => by
          (first | (refine' ex_3_0 (hv.nth hv2 j (by simpa using j1) (by simpa using j2)) ?_; intro d hd1 v1 v2) | (refine' ex_2_1 (hv.nth hv2 j (by simpa using j1) (by simpa using j2)) ?_; intro d hd1 v1 v2) | (refine' ex_1_2 (hv.nth hv2 j (by simpa using j1) (by simpa using j2)) ?_; intro d hd1 v1 v2) | (obtain ⟨d, hd1, v1, v2⟩ := hv.nth hv2 j (by simpa using j1) (by simpa using j2)))
          have hdd := List.all_eq_true.mp (show ds.all (V.dataN n) = true from hd) d hd1
          have := ih (A := A.in1) v1 v2 hdd (by rw [units_in1]; omega)
          simpa using this)
        have e2 : (vs.toArray.size == ws.toArray.size) = true := by
          have h1 := hv.length
          have h2 := hv2.length
          simp [h1, h2]
        rw [all_true, e2] at h
        exact SeqAt.EqAt.of_refs e h
    | lst ds =>
      refine VIn.op (C := fun a => SeqAt.EqAt A s a b true) (.seq .rest) ha (fun a k vs hv hm _ => ?_)
      refine VIn.op (C := fun b => SeqAt.EqAt A s (.ref a) b true) (.seq .rest) hb (fun b k2 ws hv2 hm2 _ => ?_)
      by_cases e : a = b
      · subst e; exact SeqAt.EqAt.same _
      · have t1 : s.heap.IsList a vs.toArray := ⟨_, g1 _ hm, rfl, _, rfl⟩
        have t2 : s.heap.IsList b ws.toArray := ⟨_, g2 _ hm2, rfl, _, rfl⟩
        have e2 : vs.toArray.size = ws.toArray.size := by
          have h1 := hv.length
          have h2 := hv2.length
          simp [h1, h2]
        have h := SeqAt.RcAt.lists (A := A) (e := fun _ => true) t1 t2 e2 (by omega) (fun j j1 j2 => by
          (first | (refine' ex_3_0 (hv.nth hv2 j (by simpa using j1) (by simpa using j2)) ?_; intro d hd1 v1 v2) | (refine' ex_2_1 (hv.nth hv2 j (by simpa using j1) (by simpa using j2)) ?_; intro d hd1 v1 v2) | (refine' ex_1_2 (hv.nth hv2 j (by simpa using j1) (by simpa using j2)) ?_; intro d hd1 v1 v2) | (obtain ⟨d, hd1, v1, v2⟩ := hv.nth hv2 j (by simpa using j1) (by simpa using j2)))
          have hdd := List.all_eq_true.mp (show ds.all (V.dataN n) = true from hd) d hd1
          have := ih (A := A.in1) v1 v2 hdd (by rw [units_in1]; omega)
          simpa using this)
        rw [all_true] at h
        exact SeqAt.EqAt.of_refs e h
    | _ => exact flat ha hb (by intro _ e; cases e) (by intro _ e; cases e) ⟨_, hd⟩
section
variable {prog : Program} {w : World} {A : Around} {E : Value → Shared → Prop} {s : Shared} {h₀ : Heap} {L : Addr} {news : List (Addr × Obj)} {P : Params} {l l2 : List (Addr × Obj)} {a b : Addr} {ds : List V} {Q : Value → Shared → Prop}
/-- two tuples (lists) that say the same are not unequal -/
theorem ne_tup (N : News h₀ L s.heap news) (ha : VIn P l (.ref a) (.tup ds)) (hb : VIn P l2 (.ref b) (.tup ds)) (sa : ∀ q ∈ l, q ∈ news) (sb : ∀ q ∈ l2, q ∈ news) (n : Nat) (hp : ds.all (V.dataN n) = true) (hu : A.units + n + 1 < cLine) (h : Q (.bool false) s) : wpAny (model prog w) A (compareOp .NotEq (.ref a) (.ref b)) Q E s := by
  have g1 : ∀ p ∈ l, s.heap.get? p.1 = some p.2 := fun p q => (N p (sa p q)).1
  have g2 : ∀ p ∈ l2, s.heap.get? p.1 = some p.2 := fun p q => (N p (sb p q)).1
  cases ha with | @tup _ vs k _ hm hv => cases hb with | @tup _ ws k2 _ hm2 hv2 =>
  have t1 : s.heap.IsTuple a vs.toArray := ⟨_, g1 _ hm, rfl, _, rfl⟩
  have t2 : s.heap.IsTuple b ws.toArray := ⟨_, g2 _ hm2, rfl, _, rfl⟩
  have q := SeqAt.RcNeAt.tuples (A := A) (e := fun _ => true) t1 t2 (by omega) (fun j j1 j2 => by
    (first | (refine' ex_3_0 (hv.nth hv2 j (by simpa using j1) (by simpa using j2)) ?_; intro d hd1 v1 v2) | (refine' ex_2_1 (hv.nth hv2 j (by simpa using j1) (by simpa using j2)) ?_; intro d hd1 v1 v2) | (refine' ex_1_2 (hv.nth hv2 j (by simpa using j1) (by simpa using j2)) ?_; intro d hd1 v1 v2) | (obtain ⟨d, hd1, v1, v2⟩ := hv.nth hv2 j (by simpa using j1) (by simpa using j2)))
    have := VIn.eqAt g1 g2 n (A := A.in1) v1 v2 (List.all_eq_true.mp hp d hd1) (by rw [units_in1]; omega)
    simpa using this)
  have e2 : (vs.toArray.size == ws.toArray.size) = true := by
    have h1 := hv.length
    have h2 := hv2.length
    simp [h1, h2]
  rw [all_true, e2] at q
  exact q prog w E Q h
theorem ne_lst (N : News h₀ L s.heap news) (ha : VIn P l (.ref a) (.lst ds)) (hb : VIn P l2 (.ref b) (.lst ds)) (sa : ∀ q ∈ l, q ∈ news) (sb : ∀ q ∈ l2, q ∈ news) (n : Nat) (hp : ds.all (V.dataN n) = true) (hu : A.units + n + 1 < cLine) (h : Q (.bool false) s) : wpAny (model prog w) A (compareOp .NotEq (.ref a) (.ref b)) Q E s := by
  have g1 : ∀ p ∈ l, s.heap.get? p.1 = some p.2 := fun p q => (N p (sa p q)).1
  have g2 : ∀ p ∈ l2, s.heap.get? p.1 = some p.2 := fun p q => (N p (sb p q)).1
  cases ha with | @lst _ vs k _ hm hv => cases hb with | @lst _ ws k2 _ hm2 hv2 =>
  have t1 : s.heap.IsList a vs.toArray := ⟨_, g1 _ hm, rfl, _, rfl⟩
  have t2 : s.heap.IsList b ws.toArray := ⟨_, g2 _ hm2, rfl, _, rfl⟩
  have e2 : vs.toArray.size = ws.toArray.size := by
    have h1 := hv.length
    have h2 := hv2.length
    simp [h1, h2]
  have q := SeqAt.RcNeAt.lists (A := A) (e := fun _ => true) t1 t2 e2 (by omega) (fun j j1 j2 => by
    (first | (refine' ex_3_0 (hv.nth hv2 j (by simpa using j1) (by simpa using j2)) ?_; intro d hd1 v1 v2) | (refine' ex_2_1 (hv.nth hv2 j (by simpa using j1) (by simpa using j2)) ?_; intro d hd1 v1 v2) | (refine' ex_1_2 (hv.nth hv2 j (by simpa using j1) (by simpa using j2)) ?_; intro d hd1 v1 v2) | (obtain ⟨d, hd1, v1, v2⟩ := hv.nth hv2 j (by simpa using j1) (by simpa using j2)))
    have := VIn.eqAt g1 g2 n (A := A.in1) v1 v2 (List.all_eq_true.mp hp d hd1) (by rw [units_in1]; omega)
    simpa using this)
  rw [all_true] at q
  exact q prog w E Q h
theorem eq_lst (N : News h₀ L s.heap news) (ha : VIn P l (.ref a) (.lst ds)) (hb : VIn P l2 (.ref b) (.lst ds)) (sa : ∀ q ∈ l, q ∈ news) (sb : ∀ q ∈ l2, q ∈ news) (n : Nat) (hp : ds.all (V.dataN n) = true) (hu : A.units + n + 1 < cLine) (h : Q (.bool true) s) : wpAny (model prog w) A (compareOp .Eq (.ref a) (.ref b)) Q E s := by
  have g1 : ∀ p ∈ l, s.heap.get? p.1 = some p.2 := fun p q => (N p (sa p q)).1
  have g2 : ∀ p ∈ l2, s.heap.get? p.1 = some p.2 := fun p q => (N p (sb p q)).1
  cases ha with | @lst _ vs k _ hm hv => cases hb with | @lst _ ws k2 _ hm2 hv2 =>
  have t1 : s.heap.IsList a vs.toArray := ⟨_, g1 _ hm, rfl, _, rfl⟩
  have t2 : s.heap.IsList b ws.toArray := ⟨_, g2 _ hm2, rfl, _, rfl⟩
  have e2 : vs.toArray.size = ws.toArray.size := by
    have h1 := hv.length
    have h2 := hv2.length
    simp [h1, h2]
  have q := SeqAt.RcAt.lists (A := A) (e := fun _ => true) t1 t2 e2 (by omega) (fun j j1 j2 => by
    (first | (refine' ex_3_0 (hv.nth hv2 j (by simpa using j1) (by simpa using j2)) ?_; intro d hd1 v1 v2) | (refine' ex_2_1 (hv.nth hv2 j (by simpa using j1) (by simpa using j2)) ?_; intro d hd1 v1 v2) | (refine' ex_1_2 (hv.nth hv2 j (by simpa using j1) (by simpa using j2)) ?_; intro d hd1 v1 v2) | (obtain ⟨d, hd1, v1, v2⟩ := hv.nth hv2 j (by simpa using j1) (by simpa using j2)))
    have := VIn.eqAt g1 g2 n (A := A.in1) v1 v2 (List.all_eq_true.mp hp d hd1) (by rw [units_in1]; omega)
    simpa using this)
  rw [all_true] at q
  exact q prog w E Q h
end
theorem due_data (t : Turn) : V.dataN 8 t.due = true := by
  unfold Turn.due
  split
  · rfl
  · split
    · rfl
    · split <;> rfl
theorem dues_data (ts : List Turn) : (ts.map Turn.due).all (V.dataN 8) = true := by
  rw [List.all_eq_true]
  intro d hd
  (first | (refine' ex_2_0 (List.mem_map.mp hd) ?_; intro t _ ob9; subst ob9) | (refine' ex_1_1 (List.mem_map.mp hd) ?_; intro t _ ob9; subst ob9) | (obtain ⟨t, _, rfl⟩ := List.mem_map.mp hd))
  exact due_data t
theorem rows_data (R : List (List Nat)) : (R.map fun r => V.str (txt r)).all (V.dataN 8) = true := by
  rw [List.all_eq_true]
  intro d hd
  (first | (refine' ex_2_0 (List.mem_map.mp hd) ?_; intro t _ ob9; subst ob9) | (refine' ex_1_1 (List.mem_map.mp hd) ?_; intro t _ ob9; subst ob9) | (obtain ⟨t, _, rfl⟩ := List.mem_map.mp hd))
  rfl
noncomputable abbrev QLam : Str := Str.ofString "told_path.<locals>.<lambda>"
/-- told_mark, of whatever mark of the law -/
theorem tmark (w : World) (t : Turn) : Sc w 395 50 4200 (fun P o l vs => P = 281 ∧ TabOk 136 28 (Str.ofString "told_path.<locals>.<lambda>") o l ∧ VAll w.params l vs [t.mark]) (fun P o l r => TabOk 136 28 (Str.ofString "told_path.<locals>.<lambda>") o l ∧ VIn w.params l r t.due) := by
  unfold Turn.mark Turn.due
  by_cases h1 : t.sort < 3
  · rw [if_pos h1, if_pos h1]; exact tmfill w _ _ _ _ _
  · rw [if_neg h1, if_neg h1]
    by_cases h2 : t.sort = 3
    · rw [if_pos h2, if_pos h2]; exact tmstroke w _ _ _ _ _
    · rw [if_neg h2, if_neg h2]
      by_cases h3 : t.sort = 4
      · rw [if_pos h3, if_pos h3]; exact tmclip w _ _ _ _ _
      · rw [if_neg h3, if_neg h3]; exact tmimage w _ _ _ _ _ _
section
variable {prog : Program} {w : World} {A : Around} {E : Value → Shared → Prop} {s : Shared} {h₀ h' : Heap} {L : Addr} {m : Str → Option Value} {env : Env} {X ext : List (Addr × Obj)} {av : List Addr} {scope : Scope} {cl : List (Str × Addr)} {elt : Expr} {x : Str} {px : Pos} {Fin : Shared → List Value → List (Addr × Obj) → Prop}
inductive ToldS (P : Params) (ln co : Int) (ql : Str) (rest : List (Addr × Obj)) (f : Nat → V) (i : Nat) (ys : List Value) (lg : List (Addr × Obj)) : Prop where
  | mk (o : Obj) (tl : List (Addr × Obj)) : lg = (281, o) :: (tl ++ rest) → TabOk ln co ql o (tl ++ rest) → VAll P (tl ++ rest) ys ((List.range i).map f) → ApartP tl rest → (∀ e ∈ tl, e.1 ≠ 281) → ToldS P ln co ql rest f i ys lg
inductive ToldE (P : Params) (ln co : Int) (ql : Str) (rest tl : List (Addr × Obj)) (d : V) (y : Value) (lg : List (Addr × Obj)) : Prop where
  | mk (o : Obj) (tl' : List (Addr × Obj)) : lg = (281, o) :: (tl' ++ (tl ++ rest)) → TabOk ln co ql o (tl' ++ (tl ++ rest)) → VIn P (tl' ++ (tl ++ rest)) y d → ApartP tl' rest → (∀ e ∈ tl', e.1 ≠ 281) → ToldE P ln co ql rest tl d y lg
theorem cmp_told {P : Params} {ax : Addr} {vs : List Value} {ds : List V} {o : Obj} {rest : List (Addr × Obj)} {ln co : Int} {ql : Str} (f : Nat → V) (hh : A.handled = none) (hl : s.heap.IsList ax vs.toArray) (hd : VAll P rest vs ds) (hsz : vs.length ≤ sizeLine)
    (hx : scope.names.lookup x = some .local) (hkind : scope.kind = .function) (F : Fr h₀ L s.heap m) (N : News h₀ L s.heap X) (hX : ∀ q ∈ (281, o) :: rest, q ∈ X) (ht : TabOk ln co ql o rest)
    (turn : ∀ (i : Nat) (v : Value) (d : V) (tl : List (Addr × Obj)) (o' : Obj) C oC m₂ ext av h tk E', ds[i]? = some d → VIn P rest v d → TabOk ln co ql o' (tl ++ rest) → ApartP tl rest → ApartA tl [281] → NsObj oC m₂ → m₂ x = some v → (C, oC) ∈ ext → Fr h₀ L h m → News h₀ L h (ext ++ (281, o') :: (tl ++ rest)) → Off av ((281, o') :: (tl ++ rest)) → HasAv ext av → ExtIn ext av [ax] →
      wpAny (model prog w) A (eval elt (compEnvC scope cl C env)) (fun y s'' => CEnd h₀ L m ext av { s with heap := h, toks := tk } (ToldE P ln co ql rest tl (f i) y) s'') E' { s with heap := h, toks := tk })
    (fin : ∀ g (o' : Obj) (ys : List Value) (tl : List (Addr × Obj)), TabOk ln co ql o' (tl ++ rest) → VAll P (tl ++ rest) ys ((List.range ds.length).map f) → ApartP tl rest → ApartA tl [281] → Fin { s with heap := g } ys ((281, o') :: (tl ++ rest))) :
    CmpSrc prog w A h₀ L m env scope cl (.Name x px) [] elt Fin E (.ref ax) s := by
  refine cmp_listS (ToldS P ln co ql rest f) ((281, o) :: rest) hh hl hsz hx hkind F N hX ⟨o, [], rfl, ht, .nil, .nil, fun _ h => nomatch h⟩ ?_ ?_
  · rintro i v ys lg C oC m₂ ext av h tk E' hi ⟨o', tl, rfl, ht', hv, ap, hne⟩ hoC hxC hCe F N h1 h2 h3
    (first | (refine' ex_2_0 (hd.get hi) ?_; intro d hdi hvd) | (refine' ex_1_1 (hd.get hi) ?_; intro d hdi hvd) | (obtain ⟨d, hdi, hvd⟩ := hd.get hi))
    refine wpAny_mono (turn i v d tl o' C oC m₂ ext av h tk E' hdi hvd ht' ap (apartA_cons hne apartA_nil) hoC hxC hCe F N h1 h2 h3) (fun y s₅ h₅ => ?_) fun _ _ e => e
    obtain ⟨h', tk', lg', e, F', N', ha, o'', tl', rfl, ht2, hvi, ap2, hne2⟩ := h₅
    refine ⟨h', tk', _, e, F', N', ha, o'', tl' ++ tl, by simp, ?_, ?_, ap2.app ap, ?_⟩
    · rw [List.append_assoc]; exact ht2
    · rw [List.append_assoc, range_snoc]
      exact (hv.mono fun q hq => List.mem_append_right _ hq).snoc hvi
    · intro e he
      exact (List.mem_append.mp he).elim (hne2 e) (hne e)
  · rintro g ys lg ⟨o', tl, rfl, ht', hv, ap, hne⟩
    rw [hd.length] at hv
    exact fin g o' ys tl ht' hv ap (apartA_cons hne apartA_nil)
theorem cend_told {P : Params} {ln co : Int} {ql : Str} {o o' : Obj} {rest tl tl' : List (Addr × Obj)} {y : Value} {d : V} {tk' : Nat} (F : Fr h₀ L h' m) (N : News h₀ L h' X) (pick : ∀ q ∈ (281, o') :: (tl' ++ (ext ++ (tl ++ rest))), q ∈ X) (off : Off av ((281, o) :: (tl ++ rest))) (off' : Off av tl')
    (ht : TabOk ln co ql o' (tl' ++ (tl ++ rest))) (hv : VIn P (tl' ++ (tl ++ rest)) y d) (ap : ApartP tl' rest) (apn : ∀ e ∈ tl', e.1 ≠ 281) :
    CEnd h₀ L m ext av s (ToldE P ln co ql rest tl d y) { s with heap := h', toks := tk' } := by
  refine CEnd.intro ((281, o') :: (tl' ++ (tl ++ rest))) F (fun e he => N e (pick e ?_)) ?_ ⟨o', tl', rfl, ht, hv, ap, apn⟩
  · rcases List.mem_append.mp he with he | he
    · exact .tail _ (List.mem_append_right _ (List.mem_append_left _ he))
    · rcases List.mem_cons.mp he with rfl | he
      · exact .head _
      · refine .tail _ ?_
        rcases List.mem_append.mp he with he | he
        · exact List.mem_append_left _ he
        · exact List.mem_append_right _ (List.mem_append_right _ he)
  · refine off_cons (off _ (.head _)) ?_
    intro e he
    rcases List.mem_append.mp he with he | he
    · exact off' e he
    · exact off e (.tail _ he)
end
theorem mark_at {ts : List Turn} {i : Nat} {d : V} (h : (ts.map Turn.mark)[i]? = some d) : ∃ t, ts[i]? = some t ∧ d = t.mark ∧ (ts.map Turn.due).getD i V.none = t.due := by
  rw [List.getElem?_map] at h
  cases e : ts[i]? with
  | none => rw [e] at h; cases h
  | some t => rw [e] at h; exact ⟨t, rfl, (Option.some.inj h).symm, by simp [List.getD, e]⟩
theorem dues_all {P : Params} {l : List (Addr × Obj)} {ys : List Value} {ts : List Turn} (h : VAll P l ys ((List.range (ts.map Turn.mark).length).map fun i => (ts.map Turn.due).getD i V.none)) : VAll P l ys (ts.map Turn.due) := by
  have e : (ts.map Turn.mark).length = (ts.map Turn.due).length := by simp
  rw [e, range_getD] at h
  exact h
end
theorem resetN6 : True := by w_top off; trivial
section
section
variable {prog : Program} {w : World} {A : Around} {E : Value → Shared → Prop} {s : Shared} {h₀ h' : Heap} {L : Addr} {m m' : Str → Option Value} {env : Env} {body : List Stmt} {X : List (Addr × Obj)} {Q : Flow → Shared → Prop}
theorem up_int {i : Nat} : (0 : Int) + (i : Int) * 1 = (i : Int) := by omega
/-- a for over range(n): a local target, the turns change the ledger and the name y -/
theorem for_upY {r : Addr} {t₀ u₀ v₀ : Tok} {n : Nat} {x : Str} {px : Pos} (y : Str) (st : List Str) (S : Nat → Value → List (Addr × Obj) → Prop) (lg₀ : List (Addr × Obj)) (y₀ : Value)
    (hh : A.handled = none) (hr : IsRange s.heap r 0 (n : Int) 1 t₀ u₀ v₀) (hn : n ≤ 1000)
    (hx : env.kindOf x = some .local) (hxy : y ≠ x) (hp : (env.scope.kind == .class || (env.scope.kind == .module && env.locals != env.globals)) = false)
    (F : Fr h₀ env.locals s.heap m) (N : News h₀ env.locals s.heap X) (hX : ∀ q ∈ lg₀, q ∈ X) (hy : m y = some y₀) (h0 : S 0 y₀ lg₀)
    (turn : ∀ (i : Nat) (t : Tok) (u : Str → Option Value) (v : Value) (lg ext : List (Addr × Obj)) (av : List Addr) (h : Heap) (tk : Nat), i < n → S i v lg →
      Fr h₀ env.locals h (fun z => if z = x then some (.int (i : Int) t) else if z = y then some v else if st.contains z then u z else m z) → News h₀ env.locals h (ext ++ lg) → Off av lg → HasAv ext av → ExtIn ext av [] →
      wpAny (model prog w) A (execs body env) (FPost h₀ env.locals ext av { s with heap := h, toks := tk } (fun m' lg' => (∃ v', m' y = some v' ∧ S (i + 1) v' lg') ∧ ∀ z, z ≠ x → z ≠ y → st.contains z = false → m' z = m z) Q) E { s with heap := h, toks := tk })
    (done : ∀ (h : Heap) (tk : Nat) (u : Str → Option Value) (v : Value) (lg : List (Addr × Obj)), S n v lg → Fr h₀ env.locals h (fun z => if z = y then some v else if (x :: st).contains z then u z else m z) → News h₀ env.locals h lg → Q .next { s with heap := h, toks := tk }) :
    ForSrc prog w A h₀ env (.Name x px) body Q E (.ref r) s := by
  refine for_rangeY y st S lg₀ y₀ hh hr (small_up hn) size_up hx hxy hp F N hX hy h0 ?_ done
  intro i t u v lg ext av h tk hi hS F₁ N₁ h1 h2 h3
  rw [up_int] at F₁
  exact turn i t u v lg ext av h tk hi hS F₁ N₁ h1 h2 h3
/-- a for over range(n): whatever target, the turns change the ledger and the name y -/
theorem for_upYC {r : Addr} {t₀ u₀ v₀ : Tok} {n : Nat} {x : Str} {px : Pos} (y : Str) (st : List Str) (S : Nat → Value → List (Addr × Obj) → Prop) (lg₀ : List (Addr × Obj)) (y₀ : Value)
    (hh : A.handled = none) (hr : IsRange s.heap r 0 (n : Int) 1 t₀ u₀ v₀) (hn : n ≤ 1000)
    (F : Fr h₀ env.locals s.heap m) (N : News h₀ env.locals s.heap X) (hX : ∀ q ∈ lg₀, q ∈ X) (hy : m y = some y₀) (h0 : S 0 y₀ lg₀)
    (turn : ∀ (i : Nat) (t : Tok) (u : Str → Option Value) (v : Value) (lg ext : List (Addr × Obj)) (av : List Addr) (h : Heap) (tk : Nat), i < n → S i v lg →
      Fr h₀ env.locals h (fun z => if z = y then some v else if st.contains z then u z else m z) → News h₀ env.locals h (ext ++ lg) → Off av lg → HasAv ext av → ExtIn ext av [] →
      wpAny (model prog w) A (assign (.Name x px) env (.int (i : Int) t)) (fun _ s₃ => wpAny (model prog w) A (execs body env) (FPost h₀ env.locals ext av { s with heap := h, toks := tk } (fun m' lg' => (∃ v', m' y = some v' ∧ S (i + 1) v' lg') ∧ ∀ z, z ≠ y → st.contains z = false → m' z = m z) Q) E s₃) E { s with heap := h, toks := tk })
    (done : ∀ (h : Heap) (tk : Nat) (u : Str → Option Value) (v : Value) (lg : List (Addr × Obj)), S n v lg → Fr h₀ env.locals h (fun z => if z = y then some v else if st.contains z then u z else m z) → News h₀ env.locals h lg → Q .next { s with heap := h, toks := tk }) :
    ForSrc prog w A h₀ env (.Name x px) body Q E (.ref r) s := by
  have em : ∀ {m' : Str → Option Value} {v : Value}, m' y = some v → (∀ z, z ≠ y → st.contains z = false → m' z = m z) → m' = fun z => if z = y then some v else if st.contains z then m' z else m z := by
    intro m' v hv hm
    funext z
    by_cases hzy : z = y
    · simp only [hzy, if_true, hv]
    · simp only [hzy, if_false]
      cases hst : st.contains z with
      | true => simp
      | false => simp [hm z hzy hst]
  refine for_range (news := lg₀) (fun i m' lg => (∃ v, m' y = some v ∧ S i v lg) ∧ ∀ z, z ≠ y → st.contains z = false → m' z = m z)
    hh hr (small_up hn) size_up F (fun p hp => N p (hX p hp)) ⟨⟨y₀, hy, h0⟩, fun _ _ _ => rfl⟩ ?_ ?_
  · rintro gg i t m₁ lg ext av h tk hi ⟨⟨v, hv, hS⟩, hm⟩ F₁ N₁ h1 h2 h3
    rw [em hv hm] at F₁
    rw [up_int]
    exact wpAny_mono (turn i t m₁ v lg ext av h tk hi hS F₁ N₁ h1 h2 h3) (fun _ s₃ h₃ => wpAny_mono h₃ (fun fl s₄ h₄ => FPost.up (fun _ _ k => k) h₄) fun _ _ e => e) fun _ _ e => e
  · rintro h tk m' lg F' N' ⟨⟨v, hv, hS⟩, hm⟩
    rw [em hv hm] at F'
    exact done h tk m' v lg hS F' N'
/-- a for over range(n): a local target, the turns change the ledger -/
theorem for_up0 {r : Addr} {t₀ u₀ v₀ : Tok} {n : Nat} {x : Str} {px : Pos} (st : List Str) (S : Nat → List (Addr × Obj) → Prop) (lg₀ : List (Addr × Obj))
    (hh : A.handled = none) (hr : IsRange s.heap r 0 (n : Int) 1 t₀ u₀ v₀) (hn : n ≤ 1000)
    (hx : env.kindOf x = some .local) (hp : (env.scope.kind == .class || (env.scope.kind == .module && env.locals != env.globals)) = false)
    (F : Fr h₀ env.locals s.heap m) (N : News h₀ env.locals s.heap X) (hX : ∀ q ∈ lg₀, q ∈ X) (h0 : S 0 lg₀)
    (turn : ∀ (i : Nat) (t : Tok) (u : Str → Option Value) (lg ext : List (Addr × Obj)) (av : List Addr) (h : Heap) (tk : Nat), i < n → S i lg →
      Fr h₀ env.locals h (fun z => if z = x then some (.int (i : Int) t) else if st.contains z then u z else m z) → News h₀ env.locals h (ext ++ lg) → Off av lg → HasAv ext av → ExtIn ext av [] →
      wpAny (model prog w) A (execs body env) (FPost h₀ env.locals ext av { s with heap := h, toks := tk } (fun m' lg' => S (i + 1) lg' ∧ ∀ z, z ≠ x → st.contains z = false → m' z = m z) Q) E { s with heap := h, toks := tk })
    (done : ∀ (h : Heap) (tk : Nat) (u : Str → Option Value) (lg : List (Addr × Obj)), S n lg → Fr h₀ env.locals h (fun z => if (x :: st).contains z then u z else m z) → News h₀ env.locals h lg → Q .next { s with heap := h, toks := tk }) :
    ForSrc prog w A h₀ env (.Name x px) body Q E (.ref r) s := by
  refine for_range0 st S lg₀ hh hr (small_up hn) size_up hx hp F N hX h0 ?_ done
  intro i t u lg ext av h tk hi hS F₁ N₁ h1 h2 h3
  rw [up_int] at F₁
  exact turn i t u lg ext av h tk hi hS F₁ N₁ h1 h2 h3
end
/-- the law's cell, as far as the fills are asked -/
noncomputable def cellN (height i j : Nat) (fs : List (Q4 × List Q4)) (n : Nat) : Nat := (List.range n).foldl (fun s n => if covers height i j (fs.getD n (⟨0, 0, 0, 0⟩, [])) then 48 + n else s) 46
theorem cellN_all {height i j : Nat} {fs : List (Q4 × List Q4)} : cellN height i j fs fs.length = lawCell height i j fs := rfl
theorem cellN_succ {height i j n : Nat} {fs : List (Q4 × List Q4)} {k : Q4 × List Q4} (h : fs[n]? = some k) : cellN height i j fs (n + 1) = if covers height i j k then 48 + n else cellN height i j fs n := by
  have e : fs.getD n (⟨0, 0, 0, 0⟩, []) = k := by simp [List.getD, h]
  unfold cellN
  rw [List.range_succ, List.foldl_append, List.foldl_cons, List.foldl_nil, e]
theorem cellN_yes {height i j n : Nat} {fs : List (Q4 × List Q4)} {k : Q4 × List Q4} (h : fs[n]? = some k) (c : covers height i j k = true) : cellN height i j fs (n + 1) = 48 + n := by rw [cellN_succ h, if_pos c]
theorem cellN_no {height i j n : Nat} {fs : List (Q4 × List Q4)} {k : Q4 × List Q4} (h : fs[n]? = some k) (c : covers height i j k = false) : cellN height i j fs (n + 1) = cellN height i j fs n := by rw [cellN_succ h, c]; rfl
/-- the clips that do not let the cell through -/
noncomputable def notHit (cs : List Q4) (c r : Int) : Nat := (cs.filter fun q => !q.hit c r).length
theorem notHit_0 {cs : List Q4} {c r : Int} : (notHit cs c r = 0) ↔ cs.all (fun q => q.hit c r) = true := by
  unfold notHit
  rw [List.length_eq_zero_iff, List.filter_eq_nil_iff, List.all_eq_true]
  simp
theorem covers_is {height i j : Nat} {k : Q4 × List Q4} {c r : Int} (hc : c = (j : Int)) (hr : r = (height : Int) - 1 - (i : Int)) : covers height i j k = (k.1.hit c r && k.2.all fun q => q.hit c r) := by
  subst hc hr; rfl
theorem cov_out {height i j : Nat} {k : Q4 × List Q4} {c r : Int} (hc : c = (j : Int)) (hr : r = (height : Int) - 1 - (i : Int)) (h : k.1.hit c r = false) : covers height i j k = false := by
  rw [covers_is hc hr, h]; rfl
theorem cov_in {height i j : Nat} {k : Q4 × List Q4} {c r : Int} (hc : c = (j : Int)) (hr : r = (height : Int) - 1 - (i : Int)) (h : k.1.hit c r = true) (n : notHit k.2 c r = 0) : covers height i j k = true := by
  rw [covers_is hc hr, h, notHit_0.mp n]; rfl
theorem cov_clip {height i j : Nat} {k : Q4 × List Q4} {c r : Int} (hc : c = (j : Int)) (hr : r = (height : Int) - 1 - (i : Int)) (n : ¬ notHit k.2 c r = 0) : covers height i j k = false := by
  rw [covers_is hc hr]
  cases e : k.2.all fun q => q.hit c r with
  | true => exact absurd (notHit_0.mpr e) n
  | false => simp
theorem notHit_snoc {cs : List Q4} {i : Nat} {q : Q4} {c r : Int} (h : cs[i]? = some q) : notHit (cs.take (i + 1)) c r = notHit (cs.take i) c r + (if q.hit c r then 0 else 1) := by
  unfold notHit
  rw [take_at h, List.filter_append, List.length_append]
  cases e : q.hit c r <;> simp [e]
/-- _law_holds, its answer known -/
theorem holdsB (w : World) (q : Q4) (hq : q.Good) (c r : Int) (b : Bool) (h : q.hit c r = b) : Fn w 480 4 300 [q.four, .int c, .int r] (.bool b) := h ▸ holds w q hq c r
section
variable {prog : Program} {w : World} {A : Around} {E : Value → Shared → Prop} {s : Shared}
theorem str_small : ∀ k : Nat, k < 10 → (Str.ofString (toString (k : Int))) = (⟨#[48 + k]⟩ : Str) := by decide +kernel
theorem str_num {k : Nat} {t : Tok} {Q : Value → Shared → Prop} (hk : k < 10) (h : ∀ t' tk, Q (.str ⟨#[48 + k]⟩ t') { s with toks := tk }) : wpAny (model prog w) A (call (.type "str") [.int (k : Int) t]) Q E s := by
  refine P.str_of_int ?_ ?_
  · have e : (k : Int).natAbs = k := by omega
    rw [e]
    rcases Nat.eq_zero_or_pos k with rfl | hp
    · decide
    · exact Nat.lt_of_le_of_lt (Nat.log2_le_self k) (by omega)
  · rw [str_small k hk]; exact h _ _
theorem txt_snoc (a : List Nat) (c : Nat) : txt a ++ (⟨#[c]⟩ : Str) = txt (a ++ [c]) := by
  show Str.append _ _ = _
  simp [Str.append, txt]
theorem add_txt {a : List Nat} {c : Nat} {t u : Tok} {Q : Value → Shared → Prop} (hl : a.length ≤ 100) (h : ∀ t' tk, Q (.str (txt (a ++ [c])) t') { s with toks := tk }) : wpAny (model prog w) A (binaryOp .Add (.str (txt a) t) (.str ⟨#[c]⟩ u)) Q E s := by
  refine PyProof.Rows.add_str ?_ ?_
  · rw [txt_snoc]; exact h
  · have e1 : (txt a).length = a.length := by simp [txt, Str.length]
    have e2 : (⟨#[c]⟩ : Str).length = 1 := by simp [Str.length]
    rw [e1, e2]
    exact Nat.le_trans (by omega : _ ≤ 1000) (by decide)
theorem txt_nil : Str.ofString "" = txt [] := by decide +kernel
theorem txt_dot : Str.ofString "." = (⟨#[46]⟩ : Str) := by decide +kernel
end
end
theorem resetN7 : True := by w_top off; trivial
section
section
variable {prog : Program} {w : World} {A : Around} {E : Value → Shared → Prop} {s : Shared} {h₀ h' : Heap} {L : Addr} {m m' : Str → Option Value} {env : Env} {X ext : List (Addr × Obj)} {av : List Addr} {scope : Scope} {cl : List (Str × Addr)} {elt ct : Expr} {x : Str} {px : Pos} {Fin : Shared → List Value → List (Addr × Obj) → Prop}
/-- the law's comprehension over the clips that do not hold the cell -/
theorem cmp_notHit {P : Params} {ax : Addr} {vs : List Value} {cs : List Q4} {cx r : Int} (rest : List (Addr × Obj)) (hh : A.handled = none) (hl : s.heap.IsList ax vs.toArray) (hd : VAll P rest vs (cs.map Q4.four)) (hsz : vs.length ≤ sizeLine)
    (hx : scope.names.lookup x = some .local) (hkind : scope.kind = .function) (F : Fr h₀ L s.heap m) (N : News h₀ L s.heap X) (hX : ∀ q ∈ rest, q ∈ X)
    (turn : ∀ (i : Nat) (v : Value) (q : Q4) C oC m₂ ext av h tk E', cs[i]? = some q → VIn P rest v q.four → NsObj oC m₂ → m₂ x = some v → (C, oC) ∈ ext → Fr h₀ L h m → News h₀ L h (ext ++ rest) → Off av rest → HasAv ext av → ExtIn ext av [ax] →
      wpAny (model prog w) A (isTrue ct (compEnvC scope cl C env) (eval ct (compEnvC scope cl C env))) (fun ok s' => if ok = true then
        wpAny (model prog w) A (eval elt (compEnvC scope cl C env)) (fun _ s'' => CEnd h₀ L m ext av { s with heap := h, toks := tk } (fun lg => lg = rest ∧ q.hit cx r = false) s'') E' s'
        else CEnd h₀ L m ext av { s with heap := h, toks := tk } (fun lg => lg = rest ∧ q.hit cx r = true) s') E' { s with heap := h, toks := tk })
    (fin : ∀ g ys, ys.length = notHit cs cx r → Fin { s with heap := g } ys rest) :
    CmpSrc prog w A h₀ L m env scope cl (.Name x px) [ct] elt Fin E (.ref ax) s := by
  refine cmp_listT (fun i ys lg => lg = rest ∧ ys.length = notHit (cs.take i) cx r) rest hh hl hsz hx hkind F N hX ⟨rfl, rfl⟩ ?_ ?_
  · rintro i v ys lg C oC m₂ ext av h tk E' hi ⟨rfl, hlen⟩ hoC hxC hCe F N h1 h2 h3
    (first | (refine' ex_2_0 (hd.get hi) ?_; intro d hdi hvd) | (refine' ex_1_1 (hd.get hi) ?_; intro d hdi hvd) | (obtain ⟨d, hdi, hvd⟩ := hd.get hi))
    rw [List.getElem?_map] at hdi
    cases e : cs[i]? with
    | none => rw [e] at hdi; cases hdi
    | some q =>
      rw [e] at hdi
      cases hdi
      refine wpAny_mono (turn i v q C oC m₂ ext av h tk E' e hvd hoC hxC hCe F N h1 h2 h3) (fun ok s' hs => ?_) fun _ _ e => e
      by_cases hok : ok = true
      · rw [if_pos hok] at hs ⊢
        refine wpAny_mono hs (fun y s₅ h₅ => ?_) fun _ _ e => e
        (first | (refine' ex_6_2 h₅ ?_; (try clear h₅); intro h' tk' lg' e' F' N' ha ob9; subst ob9; intro hf) | (refine' ex_4_4 h₅ ?_; (try clear h₅); intro h' tk' lg' e' F' N' ha ob9; subst ob9; intro hf) | (obtain ⟨h', tk', lg', e', F', N', ha, rfl, hf⟩ := h₅))
        exact ⟨h', tk', _, e', F', N', ha, rfl, by rw [notHit_snoc e, hf]; simp [hlen]⟩
      · rw [if_neg hok] at hs ⊢
        (first | (refine' ex_6_2 hs ?_; (try clear hs); intro h' tk' lg' e' F' N' ha ob9; subst ob9; intro hf) | (refine' ex_4_4 hs ?_; (try clear hs); intro h' tk' lg' e' F' N' ha ob9; subst ob9; intro hf) | (obtain ⟨h', tk', lg', e', F', N', ha, rfl, hf⟩ := hs))
        exact ⟨h', tk', _, e', F', N', ha, rfl, by rw [notHit_snoc e, hf]; simp [hlen]⟩
  · rintro g ys lg ⟨rfl, hlen⟩
    have e : vs.length = cs.length := by rw [hd.length, List.length_map]
    rw [e, List.take_length] at hlen
    exact fin g ys hlen
end
/-- a row of the law -/
noncomputable def lawRow (width height : Nat) (fs : List (Q4 × List Q4)) (i : Nat) : List Nat := (List.range width).map fun j => lawCell height i j fs
noncomputable def lawRowN (height : Nat) (fs : List (Q4 × List Q4)) (i j : Nat) : List Nat := (List.range j).map fun j => lawCell height i j fs
theorem lawRowN_succ {height i j : Nat} {fs : List (Q4 × List Q4)} : lawRowN height fs i (j + 1) = lawRowN height fs i j ++ [lawCell height i j fs] := range_snoc _ j
theorem lawRowN_len {height i j : Nat} {fs : List (Q4 × List Q4)} : (lawRowN height fs i j).length = j := by simp [lawRowN]
noncomputable def lawRowsV (width height : Nat) (fs : List (Q4 × List Q4)) (i : Nat) : List V := (List.range i).map fun i => V.str (txt (lawRow width height fs i))
theorem lawRows_all {width height : Nat} {fs : List (Q4 × List Q4)} : V.lst (lawRowsV width height fs height) = rowsV (grid height width fun i j => lawCell height i j fs) := by
  unfold lawRowsV rowsV grid lawRow
  rw [List.map_map]
  rfl
/-- the cell of a cell's object -/
noncomputable def IsCell (o : Obj) : Prop := ∃ v, o.data = .cell v
theorem isCell_of {o : Obj} {v : Option Value} (h : o.data = .cell v) : IsCell o := ⟨v, h⟩
inductive RowS (P : Params) (R c cy cc : Addr) (rest : List (Addr × Obj)) (width height : Nat) (fs : List (Q4 × List Q4)) (i : Nat) (lg : List (Addr × Obj)) : Prop where
  | mk vs k oc oy ox : lg = (R, PySem.W.listOf vs.toArray k) :: (c, oc) :: (cy, oy) :: (cc, ox) :: rest → IsCell oc → IsCell oy → IsCell ox → VAll P [] vs (lawRowsV width height fs i) → RowS P R c cy cc rest width height fs i lg
inductive ColS (c cy cc : Addr) (rest : List (Addr × Obj)) (height : Nat) (fs : List (Q4 × List Q4)) (i j : Nat) (v : Value) (lg : List (Addr × Obj)) : Prop where
  | mk t oc oy ox : v = .str (txt (lawRowN height fs i j)) t → lg = (c, oc) :: (cy, oy) :: (cc, ox) :: rest → IsCell oc → IsCell oy → IsCell ox → ColS c cy cc rest height fs i j v lg
inductive NumS (c cy : Addr) (rest : List (Addr × Obj)) (height : Nat) (fs : List (Q4 × List Q4)) (i j n : Nat) (v : Value) (lg : List (Addr × Obj)) : Prop where
  | mk t oc oy : v = .str ⟨#[cellN height i j fs n]⟩ t → lg = (c, oc) :: (cy, oy) :: rest → IsCell oc → IsCell oy → NumS c cy rest height fs i j n v lg
theorem pick_4 {X r1 r2 r3 r4 : List (Addr × Obj)} {q1 q2 q3 q4 : Addr × Obj} (h1 : ∀ q ∈ q1 :: r1, q ∈ X) (h2 : ∀ q ∈ q2 :: r2, q ∈ r1) (h3 : ∀ q ∈ q3 :: r3, q ∈ r2) (h4 : ∀ q ∈ q4 :: r4, q ∈ r3) : ∀ q ∈ q1 :: q2 :: q3 :: q4 :: r4, q ∈ X :=
  pick_two h1 (pick_two h2 (pick_two h3 h4))
theorem pick_3 {X r1 r2 r3 : List (Addr × Obj)} {q1 q2 q3 : Addr × Obj} (h1 : ∀ q ∈ q1 :: r1, q ∈ X) (h2 : ∀ q ∈ q2 :: r2, q ∈ r1) (h3 : ∀ q ∈ q3 :: r3, q ∈ r2) : ∀ q ∈ q1 :: q2 :: q3 :: r3, q ∈ X :=
  pick_two h1 (pick_two h2 h3)
theorem mem_4 {X r : List (Addr × Obj)} {q1 q2 q3 q4 : Addr × Obj} (h1 : q1 ∈ X) (h2 : q2 ∈ X) (h3 : q3 ∈ X) (h4 : q4 ∈ X) (h : ∀ q ∈ r, q ∈ X) : ∀ q ∈ q1 :: q2 :: q3 :: q4 :: r, q ∈ X :=
  List.forall_mem_cons.mpr ⟨h1, List.forall_mem_cons.mpr ⟨h2, List.forall_mem_cons.mpr ⟨h3, List.forall_mem_cons.mpr ⟨h4, h⟩⟩⟩⟩
theorem fills_good {ts : List Turn} (h : ∀ t ∈ ts, t.Good) : ∀ k ∈ fillsOf (ts.map Turn.pm), k.1.Good ∧ k.2.length ≤ 2 ∧ ∀ c ∈ k.2, c.Good := by
  intro k hk
  unfold fillsOf at hk
  (first | (refine' ex_2_0 (List.mem_filterMap.mp hk) ?_; intro a ha e) | (refine' ex_1_1 (List.mem_filterMap.mp hk) ?_; intro a ha e) | (obtain ⟨a, ha, e⟩ := List.mem_filterMap.mp hk))
  (first | (refine' ex_2_0 (List.mem_map.mp ha) ?_; intro t ht ob9; subst ob9) | (refine' ex_1_1 (List.mem_map.mp ha) ?_; intro t ht ob9; subst ob9) | (obtain ⟨t, ht, rfl⟩ := List.mem_map.mp ha))
  have g := h t ht
  unfold Turn.pm at e
  by_cases hs : t.sort < 3
  · rw [if_pos hs] at e
    simp at e
    subst e
    exact ⟨g.f, g.n, g.c⟩
  · rw [if_neg hs] at e
    simp at e
/-- what the law's rows stand upon -/
noncomputable abbrev restLg (e p D Fl H M cp : Addr) (oe o2 oD oH oM ocp : Obj) (fsv : List Value) (kf : Nat) (tlL B : List (Addr × Obj)) : List (Addr × Obj) :=
  (e, oe) :: (p, o2) :: (tlL ++ (D, oD) :: (Fl, PySem.W.listOf fsv.toArray kf) :: (H, oH) :: (M, oM) :: (cp, ocp) :: B)
theorem tab_is {ln cl : Int} {q : Str} {o : Obj} {l : List (Addr × Obj)} (h : TabOk ln cl q o l) : ∃ ps, o = tabObj ps := by
  rcases h with h | ⟨c', oc, vs, t, h, _⟩
  · exact ⟨_, h⟩
  · exact ⟨_, h⟩
section
variable {prog : Program} {w : World} {A : Around} {E : Value → Shared → Prop} {s : Shared} {h₀ h' : Heap} {L : Addr} {m m' : Str → Option Value} {env : Env} {body : List Stmt} {X : List (Addr × Obj)} {Q : Flow → Shared → Prop}
/-- the law's loop over the rows: what lies behind is opaque in the turn -/
theorem for_rows {P : Params} {r : Addr} {t₀ u₀ v₀ tw : Tok} {width height n : Nat} {ts : List Turn} {x : Str} {px : Pos} {R p c D Fl H M cp e cy cc : Addr} {oe o2 oc oy ox oD oH oM ocp : Obj} {ms hs fsv ds : List Value} {kf : Nat} {tlL B : List (Addr × Obj)} (st : List Str)
    (apL : ApartA tlL [p, c, D, Fl, H, M, cp, e, cy, cc]) (hL : LawI P B n ts o2 ms hs fsv ds tlL) (hn7 : n ≤ 7)
    (hh : A.handled = none) (hr : IsRange s.heap r 0 (height : Int) 1 t₀ u₀ v₀) (hn : height ≤ 6)
    (hx : env.kindOf x = some .local) (hp : (env.scope.kind == .class || (env.scope.kind == .module && env.locals != env.globals)) = false)
    (F : Fr h₀ env.locals s.heap m) (N : News h₀ env.locals s.heap X) (hw : m (Str.ofString "width") = some (.int (width : Int) tw)) (hwd : width ≤ 6)
    (gX : ∀ q ∈ (R, PySem.W.listOf #[] 0) :: (c, oc) :: (cy, oy) :: (cc, ox) :: restLg e p D Fl H M cp oe o2 oD oH oM ocp fsv kf tlL B, q ∈ X)
    (hoc : IsCell oc) (hoy : IsCell oy) (hox : IsCell ox) (aR : ApartA (restLg e p D Fl H M cp oe o2 oD oH oM ocp fsv kf tlL B) [R, c, cy, cc]) (dd : DistA [R, c, cy, cc])
    (turn : ∀ (fs : List (Q4 × List Q4)) (rest : List (Addr × Obj)) (i : Nat) (t : Tok) (u : Str → Option Value) (vs : List Value) (k : Nat) (oc oy ox : Obj) (sc sy sx : Option Value) (ext : List (Addr × Obj)) (av : List Addr) (h : Heap) (tk : Nat), i < height → fs.length ≤ 7 → (∀ k ∈ fs, k.1.Good ∧ k.2.length ≤ 2 ∧ ∀ c ∈ k.2, c.Good) → ApartA rest [R, c, cy, cc] → DistA [R, c, cy, cc] → (Fl, PySem.W.listOf fsv.toArray kf) ∈ rest → VAll P rest fsv (fs.map fillIV) → fsv.length = fs.length → oc.data = .cell sc → oy.data = .cell sy → ox.data = .cell sx → VAll P [] vs (lawRowsV width height fs i) → vs.length = i →
      Fr h₀ env.locals h (fun z => if z = x then some (.int (i : Int) t) else if st.contains z then u z else m z) → News h₀ env.locals h (ext ++ (R, PySem.W.listOf vs.toArray k) :: (c, oc) :: (cy, oy) :: (cc, ox) :: rest) → Off av ((R, PySem.W.listOf vs.toArray k) :: (c, oc) :: (cy, oy) :: (cc, ox) :: rest) → HasAv ext av → ExtIn ext av [] →
      wpAny (model prog w) A (execs body env) (FPost h₀ env.locals ext av { s with heap := h, toks := tk } (fun m' lg' => RowS P R c cy cc rest width height fs (i + 1) lg' ∧ ∀ z, z ≠ x → st.contains z = false → m' z = m z) Q) E { s with heap := h, toks := tk })
    (done : ∀ (h : Heap) (tk : Nat) (u : Str → Option Value) (vs : List Value) (k : Nat) (oc oy ox : Obj) (sc sy sx : Option Value), oc.data = .cell sc → oy.data = .cell sy → ox.data = .cell sx → VAll P [] vs (lawRowsV width height (fillsOf (ts.map Turn.pm)) height) → Fr h₀ env.locals h (fun z => if (x :: st).contains z then u z else m z) → News h₀ env.locals h ((R, PySem.W.listOf vs.toArray k) :: (c, oc) :: (cy, oy) :: (cc, ox) :: restLg e p D Fl H M cp oe o2 oD oH oM ocp fsv kf tlL B) → Q .next { s with heap := h, toks := tk }) :
    ForSrc prog w A h₀ env (.Name x px) body Q E (.ref r) s := by
  have hF : (Fl, PySem.W.listOf fsv.toArray kf) ∈ restLg e p D Fl H M cp oe o2 oD oH oM ocp fsv kf tlL B := .tail _ (.tail _ (List.mem_append_right _ (.tail _ (.head _))))
  have sub : ∀ q ∈ tlL ++ B, q ∈ restLg e p D Fl H M cp oe o2 oD oH oM ocp fsv kf tlL B := by
    intro q hq
    refine .tail _ (.tail _ ?_)
    rcases List.mem_append.mp hq with hq | hq
    · exact List.mem_append_left _ hq
    · exact List.mem_append_right _ (.tail _ (.tail _ (.tail _ (.tail _ (.tail _ hq)))))
  have hv := hL.vf.mono sub
  have hg := fills_good hL.good
  have hlen := fills_le (ks := ts.map Turn.pm)
  rw [List.length_map, hL.len] at hlen
  have hl0 : fsv.length = (fillsOf (ts.map Turn.pm)).length := by rw [hv.length, List.length_map]
  refine for_up0 st (RowS P R c cy cc (restLg e p D Fl H M cp oe o2 oD oH oM ocp fsv kf tlL B) width height (fillsOf (ts.map Turn.pm))) _ hh hr (Nat.le_trans hn (by decide)) hx hp F N gX ⟨[], 0, oc, oy, ox, rfl, hoc, hoy, hox, .nil⟩ ?_ ?_
  · rintro i t u lg ext av h tk hi ⟨vs, k, oc, oy, ox, rfl, ⟨sc, h1⟩, ⟨sy, h2⟩, ⟨sx, h3⟩, hvs⟩ F₁ N₁ h4 h5 h6
    have hl : vs.length = i := by rw [hvs.length]; simp [lawRowsV]
    exact turn (fillsOf (ts.map Turn.pm)) _ i t u vs k oc oy ox sc sy sx ext av h tk hi (Nat.le_trans hlen hn7) hg aR dd hF hv hl0 h1 h2 h3 hvs hl F₁ N₁ h4 h5 h6
  · rintro h tk u lg ⟨vs, k, oc, oy, ox, rfl, ⟨sc, h1⟩, ⟨sy, h2⟩, ⟨sx, h3⟩, hvs⟩ F₁ N₁
    exact done h tk u vs k oc oy ox sc sy sx h1 h2 h3 hvs F₁ N₁
end
theorem colX {rng q1 q2 q3 r : Addr × Obj} {ext rest : List (Addr × Obj)} : ∀ q ∈ q1 :: q2 :: q3 :: (ext ++ r :: rest), q ∈ rng :: (ext ++ r :: q1 :: q2 :: q3 :: rest) := by
  intro q hq
  simp only [List.mem_cons, List.mem_append] at hq ⊢
  rcases hq with h | h | h | h | h | h <;> simp [h]
theorem numX {rng q1 q2 : Addr × Obj} {ext rest : List (Addr × Obj)} : ∀ q ∈ q1 :: q2 :: (ext ++ rest), q ∈ rng :: (ext ++ q1 :: q2 :: rest) := by
  intro q hq
  simp only [List.mem_cons, List.mem_append] at hq ⊢
  rcases hq with h | h | h | h <;> simp [h]
noncomputable abbrev hgtOf {i h : Nat} (_ : i < h) : Nat := h
theorem colS_0 {c cy cc : Addr} {rest : List (Addr × Obj)} {height i : Nat} {fs : List (Q4 × List Q4)} {oc oy ox : Obj} {v1 v2 v3 : Option Value} {t : Tok} (h1 : oc.data = .cell v1) (h2 : oy.data = .cell v2) (h3 : ox.data = .cell v3) :
    ColS c cy cc rest height fs i 0 (.str (Str.ofString "") t) ((c, oc) :: (cy, oy) :: (cc, ox) :: rest) := ⟨t, oc, oy, ox, congrArg (fun z => Value.str z t) txt_nil, rfl, ⟨_, h1⟩, ⟨_, h2⟩, ⟨_, h3⟩⟩
theorem numS_0 {c cy : Addr} {rest : List (Addr × Obj)} {height i j : Nat} {fs : List (Q4 × List Q4)} {oc oy : Obj} {v1 v2 : Option Value} {t : Tok} (h1 : oc.data = .cell v1) (h2 : oy.data = .cell v2) :
    NumS c cy rest height fs i j 0 (.str (Str.ofString ".") t) ((c, oc) :: (cy, oy) :: rest) := ⟨t, oc, oy, congrArg (fun z => Value.str z t) txt_dot, rfl, ⟨_, h1⟩, ⟨_, h2⟩⟩
theorem numS_yes {c cy : Addr} {rest : List (Addr × Obj)} {height i j n : Nat} {fs : List (Q4 × List Q4)} {q : Q4} {cs : List Q4} {oc oy : Obj} {v1 v2 : Option Value} {t : Tok} (hf : fs[n]? = some (q, cs)) (hq : q.hit (j : Int) ((height : Int) - 1 - (i : Int)) = true) (hz : notHit cs (j : Int) ((height : Int) - 1 - (i : Int)) = 0) (h1 : oc.data = .cell v1) (h2 : oy.data = .cell v2) :
    NumS c cy rest height fs i j (n + 1) (.str ⟨#[48 + n]⟩ t) ((c, oc) :: (cy, oy) :: rest) :=
  ⟨t, oc, oy, congrArg (fun z => Value.str ⟨#[z]⟩ t) (cellN_yes hf (cov_in rfl rfl hq hz)).symm, rfl, ⟨_, h1⟩, ⟨_, h2⟩⟩
theorem numS_out {c cy : Addr} {rest : List (Addr × Obj)} {height i j n : Nat} {fs : List (Q4 × List Q4)} {q : Q4} {cs : List Q4} {oc oy : Obj} {v1 v2 : Option Value} {t : Tok} (hf : fs[n]? = some (q, cs)) (hq : q.hit (j : Int) ((height : Int) - 1 - (i : Int)) = false) (h1 : oc.data = .cell v1) (h2 : oy.data = .cell v2) :
    NumS c cy rest height fs i j (n + 1) (.str ⟨#[cellN height i j fs n]⟩ t) ((c, oc) :: (cy, oy) :: rest) :=
  ⟨t, oc, oy, congrArg (fun z => Value.str ⟨#[z]⟩ t) (cellN_no hf (cov_out rfl rfl hq)).symm, rfl, ⟨_, h1⟩, ⟨_, h2⟩⟩
theorem numS_clip {c cy : Addr} {rest : List (Addr × Obj)} {height i j n : Nat} {fs : List (Q4 × List Q4)} {q : Q4} {cs : List Q4} {oc oy : Obj} {v1 v2 : Option Value} {t : Tok} (hf : fs[n]? = some (q, cs)) (hz : ¬ notHit cs (j : Int) ((height : Int) - 1 - (i : Int)) = 0) (h1 : oc.data = .cell v1) (h2 : oy.data = .cell v2) :
    NumS c cy rest height fs i j (n + 1) (.str ⟨#[cellN height i j fs n]⟩ t) ((c, oc) :: (cy, oy) :: rest) :=
  ⟨t, oc, oy, congrArg (fun z => Value.str ⟨#[z]⟩ t) (cellN_no hf (cov_clip rfl rfl hz)).symm, rfl, ⟨_, h1⟩, ⟨_, h2⟩⟩
theorem colS_step {c cy cc : Addr} {rest : List (Addr × Obj)} {height i j : Nat} {fs : List (Q4 × List Q4)} {oc oy ox : Obj} {v1 v2 v3 : Option Value} {t : Tok} (h1 : oc.data = .cell v1) (h2 : oy.data = .cell v2) (h3 : ox.data = .cell v3) :
    ColS c cy cc rest height fs i (j + 1) (.str (txt (lawRowN height fs i j ++ [lawCell height i j fs])) t) ((c, oc) :: (cy, oy) :: (cc, ox) :: rest) := ⟨t, oc, oy, ox, congrArg (fun z => Value.str (txt z) t) lawRowN_succ.symm, rfl, ⟨_, h1⟩, ⟨_, h2⟩, ⟨_, h3⟩⟩
theorem rowS_step {P : Params} {R c cy cc : Addr} {rest : List (Addr × Obj)} {width height i k : Nat} {fs : List (Q4 × List Q4)} {vs : List Value} {oc oy ox : Obj} {v1 v2 v3 : Option Value} {t : Tok} (hv : VAll P [] vs (lawRowsV width height fs i)) (h1 : oc.data = .cell v1) (h2 : oy.data = .cell v2) (h3 : ox.data = .cell v3) :
    RowS P R c cy cc rest width height fs (i + 1) ((R, PySem.W.listOf (vs.toArray.push (.str (txt (lawRowN height fs i width)) t)) k) :: (c, oc) :: (cy, oy) :: (cc, ox) :: rest) := by
  refine ⟨vs ++ [.str (txt (lawRowN height fs i width)) t], k, oc, oy, ox, by simp, ⟨_, h1⟩, ⟨_, h2⟩, ⟨_, h3⟩, ?_⟩
  unfold lawRowsV at hv ⊢
  rw [range_snoc]
  exact hv.snoc (.str _ _)
section
variable {s : Shared} {h₀ h' : Heap} {L : Addr} {m m' : Str → Option Value} {X ext : List (Addr × Obj)} {av : List Addr}
theorem fend_row {P : Params} {R c cy cc : Addr} {rest : List (Addr × Obj)} {width height i k : Nat} {fs : List (Q4 × List Q4)} {vs : List Value} {oR oc0 oy0 ox0 oc oy ox : Obj} {v1 v2 v3 : Option Value} {t : Tok} {x : Str} {st : List Str} {tk' : Nat}
    (F : Fr h₀ L h' m') (N : News h₀ L h' X) (r1 : (c, oc) ∈ X) (r2 : (cy, oy) ∈ X) (r3 : (cc, ox) ∈ X) (r4 : (R, PySem.W.listOf (vs.toArray.push (.str (txt (lawRowN height fs i width)) t)) k) ∈ X) (r5 : ∀ q ∈ ext ++ rest, q ∈ X)
    (O : Off av ((R, oR) :: (c, oc0) :: (cy, oy0) :: (cc, ox0) :: rest)) (hv : VAll P [] vs (lawRowsV width height fs i)) (h1 : oc.data = .cell v1) (h2 : oy.data = .cell v2) (h3 : ox.data = .cell v3) (hm : ∀ z, z ≠ x → st.contains z = false → m' z = m z) :
    FEnd h₀ L ext av s (fun m' lg' => RowS P R c cy cc rest width height fs (i + 1) lg' ∧ ∀ z, z ≠ x → st.contains z = false → m' z = m z) { s with heap := h', toks := tk' } := by
  refine FEnd.intro _ F (fun q hq => N q ?_) ?_ ⟨rowS_step (k := k) (t := t) hv h1 h2 h3, hm⟩
  · rcases List.mem_append.mp hq with hq | hq
    · exact r5 q (List.mem_append_left _ hq)
    · rcases List.mem_cons.mp hq with rfl | hq
      · exact r4
      · rcases List.mem_cons.mp hq with rfl | hq
        · exact r1
        · rcases List.mem_cons.mp hq with rfl | hq
          · exact r2
          · rcases List.mem_cons.mp hq with rfl | hq
            · exact r3
            · exact r5 q (List.mem_append_right _ hq)
  · exact off_cons (O _ (.head _)) (off_cons (O _ (.tail _ (.head _))) (off_cons (O _ (.tail _ (.tail _ (.head _)))) (off_cons (O _ (.tail _ (.tail _ (.tail _ (.head _))))) (fun q hq => O _ (.tail _ (.tail _ (.tail _ (.tail _ hq))))))))
theorem fend_col {c cy cc : Addr} {rest : List (Addr × Obj)} {height i j : Nat} {fs : List (Q4 × List Q4)} {oc0 oy0 ox0 oc oy ox : Obj} {v1 v2 v3 : Option Value} {t : Tok} {y : Str} {st : List Str} {tk' : Nat}
    (F : Fr h₀ L h' m') (N : News h₀ L h' X) (r1 : (c, oc) ∈ X) (r2 : (cy, oy) ∈ X) (r3 : (cc, ox) ∈ X) (r5 : ∀ q ∈ ext ++ rest, q ∈ X)
    (O : Off av ((c, oc0) :: (cy, oy0) :: (cc, ox0) :: rest)) (h1 : oc.data = .cell v1) (h2 : oy.data = .cell v2) (h3 : ox.data = .cell v3) (hy : m' y = some (.str (txt (lawRowN height fs i j ++ [lawCell height i j fs])) t)) (hm : ∀ z, z ≠ y → st.contains z = false → m' z = m z) :
    FEnd h₀ L ext av s (fun m' lg' => (∃ v', m' y = some v' ∧ ColS c cy cc rest height fs i (j + 1) v' lg') ∧ ∀ z, z ≠ y → st.contains z = false → m' z = m z) { s with heap := h', toks := tk' } := by
  refine FEnd.intro _ F (fun q hq => N q ?_) ?_ ⟨⟨_, hy, colS_step h1 h2 h3⟩, hm⟩
  · rcases List.mem_append.mp hq with hq | hq
    · exact r5 q (List.mem_append_left _ hq)
    · rcases List.mem_cons.mp hq with rfl | hq
      · exact r1
      · rcases List.mem_cons.mp hq with rfl | hq
        · exact r2
        · rcases List.mem_cons.mp hq with rfl | hq
          · exact r3
          · exact r5 q (List.mem_append_right _ hq)
  · exact off_cons (O _ (.head _)) (off_cons (O _ (.tail _ (.head _))) (off_cons (O _ (.tail _ (.tail _ (.head _)))) (fun q hq => O _ (.tail _ (.tail _ (.tail _ hq))))))
theorem fend_num {c cy : Addr} {rest : List (Addr × Obj)} {height i j n : Nat} {fs : List (Q4 × List Q4)} {oc0 oy0 oc oy : Obj} {v' : Value} {x y : Str} {st : List Str} {tk' : Nat}
    (F : Fr h₀ L h' m') (N : News h₀ L h' X) (r1 : (c, oc) ∈ X) (r2 : (cy, oy) ∈ X) (r5 : ∀ q ∈ ext ++ rest, q ∈ X)
    (O : Off av ((c, oc0) :: (cy, oy0) :: rest)) (hy : m' y = some v') (hS : NumS c cy rest height fs i j (n + 1) v' ((c, oc) :: (cy, oy) :: rest)) (hm : ∀ z, z ≠ x → z ≠ y → st.contains z = false → m' z = m z) :
    FEnd h₀ L ext av s (fun m' lg' => (∃ v', m' y = some v' ∧ NumS c cy rest height fs i j (n + 1) v' lg') ∧ ∀ z, z ≠ x → z ≠ y → st.contains z = false → m' z = m z) { s with heap := h', toks := tk' } := by
  refine FEnd.intro _ F (fun q hq => N q ?_) ?_ ⟨⟨_, hy, hS⟩, hm⟩
  · rcases List.mem_append.mp hq with hq | hq
    · exact r5 q (List.mem_append_left _ hq)
    · rcases List.mem_cons.mp hq with rfl | hq
      · exact r1
      · rcases List.mem_cons.mp hq with rfl | hq
        · exact r2
        · exact r5 q (List.mem_append_right _ hq)
  · exact off_cons (O _ (.head _)) (off_cons (O _ (.tail _ (.head _))) (fun q hq => O _ (.tail _ (.tail _ hq))))
end
theorem holdsI (w : World) (q : Q4) (hq : q.Good) (c r : Int) (b : Bool) (h : q.hit c r = b) (v : Value) (t1 t2 : Tok) : Sp w 480 4 300 (fun l vs => VIn w.params l v q.four ∧ vs = [v, .int c t1, .int r t2]) (fun l x => VIn w.params l x (.bool b)) := by
  refine Sp.pre (holdsB w q hq c r b h) ?_
  rintro l vs ⟨h1, rfl⟩
  exact VAll.cons h1 (VAll.cons (VIn.int _ _) (VAll.cons (VIn.int _ _) VAll.nil))
theorem rows_eq {P : Params} {l : List (Addr × Obj)} {vs : List Value} {width height : Nat} {ks : List PMk} (h : VAll P l vs (lawRowsV width height (fillsOf ks) height)) (hf : (fillsOf ks).length ≤ 10) : VAll P l vs ((picL width height ks).map fun r => V.str (txt r)) := by
  rw [pic_law hf]
  have e := lawRows_all (width := width) (height := height) (fs := fillsOf ks)
  injection e with e
  rw [← e]
  exact h
/-- picture, of the law's marks -/
theorem pictL (w : World) (ts : List Turn) (hg : ∀ t ∈ ts, t.Good) (hn : ts.length ≤ 100) (width height : Nat) (hwd : width ≤ 6) (hhe : height ≤ 6) (a b : Value) (t1 t2 : Tok) : Sp w 400 40 4000 (fun l vs => VIn w.params l a (.lst (ts.map Turn.mark)) ∧ VIn w.params l b (.lst (ts.map Turn.held)) ∧ vs = [a, b, .int (width : Int) t1, .int (height : Int) t2]) (fun l x => VIn w.params l x (rowsV (picL width height (ts.map Turn.pm)))) := by
  refine Sp.pre (pict w (ts.map Turn.pm) (ts.map Turn.mark) (ts.map Turn.held) (by simp) (by simp) ?_ (by simpa using hn) width height hwd hhe) ?_
  · intro i k dm dc h1 h2 h3
    rw [List.getElem?_map] at h1 h2 h3
    cases e : ts[i]? with
    | none => rw [e] at h1; cases h1
    | some t =>
      rw [e] at h1 h2 h3
      cases h1; cases h2; cases h3
      exact Turn.isMark t (hg t (List.mem_of_getElem? e))
  · rintro l vs ⟨h1, h2, rfl⟩
    exact VAll.cons h1 (VAll.cons h2 (VAll.cons (VIn.int _ _) (VAll.cons (VIn.int _ _) VAll.nil)))
theorem notHit_le {cs : List Q4} {c r : Int} : notHit cs c r ≤ cs.length := List.length_filter_le _ _
section
variable {prog : Program} {w : World} {A : Around} {E : Value → Shared → Prop} {s : Shared} {h₀ : Heap} {L : Addr} {news : List (Addr × Obj)}
theorem len_l {a : Addr} {vs : List Value} {n : Nat} {Q : Value → Shared → Prop} (N : News h₀ L s.heap news) (hm : (a, lst vs) ∈ news) (hl : vs.length = n) (hfit : (n : Int) < 2 ^ 63)
    (h : ∀ t tk, Q (.int n t) { s with toks := tk }) : wpAny (model prog w) A (call (.builtin "len") [.ref a]) Q E s := len_v (k0 := vs.length) N hm hl hfit h
end
section
variable {prog : Program} {w : World} {A : Around} {E : Value → Shared → Prop} {s : Shared} {h₀ : Heap} {L : Addr} {m : Str → Option Value} {env : Env} {X : List (Addr × Obj)} {scope : Scope} {cl : List (Str × Addr)} {elt : Expr} {x : Str} {px : Pos} {Fin : Shared → List Value → List (Addr × Obj) → Prop}
/-- the law's many marks, all alike -/
theorem cmp_many {P : Params} {np : Nat} {op : Obj} {lp : List (Addr × Obj)} (_ : PoolOk P np op lp) {r : Addr} {t₀ u₀ v₀ : Tok} {n : Nat} (d : V) (hh : A.handled = none) (hr : IsRange s.heap r 0 (n : Int) 1 t₀ u₀ v₀) (hn : n ≤ 1000)
    (hx : scope.names.lookup x = some .local) (hkind : scope.kind = .function) (F : Fr h₀ L s.heap m) (N : News h₀ L s.heap X)
    (turn : ∀ (i : Nat) (t : Tok) (tl : List (Addr × Obj)) C oC m₂ ext av h tk E', i < n → NsObj oC m₂ → m₂ x = some (.int (0 + (i : Int) * 1) t) → (C, oC) ∈ ext → Fr h₀ L h m → News h₀ L h (ext ++ (tl ++ X)) → Off av (tl ++ X) → HasAv ext av → ExtIn ext av [] →
      wpAny (model prog w) A (eval elt (compEnvC scope cl C env)) (fun y s'' => CEnd h₀ L m ext av { s with heap := h, toks := tk } (fun lg => ∃ tl', lg = tl' ++ (tl ++ X) ∧ VIn P (tl' ++ (tl ++ X)) y d) s'') E' { s with heap := h, toks := tk })
    (fin : ∀ g ys tl, VAll P (tl ++ X) ys (List.replicate n d) → Fin { s with heap := g } ys (tl ++ X)) :
    CmpSrc prog w A h₀ L m env scope cl (.Name x px) [] elt Fin E (.ref r) s := by
  refine cmp_collect (P := P) X (fun _ => d) hh hr (small_up hn) size_up (Nat.le_trans hn (by decide)) hx hkind F N (fun _ h => h) ?_ ?_
  · intro i t ys tl C oC m₂ ext av h tk E' hi _ hoC hxC hCe F N h1 h2 h3
    exact turn i t tl C oC m₂ ext av h tk E' hi hoC hxC hCe F N h1 h2 h3
  · intro g ys tl hv
    refine fin g ys tl ?_
    have e : (List.range n).map (fun _ => d) = List.replicate n d := by
      rw [List.map_const', List.length_range]
    rw [e] at hv
    exact hv
end
theorem cend_many {P : Params} {h₀ h' : Heap} {L : Addr} {m : Str → Option Value} {s : Shared} {ext rest tl tl' X : List (Addr × Obj)} {av : List Addr} {v : Value} {d : V} {tk' : Nat} (F : Fr h₀ L h' m) (N : News h₀ L h' X) (T : Tkn X tl' (ext ++ (tl ++ rest))) (O : Off av (tl ++ rest)) (O' : Off av tl') (k : VIn P (tl' ++ (tl ++ rest)) v d) :
    CEnd h₀ L m ext av s (fun lg => ∃ tl', lg = tl' ++ (tl ++ rest) ∧ VIn P (tl' ++ (tl ++ rest)) v d) { s with heap := h', toks := tk' } := by
  refine CEnd.intro (tl' ++ (tl ++ rest)) F (fun p hp => N p (T p ?_)) (off_app O' O) ⟨tl', rfl, k⟩
  rcases List.mem_append.mp hp with hp | hp
  · exact List.mem_append_right _ (List.mem_append_left _ hp)
  · rcases List.mem_append.mp hp with hp | hp
    · exact List.mem_append_left _ hp
    · exact List.mem_append_right _ (List.mem_append_right _ hp)
theorem vall_rep {P : Params} {l : List (Addr × Obj)} {v : Value} {d : V} (h : VIn P l v d) : ∀ n : Nat, VAll P l (List.replicate n v) (List.replicate n d)
  | 0 => .nil
  | n + 1 => .cons h (vall_rep h n)
section
variable {prog : Program} {w : World} {A : Around} {E : Value → Shared → Prop} {s : Shared} {h₀ : Heap} {L : Addr} {m : Str → Option Value} {news : List (Addr × Obj)}
theorem mul_rep {l : Addr} {v : Value} {k0 n : Nat} {u : Tok} {Q : Value → Shared → Prop} (F : Fr h₀ L s.heap m) (N : News h₀ L s.heap news) (hm : (l, PySem.W.listOf #[v] k0) ∈ news) (hn : n ≤ 100)
    (h : ∀ D h', Fr h₀ L h' m → News h₀ L h' ((D, PySem.W.listOf (List.replicate n v).toArray 0) :: news) → (∀ p ∈ news, p.1 < D) → Q (.ref D) { s with heap := h' }) : wpAny (model prog w) A (binaryOp .Mult (.ref l) (.int (n : Int) u)) Q E s := by
  refine KMa.mul (vs := [v]) F N ⟨_, (N _ hm).1, rfl, _, rfl⟩ (by omega) (by omega) (by simp; omega) ?_ h
  rw [Int.toNat_natCast]
  exact List.flatten_replicate_singleton
end
/-- picture, of many marks alike -/
theorem pictM (w : World) (n : Nat) (hn : n < 38) (a b : Value) (t1 t2 : Tok) : Sp w 400 40 4000 (fun l vs => VIn w.params l a (.lst (List.replicate (1 + n) (.tup [.str (Str.ofString "fill"), .str (Str.ofString "nonzero"), rectV 0 0 1 1, .tup []]))) ∧ VIn w.params l b (.lst (List.replicate (1 + n) (.tup []))) ∧ vs = [a, b, .int 2 t1, .int 1 t2]) (fun l x => VIn w.params l x (.lst [.str (txt [signOf n, 46])])) := by
  have e : rowsV (picL ((2 : Nat)) ((1 : Nat)) (List.replicate (1 + n) ⟨some ⟨0, 0, 1, 1⟩, []⟩)) = .lst [.str (txt [signOf n, 46])] := by
    rw [Nat.add_comm, pic_many]; rfl
  rw [← e]
  refine Sp.pre (pict w (List.replicate (1 + n) ⟨some ⟨0, 0, 1, 1⟩, []⟩) (List.replicate (1 + n) (.tup [.str (Str.ofString "fill"), .str (Str.ofString "nonzero"), rectV 0 0 1 1, .tup []])) (List.replicate (1 + n) (.tup [])) (by simp) (by simp) ?_ (by simp; omega) 2 1 (by omega) (by omega)) ?_
  · intro i k dm dc h1 h2 h3
    have g : ∀ {α : Type} {a b : α}, (List.replicate (1 + n) a)[i]? = some b → b = a := by
      intro α a b h
      exact List.eq_of_mem_replicate (List.mem_of_getElem? h)
    rw [g h1, g h2, g h3]
    exact .inl ⟨⟨0, 0, 1, 1⟩, Str.ofString "nonzero", .tup [], Str.ofString "nonzero", rfl, by unfold Q4.Good; decide, .inl rfl, .inl rfl, (fun _ h => nomatch h), by decide, rfl, rfl⟩
  · rintro l vs ⟨h1, h2, rfl⟩
    exact VAll.cons h1 (VAll.cons h2 (VAll.cons (VIn.int _ _) (VAll.cons (VIn.int _ _) VAll.nil)))
theorem sign_vin {P : Params} {l : List (Addr × Obj)} {k : Nat} {t : Tok} : VIn P l (.str (Txt.item (Str.ofString "0123456789abcdefghijklmnopqrstuvwxyz") ((((1 + k : Nat) : Int) - 1).fmod 36) ++ Str.ofString ".") t) (.str (txt [signOf k, 46])) := by
  have e1 : ((1 + k : Nat) : Int) - 1 = (k : Int) := by omega
  have e : Txt.item (Str.ofString "0123456789abcdefghijklmnopqrstuvwxyz") ((((1 + k : Nat) : Int) - 1).fmod 36) ++ Str.ofString "." = txt [signOf k, 46] := by
    rw [e1, sign_item, txt_dot]
    exact txt_snoc [signOf k] 46
  rw [e]
  exact .str _ _
end
theorem resetLS : True := by w_top off; trivial
theorem linesLS : True := by
  k_with_none
  (k_with "rk" => (k_dflt (first | (refine' rK 1 ?h_1 ?x_1 ?e_1; (case h_1 => assumption); (case x_1 => exact rfl); (case e_1 => exact rfl)) | (refine' rK 3 ?h_1 ?x_1 ?e_1; (case h_1 => assumption); (case x_1 => exact rfl); (case e_1 => exact rfl)) | (refine' rK0 0 ?h_1 ?x_1 ?e_1; (case h_1 => assumption); (case x_1 => exact rfl); (case e_1 => exact rfl)) | (refine' rK 2 ?h_1 ?x_1 ?e_1; (case h_1 => assumption); (case x_1 => exact rfl); (case e_1 => exact rfl)) | (refine' rK 6 ?h_1 ?x_1 ?e_1; (case h_1 => assumption); (case x_1 => exact rfl); (case e_1 => exact rfl)) | (refine' rK 4 ?h_1 ?x_1 ?e_1; (case h_1 => assumption); (case x_1 => exact rfl); (case e_1 => exact rfl)) | (refine' rK0 1 ?h_1 ?x_1 ?e_1; (case h_1 => assumption); (case x_1 => exact rfl); (case e_1 => exact rfl)) | (refine' rK 9 ?h_1 ?x_1 ?e_1; (case h_1 => assumption); (case x_1 => exact rfl); (case e_1 => exact rfl)) | (refine' rK 7 ?h_1 ?x_1 ?e_1; (case h_1 => assumption); (case x_1 => exact rfl); (case e_1 => exact rfl)) | (refine' rK0 2 ?h_1 ?x_1 ?e_1; (case h_1 => assumption); (case x_1 => exact rfl); (case e_1 => exact rfl)))))
  (k_with "k_room" => first | exact Nat.le_of_ble_eq_true rfl | k_extra "rk" | ((try simp only [depth_under_make, depth_under_kw, depth_in1, depth_deeper, depth_caller, units_in1, units_deeper, Around.mark_units, units_caller]); (try dsimp only [ktrTop, Around.deeper]); omega) | ((try simp +zetaDelta only [depth_under_make, depth_under_kw, depth_in1, depth_deeper, depth_caller, units_in1, units_deeper, Around.mark_units, units_caller]); (try dsimp +zetaDelta only [ktrTop, Around.deeper]); omega))
  (k_with "h230" => ((with_reducible show Rt _ _ _ _ (eval (Expr.Name _ _) _) _ _ _); first
    | (apply rtL; exact rfl; exact rfl; k_asm; exact rfl; decide +kernel)
    | (apply rtK; exact rfl; exact rfl; k_asm; k_asm; k_asm; k_is; decide +kernel)
    | (apply rtC; exact rfl; exact rfl; k_asm; exact rfl; k_mem; k_asm; decide +kernel)
    | (apply rtB; exact rfl; exact rfl; k_asm; k_asm; k_asm; k_is; boot_fast; decide; decide +kernel)))
  (k_with "h231" => ((with_reducible show Rt _ _ _ _ (eval (Expr.Constant _ _ _) _) _ _ _); with_reducible first | exact rtInt | exact rtStr | exact rtBool | exact rtNone))
  (k_with "h232" => ((with_reducible show Rt _ _ _ _ (eval (Expr.Subscript _ _ _) _) _ _ _); apply rtSub; ktn_no "ev"; ktn_no "ev"; ktn_no "evi"))
  (k_with "h233" => ((with_reducible show Rt _ _ _ _ (eval (Expr.BinOp _ _ _ _) _) _ _ _); apply rtBin; ktn_no "ev"; ktn_no "ev"; (with_reducible first | exact rtAdd | exact rtSubI)))
  (k_with "h234" => ((with_reducible show Rt _ _ _ _ (eval (Expr.UnaryOp _ _ _) _) _ _ _); apply rtUn; ktn_no "ev"; with_reducible exact rtNeg))
  (k_with "ev" => first | ktn_no "h230" | ktn_no "h231" | ktn_no "h232" | ktn_no "h233" | ktn_no "h234")
  (k_with "h241" => (apply rtTup; exact News.isTup (by k_asm) (by ktn_no "Mem"); decide; decide; exact rfl; exact rfl; with_unfolding_all exact rfl))
  (k_with "h242" => (apply rtLst; k_asm; ktn_no "Mem"; (first | decide | omega); (first | decide | omega); exact rfl; with_unfolding_all rfl; (intro _; with_unfolding_all rfl)))
  (k_with "evi" => first | ktn_no "h241" | ktn_no "h242")
  (k_with "evs" => first
  | with_reducible exact rtNil
  | (apply rtCons; ktn_no "ev"; ktn_no "evs"; exact rfl))
  (k_with "spl" => ((with_reducible show wpAny _ _ (PySem.call _ (_ ++ _)) _ _ _); k_dflt (first | refine' (?_ : wpAny _ _ (PySem.call _ []) _ _ _) | refine' (?_ : wpAny _ _ (PySem.call _ [_]) _ _ _) | refine' (?_ : wpAny _ _ (PySem.call _ [_, _]) _ _ _) | refine' (?_ : wpAny _ _ (PySem.call _ [_, _, _]) _ _ _) | refine' (?_ : wpAny _ _ (PySem.call _ [_, _, _, _]) _ _ _) | refine' (?_ : wpAny _ _ (PySem.call _ [_, _, _, _, _]) _ _ _))))
  (k_with "w:spliced" => (k_here; k_dflt (refine' rtUse ?r_10 ?_; (case r_10 => ktn_no "evs"); k_whole); (try k_extra "spl")))
  (k_with "w:eval Tuple" => (k_here; k_dflt (refine' evTupleN ?r_11 ?F_11 ?N_11 ?z_11 ?_; (case r_11 => ktn_no "evs"); (case F_11 => k_asm); (case N_11 => k_asm); (case z_11 => kmk_size); k_whole); intro D' h' t' lg' F' N' l1; (try k_lt l1); (try k_sweep)))
  (k_with "w:newTuple" => (k_here; k_dflt (refine' ntL ?F_12 ?N_12 ?z_12 ?_; (case F_12 => k_asm); (case N_12 => k_asm); (case z_12 => kmk_size); k_whole); intro D' h' t' lg' F' N' l1; (try k_lt l1); (try k_sweep)))
  (k_with "w:execs cons" => (k_here; first
  | ((with_reducible show wpAny _ _ (execs (Stmt.Assign [Expr.Name _ _] _ _ :: _) _) _ _ _); (fail_if_success (with_reducible show wpAny _ _ (execs (Stmt.Assign _ (Expr.ListComp _ _ _) _ :: _) _) _ _ _)); k_dflt (refine' exAs ?_ ?hs_13; (case hs_13 => exact rfl); k_whole))
  | ((with_reducible show wpAny _ _ (execs (Stmt.Return (some _) _ :: _) _) _ _ _); refine' exRe ?_)))
  (k_with "w:KRe" => (dsimp only [KRe]))
  (k_with "w:KAs" => (k_here; k_dflt (first
  | (apply kasL; exact rfl; exact rfl; k_asm; k_asm; k_whole; intro h' t' m' F' N'; (try k_sweep))
  | (apply kasC; exact rfl; exact rfl; k_asm; k_asm; exact rfl; k_updF; k_asm; k_whole; intro h' o' F' N' d'; (try dsimp only at N'); (try k_sweep)))))
  (k_with "w:eval Subscript" => (k_here; k_dflt (first | (refine' rtUse ?r_16 ?_; (case r_16 => ktn_no "ev"); k_whole) | (refine' evSub ?a_16 ?b_16 ?_; (case a_16 => ktn_no "ev"); (case b_16 => ktn_no "ev"); k_whole))))
  (k_with "w:eval BinOp" => (k_here; k_dflt (first | (refine' rtUse ?r_17 ?_; (case r_17 => ktn_no "ev"); k_whole) | (refine' evBin ?a_17 ?b_17 ?_; (case a_17 => ktn_no "ev"); (case b_17 => ktn_no "ev"); k_whole))))
  (k_with "w:eval UnaryOp" => (k_here; k_dflt (refine' rtUse ?r_18 ?_; (case r_18 => ktn_no "ev"); k_whole)))
  (k_with "w:isTrue Compare" => (k_here; k_dflt (refine' evIsCmp ?a_19 ?b_19 ?_ ?hm_19; (case a_19 => ktn_no "ev"); (case b_19 => ktn_no "ev"); (case hm_19 => with_unfolding_all exact rfl); k_whole)))
  (k_with "w:eval Compare" => (k_here; k_dflt (refine' evCmp ?a_20 ?b_20 ?_ ?hm_20; (case a_20 => ktn_no "ev"); (case b_20 => ktn_no "ev"); (case hm_20 => with_unfolding_all exact rfl); k_whole)))
  (k_with "w:eval Call" => (k_here; (with_reducible show wpAny _ _ (eval (Expr.Call (Expr.Name _ _) (_ :: _) [] _) _) _ _ _); k_dflt (refine' evCallK ?a_21 ?X_21 ?hk_21 ?b_21 ?_ ?he_21 ?hs_21 ?hp_21; (case a_21 => ktn_no "ev"); (case X_21 => k_in); (case hk_21 => k_is); (case he_21 => exact rfl); (case hs_21 => exact rfl); (case hp_21 => exact rfl); (case b_21 => ktn_no "evs"); k_whole)))
  (k_with "w:storeName" => (k_here; k_dflt (refine' stL ?a_22 ?b_22 ?F_22 ?N_22 ?_; (case a_22 => exact rfl); (case b_22 => exact rfl); (case F_22 => k_asm); (case N_22 => k_asm); k_whole; intro h' t' m' F' N'; (try k_sweep))))
  (k_with "w:newList" => (k_here; k_dflt (refine' nlL ?F_23 ?N_23 ?z_23 ?_; (case F_23 => k_asm); (case N_23 => k_asm); (case z_23 => size_fits); k_whole); intro l' h' t' lg' F' N' l1; (try k_lt l1); (try k_sweep)))
  (k_with "h208" => (refine' mz_hd ?za1_24 ?zb1_24; (case za1_24 => assumption); (case zb1_24 => ktn_no "mz")))
  (k_with "h209" => (refine' mz_i0 ?za2_24 ?zb2_24; (case za2_24 => assumption); (case zb2_24 => ktn_no "mz")))
  (k_with "h210" => (refine' mz_i1 ?za3_24 ?zb3_24; (case za3_24 => assumption); (case zb3_24 => ktn_no "mz")))
  (k_with "h211" => (refine' mz_i2 ?za4_24 ?zb4_24; (case za4_24 => assumption); (case zb4_24 => ktn_no "mz")))
  (k_with "h212" => (refine' mz_i3 ?za5_24 ?zb5_24; (case za5_24 => assumption); (case zb5_24 => ktn_no "mz")))
  (k_with "h213" => (refine' mz_s1 ?za6_24 ?zb6_24; (case za6_24 => assumption); (case zb6_24 => ktn_no "mz")))
  (k_with "h214" => (refine' mz_in ?za7_24 ?zc7_24 ?zb7_24; (case za7_24 => assumption); (case zc7_24 => decide +kernel); (case zb7_24 => ktn_no "mz")))
  (k_with "mz" => first | with_reducible exact rfl | ktn_no "h208" | ktn_no "h209" | ktn_no "h210" | ktn_no "h211" | ktn_no "h212" | ktn_no "h213" | ktn_no "h214")
  (k_with "w:callWith" => ((with_reducible show wpAny _ _ (callWith _ (Value.builtin _) (_ :: _) (backTo _ (starEach (_ :: _) _)) []) _ _ _); with_reducible refine' callWith_method1 ?_ ?he_25 ?hp_25; (case he_25 => with_unfolding_all exact rfl); (case hp_25 => with_unfolding_all exact rfl)))
  (k_with "ktr_room" => k_room)
  (k_with "k_in" => first | k_in_fast | with_reducible assumption | exact Frag.In.keeps (by with_reducible assumption) (Fr.keep (by with_reducible assumption)) | assumption)
  (k_with "h103" => with_reducible (refine' sl_cons ?_; ktn_no "Sub"))
  (k_with "h104" => with_reducible (refine' sl_app ?_; ktn_no "Sub"))
  (k_with "h105" => with_reducible (refine' sl_skip1 ?_; ktn_no "Sub"))
  (k_with "h106" => with_reducible (refine' sl_skip ?_; ktn_no "Sub"))
  (k_with "Sub" => with_reducible first | exact sl_refl | ktn_no "h103" | ktn_no "h104" | ktn_no "h105" | exact sl_all | ktn_no "h106" | exact sl_nil)
  (k_with "StripA" => with_reducible first | (refine' strip_ext ?sx_50 ?sy_50; (case sx_50 => assumption); (case sy_50 => ktn_no "StripA")) | (refine' strip_lst ?sy_50; (case sy_50 => ktn_no "StripA")) | (refine' strip_cell ?sd_50 ?sy_50; (case sd_50 => assumption); (case sy_50 => ktn_no "StripA")) | (refine' sl_cons ?sy_50; (case sy_50 => ktn_no "StripA")) | (refine' sl_app ?sy_50; (case sy_50 => ktn_no "StripA")) | exact sl_refl)
  (k_with "StripA" => with_reducible (refine' strip_tab ?sy_151; (case sy_151 => ktn_no "StripA")))
  (k_with "Strip" => with_reducible first | (refine' strip_ext ?sx_29 ?sy_29; (case sx_29 => assumption); (case sy_29 => ktn_no "Strip")) | (refine' sl_cons ?sy_29; (case sy_29 => ktn_no "Strip")) | (refine' sl_app ?sy_29; (case sy_29 => ktn_no "Strip")) | exact sl_refl)
  (k_with "Strip" => with_reducible (refine' strip_tab ?sy_152; (case sy_152 => ktn_no "Strip")))
  (k_with "h89" => with_reducible (refine List.mem_cons_of_mem _ ?_; ktn_no "MemD"))
  (k_with "h90" => with_reducible (refine List.mem_append_right _ ?_; ktn_no "MemD"))
  (k_with "MemD" => with_reducible first | exact List.mem_cons_self | ktn_no "h89" | ktn_no "h90" | fail "memd")
  (k_with "h82" => with_reducible (refine' mem_of_sub ?mh_31 ?ms_31; (case mh_31 => assumption); (case ms_31 => ktn_no "Sub")))
  (k_with "Mem" => with_reducible first | ktn_no "MemD" | ktn_no "h82" | fail "mem")
  (k_with "size_fits" => first | exact Nat.le_of_ble_eq_true rfl | fail "sz")
  (k_with "k_mem" => ktn_no "Mem")
  (k_with "h33" => (with_reducible (refine' ne_lt ?qa1_51 ?qa2_51; (case qa1_51 => assumption); (case qa2_51 => ktn_no "Mem"))))
  (k_with "h34" => (with_reducible (refine' ne_gt ?qa1_51 ?qa2_51; (case qa1_51 => assumption); (case qa2_51 => ktn_no "Mem"))))
  (k_with "h35" => (with_reducible (refine' ne_lt2 ?qa1_51 ?qa2_51 ?qa3_51; (case qa1_51 => assumption); (case qa2_51 => assumption); (case qa3_51 => ktn_no "Mem"))))
  (k_with "h36" => (with_reducible (refine' ne_gt2 ?qa1_51 ?qa2_51 ?qa3_51; (case qa1_51 => assumption); (case qa2_51 => assumption); (case qa3_51 => ktn_no "Mem"))))
  (k_with "h37" => (with_reducible (refine' ne_all ?qa1_51 ?qa2_51; (case qa1_51 => assumption); (case qa2_51 => ktn_no "Mem"))))
  (k_with "h38" => (with_reducible (refine' ne_all' ?qa1_51 ?qa2_51; (case qa1_51 => assumption); (case qa2_51 => ktn_no "Mem"))))
  (k_with "h39" => (with_reducible (refine' ne_objB ?qa1_51 ?qa2_51 ?qa3_51 ?qa4_51; (case qa1_51 => assumption); (case qa2_51 => ktn_no "Mem"); (case qa3_51 => ktn_no "Mem"); (case qa4_51 => decide))))
  (k_with "h40" => (refine neN ?_; (try dsimp only); omega))
  (k_with "Ne" => first | with_reducible assumption | ktn_no "h33" | ktn_no "h34" | ktn_no "h35" | ktn_no "h36" | ktn_no "h37" | ktn_no "h38" | ktn_no "h39" | ktn_no "h40")
  (k_with "h41" => with_reducible (refine' dn_guard ?zd_178 ?zm_178 ?zn_178 ?zk_178; (case zd_178 => assumption); (case zm_178 => ktn_no "AMem"); (case zn_178 => ktn_no "AMem"); (case zk_178 => first | exact dn_head (by assumption) (by ktn_no "AMem") | exact dn_head' (by assumption) (by ktn_no "AMem") | exact dn_head (dn_tail (by assumption)) (by ktn_no "AMem") | exact dn_head' (dn_tail (by assumption)) (by ktn_no "AMem") | exact dn_head (dn_tail (dn_tail (by assumption))) (by ktn_no "AMem") | exact dn_head' (dn_tail (dn_tail (by assumption))) (by ktn_no "AMem") | exact dn_head (dn_tail (dn_tail (dn_tail (by assumption)))) (by ktn_no "AMem") | exact dn_head' (dn_tail (dn_tail (dn_tail (by assumption)))) (by ktn_no "AMem") | exact dn_head (dn_tail (dn_tail (dn_tail (dn_tail (by assumption))))) (by ktn_no "AMem") | exact dn_head' (dn_tail (dn_tail (dn_tail (dn_tail (by assumption))))) (by ktn_no "AMem") | exact dn_head (dn_tail (dn_tail (dn_tail (dn_tail (dn_tail (by assumption)))))) (by ktn_no "AMem") | exact dn_head' (dn_tail (dn_tail (dn_tail (dn_tail (dn_tail (by assumption)))))) (by ktn_no "AMem") | fail "ne")))
  (k_with "Ne" => with_reducible first | ktn_no "h41" | fail "ne")
  (k_with "h60" => (with_reducible (refine' an_ne9 ?qb1_167 ?qb2_167; (case qb1_167 => assumption); (case qb2_167 => ktn_no "Mem"))))
  (k_with "h61" => (with_reducible (refine' an_ext ?qb1_167 ?qb2_167 ?qb3_167 ?qb4_167; (case qb1_167 => assumption); (case qb2_167 => assumption); (case qb3_167 => ktn_no "Mem"); (case qb4_167 => first | exact List.forall_mem_nil _ | (refine List.forall_mem_cons.mpr ⟨?_, List.forall_mem_nil _⟩; ktn_no "Ne")))))
  (k_with "h62" => (with_reducible (refine' an_lt ?qb1_167 ?qb2_167; (case qb1_167 => assumption); (case qb2_167 => ktn_no "Sub"))))
  (k_with "h63" => (with_reducible (refine' an_sub ?qb1_167 ?qb2_167; (case qb1_167 => assumption); (case qb2_167 => ktn_no "Sub"))))
  (k_with "h64" => (with_reducible (refine' an_cell ?qb1_167 ?qb2_167 ?qb3_167; (case qb1_167 => assumption); (case qb2_167 => ktn_no "Sub"); (case qb3_167 => first | omega | exact leN (by omega)))))
  (k_with "AtomNe" => first | ktn_no "h60" | ktn_no "h61" | ktn_no "h62" | ktn_no "h63" | ktn_no "h64" | with_reducible assumption)
  (k_with "h65" => (with_reducible (refine' an_addr ?qb1_173 ?qb2_173; (case qb1_173 => assumption); (case qb2_173 => ktn_no "AMem"))))
  (k_with "AtomNe" => first | ktn_no "h65" | fail "an")
  (k_with "h66" => ((with_reducible refine' an_app ?za_174 ?zb_174); (case za_174 => ktn_no "AtomNe"); (case zb_174 => ktn_no "AllNe")))
  (k_with "AtomNe" => first | ktn_no "h66" | fail "an")
  (k_with "h76" => (with_reducible (refine' an_lt0 ?qb1_36; (case qb1_36 => assumption))))
  (k_with "h77" => ((with_reducible refine' an_cons ?a_36 ?b_36); (case a_36 => ktn_no "Ne"); (case b_36 => ktn_no "AllNe")))
  (k_with "h78" => ((with_reducible refine' an_app ?a_36 ?b_36); (case a_36 => ktn_no "AtomNe"); (case b_36 => ktn_no "AllNe")))
  (k_with "AllNe" => first | exact List.forall_mem_nil _ | ktn_no "h76" | ktn_no "h77" | ktn_no "h78" | ktn_no "AtomNe")
  (k_with "k_updF" => first | ((with_reducible refine' UpdF.head ?a_53); (case a_53 => ktn_no "AllNe")) | ((with_reducible refine' UpdF.tail ?a_53 ?b_53); (case a_53 => ktn_no "Ne"); (case b_53 => k_updF)) | ((with_reducible refine' updF_app ?a_53 ?b_53); (case a_53 => ktn_no "AtomNe"); (case b_53 => k_updF)))
  (k_with "k_upd" => first | ((with_reducible refine' Upd.head ?a_37); (case a_37 => ktn_no "AllNe")) | ((with_reducible refine' Upd.tail ?a_37 ?b_37); (case a_37 => ktn_no "Ne"); (case b_37 => k_upd)) | ((with_reducible refine' upd_app ?a_37 ?b_37); (case a_37 => ktn_no "AtomNe"); (case b_37 => k_upd)))
  (k_with "h175" => (with_reducible (refine' off_mem ?qc1_38 ?qc2_38; (case qc1_38 => assumption); (case qc2_38 => ktn_no "Mem"))))
  (k_with "h176" => (with_reducible (refine' off_new ?qc1_38 ?qc2_38 ?qc3_38; (case qc1_38 => assumption); (case qc2_38 => assumption); (case qc3_38 => ktn_no "Sub"))))
  (k_with "h177" => (with_reducible (refine' off_ne ?qc1_38 ?qc2_38 ?qc3_38; (case qc1_38 => assumption); (case qc2_38 => assumption); (case qc3_38 => ktn_no "Sub"))))
  (k_with "h178" => (with_reducible (refine' off_new1 ?qc1_38 ?qc2_38 ?qc3_38 ?qc4_38; (case qc1_38 => assumption); (case qc2_38 => assumption); (case qc3_38 => assumption); (case qc4_38 => ktn_no "Sub"))))
  (k_with "OffA" => first | ktn_no "h175" | ktn_no "h176" | ktn_no "h177" | ktn_no "h178")
  (k_with "h160" => ((with_reducible refine' off_cons ?a_39 ?b_39); (case a_39 => ktn_no "OffA"); (case b_39 => ktn_no "Off")))
  (k_with "h161" => ((with_reducible refine' off_app ?a_39 ?b_39); (case a_39 => first | (with_reducible (refine' off_sub ?qc1_39 ?qc2_39; (case qc1_39 => assumption); (case qc2_39 => ktn_no "Sub"))) | (with_reducible (refine' off_tl ?qc1_39 ?qc2_39 ?qc3_39; (case qc1_39 => assumption); (case qc2_39 => assumption); (case qc3_39 => ktn_no "Sub")))); (case b_39 => ktn_no "Off")))
  (k_with "h162" => (with_reducible (refine' off_sub ?qc1_39 ?qc2_39; (case qc1_39 => assumption); (case qc2_39 => ktn_no "Sub"))))
  (k_with "Off" => first | with_reducible assumption | exact off_nil | ktn_no "h160" | ktn_no "h161" | ktn_no "h162")
  (k_with "Dec" => first | (simp only [decide_eq_true_eq, decide_eq_false_iff_not, Bool.not_eq_true', Bool.not_eq_false', Bool.not_eq_true, Bool.and_eq_true, Bool.or_eq_true, bne_iff_ne, beq_iff_eq, ne_eq, not_and, not_or, not_true_eq_false, not_false_eq_true, Decidable.not_not]; done) | (simp only [decide_eq_true_eq, decide_eq_false_iff_not, Bool.not_eq_true', Bool.not_eq_false', Bool.not_eq_true, Bool.and_eq_true, Bool.or_eq_true, bne_iff_ne, beq_iff_eq, ne_eq, not_and, not_or, not_true_eq_false, not_false_eq_true, Decidable.not_not]; omega) | omega)
  (k_with "w:ite" => (k_dflt (first | ((refine ite_pos ?ic_55 ?_); (case ic_55 => k_extra "Dec")) | ((refine ite_neg ?ic_55 ?_); (case ic_55 => k_extra "Dec")))))
  (k_with "w:VIn" => k_extra "VIn")
  (k_with "h134" => (with_reducible (refine' VIn.mono ?qd1_40 ?qd2_40; (case qd1_40 => assumption); (case qd2_40 => (ktn_no "Sub")))))
  (k_with "h135" => ((with_reducible refine' VIn.tup ?vm_40 ?va_40); (case vm_40 => ktn_no "Mem"); (case va_40 => ktn_no "VAll")))
  (k_with "h136" => ((with_reducible refine' VIn.lst ?vm_40 ?va_40); (case vm_40 => ktn_no "Mem"); (case va_40 => ktn_no "VAll")))
  (k_with "h137" => ((with_reducible refine' lst_arr ?vm_40 ?va_40); (case vm_40 => ktn_no "Mem"); (case va_40 => ktn_no "VAll")))
  (k_with "h138" => ((with_reducible refine' VIn.dec ?vm_40 ?va_40); (case vm_40 => ktn_no "Mem"); (case va_40 => ktn_no "Mem")))
  (k_with "h139" => ((with_reducible refine' VIn.nilp ?vm_40 ?va_40); (case vm_40 => ktn_no "Mem"); (case va_40 => ktn_no "Mem")))
  (k_with "h140" => ((with_reducible refine' VIn.path ?vm_40 ?va_40 ?vp_40); (case vm_40 => ktn_no "Mem"); (case va_40 => ktn_no "Mem"); (case vp_40 => ktn_no "VIn")))
  (k_with "h141" => ((with_reducible refine' VIn.mat ?vm_40 ?va_40 ?v1_40 ?v2_40 ?v3_40 ?v4_40 ?v5_40 ?v6_40); (case vm_40 => ktn_no "Mem"); (case va_40 => ktn_no "Mem"); (case v1_40 => ktn_no "VIn"); (case v2_40 => ktn_no "VIn"); (case v3_40 => ktn_no "VIn"); (case v4_40 => ktn_no "VIn"); (case v5_40 => ktn_no "VIn"); (case v6_40 => ktn_no "VIn")))
  (k_with "h142" => (refine' VIn.mono ?qd1_40 ?qd2_40; (case qd1_40 => assumption); (case qd2_40 => (ktn_no "Sub"))))
  (k_with "VIn" => first | with_reducible exact VIn.int _ _ | with_reducible exact VIn.str _ _ | with_reducible exact VIn.bool _ | with_reducible exact VIn.none | with_reducible exact VIn.bytes _ _ | with_reducible assumption | ktn_no "h134" | ktn_no "h135" | ktn_no "h136" | ktn_no "h137" | ktn_no "h138" | ktn_no "h139" | ktn_no "h140" | ktn_no "h141" | ktn_no "h142")
  (k_with "h149" => (refine VAll.cons ?_ ?_; (ktn_no "VIn"); (ktn_no "VAll")))
  (k_with "h150" => (with_reducible (refine' VAll.mono ?qd1_41 ?qd2_41; (case qd1_41 => assumption); (case qd2_41 => (ktn_no "Sub")))))
  (k_with "VAll" => first | exact VAll.nil | ktn_no "h149" | ktn_no "h150")
  (k_with "w:subscriptTail Name Constant ref int" => (k_here; (with_reducible show wpAny _ _ (subscriptTail _ _ (Value.ref _) (Value.int _ _)) _ _ _); (k_extra "SubIdx")))
  (k_with "w:subscriptTail Name UnaryOp ref int" => (k_here; (with_reducible show wpAny _ _ (subscriptTail _ _ (Value.ref _) (Value.int _ _)) _ _ _); (k_extra "SubIdx")))
  (k_with "w:subscriptTail Name Name ref int" => ((fail_if_success k_extra "x287"); ((k_here; (with_reducible show wpAny _ _ (subscriptTail _ _ (Value.ref _) (Value.int _ _)) _ _ _); (k_extra "SubIdx")))))
  (k_with "w:subscriptTail Name BinOp ref int" => (k_here; (with_reducible show wpAny _ _ (subscriptTail _ _ (Value.ref _) (Value.int _ _)) _ _ _); (k_extra "SubIdx")))
  (k_with "w:subscriptTail Subscript Name Constant Constant ref int" => (k_here; (with_reducible show wpAny _ _ (subscriptTail _ _ (Value.ref _) (Value.int _ _)) _ _ _); (k_extra "SubIdx")))
  (k_with "w:subscriptTail Subscript Name Constant UnaryOp ref int" => (k_here; (with_reducible show wpAny _ _ (subscriptTail _ _ (Value.ref _) (Value.int _ _)) _ _ _); (k_extra "SubIdx")))
  (k_with "w:subscriptTail Subscript Name Constant Name ref int" => (k_here; (with_reducible show wpAny _ _ (subscriptTail _ _ (Value.ref _) (Value.int _ _)) _ _ _); (k_extra "SubIdx")))
  (k_with "w:subscriptTail Subscript Name Constant BinOp ref int" => (k_here; (with_reducible show wpAny _ _ (subscriptTail _ _ (Value.ref _) (Value.int _ _)) _ _ _); (k_extra "SubIdx")))
  (k_with "w:subscriptTail Subscript Name UnaryOp Constant ref int" => (k_here; (with_reducible show wpAny _ _ (subscriptTail _ _ (Value.ref _) (Value.int _ _)) _ _ _); (k_extra "SubIdx")))
  (k_with "w:subscriptTail Subscript Name UnaryOp UnaryOp ref int" => (k_here; (with_reducible show wpAny _ _ (subscriptTail _ _ (Value.ref _) (Value.int _ _)) _ _ _); (k_extra "SubIdx")))
  (k_with "w:subscriptTail Subscript Name UnaryOp Name ref int" => (k_here; (with_reducible show wpAny _ _ (subscriptTail _ _ (Value.ref _) (Value.int _ _)) _ _ _); (k_extra "SubIdx")))
  (k_with "w:subscriptTail Subscript Name UnaryOp BinOp ref int" => (k_here; (with_reducible show wpAny _ _ (subscriptTail _ _ (Value.ref _) (Value.int _ _)) _ _ _); (k_extra "SubIdx")))
  (k_with "w:subscriptTail Subscript Name Name Constant ref int" => (k_here; (with_reducible show wpAny _ _ (subscriptTail _ _ (Value.ref _) (Value.int _ _)) _ _ _); (k_extra "SubIdx")))
  (k_with "w:subscriptTail Subscript Name Name UnaryOp ref int" => (k_here; (with_reducible show wpAny _ _ (subscriptTail _ _ (Value.ref _) (Value.int _ _)) _ _ _); (k_extra "SubIdx")))
  (k_with "w:subscriptTail Subscript Name Name Name ref int" => (k_here; (with_reducible show wpAny _ _ (subscriptTail _ _ (Value.ref _) (Value.int _ _)) _ _ _); (k_extra "SubIdx")))
  (k_with "w:subscriptTail Subscript Name Name BinOp ref int" => (k_here; (with_reducible show wpAny _ _ (subscriptTail _ _ (Value.ref _) (Value.int _ _)) _ _ _); (k_extra "SubIdx")))
  (k_with "w:subscriptTail Attribute Name Constant ref int" => (k_here; (with_reducible show wpAny _ _ (subscriptTail _ _ (Value.ref _) (Value.int _ _)) _ _ _); (k_extra "SubIdx")))
  (k_with "w:subscriptTail Attribute Name UnaryOp ref int" => (k_here; (with_reducible show wpAny _ _ (subscriptTail _ _ (Value.ref _) (Value.int _ _)) _ _ _); (k_extra "SubIdx")))
  (k_with "w:subscriptTail Attribute Name Name ref int" => (k_here; (with_reducible show wpAny _ _ (subscriptTail _ _ (Value.ref _) (Value.int _ _)) _ _ _); (k_extra "SubIdx")))
  (k_with "w:subscriptTail Attribute Name BinOp ref int" => (k_here; (with_reducible show wpAny _ _ (subscriptTail _ _ (Value.ref _) (Value.int _ _)) _ _ _); (k_extra "SubIdx")))
  (k_with "w:subscriptTail Subscript Attribute Name UnaryOp Constant ref int" => (k_here; (with_reducible show wpAny _ _ (subscriptTail _ _ (Value.ref _) (Value.int _ _)) _ _ _); (k_extra "SubIdx")))
  (k_with "w:subscriptTail Subscript Attribute Name UnaryOp UnaryOp ref int" => (k_here; (with_reducible show wpAny _ _ (subscriptTail _ _ (Value.ref _) (Value.int _ _)) _ _ _); (k_extra "SubIdx")))
  (k_with "w:subscriptTail Subscript Attribute Name UnaryOp Name ref int" => (k_here; (with_reducible show wpAny _ _ (subscriptTail _ _ (Value.ref _) (Value.int _ _)) _ _ _); (k_extra "SubIdx")))
  (k_with "w:subscriptTail Subscript Attribute Name UnaryOp BinOp ref int" => (k_here; (with_reducible show wpAny _ _ (subscriptTail _ _ (Value.ref _) (Value.int _ _)) _ _ _); (k_extra "SubIdx")))
  (k_with "SubIdx" => k_dflt (first
  | (refine' item_tupleT ?t_80 ?a_80 ?b_80 ?c_80 ?d_80 ?_; (case t_80 => exact News.isTup (by k_asm) (by ktn_no "Mem")); (case a_80 => decide); (case b_80 => decide); (case c_80 => rfl); (case d_80 => rfl); k_whole)
  | (refine' item_lst ?n_80 ?l_80 ?a_80 ?b_80 ?c_80 ?_ ?hs_80 ?hg_80; (case n_80 => k_asm); (case l_80 => ktn_no "Mem"); (case a_80 => first | decide | omega); (case b_80 => first | decide | omega); (case c_80 => rfl); (case hs_80 => with_unfolding_all rfl); (case hg_80 => intro _; with_unfolding_all rfl); k_whole)))
  (k_with "w:subscriptTail" => (k_here; (with_reducible show wpAny _ _ (subscriptTail _ _ (Value.ref _) (Value.ref _)) _ _ _); (with_unfolding_all (first
  | (refine' slice_init ?sf_81 ?sn_81 ?st_81 ?ss_81 ?sg_81 ?_; (case sf_81 => k_asm); (case sn_81 => k_asm); (case st_81 => first | (refine' tup_of ?tn_81 ?th_81; (case tn_81 => k_asm); (case th_81 => k_mem)) | (refine' tup_K ?tf_81 ?tx_81 ?tl_81; (case tf_81 => k_asm); (case tx_81 => k_asm); (case tl_81 => k_is))); (case ss_81 => rfl); (case sg_81 => intro _; rfl); k_whole)
  | (refine' slice_tail ?sf_81 ?sn_81 ?st_81 ?sm_81 ?sz_81 ?ss_81 ?sg_81 ?_; (case sf_81 => k_asm); (case sn_81 => k_asm); (case st_81 => first | (refine' tup_of ?tn_81 ?th_81; (case tn_81 => k_asm); (case th_81 => k_mem)) | (refine' tup_K ?tf_81 ?tx_81 ?tl_81; (case tf_81 => k_asm); (case tx_81 => k_asm); (case tl_81 => k_is))); (case sm_81 => exact Nat.le_of_ble_eq_true rfl); (case sz_81 => exact Nat.le_of_ble_eq_true rfl); (case ss_81 => rfl); (case sg_81 => intro _; rfl); k_whole))); intro D' h' F' N' l1; (try simp only [List.drop_succ_cons, List.drop_zero] at N'); (try k_lt l1); (try k_sweep)))
  (k_with "w:compareOp Eq ref ref" => ((fail_if_success k_extra "x288"); ((k_here; (with_reducible show wpAny _ _ (compareOp CmpOp.Eq (Value.ref _) (Value.ref _)) _ _ _); k_dflt (refine' eq_tup_nil ?qa_87 ?qb_87 ?qu_87 ?_; (case qb_87 => first | (refine' tup_of ?tn_87 ?th_87; (case tn_87 => k_asm); (case th_87 => k_mem)) | (refine' tup_K ?tf_87 ?tx_87 ?tl_87; (case tf_87 => k_asm); (case tx_87 => k_asm); (case tl_87 => k_is))); (case qa_87 => first | (refine' tup_of ?tn_87 ?th_87; (case tn_87 => k_asm); (case th_87 => k_mem)) | (refine' tup_K ?tf_87 ?tx_87 ?tl_87; (case tf_87 => k_asm); (case tx_87 => k_asm); (case tl_87 => k_is))); (case qu_87 => k_room); k_whole); (try simp only [List.size_toArray, List.length_cons, List.length_nil])))))
  (k_with "w:compareOp NotEq ref ref" => ((fail_if_success k_extra "x289"); ((k_here; (with_reducible show wpAny _ _ (compareOp CmpOp.NotEq (Value.ref _) (Value.ref _)) _ _ _); k_dflt (refine' ne_tup_nil ?qa_88 ?qb_88 ?qu_88 ?_; (case qb_88 => first | (refine' tup_of ?tn_88 ?th_88; (case tn_88 => k_asm); (case th_88 => k_mem)) | (refine' tup_K ?tf_88 ?tx_88 ?tl_88; (case tf_88 => k_asm); (case tx_88 => k_asm); (case tl_88 => k_is))); (case qa_88 => first | (refine' tup_of ?tn_88 ?th_88; (case tn_88 => k_asm); (case th_88 => k_mem)) | (refine' tup_K ?tf_88 ?tx_88 ?tl_88; (case tf_88 => k_asm); (case tx_88 => k_asm); (case tl_88 => k_is))); (case qu_88 => k_room); k_whole); (try simp only [List.size_toArray, List.length_cons, List.length_nil])))))
  (k_with "w:binaryOp Add ref ref" => (k_here; (with_reducible show wpAny _ _ (binaryOp _ (Value.ref _) (Value.ref _)) _ _ _); k_dflt (refine' add_tt ?af_89 ?an_89 ?apt_89 ?ab_89 ?av_89 ?aw_89 ?az_89 ?_; (case af_89 => k_asm); (case an_89 => k_asm); (case apt_89 => first | (refine' tup_of ?tn_89 ?th_89; (case tn_89 => k_asm); (case th_89 => k_mem)) | (refine' tup_K ?tf_89 ?tx_89 ?tl_89; (case tf_89 => k_asm); (case tx_89 => k_asm); (case tl_89 => k_is))); (case ab_89 => first | (refine' tup_of ?tn_89 ?th_89; (case tn_89 => k_asm); (case th_89 => k_mem)) | (refine' tup_K ?tf_89 ?tx_89 ?tl_89; (case tf_89 => k_asm); (case tx_89 => k_asm); (case tl_89 => k_is))); (case av_89 => exact List.cons_ne_nil _ _); (case aw_89 => exact List.cons_ne_nil _ _); (case az_89 => exact Nat.le_of_ble_eq_true rfl); k_whole); intro D' h' F' N' l1; (try simp only [List.cons_append, List.nil_append] at N'); (try k_lt l1); (try k_sweep)))
  (k_with "w:binaryOp Add ref ref" => (k_here; (with_reducible show wpAny _ _ (binaryOp _ (Value.ref _) (Value.ref _)) _ _ _); k_dflt (refine' add_t0 ?af_90 ?an_90 ?apt_90 ?ab_90 ?av_90 ?az_90 ?_; (case af_90 => k_asm); (case an_90 => k_asm); (case apt_90 => first | (refine' tup_of ?tn_90 ?th_90; (case tn_90 => k_asm); (case th_90 => k_mem)) | (refine' tup_K ?tf_90 ?tx_90 ?tl_90; (case tf_90 => k_asm); (case tx_90 => k_asm); (case tl_90 => k_is))); (case ab_90 => first | (refine' tup_of ?tn_90 ?th_90; (case tn_90 => k_asm); (case th_90 => k_mem)) | (refine' tup_K ?tf_90 ?tx_90 ?tl_90; (case tf_90 => k_asm); (case tx_90 => k_asm); (case tl_90 => k_is))); (case av_90 => exact rfl); (case az_90 => exact Nat.le_of_ble_eq_true rfl); k_whole)))
  (k_with "w:exec For Name Tuple cons nil" => (k_here; k_dflt (refine' for_src ?ff_82 ?_ ?hs_82 ?hE_82; (case ff_82 => k_asm); (case hs_82 => intro _; with_unfolding_all rfl); (case hE_82 => passes_own); k_whole)))
  (k_with "w:FPost" => (dsimp only [FPost]))
  (k_with "w:exec For Name Name cons nil" => (k_here; k_dflt (refine' for_src ?ff_97 ?_ ?hs_97 ?hE_97; (case ff_97 => k_asm); (case hs_97 => intro _; with_unfolding_all rfl); (case hE_97 => passes_own); k_whole)))
  (k_with "w:exec For Name Call cons nil" => (k_here; k_dflt (refine' for_src ?ff_98 ?_ ?hs_98 ?hE_98; (case ff_98 => k_asm); (case hs_98 => intro _; with_unfolding_all rfl); (case hE_98 => passes_own); k_whole)))
  (k_with "w:exec For Name Attribute cons nil" => (k_here; k_dflt (refine' for_src ?ff_99 ?_ ?hs_99 ?hE_99; (case ff_99 => k_asm); (case hs_99 => intro _; with_unfolding_all rfl); (case hE_99 => passes_own); k_whole)))
  (k_with "w:exec For Name Attribute Name cons nil" => (k_here; k_dflt (refine' for_src ?ff_100 ?_ ?hs_100 ?hE_100; (case ff_100 => k_asm); (case hs_100 => intro _; with_unfolding_all rfl); (case hE_100 => passes_own); k_whole)))
  (k_with "w:eval ListComp" => (k_here; k_dflt (refine' cmp_e ?cf_101 ?cl_101 ?cc_101 ?ck_101 ?cn_101 ?hs_101 ?_; (case cf_101 => k_asm); (case cl_101 => with_unfolding_all rfl); (case cc_101 => decide); (case ck_101 => exact rfl); (case cn_101 => decide); (case hs_101 => intro _; with_unfolding_all rfl); k_whole)))
  (k_with "w:exec Assign cons ListComp" => (k_here; k_dflt (refine' cmp_a ?cf_102 ?ce_102 ?cw_102 ?cl_102 ?cc_102 ?ck_102 ?cn_102 ?cy_102 ?cp_102 ?hs_102 ?_; (case cf_102 => k_asm); (case ce_102 => exact rfl); (case cw_102 => with_unfolding_all rfl); (case cl_102 => with_unfolding_all rfl); (case cc_102 => decide); (case ck_102 => exact rfl); (case cn_102 => decide); (case cy_102 => exact rfl); (case cp_102 => exact rfl); (case hs_102 => intro _; with_unfolding_all rfl); k_whole)))
  (k_with "w:CmpSrc" => (k_dflt (first
  | (refine' cmp_tuple_rest ?fh_103 ?fl_103 ?fz_103 ?fx_103 ?fk_103 ?ff_103 ?fn_103 ?_; (case fl_103 => first | (refine' tup_of ?tn_103 ?th_103; (case tn_103 => k_asm); (case th_103 => k_mem)) | (refine' tup_K ?tf_103 ?tx_103 ?tl_103; (case tf_103 => k_asm); (case tx_103 => k_asm); (case tl_103 => k_is))); (case fh_103 => exact rfl); (case fz_103 => exact Nat.le_of_ble_eq_true rfl); (case fx_103 => exact rfl); (case fk_103 => exact rfl); (case ff_103 => k_asm); (case fn_103 => k_asm); k_whole)
  | (refine' cmp_list_rest ?fh_103 ?fl_103 ?fz_103 ?fx_103 ?fk_103 ?ff_103 ?fn_103 ?_; (case fl_103 => (refine' lst_of ?tn_103 ?th_103; (case tn_103 => k_asm); (case th_103 => k_mem))); (case fh_103 => exact rfl); (case fz_103 => exact Nat.le_of_ble_eq_true rfl); (case fx_103 => exact rfl); (case fk_103 => exact rfl); (case ff_103 => k_asm); (case fn_103 => k_asm); k_whole)
  | (refine' cmp_tuple_restT ?fh_103 ?fl_103 ?fz_103 ?fx_103 ?fk_103 ?ff_103 ?fn_103 ?_; (case fl_103 => first | (refine' tup_of ?tn_103 ?th_103; (case tn_103 => k_asm); (case th_103 => k_mem)) | (refine' tup_K ?tf_103 ?tx_103 ?tl_103; (case tf_103 => k_asm); (case tx_103 => k_asm); (case tl_103 => k_is))); (case fh_103 => exact rfl); (case fz_103 => exact Nat.le_of_ble_eq_true rfl); (case fx_103 => exact rfl); (case fk_103 => exact rfl); (case ff_103 => k_asm); (case fn_103 => k_asm); k_whole)
  | (refine' cmp_list_restT ?fh_103 ?fl_103 ?fz_103 ?fx_103 ?fk_103 ?ff_103 ?fn_103 ?_; (case fl_103 => (refine' lst_of ?tn_103 ?th_103; (case tn_103 => k_asm); (case th_103 => k_mem))); (case fh_103 => exact rfl); (case fz_103 => exact Nat.le_of_ble_eq_true rfl); (case fx_103 => exact rfl); (case fk_103 => exact rfl); (case ff_103 => k_asm); (case fn_103 => k_asm); k_whole))))
  (k_with "w:CRest" => (k_dflt (first
  | ((with_reducible show CRest _ _ _ _ _ _ _ _ _ _ _ _ _ _ (_ :: _) _ _); intro C9 oC9 m9 ext9 av9 h9 tk9 E9 hC9 hx9 hC9e F9 N9 off9 hav9 hex9; (try k_sweep); (try k_unmd); (try k_fold))
  | ((with_reducible show CRest _ _ _ _ _ _ _ _ _ _ _ _ _ _ [] _ _); intro g9))))
  (k_with "w:CRestT" => (k_dflt (first
  | ((with_reducible show CRestT _ _ _ _ _ _ _ _ _ _ _ _ _ _ _ (_ :: _) _ _); intro C9 oC9 m9 ext9 av9 h9 tk9 E9 hC9 hx9 hC9e F9 N9 off9 hav9 hex9; (try k_sweep); (try k_unmd); (try k_fold))
  | ((with_reducible show CRestT _ _ _ _ _ _ _ _ _ _ _ _ _ _ _ [] _ _); intro g9))))
  (k_with "w:CEnd" => ((fail_if_success k_extra "x290"); ((k_dflt (refine' cend_intro ?eF_106 ?eN_106 ?eR_106 ?eO_106 ?_; (case eF_106 => k_asm); (case eN_106 => k_asm); (case eR_106 => repeat' (first | exact rem_base | refine' rem_cons ?_ | refine' rem_app ?_)); (case eO_106 => ktn_no "Off"); k_whole)))))
  (k_with "w:CEnd" => ((fail_if_success k_extra "x291"); ((k_dflt (refine' cend_map ?eF_150 ?eN_150 ?eT_150 ?eO_150 ?eA_150 ?eV_150; (case eF_150 => k_asm); (case eN_150 => k_asm); (case eT_150 => (repeat' (first | exact tkn_base | refine' tkn_cons ?_ | refine' tkn_app ?_))); (case eO_150 => ((try simp only [List.cons_append, List.append_assoc, List.nil_append, List.append_nil]); ktn_no "Off")); (case eA_150 => (apply apart_of; intro qa9 qo9 hq9; ktn_no "AllNe")); (case eV_150 => ((try simp only [List.cons_append, List.append_assoc, List.nil_append, List.append_nil]); ktn_no "VIn")))))))
  (k_with "w:CEnd" => ((fail_if_success k_extra "x292"); ((k_dflt (refine' cend_clip ?eF_181 ?eN_181 ?eT_181 ?eO_181 ?eQ_181 ?eP_181 ?eH_181 ?eV_181 ?eG_181 ?eA_181 ?eB_181; (case eF_181 => k_asm); (case eN_181 => k_asm); (case eO_181 => assumption); (case eP_181 => assumption); (case eT_181 => k_extra "PickK"); (case eQ_181 => (first | ktn_no "Off" | exact off_tl (by with_reducible assumption) (by with_reducible assumption) (by ktn_no "Sub"))); (case eH_181 => first | exact rfl | omega); (case eV_181 => first | assumption | (with_reducible exact VIn.mono (by assumption) (by ktn_no "Sub"))); (case eG_181 => assumption); (case eA_181 => (apply apart_of; intro qa9 qo9 hq9; ktn_no "AllNe")); (case eB_181 => ktn_no "AllNe"))))))
  (k_with "w:FinE2" => (intro D9 h9 tk9 F9 N9 l9; (try k_sweep); (try simp only [List.nil_append, List.cons_append] at N9); (try dsimp only); (try k_unmd); (try k_fold)))
  (k_with "w:FinA2" => (intro D9 h9 tk9 F9 N9 l9; (try k_sweep); (try simp only [List.nil_append, List.cons_append] at N9); (try dsimp only); (try k_unmd); (try k_fold)))
  (k_with "w:call type:range" => (k_here; k_dflt (first
  | (refine' rng1 ?rf_120 ?rn_120 ?_; (case rf_120 => k_asm); (case rn_120 => k_asm); k_whole; intro D9 h9 t19 t29 F9 N9 l9)
  | (refine' rng3 ?rf_120 ?rn_120 ?rc_120 ?rp_120 ?_; (case rf_120 => k_asm); (case rn_120 => k_asm); (case rc_120 => decide); (case rp_120 => first | decide | exact PyProof.noPylong_small (by omega)); k_whole; intro D9 h9 F9 N9 l9)); (try k_lt l9); (try k_sweep)))
  (k_with "Pick" => with_reducible first | exact sl_refl | (refine' pick_ext ?px_127 ?py_127; (case px_127 => assumption); (case py_127 => k_extra "Pick")) | (refine' pick_cons ?py_127; (case py_127 => k_extra "Pick")) | (refine' pick_app ?py_127; (case py_127 => k_extra "Pick")))
  (k_with "PickK" => with_reducible first | exact sl_refl | (refine' pick_cons ?py_161; (case py_161 => k_extra "PickK")) | (refine' pick_app ?py_161; (case py_161 => k_extra "PickK")))
  (k_with "w:call builtin:len" => ((fail_if_success k_extra "x293"); ((k_here; (with_reducible show wpAny _ _ (call (Value.builtin "len") [Value.ref _]) _ _ _); k_dflt (refine' len_v ?n_137 ?l_137 ?v_137 ?a_137 ?_; (case n_137 => k_asm); (case l_137 => ktn_no "Mem"); (case v_137 => assumption); (case a_137 => omega); k_whole; intro t9 tk9)))))
  (k_with "w:call ref" => ((fail_if_success k_extra "x294"); ((k_here; (with_reducible show wpAny _ _ (PySem.call (Value.ref 459) [Value.ref _]) _ _ _); k_dflt (refine' Bx.use (box _) ?k1_168 ?k2_168 ?k3_168 ?k4_168 ?k5_168 ?k6_168 ?kS_168 ?kI_168 ?kz_168 ?kd_168 ?ku_168 ?_; (case k1_168 => k_asm); (case k2_168 => k_asm); (case k3_168 => k_asm); (case k4_168 => k_asm); (case k5_168 => k_asm); (case k6_168 => first | exact rfl | assumption); (case kS_168 => assumption); (case kI_168 => assumption); (case kz_168 => omega); (case kd_168 => k_room); (case ku_168 => k_room); k_whole; intro D9 o9 tl9 h9 tk9 F9 N9 ne9 nd9 pk9; (try k_sweep); (try dsimp only); (try k_unmd); (try k_fold))))))
  (k_with "w:call ref" => ((fail_if_success k_extra "x295"); ((k_here; (with_reducible show wpAny _ _ (PySem.call (Value.ref 466) [Value.ref _, Value.int _ _]) _ _ _); k_dflt (refine' Sh.use (drawn _ _ ?hm_169 _ ?hn_169) ?k1_169 ?k2_169 ?k3_169 ?k4_169 ?k5_169 ?k6_169 _ _ _ _ ?kp_169 ?kn_169 ?ks_169 ?pre_169 ?kd_169 ?ku_169 ?_; (case k1_169 => k_asm); (case k2_169 => k_asm); (case k3_169 => k_asm); (case k4_169 => k_asm); (case k5_169 => k_asm); (case k6_169 => first | exact rfl | assumption); (case pre_169 => refine draw_pre ?_; assumption); (case kp_169 => k_extra "PickK"); (case kn_169 => ktn_no "AllNe"); (case ks_169 => ktn_no "Sub"); (case hm_169 => decide); (case hn_169 => omega); (case kd_169 => k_room); (case ku_169 => k_room); k_whole; intro r9 o9 tl9 h9 tk9 F9 N9 ne9 post9; (first | (refine' ex_3_1 post9 ?_; (try clear post9); intro pk9 k9 t9 e9 hk9) | (refine' ex_2_2 post9 ?_; (try clear post9); intro pk9 k9 t9 e9 hk9) | (obtain ⟨pk9, k9, t9, e9, hk9⟩ := post9)); subst e9; (try k_sweep); (try dsimp only); (try k_unmd); (try k_fold))))))
  (k_with "w:call ref" => ((fail_if_success k_extra "x296"); ((k_here; (with_reducible show wpAny _ _ (PySem.call (Value.ref 473) [Value.ref _]) _ _ _); k_dflt (refine' Sh.use (four _ _ ?hn_170) ?k1_170 ?k2_170 ?k3_170 ?k4_170 ?k5_170 ?k6_170 _ _ _ _ ?kp_170 ?kn_170 ?ks_170 ?pre_170 ?kd_170 ?ku_170 ?_; (case k1_170 => k_asm); (case k2_170 => k_asm); (case k3_170 => k_asm); (case k4_170 => k_asm); (case k5_170 => k_asm); (case k6_170 => first | exact rfl | assumption); (case pre_170 => refine four_pre ?_; assumption); (case kp_170 => k_extra "PickK"); (case kn_170 => ktn_no "AllNe"); (case ks_170 => ktn_no "Sub"); (case hn_170 => omega); (case kd_170 => k_room); (case ku_170 => k_room); k_whole; intro r9 o9 tl9 h9 tk9 F9 N9 ne9 post9; (first | (refine' ex_3_0 post9 ?_; (try clear post9); intro pk9 q9 hv9 hg9) | (refine' ex_2_1 post9 ?_; (try clear post9); intro pk9 q9 hv9 hg9) | (refine' ex_1_2 post9 ?_; (try clear post9); intro pk9 q9 hv9 hg9) | (obtain ⟨pk9, q9, hv9, hg9⟩ := post9)); refine VIn.op (.seq (.cons .lf (.cons .lf (.cons .lf (.cons .lf .nil))))) hv9 ?_; clear hv9; intro a4997n k4999n t5024n t5026n t5028n t5030n hm5000n hk5001n; (try k_sweep); (try dsimp only); (try k_unmd); (try k_fold))))))
  (k_with "w:call ref" => ((fail_if_success k_extra "x297"); ((k_here; (with_reducible show wpAny _ _ (PySem.call (Value.ref 494) _) _ _ _); k_dflt (refine' spUse (lmade _ _ _ _ _) ?k1_182 ?k2_182 ?k3_182 ?k4_182 ?k5_182 ?k6_182 _ ?ks_182 ?pre_182 ?kd_182 ?ku_182 ?_; (case k1_182 => k_asm); (case k2_182 => k_asm); (case k3_182 => k_asm); (case k4_182 => k_asm); (case k5_182 => k_asm); (case k6_182 => first | exact rfl | assumption); (case pre_182 => exact VAll.cons (by assumption) VAll.nil); (case ks_182 => ktn_no "Sub"); (case kd_182 => k_room); (case ku_182 => k_room); k_whole; intro r9 tl9 h9 tk9 lg9 li9 F9 N9 ne9 post9; (try k_sweep); (try dsimp only); (try k_unmd); (try k_fold))))))
  (k_with "w:call ref" => ((fail_if_success k_extra "x298"); ((k_here; (with_reducible show wpAny _ _ (PySem.call (Value.ref 487) _) _ _ _); k_dflt (refine' spUse (lpath _ _ _ _ _) ?k1_183 ?k2_183 ?k3_183 ?k4_183 ?k5_183 ?k6_183 _ ?ks_183 ?pre_183 ?kd_183 ?ku_183 ?_; (case k1_183 => k_asm); (case k2_183 => k_asm); (case k3_183 => k_asm); (case k4_183 => k_asm); (case k5_183 => k_asm); (case k6_183 => first | exact rfl | assumption); (case pre_183 => exact VAll.cons (by assumption) VAll.nil); (case ks_183 => ktn_no "Sub"); (case kd_183 => k_room); (case ku_183 => k_room); k_whole; intro r9 tl9 h9 tk9 lg9 li9 F9 N9 ne9 post9; (try k_sweep); (try dsimp only); (try k_unmd); (try k_fold))))))
  (k_with "w:call ref" => ((fail_if_success k_extra "x299"); ((k_here; (with_reducible show wpAny _ _ (PySem.call (Value.ref 155) _) _ _ _); k_dflt (refine' spUse (decn _ _ _ _ _ ?hp_185) ?k1_185 ?k2_185 ?k3_185 ?k4_185 ?k5_185 ?k6_185 _ ?ks_185 ?pre_185 ?kd_185 ?ku_185 ?_; (case k1_185 => k_asm); (case k2_185 => k_asm); (case k3_185 => k_asm); (case k4_185 => k_asm); (case k5_185 => k_asm); (case k6_185 => first | exact rfl | assumption); (case pre_185 => exact rfl); (case ks_185 => exact sl_nil); (case hp_185 => first | exact Or.inl rfl | exact Or.inr ⟨rfl, by decide⟩); (case kd_185 => k_room); (case ku_185 => k_room); k_whole; intro r9 tl9 h9 tk9 lg9 li9 F9 N9 ne9 post9; (try k_sweep); (try dsimp only); (try k_unmd); (try k_fold))))))
  (k_with "w:call ref" => ((fail_if_success k_extra "x300"); ((k_here; (with_reducible show wpAny _ _ (PySem.call (Value.ref 450) _) _ _ _); k_dflt (refine' spUse (matrI _ _ _ _ _ _ _ _ _ _ _ _ _) ?k1_186 ?k2_186 ?k3_186 ?k4_186 ?k5_186 ?k6_186 _ ?ks_186 ?pre_186 ?kd_186 ?ku_186 ?_; (case k1_186 => k_asm); (case k2_186 => k_asm); (case k3_186 => k_asm); (case k4_186 => k_asm); (case k5_186 => k_asm); (case k6_186 => first | exact rfl | assumption); (case pre_186 => exact rfl); (case ks_186 => exact sl_nil); (case kd_186 => k_room); (case ku_186 => k_room); k_whole; intro r9 tl9 h9 tk9 lg9 li9 F9 N9 ne9 post9; (try k_sweep); (try dsimp only); (try k_unmd); (try k_fold))))))
  (k_with "w:binaryOp Add int int" => (k_here; (with_reducible show wpAny _ _ (binaryOp _ (Value.int 1 _) (Value.int (Nat.cast _) _)) _ _ _); k_dflt (refine' add_one ?_; k_whole; intro t9 tk9)))
  (k_with "AMem" => with_reducible first | exact List.mem_cons_self | (refine List.mem_cons_of_mem _ ?_; ktn_no "AMem"))
  (k_with "h179" => with_reducible (refine' ain_here ?hd_175 ?ex_175; (case hd_175 => ktn_no "AMem"); (case ex_175 => ktn_no "AInX")))
  (k_with "h180" => with_reducible (refine' ain_cons ?ac_175; (case ac_175 => ktn_no "AIn")))
  (k_with "h181" => with_reducible (refine' ain_app ?ac_175; (case ac_175 => ktn_no "AIn")))
  (k_with "AIn" => with_reducible first | ktn_no "h179" | ktn_no "h180" | ktn_no "h181")
  (k_with "AInX" => with_reducible first | exact ain_nil | (refine' ain_put ?am_176 ?ar_176; (case am_176 => ktn_no "Mem"); (case ar_176 => ktn_no "AInX")))
  (k_with "h182" => (with_reducible (refine' apA_gt ?ah_177 ?am_177 ?ar_177; (case ah_177 => assumption); (case am_177 => ktn_no "AIn"); (case ar_177 => ktn_no "AA"))))
  (k_with "h183" => (with_reducible (refine' apA_ne ?ah_177 ?am_177 ?ar_177; (case ah_177 => assumption); (case am_177 => ktn_no "AIn"); (case ar_177 => ktn_no "AA"))))
  (k_with "h184" => (with_reducible (refine' ApartA.app ?ah_177 ?ar_177; (case ah_177 => ktn_no "AA"); (case ar_177 => ktn_no "AA"))))
  (k_with "h185" => (with_reducible (refine' apA_seg ?ah_177 ?am_177; (case ah_177 => assumption); (case am_177 => ktn_no "AIn"))))
  (k_with "h186" => (refine' apartA_cons ?za_177 ?zb_177; (case za_177 => ktn_no "AllNe"); (case zb_177 => ktn_no "AA")))
  (k_with "AA" => first | exact apA_nil | exact apartA_nil | ktn_no "h182" | ktn_no "h183" | ktn_no "h184" | ktn_no "h185" | with_reducible assumption | ktn_no "h186")
  (k_with "w:subscriptTail List cons Call ref int" => (k_here; (with_reducible show wpAny _ _ (subscriptTail _ _ (Value.ref _) (Value.int _ _)) _ _ _); k_dflt (refine' item_ruleT ?yn_179 ?yl_179 ?ye_179 ?ya_179 ?yb_179 ?_ ?yh_179; (case yn_179 => k_asm); (case yl_179 => ktn_no "Mem"); (case ye_179 => exact rfl); (case ya_179 => omega); (case yb_179 => omega); (case yh_179 => with_unfolding_all rfl); k_whole; intro t9)))
  (k_with "w:subscriptTail List cons BinOp ref int" => (k_here; (with_reducible show wpAny _ _ (subscriptTail _ _ (Value.ref _) (Value.int _ _)) _ _ _); k_dflt (refine' item_ruleT ?yn_180 ?yl_180 ?ye_180 ?ya_180 ?yb_180 ?_ ?yh_180; (case yn_180 => k_asm); (case yl_180 => ktn_no "Mem"); (case ye_180 => exact rfl); (case ya_180 => omega); (case yb_180 => omega); (case yh_180 => with_unfolding_all rfl); k_whole; intro t9)))
  (k_with "w:call type:tuple" => (k_here; (with_reducible show wpAny _ _ (call (Value.type _) [Value.ref _]) _ _ _); k_dflt (refine' tup_v ?af_148 ?an_148 ?am_148 ?av_148 ?az_148 ?_; (case af_148 => k_asm); (case an_148 => k_asm); (case am_148 => first | exact List.mem_cons_self | ktn_no "Mem"); (case av_148 => with_reducible assumption); (case az_148 => first | (simp only [List.length_map, List.length_range, List.length_cons, List.length_nil]; omega) | omega); k_whole); intro D' h' F' N' l1; (try k_lt l1); (try k_sweep)))
  (k_with "w:call builtin:list.append" => (k_here; (with_reducible show wpAny _ _ (call (Value.builtin _) [Value.ref _, _]) _ _ _); k_dflt (refine' append_K ?k1_184 ?k2_184 ?k3_184 ?_ ?z_184; (case k1_184 => k_asm); (case k2_184 => k_asm); (case k3_184 => k_upd); (case z_184 => first | size_fits | (refine Nat.le_trans (m := 1000) ?_ (by decide); (try simp only [List.size_toArray, List.size_push]); omega)); k_whole); intro h' F' N'; (try k_sweep)))
  (k_with "w:FEnd" => first | (k_dflt (refine' fend_fill ?gs_187 ?g1_187 ?g2_187 ?gr_187 ?g6_187 ?g5_187 ?g3_187 ?eF_187 ?eN_187 ?eT_187 ?eP_187 ?e1_187 ?eo_187 ?e2_187 ?eO_187 ?eQ_187 ?eL_187 ?ea_187 ?eA_187 ?en_187 ?mk_187 ?hh_187 ?fv_187 ?dd_187 ?em_187; (case gs_187 => with_reducible assumption); (case g1_187 => omega); (case g2_187 => omega); (case gr_187 => with_reducible assumption); (case g6_187 => with_reducible assumption); (case g5_187 => omega); (case g3_187 => with_reducible assumption); (case eF_187 => k_asm); (case eN_187 => k_asm); (case eT_187 => (repeat' (first | exact tkn_base_c | exact tkn_base | (refine' tkn_cell ?zh_187 ?_; (case zh_187 => with_reducible assumption)) | (refine' tkn_pool ?zh_187 ?_; (case zh_187 => with_reducible assumption)) | refine' tkn_cons ?_ | refine' tkn_app ?_))); (case eP_187 => ((try simp only [List.cons_append, List.append_assoc, List.nil_append, List.append_nil]); refine' PoolOk.mono ?pa_187 ?pb_187; (case pa_187 => with_reducible assumption); (case pb_187 => ktn_no "Sub"))); (case e1_187 => ktn_no "Mem"); (case eo_187 => assumption); (case e2_187 => ktn_no "Mem"); (case eO_187 => assumption); (case eQ_187 => ktn_no "Off"); (case eL_187 => assumption); (case ea_187 => assumption); (case eA_187 => ktn_no "AA"); (case en_187 => omega); (case mk_187 => ((try simp only [List.cons_append, List.append_assoc, List.nil_append, List.append_nil]); ktn_no "VIn")); (case hh_187 => ((try simp only [List.cons_append, List.append_assoc, List.nil_append, List.append_nil]); ktn_no "VIn")); (case fv_187 => ((try simp only [List.cons_append, List.append_assoc, List.nil_append, List.append_nil]); ktn_no "VIn")); (case dd_187 => ((try simp only [List.cons_append, List.append_assoc, List.nil_append, List.append_nil]); ktn_no "VIn")); (case em_187 => exact (by intro z9 hz9 hs9; first | ktn_no "mz" | ((simp only [List.contains_cons, List.contains_nil, Bool.or_false, Bool.or_eq_false_iff, beq_eq_false_iff_ne, ne_eq] at hs9); simp +zetaDelta [hz9, hs9]))))) | (k_dflt (refine' fend_stroke ?gs_187 ?g1_187 ?gr_187 ?g6_187 ?g5_187 ?g3_187 ?eF_187 ?eN_187 ?eT_187 ?eP_187 ?e1_187 ?eo_187 ?e2_187 ?eO_187 ?eQ_187 ?eL_187 ?ea_187 ?eA_187 ?en_187 ?mk_187 ?hh_187 ?dd_187 ?em_187; (case gs_187 => with_reducible assumption); (case g1_187 => omega); (case gr_187 => with_reducible assumption); (case g6_187 => with_reducible assumption); (case g5_187 => omega); (case g3_187 => with_reducible assumption); (case eF_187 => k_asm); (case eN_187 => k_asm); (case eT_187 => (repeat' (first | exact tkn_base_c | exact tkn_base | (refine' tkn_cell ?zh_187 ?_; (case zh_187 => with_reducible assumption)) | (refine' tkn_pool ?zh_187 ?_; (case zh_187 => with_reducible assumption)) | refine' tkn_cons ?_ | refine' tkn_app ?_))); (case eP_187 => ((try simp only [List.cons_append, List.append_assoc, List.nil_append, List.append_nil]); refine' PoolOk.mono ?pa_187 ?pb_187; (case pa_187 => with_reducible assumption); (case pb_187 => ktn_no "Sub"))); (case e1_187 => ktn_no "Mem"); (case eo_187 => assumption); (case e2_187 => ktn_no "Mem"); (case eO_187 => assumption); (case eQ_187 => ktn_no "Off"); (case eL_187 => assumption); (case ea_187 => assumption); (case eA_187 => ktn_no "AA"); (case en_187 => omega); (case mk_187 => ((try simp only [List.cons_append, List.append_assoc, List.nil_append, List.append_nil]); ktn_no "VIn")); (case hh_187 => ((try simp only [List.cons_append, List.append_assoc, List.nil_append, List.append_nil]); ktn_no "VIn")); (case dd_187 => ((try simp only [List.cons_append, List.append_assoc, List.nil_append, List.append_nil]); ktn_no "VIn")); (case em_187 => exact (by intro z9 hz9 hs9; first | ktn_no "mz" | ((simp only [List.contains_cons, List.contains_nil, Bool.or_false, Bool.or_eq_false_iff, beq_eq_false_iff_ne, ne_eq] at hs9); simp +zetaDelta [hz9, hs9]))))) | (k_dflt (refine' fend_clip ?gs_187 ?g1_187 ?gr_187 ?g6_187 ?g5_187 ?g3_187 ?eF_187 ?eN_187 ?eT_187 ?eP_187 ?e1_187 ?eo_187 ?e2_187 ?eO_187 ?eQ_187 ?eL_187 ?ea_187 ?eA_187 ?en_187 ?mk_187 ?hh_187 ?dd_187 ?em_187; (case gs_187 => with_reducible assumption); (case g1_187 => omega); (case gr_187 => with_reducible assumption); (case g6_187 => with_reducible assumption); (case g5_187 => omega); (case g3_187 => with_reducible assumption); (case eF_187 => k_asm); (case eN_187 => k_asm); (case eT_187 => (repeat' (first | exact tkn_base_c | exact tkn_base | (refine' tkn_cell ?zh_187 ?_; (case zh_187 => with_reducible assumption)) | (refine' tkn_pool ?zh_187 ?_; (case zh_187 => with_reducible assumption)) | refine' tkn_cons ?_ | refine' tkn_app ?_))); (case eP_187 => ((try simp only [List.cons_append, List.append_assoc, List.nil_append, List.append_nil]); refine' PoolOk.mono ?pa_187 ?pb_187; (case pa_187 => with_reducible assumption); (case pb_187 => ktn_no "Sub"))); (case e1_187 => ktn_no "Mem"); (case eo_187 => assumption); (case e2_187 => ktn_no "Mem"); (case eO_187 => assumption); (case eQ_187 => ktn_no "Off"); (case eL_187 => assumption); (case ea_187 => assumption); (case eA_187 => ktn_no "AA"); (case en_187 => omega); (case mk_187 => ((try simp only [List.cons_append, List.append_assoc, List.nil_append, List.append_nil]); ktn_no "VIn")); (case hh_187 => ((try simp only [List.cons_append, List.append_assoc, List.nil_append, List.append_nil]); ktn_no "VIn")); (case dd_187 => ((try simp only [List.cons_append, List.append_assoc, List.nil_append, List.append_nil]); ktn_no "VIn")); (case em_187 => exact (by intro z9 hz9 hs9; first | ktn_no "mz" | ((simp only [List.contains_cons, List.contains_nil, Bool.or_false, Bool.or_eq_false_iff, beq_eq_false_iff_ne, ne_eq] at hs9); simp +zetaDelta [hz9, hs9]))))) | (k_dflt (refine' fend_image ?gs_187 ?g1_187 ?gr_187 ?g6_187 ?g5_187 ?g3_187 ?eF_187 ?eN_187 ?eT_187 ?eP_187 ?e1_187 ?eo_187 ?e2_187 ?eO_187 ?eQ_187 ?eL_187 ?ea_187 ?eA_187 ?en_187 ?mk_187 ?hh_187 ?dd_187 ?em_187; (case gs_187 => with_reducible assumption); (case g1_187 => omega); (case gr_187 => with_reducible assumption); (case g6_187 => with_reducible assumption); (case g5_187 => omega); (case g3_187 => with_reducible assumption); (case eF_187 => k_asm); (case eN_187 => k_asm); (case eT_187 => (repeat' (first | exact tkn_base_c | exact tkn_base | (refine' tkn_cell ?zh_187 ?_; (case zh_187 => with_reducible assumption)) | (refine' tkn_pool ?zh_187 ?_; (case zh_187 => with_reducible assumption)) | refine' tkn_cons ?_ | refine' tkn_app ?_))); (case eP_187 => ((try simp only [List.cons_append, List.append_assoc, List.nil_append, List.append_nil]); refine' PoolOk.mono ?pa_187 ?pb_187; (case pa_187 => with_reducible assumption); (case pb_187 => ktn_no "Sub"))); (case e1_187 => ktn_no "Mem"); (case eo_187 => assumption); (case e2_187 => ktn_no "Mem"); (case eO_187 => assumption); (case eQ_187 => ktn_no "Off"); (case eL_187 => assumption); (case ea_187 => assumption); (case eA_187 => ktn_no "AA"); (case en_187 => omega); (case mk_187 => ((try simp only [List.cons_append, List.append_assoc, List.nil_append, List.append_nil]); ktn_no "VIn")); (case hh_187 => ((try simp only [List.cons_append, List.append_assoc, List.nil_append, List.append_nil]); ktn_no "VIn")); (case dd_187 => ((try simp only [List.cons_append, List.append_assoc, List.nil_append, List.append_nil]); ktn_no "VIn")); (case em_187 => exact (by intro z9 hz9 hs9; first | ktn_no "mz" | ((simp only [List.contains_cons, List.contains_nil, Bool.or_false, Bool.or_eq_false_iff, beq_eq_false_iff_ne, ne_eq] at hs9); simp +zetaDelta [hz9, hs9]))))) | fail "fend")
  trivial
section
noncomputable def mkT {r : OpenRow} {q : Program} {loose : List Str} {XP : (Str → Option Value) → Heap → Prop} {YP : World → Heap → Prop} {d : DefRec} {kwd : List (Str × Expr)} (_ : defOf q r.name = some (d, kwd)) : Prop :=
  WalkO q loose XP YP r.toRowW d kwd fun f vs => PySem.call f vs
set_option maxRecDepth 100000 in
noncomputable def LawT : Prop := mkT (r := PySem.Challenge.rw_nn0221_01.row) (q := foo0.view_1_40) (loose := [Str.ofString "PaperError", Str.ofString "Path", Str.ofString "flattened", Str.ofString "lines_of", Str.ofString "places_of", Str.ofString "raster"]) (XP := XL foo0.view_1_40 []) (YP := (kmHook foo0.heap_1_39 [2, 3, 15, 17, 18, 20, 21, 22, 29, 30, 32, 33, 35, 36, 37, 39, 40, 42, 43, 44, 45, 46, 47, 50, 57, 58, 59, 69, 71, 72, 74, 75, 76, 78, 79, 81, 82, 83, 85, 86, 88, 89, 90, 92, 93, 95, 96, 97, 99, 100, 102, 103, 104, 106, 107, 109, 110, 111, 113, 114, 116, 117, 118, 120, 121, 123, 124, 125, 127, 128, 130, 131, 132, 134, 135, 137, 138, 139, 141, 142, 144, 145, 146, 148, 149, 151, 152, 153, 154, 155, 156, 157, 160, 162, 163, 165, 166, 167, 169, 170, 172, 173, 174, 176, 177, 179, 180, 181, 183, 184, 186, 187, 188, 190, 191, 193, 194, 195, 203, 204, 205, 207, 208, 210, 211, 212, 213, 214, 215, 216, 219, 221, 222, 224, 225, 226, 228, 229, 231, 232, 233, 235, 236, 238, 239, 240, 242, 243, 245, 246, 247, 249, 250, 252, 253, 254, 256, 257, 259, 260, 261, 263, 264, 266, 267, 268, 270, 271, 273, 274, 275, 278, 279, 280, 282, 283, 285, 286, 287, 289, 290, 292, 293, 294, 296, 297, 299, 300, 301, 303, 304, 306, 307, 308, 310, 311, 313, 314, 315, 316, 319, 320, 321, 322, 325, 326, 327, 328, 330, 331, 333, 334, 335, 337, 338, 340, 341, 342, 345, 346, 347, 349, 350, 352, 353, 354, 356, 357, 359, 360, 361, 363, 364, 366, 367, 368, 371, 372, 373, 374, 377, 378, 379, 382, 383, 384, 387, 388, 389, 391, 392, 394, 395, 396, 399, 400, 408, 410, 411, 413, 414, 415, 417, 418, 420, 421, 422, 424, 425, 427, 428, 429, 431, 432, 434, 435, 436, 438, 439, 441, 442, 443, 446, 447, 448, 449, 450, 451, 452, 455, 458, 459, 460, 462, 463, 465, 466, 467, 469, 470, 472, 473, 474, 476, 477, 479, 480, 481, 483, 484, 486, 487, 488, 490, 491, 493, 494, 495, 498, 499] (fun _ => by kernel_rfl) [281]).says) rfl
noncomputable def Here (p : Prop) : Prop := p
structure Box (p : Prop) : Prop where
  out : p
set_option maxRecDepth 100000 in
set_option maxHeartbeats 0 in
noncomputable def lawSplit : (T1 : Prop) ×' (T2 : Prop) ×' (Box T1 → Box T2 → LawT) := by
  refine' ⟨?T1, ?T2, fun hT1 hT2 => ?go⟩
  case go =>
  unfold LawT mkT
  k_go0
  ((try k_unmd); (try k_fold); k_steps)
  refine' for_law [(Str.ofString "sort"), (Str.ofString "four"), (Str.ofString "rule")] ?gh ?gr ?gn ?gx ?gp ?gf ?gN ?gk ?gX ?gc ?gq ?gB ?gR ?gd ?ge ?gturn ?gdone
  (case gh => exact rfl)
  (case gf => k_asm)
  (case gN => k_asm)
  (case gk => assumption)
  (case gr => (refine' rng_of ?tn ?th; (case tn => k_asm); (case th => ktn_no "Mem")))
  (case gn => omega)
  (case gx => exact rfl)
  (case gp => exact rfl)
  (case gX => exact lawX2)
  (case gc => assumption)
  (case gq => assumption)
  (case gB => ktn_no "AA")
  (case gR => ktn_no "AA")
  (case ge => exact ⟨List.mem_cons_of_mem _ (List.mem_cons_of_mem _ List.mem_cons_self), List.mem_cons_self, List.mem_cons_of_mem _ List.mem_cons_self⟩)
  (case gd =>
    iterate 7 (refine DistA.cons ?_ ?_; rotate_left)
    all_goals try exact DistA.nil
    all_goals repeat' (first | exact all_nil | refine all_cons ?_ ?_)
    all_goals (show _ ≠ _)
    all_goals (first | ktn_no "Ne" | fail "ne"))
  (case gturn =>
    change Here _; (clear hT2); (repeat (revert ‹_›)); intro hT; have hT8 := hT.out; assumption)
  (case gdone =>
    change Here _; (clear hT1); (repeat (revert ‹_›)); intro hT; have hT8 := hT.out; assumption)
end
theorem resetLE : True := by w_top off; trivial
section
set_option maxRecDepth 100000 in
set_option maxHeartbeats 0 in
noncomputable def turnSplit : (T1 : Prop) ×' (Box T1 → lawSplit.1) := by
  refine' ⟨?T1, fun hT1 => ?go⟩
  case go =>
  unfold lawSplit
  dsimp -zeta only
  k_fill
  intros
  unfold Here
  intro B R2 ocp i t u ts o oc sv ms hs fs ds kd kf kh km tl ext av h tk hi aB aR dd he hocp hoc hL ap F N off hav hex
  (repeat ((with_reducible rename ∀ p ∈ _, Prod.fst p < _ => hz9); clear hz9))
  (repeat ((with_reducible rename ∀ p ∈ _, Prod.fst p ≠ _ => hz9); clear hz9))
  (repeat ((with_reducible rename ∀ q ∈ _, ∀ p ∈ _, Prod.fst p ≠ Prod.fst q => hz9); clear hz9))
  (first | (refine' ex_2_0 he ?_; (try clear he); intro he he2 he3) | (refine' ex_1_1 he ?_; (try clear he); intro he he2 he3) | (obtain ⟨he, he2, he3⟩ := he))
  have pk0 := hL.pool
  (first | (refine' ex_3_0 (lawI_len hL) ?_; intro lm lh lf ld) | (refine' ex_2_1 (lawI_len hL) ?_; intro lm lh lf ld) | (refine' ex_1_2 (lawI_len hL) ?_; intro lm lh lf ld) | (obtain ⟨lm, lh, lf, ld⟩ := lawI_len hL))
  ((try k_unmd); (try k_fold); k_steps)
  refine' cmp_clips ?zh ?zr ?zn ?zx ?zk ?zf ?zN ?zX ?zp ?zturn ?zfin
  (case zh => exact rfl)
  (case zr => (refine' rng_of ?tn ?th; (case tn => k_asm); (case th => ktn_no "Mem")))
  (case zn => omega)
  (case zx => exact rfl)
  (case zk => exact rfl)
  (case zf => k_asm)
  (case zN => k_asm)
  (case zp => assumption)
  (case zX => k_extra "PickK")
  (case zturn =>
    intro i2 t2 ys2 qs2 tl2 o2 C oC m2 ext2 av2 h2 tk2 E' hi2 hp2 hv2 ap2 ne2 hoC hxC hCe F N off2 hav2 hex2
    have ap9 := apart_to ap2
    ((try k_unmd); (try k_fold); k_steps))
  (case zfin =>
    intro g o2 cys qs tl2 pk2 cv cg cl ap2 ne2
    have ap9 := apart_to ap2
    subst cl
    have cyl : cys.length = qs.length := by rw [cv.length, List.length_map]
    ((try k_unmd); (try k_fold); k_steps)
    refine' cmp_mapB ?zB (fun i => (qs.map fun c => V.tup [.str (ruleAt ((qs.length : Int) - 1)), c.rectV]).getD i V.none) ?zh ?zl ?zd ?zn ?zx ?zk ?zf ?zN ?zturn ?zfin
    (case zh => exact rfl)
    (case zd => exact cv)
    (case zl => first | (refine' lst_arr_of ?tn ?th; (case tn => k_asm); (case th => ktn_no "Mem")) | (refine' lst_of ?tn ?th; (case tn => k_asm); (case th => ktn_no "Mem")))
    (case zn => exact Nat.le_trans (by omega : _ ≤ 1000) (by decide))
    (case zx => exact rfl)
    (case zk => exact rfl)
    (case zf => k_asm)
    (case zN => k_asm)
    (case zturn =>
      intro i3 v3 d3 ys3 tl3 C oC m3 ext3 av3 h3 tk3 E' hdi3 hvd3 ap3 hoC hxC hCe F N off3 hav3 hex3
      have ap8 := apart_to ap3
      (first | (refine' ex_3_0 (held_at hdi3) ?_; intro c3 ob9; subst ob9; intro hi3 hf3) | (refine' ex_2_1 (held_at hdi3) ?_; intro c3 ob9; subst ob9; intro hi3 hf3) | (refine' ex_1_2 (held_at hdi3) ?_; intro c3 ob9; subst ob9; intro hi3 hf3) | (obtain ⟨c3, rfl, hi3, hf3⟩ := held_at hdi3))
      rw [hf3]
      ((try k_unmd); (try k_fold); k_steps))
    (case zfin =>
      intro g ys3 tl3 ap3 hv3
      have ap8 := apart_to ap3
      replace hv3 := held_all hv3
      change Here _; (repeat (revert ‹_›)); intro hT; have hT8 := hT.out; assumption))
end
theorem resetLF : True := by w_top off; trivial
section
set_option maxRecDepth 100000 in
set_option maxHeartbeats 0 in
theorem lawTurn : turnSplit.1 := by
  unfold turnSplit
  dsimp -zeta only
  k_fill
  set_option tactic.hygienic false in intros
  unfold Here
  intro D9 h9 tk9 F9 N9 l9
  (try k_sweep)
  (try simp only [List.nil_append, List.cons_append] at N9)
  (try dsimp only)
  ((try k_unmd); (try k_fold); k_steps)
end
theorem resetLA : True := by w_top off; trivial
theorem linesLA : True := by
  (k_with "w:compareOp Eq ref ref" => ((fail_if_success k_extra "x301"); ((k_here; (with_reducible show wpAny _ _ (compareOp CmpOp.Eq (Value.ref _) (Value.ref _)) _ _ _); k_dflt (first | (refine' eq_lst ?nN_194 ?na_194 ?nb_194 ?ns_194 ?nt_194 8 ?np_194 ?nu_194 ?_; (case nN_194 => k_asm); (case ns_194 => exact sl_refl); (case nt_194 => exact sl_refl); (case na_194 => first | (refine' lst_in ?vm_194 ?va_194; (case vm_194 => ktn_no "Mem"); (case va_194 => (refine' VAll.mono ?vx_194 ?vy_194; (case vx_194 => with_reducible assumption); (case vy_194 => ktn_no "Sub")))) | (refine' lst_arr ?vm_194 ?va_194; (case vm_194 => ktn_no "Mem"); (case va_194 => (refine' VAll.mono ?vx_194 ?vy_194; (case vx_194 => with_reducible assumption); (case vy_194 => ktn_no "Sub")))) | (refine' VIn.mono ?vx_194 ?vy_194; (case vx_194 => with_reducible assumption); (case vy_194 => ktn_no "Sub")) | ktn_no "VIn"); (case nb_194 => first | (refine' lst_in ?vm_194 ?va_194; (case vm_194 => ktn_no "Mem"); (case va_194 => (refine' VAll.mono ?vx_194 ?vy_194; (case vx_194 => with_reducible assumption); (case vy_194 => ktn_no "Sub")))) | (refine' lst_arr ?vm_194 ?va_194; (case vm_194 => ktn_no "Mem"); (case va_194 => (refine' VAll.mono ?vx_194 ?vy_194; (case vx_194 => with_reducible assumption); (case vy_194 => ktn_no "Sub")))) | (refine' VIn.mono ?vx_194 ?vy_194; (case vx_194 => with_reducible assumption); (case vy_194 => ktn_no "Sub")) | ktn_no "VIn"); (case np_194 => first | exact dues_data _ | exact rows_data _ | exact rfl | fail "np"); (case nu_194 => first | ke_room | k_room); k_whole) | fail "cmpv")))))
  (k_with "w:compareOp NotEq ref ref" => ((fail_if_success k_extra "x302"); ((k_here; (with_reducible show wpAny _ _ (compareOp CmpOp.NotEq (Value.ref _) (Value.ref _)) _ _ _); k_dflt (first | (refine' ne_lst ?nN_193 ?na_193 ?nb_193 ?ns_193 ?nt_193 8 ?np_193 ?nu_193 ?_; (case nN_193 => k_asm); (case ns_193 => exact sl_refl); (case nt_193 => exact sl_refl); (case na_193 => first | (refine' lst_in ?vm_193 ?va_193; (case vm_193 => ktn_no "Mem"); (case va_193 => (refine' VAll.mono ?vx_193 ?vy_193; (case vx_193 => with_reducible assumption); (case vy_193 => ktn_no "Sub")))) | (refine' lst_arr ?vm_193 ?va_193; (case vm_193 => ktn_no "Mem"); (case va_193 => (refine' VAll.mono ?vx_193 ?vy_193; (case vx_193 => with_reducible assumption); (case vy_193 => ktn_no "Sub")))) | (refine' VIn.mono ?vx_193 ?vy_193; (case vx_193 => with_reducible assumption); (case vy_193 => ktn_no "Sub")) | ktn_no "VIn"); (case nb_193 => first | (refine' lst_in ?vm_193 ?va_193; (case vm_193 => ktn_no "Mem"); (case va_193 => (refine' VAll.mono ?vx_193 ?vy_193; (case vx_193 => with_reducible assumption); (case vy_193 => ktn_no "Sub")))) | (refine' lst_arr ?vm_193 ?va_193; (case vm_193 => ktn_no "Mem"); (case va_193 => (refine' VAll.mono ?vx_193 ?vy_193; (case vx_193 => with_reducible assumption); (case vy_193 => ktn_no "Sub")))) | (refine' VIn.mono ?vx_193 ?vy_193; (case vx_193 => with_reducible assumption); (case vy_193 => ktn_no "Sub")) | ktn_no "VIn"); (case np_193 => first | exact dues_data _ | exact rows_data _ | exact rfl | fail "np"); (case nu_193 => first | ke_room | k_room); k_whole) | (refine' ne_tup ?nN_193 ?na_193 ?nb_193 ?ns_193 ?nt_193 8 ?np_193 ?nu_193 ?_; (case nN_193 => k_asm); (case ns_193 => exact sl_refl); (case nt_193 => exact sl_refl); (case na_193 => first | (refine' lst_in ?vm_193 ?va_193; (case vm_193 => ktn_no "Mem"); (case va_193 => (refine' VAll.mono ?vx_193 ?vy_193; (case vx_193 => with_reducible assumption); (case vy_193 => ktn_no "Sub")))) | (refine' lst_arr ?vm_193 ?va_193; (case vm_193 => ktn_no "Mem"); (case va_193 => (refine' VAll.mono ?vx_193 ?vy_193; (case vx_193 => with_reducible assumption); (case vy_193 => ktn_no "Sub")))) | (refine' VIn.mono ?vx_193 ?vy_193; (case vx_193 => with_reducible assumption); (case vy_193 => ktn_no "Sub")) | ktn_no "VIn"); (case nb_193 => first | (refine' lst_in ?vm_193 ?va_193; (case vm_193 => ktn_no "Mem"); (case va_193 => (refine' VAll.mono ?vx_193 ?vy_193; (case vx_193 => with_reducible assumption); (case vy_193 => ktn_no "Sub")))) | (refine' lst_arr ?vm_193 ?va_193; (case vm_193 => ktn_no "Mem"); (case va_193 => (refine' VAll.mono ?vx_193 ?vy_193; (case vx_193 => with_reducible assumption); (case vy_193 => ktn_no "Sub")))) | (refine' VIn.mono ?vx_193 ?vy_193; (case vx_193 => with_reducible assumption); (case vy_193 => ktn_no "Sub")) | ktn_no "VIn"); (case np_193 => first | exact dues_data _ | exact rows_data _ | exact rfl | fail "np"); (case nu_193 => first | ke_room | k_room); k_whole) | fail "cmpv")))))
  (k_with "w:CEnd" => ((fail_if_success k_extra "x303"); ((k_dflt (refine' cend_told ?eF_192 ?eN_192 ?eT_192 ?eO_192 ?eQ_192 ?eP_192 ?eV_192 ?eA_192 ?eB_192; (case eF_192 => k_asm); (case eN_192 => k_asm); (case eO_192 => assumption); (case eP_192 => assumption); (case eT_192 => k_extra "PickK"); (case eQ_192 => (first | ktn_no "Off" | exact off_tl (by with_reducible assumption) (by with_reducible assumption) (by ktn_no "Sub"))); (case eV_192 => with_reducible assumption); (case eA_192 => (apply apart_of; intro qa9 qo9 hq9; ktn_no "AllNe")); (case eB_192 => ktn_no "AllNe"))))))
  (k_with "x295" => skip)
  (k_with "x296" => skip)
  (k_with "x297" => skip)
  (k_with "x298" => skip)
  (k_with "x299" => skip)
  (k_with "x300" => skip)
  (k_with "w:call ref" => ((fail_if_success k_extra "x304"); ((k_here; (with_reducible show wpAny _ _ (PySem.call (Value.ref 466) [Value.ref _, Value.int _ _]) _ _ _); k_dflt (refine' Sh.use (drawn _ _ ?hm_188 _ ?hn_188) ?k1_188 ?k2_188 ?k3_188 ?k4_188 ?k5_188 ?k6_188 _ _ _ _ ?kp_188 ?kn_188 ?ks_188 ?pre_188 ?kd_188 ?ku_188 ?_; (case k1_188 => k_asm); (case k2_188 => k_asm); (case k3_188 => k_asm); (case k4_188 => k_asm); (case k5_188 => k_asm); (case k6_188 => first | exact rfl | assumption); (case pre_188 => refine draw_pre ?_; assumption); (case kp_188 => k_extra "PickK"); (case kn_188 => ktn_no "AllNe"); (case ks_188 => ktn_no "Sub"); (case hm_188 => decide); (case hn_188 => omega); (case kd_188 => k_room); (case ku_188 => k_room); k_whole; intro r9 o9 tl9 h9 tk9 F9 N9 ne9 post9; obtain ⟨pk9, k9, t9, e9, hk9⟩ := post9; subst e9; (try k_sweep); (try dsimp only); (try k_unmd); (try k_fold))))))
  (k_with "w:call ref" => ((fail_if_success k_extra "x305"); ((k_here; (with_reducible show wpAny _ _ (PySem.call (Value.ref 473) [Value.ref _]) _ _ _); k_dflt (refine' Sh.use (four _ _ ?hn_189) ?k1_189 ?k2_189 ?k3_189 ?k4_189 ?k5_189 ?k6_189 _ _ _ _ ?kp_189 ?kn_189 ?ks_189 ?pre_189 ?kd_189 ?ku_189 ?_; (case k1_189 => k_asm); (case k2_189 => k_asm); (case k3_189 => k_asm); (case k4_189 => k_asm); (case k5_189 => k_asm); (case k6_189 => first | exact rfl | assumption); (case pre_189 => refine four_pre ?_; assumption); (case kp_189 => k_extra "PickK"); (case kn_189 => ktn_no "AllNe"); (case ks_189 => ktn_no "Sub"); (case hn_189 => omega); (case kd_189 => k_room); (case ku_189 => k_room); k_whole; intro r9 o9 tl9 h9 tk9 F9 N9 ne9 post9; obtain ⟨pk9, q9, hv9, hg9⟩ := post9; refine VIn.op (.seq (.cons .lf (.cons .lf (.cons .lf (.cons .lf .nil))))) hv9 ?_; clear hv9; intro a4997n k4999n t5024n t5026n t5028n t5030n hm5000n hk5001n; (try k_sweep); (try dsimp only); (try k_unmd); (try k_fold))))))
  (k_with "w:call ref" => ((fail_if_success k_extra "x306"); ((k_here; (with_reducible show wpAny _ _ (PySem.call (Value.ref 494) _) _ _ _); k_dflt (refine' spUse (lmade _ _ _ _ _) ?k1_182 ?k2_182 ?k3_182 ?k4_182 ?k5_182 ?k6_182 _ ?ks_182 ?pre_182 ?kd_182 ?ku_182 ?_; (case k1_182 => k_asm); (case k2_182 => k_asm); (case k3_182 => k_asm); (case k4_182 => k_asm); (case k5_182 => k_asm); (case k6_182 => first | exact rfl | assumption); (case pre_182 => exact VAll.cons (by assumption) VAll.nil); (case ks_182 => ktn_no "Sub"); (case kd_182 => k_room); (case ku_182 => k_room); k_whole; intro r9 tl9 h9 tk9 lg9 li9 F9 N9 ne9 post9; (try k_sweep); (try dsimp only); (try k_unmd); (try k_fold))))))
  (k_with "w:call ref" => ((fail_if_success k_extra "x307"); ((k_here; (with_reducible show wpAny _ _ (PySem.call (Value.ref 487) _) _ _ _); k_dflt (refine' spUse (lpath _ _ _ _ _) ?k1_183 ?k2_183 ?k3_183 ?k4_183 ?k5_183 ?k6_183 _ ?ks_183 ?pre_183 ?kd_183 ?ku_183 ?_; (case k1_183 => k_asm); (case k2_183 => k_asm); (case k3_183 => k_asm); (case k4_183 => k_asm); (case k5_183 => k_asm); (case k6_183 => first | exact rfl | assumption); (case pre_183 => exact VAll.cons (by assumption) VAll.nil); (case ks_183 => ktn_no "Sub"); (case kd_183 => k_room); (case ku_183 => k_room); k_whole; intro r9 tl9 h9 tk9 lg9 li9 F9 N9 ne9 post9; (try k_sweep); (try dsimp only); (try k_unmd); (try k_fold))))))
  (k_with "w:call ref" => ((fail_if_success k_extra "x308"); ((k_here; (with_reducible show wpAny _ _ (PySem.call (Value.ref 155) _) _ _ _); k_dflt (refine' spUse (decn _ _ _ _ _ ?hp_185) ?k1_185 ?k2_185 ?k3_185 ?k4_185 ?k5_185 ?k6_185 _ ?ks_185 ?pre_185 ?kd_185 ?ku_185 ?_; (case k1_185 => k_asm); (case k2_185 => k_asm); (case k3_185 => k_asm); (case k4_185 => k_asm); (case k5_185 => k_asm); (case k6_185 => first | exact rfl | assumption); (case pre_185 => exact rfl); (case ks_185 => exact sl_nil); (case hp_185 => first | exact Or.inl rfl | exact Or.inr ⟨rfl, by decide⟩); (case kd_185 => k_room); (case ku_185 => k_room); k_whole; intro r9 tl9 h9 tk9 lg9 li9 F9 N9 ne9 post9; (try k_sweep); (try dsimp only); (try k_unmd); (try k_fold))))))
  (k_with "w:call ref" => ((fail_if_success k_extra "x309"); ((k_here; (with_reducible show wpAny _ _ (PySem.call (Value.ref 450) _) _ _ _); k_dflt (refine' spUse (matrI _ _ _ _ _ _ _ _ _ _ _ _ _) ?k1_186 ?k2_186 ?k3_186 ?k4_186 ?k5_186 ?k6_186 _ ?ks_186 ?pre_186 ?kd_186 ?ku_186 ?_; (case k1_186 => k_asm); (case k2_186 => k_asm); (case k3_186 => k_asm); (case k4_186 => k_asm); (case k5_186 => k_asm); (case k6_186 => first | exact rfl | assumption); (case pre_186 => exact rfl); (case ks_186 => exact sl_nil); (case kd_186 => k_room); (case ku_186 => k_room); k_whole; intro r9 tl9 h9 tk9 lg9 li9 F9 N9 ne9 post9; (try k_sweep); (try dsimp only); (try k_unmd); (try k_fold))))))
  (k_with "w:call ref" => ((fail_if_success k_extra "x310"); ((k_here; (with_reducible show wpAny _ _ (PySem.call (Value.ref 395) _) _ _ _); k_dflt (refine' Sc.use (tmtext _ 1 0 0 1 4 0 #[97] 25 1) ?k0_190 ?k1_190 ?k2_190 ?k3_190 ?k4_190 ?k5_190 ?k6_190 281 _ _ _ ?kp_190 ?kn_190 ?ks_190 ?pre_190 ?kd_190 ?ku_190 ?_; (case k0_190 => with_reducible assumption); (case k1_190 => k_asm); (case k2_190 => k_asm); (case k3_190 => k_asm); (case k4_190 => k_asm); (case k5_190 => k_asm); (case k6_190 => first | exact rfl | assumption); (case kp_190 => k_extra "PickK"); (case kn_190 => ktn_no "AllNe"); (case ks_190 => exact sl_refl); (case pre_190 => (refine' told_pre ?ta_190 ?tb_190; (case ta_190 => (refine' TabOk.mono ?tc_190 ?td_190; (case tc_190 => with_reducible assumption); (case td_190 => ktn_no "Sub"))); (case tb_190 => (refine' VAll.cons ?te_190 VAll.nil; (case te_190 => ktn_no "VIn"))))); (case kd_190 => k_room); (case ku_190 => k_room); k_whole; intro r9 o9 tl9 h9 tk9 F9 N9 ne9 post9; obtain ⟨tab9, hv9⟩ := post9; obtain ⟨ps9, eps9⟩ := tab_is tab9; subst eps9; have hv8 := hv9; refine VIn.op (.seq .rest) hv9 ?_; clear hv9; intro a5032n k5034n vs5033n hal5037n hm5035n hk5036n; (try k_sweep); (try dsimp only); (try k_unmd); (try k_fold))))))
  (k_with "w:call ref" => ((fail_if_success k_extra "x311"); ((k_here; (with_reducible show wpAny _ _ (PySem.call (Value.ref 395) _) _ _ _); k_dflt (refine' Sc.use (tmark _ _) ?k0_191 ?k1_191 ?k2_191 ?k3_191 ?k4_191 ?k5_191 ?k6_191 281 _ _ _ ?kp_191 ?kn_191 ?ks_191 ?pre_191 ?kd_191 ?ku_191 ?_; (case k0_191 => with_reducible assumption); (case k1_191 => k_asm); (case k2_191 => k_asm); (case k3_191 => k_asm); (case k4_191 => k_asm); (case k5_191 => k_asm); (case k6_191 => first | exact rfl | assumption); (case pre_191 => refine told_pre ?ta_191 ?tb_191; (case ta_191 => assumption); (case tb_191 => exact VAll.cons (by first | assumption | exact VIn.mono (by assumption) (by ktn_no "Sub")) VAll.nil)); (case kp_191 => k_extra "PickK"); (case kn_191 => ktn_no "AllNe"); (case ks_191 => ktn_no "Sub"); (case kd_191 => k_room); (case ku_191 => k_room); k_whole; intro r9 o9 tl9 h9 tk9 F9 N9 ne9 post9; obtain ⟨tab9, hv9⟩ := post9; (try k_sweep); (try dsimp only); (try k_unmd); (try k_fold))))))
  (k_with "w:call ref" => ((fail_if_success k_extra "x312"); ((k_here; (with_reducible show wpAny _ _ (PySem.call (Value.ref 494) _) _ _ _); k_dflt (refine' spUse (lmade _ 0 0 1 1) ?k1_195 ?k2_195 ?k3_195 ?k4_195 ?k5_195 ?k6_195 _ ?ks_195 ?pre_195 ?kd_195 ?ku_195 ?_; (case k1_195 => k_asm); (case k2_195 => k_asm); (case k3_195 => k_asm); (case k4_195 => k_asm); (case k5_195 => k_asm); (case k6_195 => first | exact rfl | assumption); (case ks_195 => ktn_no "Strip"); (case pre_195 => (refine' VAll.cons ?te_195 VAll.nil; (case te_195 => ktn_no "VIn"))); (case kd_195 => k_room); (case ku_195 => k_room); k_whole; intro r9 tl9 h9 tk9 lg9 li9 F9 N9 ne9 post9; (try k_sweep); (try dsimp only); (try k_unmd); (try k_fold))))))
  trivial
section
set_option maxRecDepth 100000 in
set_option maxHeartbeats 0 in
noncomputable def doneSplit : (T1 : Prop) ×' (T2 : Prop) ×' (Box T1 → Box T2 → lawSplit.2.1) := by
  refine' ⟨?T1, ?T2, fun hT1 hT2 => ?go⟩
  case go =>
  unfold lawSplit
  dsimp -zeta only
  k_fill
  intros
  unfold Here
  rename TabsAt _ _ => hT9
  intro h tk u lg hS F N
  obtain ⟨ts, o2, oc2, sv2, ms, hs, fs, ds, kd, kf, kh, km, tlL, rfl, hoc2, hL, apL⟩ := hS
  obtain ⟨lm, lh, lf, ld⟩ := lawI_len hL
  have ch9 : CodeHd _ 285 281 := (ghost_code hT9).1
  have vm9 := hL.vm
  have vh9 := hL.vh
  have vf9 := hL.vf
  have vd9 := hL.vd
  ((try k_unmd); (try k_fold); k_steps)
  refine' cmp_told (ds := ts.map Turn.mark) (ln := 136) (co := 28) (ql := QLam) (fun i => (ts.map Turn.due).getD i V.none) ?zh ?zl ?zd ?zn ?zx ?zk ?zf ?zN ?zX ?zt ?zturn ?zfin
  (case zh => exact rfl)
  (case zl => first | (refine' lst_arr_of ?tn ?th; (case tn => k_asm); (case th => ktn_no "Mem")) | (refine' lst_of ?tn ?th; (case tn => k_asm); (case th => ktn_no "Mem")))
  (case zn => exact Nat.le_trans (by omega : _ ≤ 1000) (by decide))
  (case zx => exact rfl)
  (case zk => exact rfl)
  (case zf => k_asm)
  (case zN => k_asm)
  (case zX => k_extra "PickK")
  (case zd => exact VAll.mono vm9 (by ktn_no "Sub"))
  (case zt => exact .inl rfl)
  (case zturn =>
    intro i3 v3 d3 tl3 o3 C oC m3 ext3 av3 h3 tk3 E' hdi3 hvd3 ht3 ap3 an3 hoC hxC hCe F N off3 hav3 hex3
    have ap8 := apart_to ap3
    obtain ⟨t3, ht3i, rfl, hf3⟩ := mark_at hdi3
    rw [hf3]
    ((try k_unmd); (try k_fold); k_steps))
  (case zfin =>
    intro g o3 ys3 tl3 ht3 hv3 ap3 an3
    have ap8 := apart_to ap3
    replace hv3 := dues_all hv3
    ((try k_unmd); (try k_fold); k_steps)
    refine' for_rows [(Str.ofString "text"), (Str.ofString "sign"), (Str.ofString "number"), (Str.ofString "four")] ?wa ?wL ?w7 ?wh ?wr ?wn ?wx ?wp ?wF ?wN ?ww ?wwd ?wX ?woc ?woy ?wox ?waR ?wdd ?wturn ?wdone
    (case wa => exact apL)
    (case wL => exact hL)
    (case w7 => omega)
    (case wh => exact rfl)
    (case wF => k_asm)
    (case wN => k_asm)
    (case wr => (refine' rng_of ?tn ?th; (case tn => k_asm); (case th => ktn_no "Mem")))
    (case wn => omega)
    (case wx => exact rfl)
    (case wp => exact rfl)
    (case ww => exact rfl)
    (case wwd => omega)
    (case wX => exact mem_4 (by ktn_no "Mem") (by ktn_no "Mem") (by ktn_no "Mem") (by ktn_no "Mem") (by ktn_no "Sub"))
    (case woc => exact isCell_of (by assumption))
    (case woy => exact isCell_of (by assumption))
    (case wox => exact isCell_of (by assumption))
    (case waR => ktn_no "AA")
    (case wdd =>
      iterate 4 (refine DistA.cons ?_ ?_; rotate_left)
      all_goals try exact DistA.nil
      all_goals repeat' (first | exact all_nil | refine all_cons ?_ ?_)
      all_goals (show _ ≠ _)
      all_goals (first | ktn_no "Ne" | fail "ne"))
    (case wturn =>
      change Here _; (clear hT2); (repeat (revert ‹_›)); intro hT; have hT8 := hT.out; assumption)
    (case wdone =>
      change Here _; (clear hT1); (repeat (revert ‹_›)); intro hT; have hT8 := hT.out; assumption))
end
theorem resetLB : True := by w_top off; trivial
theorem linesLB : True := by
  (k_with "w:subscriptTail Name Name ref int" => ((fail_if_success k_extra "x313"); ((k_here; (with_reducible show wpAny _ _ (subscriptTail _ _ (Value.ref _) (Value.int _ _)) _ _ _); k_dflt (refine' item_vd ?n_202 ?l_202 ?v_202 ?a_202 ?b_202 ?d_202 ?_ ?hs_202 ?hg_202; (case n_202 => k_asm); (case l_202 => ktn_no "Mem"); (case v_202 => with_reducible assumption); (case a_202 => omega); (case b_202 => omega); (case d_202 => with_reducible assumption); (case hs_202 => with_unfolding_all rfl); (case hg_202 => intro _; with_unfolding_all rfl); k_whole; intro v9 hv9; refine VIn.op (.seq (.cons .any (.cons (.seq .rest) .nil))) hv9 ?_; clear hv9; intro a5041n k5043n v5049n h5046n a5058n k5060n vs5059n hal5063n hm5061n hk5062n hm5044n hk5045n)))))
  (k_with "w:call builtin:len" => ((fail_if_success k_extra "x314"); ((k_here; (with_reducible show wpAny _ _ (call (Value.builtin "len") [Value.ref _]) _ _ _); k_dflt (refine' len_l ?n_198 ?l_198 ?v_198 ?a_198 ?_; (case n_198 => k_asm); (case l_198 => ktn_no "Mem"); (case v_198 => assumption); (case a_198 => omega); k_whole; intro t9 tk9)))))
  (k_with "x304" => skip)
  (k_with "x305" => skip)
  (k_with "x306" => skip)
  (k_with "x307" => skip)
  (k_with "x308" => skip)
  (k_with "x309" => skip)
  (k_with "x310" => skip)
  (k_with "x311" => skip)
  (k_with "x312" => skip)
  (k_with "w:call ref" => ((fail_if_success k_extra "x315"); ((k_here; (with_reducible show wpAny _ _ (PySem.call (Value.ref 466) [Value.ref _, Value.int _ _]) _ _ _); k_dflt (refine' Sh.use (drawn _ _ ?hm_169 _ ?hn_169) ?k1_169 ?k2_169 ?k3_169 ?k4_169 ?k5_169 ?k6_169 _ _ _ _ ?kp_169 ?kn_169 ?ks_169 ?pre_169 ?kd_169 ?ku_169 ?_; (case k1_169 => k_asm); (case k2_169 => k_asm); (case k3_169 => k_asm); (case k4_169 => k_asm); (case k5_169 => k_asm); (case k6_169 => first | exact rfl | assumption); (case pre_169 => refine draw_pre ?_; assumption); (case kp_169 => k_extra "PickK"); (case kn_169 => ktn_no "AllNe"); (case ks_169 => ktn_no "Sub"); (case hm_169 => decide); (case hn_169 => omega); (case kd_169 => k_room); (case ku_169 => k_room); k_whole; intro r9 o9 tl9 h9 tk9 F9 N9 ne9 post9; (first | (refine' ex_3_1 post9 ?_; (try clear post9); intro pk9 k9 t9 e9 hk9) | (refine' ex_2_2 post9 ?_; (try clear post9); intro pk9 k9 t9 e9 hk9) | (obtain ⟨pk9, k9, t9, e9, hk9⟩ := post9)); subst e9; (try k_sweep); (try dsimp only); (try k_unmd); (try k_fold))))))
  (k_with "w:call ref" => ((fail_if_success k_extra "x316"); ((k_here; (with_reducible show wpAny _ _ (PySem.call (Value.ref 473) [Value.ref _]) _ _ _); k_dflt (refine' Sh.use (four _ _ ?hn_170) ?k1_170 ?k2_170 ?k3_170 ?k4_170 ?k5_170 ?k6_170 _ _ _ _ ?kp_170 ?kn_170 ?ks_170 ?pre_170 ?kd_170 ?ku_170 ?_; (case k1_170 => k_asm); (case k2_170 => k_asm); (case k3_170 => k_asm); (case k4_170 => k_asm); (case k5_170 => k_asm); (case k6_170 => first | exact rfl | assumption); (case pre_170 => refine four_pre ?_; assumption); (case kp_170 => k_extra "PickK"); (case kn_170 => ktn_no "AllNe"); (case ks_170 => ktn_no "Sub"); (case hn_170 => omega); (case kd_170 => k_room); (case ku_170 => k_room); k_whole; intro r9 o9 tl9 h9 tk9 F9 N9 ne9 post9; (first | (refine' ex_3_0 post9 ?_; (try clear post9); intro pk9 q9 hv9 hg9) | (refine' ex_2_1 post9 ?_; (try clear post9); intro pk9 q9 hv9 hg9) | (refine' ex_1_2 post9 ?_; (try clear post9); intro pk9 q9 hv9 hg9) | (obtain ⟨pk9, q9, hv9, hg9⟩ := post9)); refine VIn.op (.seq (.cons .lf (.cons .lf (.cons .lf (.cons .lf .nil))))) hv9 ?_; clear hv9; intro a4997n k4999n t5024n t5026n t5028n t5030n hm5000n hk5001n; (try k_sweep); (try dsimp only); (try k_unmd); (try k_fold))))))
  (k_with "w:call ref" => ((fail_if_success k_extra "x317"); ((k_here; (with_reducible show wpAny _ _ (PySem.call (Value.ref 494) _) _ _ _); k_dflt (refine' spUse (lmade _ _ _ _ _) ?k1_182 ?k2_182 ?k3_182 ?k4_182 ?k5_182 ?k6_182 _ ?ks_182 ?pre_182 ?kd_182 ?ku_182 ?_; (case k1_182 => k_asm); (case k2_182 => k_asm); (case k3_182 => k_asm); (case k4_182 => k_asm); (case k5_182 => k_asm); (case k6_182 => first | exact rfl | assumption); (case pre_182 => exact VAll.cons (by assumption) VAll.nil); (case ks_182 => ktn_no "Sub"); (case kd_182 => k_room); (case ku_182 => k_room); k_whole; intro r9 tl9 h9 tk9 lg9 li9 F9 N9 ne9 post9; (try k_sweep); (try dsimp only); (try k_unmd); (try k_fold))))))
  (k_with "w:call ref" => ((fail_if_success k_extra "x318"); ((k_here; (with_reducible show wpAny _ _ (PySem.call (Value.ref 487) _) _ _ _); k_dflt (refine' spUse (lpath _ _ _ _ _) ?k1_183 ?k2_183 ?k3_183 ?k4_183 ?k5_183 ?k6_183 _ ?ks_183 ?pre_183 ?kd_183 ?ku_183 ?_; (case k1_183 => k_asm); (case k2_183 => k_asm); (case k3_183 => k_asm); (case k4_183 => k_asm); (case k5_183 => k_asm); (case k6_183 => first | exact rfl | assumption); (case pre_183 => exact VAll.cons (by assumption) VAll.nil); (case ks_183 => ktn_no "Sub"); (case kd_183 => k_room); (case ku_183 => k_room); k_whole; intro r9 tl9 h9 tk9 lg9 li9 F9 N9 ne9 post9; (try k_sweep); (try dsimp only); (try k_unmd); (try k_fold))))))
  (k_with "w:call ref" => ((fail_if_success k_extra "x319"); ((k_here; (with_reducible show wpAny _ _ (PySem.call (Value.ref 155) _) _ _ _); k_dflt (refine' spUse (decn _ _ _ _ _ ?hp_185) ?k1_185 ?k2_185 ?k3_185 ?k4_185 ?k5_185 ?k6_185 _ ?ks_185 ?pre_185 ?kd_185 ?ku_185 ?_; (case k1_185 => k_asm); (case k2_185 => k_asm); (case k3_185 => k_asm); (case k4_185 => k_asm); (case k5_185 => k_asm); (case k6_185 => first | exact rfl | assumption); (case pre_185 => exact rfl); (case ks_185 => exact sl_nil); (case hp_185 => first | exact Or.inl rfl | exact Or.inr ⟨rfl, by decide⟩); (case kd_185 => k_room); (case ku_185 => k_room); k_whole; intro r9 tl9 h9 tk9 lg9 li9 F9 N9 ne9 post9; (try k_sweep); (try dsimp only); (try k_unmd); (try k_fold))))))
  (k_with "w:call ref" => ((fail_if_success k_extra "x320"); ((k_here; (with_reducible show wpAny _ _ (PySem.call (Value.ref 450) _) _ _ _); k_dflt (refine' spUse (matrI _ _ _ _ _ _ _ _ _ _ _ _ _) ?k1_186 ?k2_186 ?k3_186 ?k4_186 ?k5_186 ?k6_186 _ ?ks_186 ?pre_186 ?kd_186 ?ku_186 ?_; (case k1_186 => k_asm); (case k2_186 => k_asm); (case k3_186 => k_asm); (case k4_186 => k_asm); (case k5_186 => k_asm); (case k6_186 => first | exact rfl | assumption); (case pre_186 => exact rfl); (case ks_186 => exact sl_nil); (case kd_186 => k_room); (case ku_186 => k_room); k_whole; intro r9 tl9 h9 tk9 lg9 li9 F9 N9 ne9 post9; (try k_sweep); (try dsimp only); (try k_unmd); (try k_fold))))))
  (k_with "w:call ref" => ((fail_if_success k_extra "x321"); ((k_here; (with_reducible show wpAny _ _ (PySem.call (Value.ref 395) _) _ _ _); k_dflt (refine' Sc.use (tmtext _ 1 0 0 1 4 0 #[97] 25 1) ?k0_196 ?k1_196 ?k2_196 ?k3_196 ?k4_196 ?k5_196 ?k6_196 281 _ _ _ ?kp_196 ?kn_196 ?ks_196 ?pre_196 ?kd_196 ?ku_196 ?_; (case k0_196 => with_reducible assumption); (case k1_196 => k_asm); (case k2_196 => k_asm); (case k3_196 => k_asm); (case k4_196 => k_asm); (case k5_196 => k_asm); (case k6_196 => first | exact rfl | assumption); (case kp_196 => k_extra "PickK"); (case kn_196 => ktn_no "AllNe"); (case ks_196 => exact sl_refl); (case pre_196 => (refine' told_pre ?ta_196 ?tb_196; (case ta_196 => (refine' TabOk.mono ?tc_196 ?td_196; (case tc_196 => with_reducible assumption); (case td_196 => ktn_no "Sub"))); (case tb_196 => (refine' VAll.cons ?te_196 VAll.nil; (case te_196 => ktn_no "VIn"))))); (case kd_196 => k_room); (case ku_196 => k_room); k_whole; intro r9 o9 tl9 h9 tk9 F9 N9 ne9 post9; (first | (refine' ex_1_0 post9 ?_; (try clear post9); intro tab9 hv9) | (obtain ⟨tab9, hv9⟩ := post9)); (first | (refine' ex_1_0 (tab_is tab9) ?_; intro ps9 eps9) | (obtain ⟨ps9, eps9⟩ := tab_is tab9)); subst eps9; have hv8 := hv9; refine VIn.op (.seq .rest) hv9 ?_; clear hv9; intro a5032n k5034n vs5033n hal5037n hm5035n hk5036n; (try k_sweep); (try dsimp only); (try k_unmd); (try k_fold))))))
  (k_with "w:call ref" => ((fail_if_success k_extra "x322"); ((k_here; (with_reducible show wpAny _ _ (PySem.call (Value.ref 395) _) _ _ _); k_dflt (refine' Sc.use (tmark _ _) ?k0_197 ?k1_197 ?k2_197 ?k3_197 ?k4_197 ?k5_197 ?k6_197 281 _ _ _ ?kp_197 ?kn_197 ?ks_197 ?pre_197 ?kd_197 ?ku_197 ?_; (case k0_197 => with_reducible assumption); (case k1_197 => k_asm); (case k2_197 => k_asm); (case k3_197 => k_asm); (case k4_197 => k_asm); (case k5_197 => k_asm); (case k6_197 => first | exact rfl | assumption); (case pre_197 => refine told_pre ?ta_197 ?tb_197; (case ta_197 => assumption); (case tb_197 => exact VAll.cons (by first | assumption | exact VIn.mono (by assumption) (by ktn_no "Sub")) VAll.nil)); (case kp_197 => k_extra "PickK"); (case kn_197 => ktn_no "AllNe"); (case ks_197 => ktn_no "Sub"); (case kd_197 => k_room); (case ku_197 => k_room); k_whole; intro r9 o9 tl9 h9 tk9 F9 N9 ne9 post9; (first | (refine' ex_1_0 post9 ?_; (try clear post9); intro tab9 hv9) | (obtain ⟨tab9, hv9⟩ := post9)); (try k_sweep); (try dsimp only); (try k_unmd); (try k_fold))))))
  (k_with "w:call ref" => ((fail_if_success k_extra "x323"); ((k_here; (with_reducible show wpAny _ _ (PySem.call (Value.ref 494) _) _ _ _); k_dflt (refine' spUse (lmade _ 0 0 1 1) ?k1_195 ?k2_195 ?k3_195 ?k4_195 ?k5_195 ?k6_195 _ ?ks_195 ?pre_195 ?kd_195 ?ku_195 ?_; (case k1_195 => k_asm); (case k2_195 => k_asm); (case k3_195 => k_asm); (case k4_195 => k_asm); (case k5_195 => k_asm); (case k6_195 => first | exact rfl | assumption); (case ks_195 => ktn_no "Strip"); (case pre_195 => (refine' VAll.cons ?te_195 VAll.nil; (case te_195 => ktn_no "VIn"))); (case kd_195 => k_room); (case ku_195 => k_room); k_whole; intro r9 tl9 h9 tk9 lg9 li9 F9 N9 ne9 post9; (try k_sweep); (try dsimp only); (try k_unmd); (try k_fold))))))
  (k_with "w:call ref" => ((fail_if_success k_extra "x324"); ((k_here; (with_reducible show wpAny _ _ (PySem.call (Value.ref 480) _) _ _ _); k_dflt (refine' spUse (holdsI _ _ ?q0_199 _ _ _ ?q1_199 _ _ _) ?k1_199 ?k2_199 ?k3_199 ?k4_199 ?k5_199 ?k6_199 _ ?ks_199 ?pre_199 ?kd_199 ?ku_199 ?_; (case k1_199 => k_asm); (case k2_199 => k_asm); (case k3_199 => k_asm); (case k4_199 => k_asm); (case k5_199 => k_asm); (case k6_199 => first | exact rfl | assumption); (case pre_199 => (refine' And.intro ?zx_199 ?zy_199; (case zy_199 => exact rfl); (case zx_199 => with_reducible assumption))); (case ks_199 => ktn_no "Sub"); (case q1_199 => with_reducible assumption); (case q0_199 => with_reducible assumption); (case kd_199 => k_room); (case ku_199 => k_room); k_whole; intro r9 tl9 h9 tk9 lg9 li9 F9 N9 ne9 post9; refine VIn.opr .lf post9 ?_; clear post9; intro _; (try k_sweep); (try dsimp only); (try k_unmd); (try k_fold))))))
  (k_with "w:call type:str" => ((fail_if_success k_extra "x325"); ((k_here; (with_reducible show wpAny _ _ (call (Value.type "str") [Value.int _ _]) _ _ _); k_dflt (refine' str_num ?ya_200 ?_; (case ya_200 => omega); k_whole); intro t9 tk9; (try k_sweep)))))
  (k_with "w:binaryOp Add str str" => ((fail_if_success k_extra "x326"); ((k_here; (with_reducible show wpAny _ _ (binaryOp Operator.Add (Value.str (txt _) _) (Value.str _ _)) _ _ _); k_dflt (refine' add_txt ?ya_201 ?_; (case ya_201 => first | omega | (rw [lawRowN_len]; omega)); k_whole); intro t9 tk9; (try k_sweep)))))
  trivial
section
set_option maxRecDepth 100000 in
set_option maxHeartbeats 0 in
theorem lawRowT : doneSplit.1 := by
  unfold doneSplit
  dsimp -zeta only
  k_fill
  set_option tactic.hygienic false in intros
  unfold Here
  intro fs rest i t1 u1 vs1 k1 oc1 oy1 ox1 sc1 sy1 sx1 ext1 av1 h1 tk1 hi hfs hgood aR1 dd1 hF1 hv1 hl1 hoc1 hoy1 hox1 hvs1 hvl1 F1 N1 off1 hav1 hex1
  ((try k_unmd); (try k_fold); k_steps)
  refine' for_upYC (Str.ofString "text") [(Str.ofString "sign"), (Str.ofString "number"), (Str.ofString "four")] (ColS _ _ _ _ (hgtOf hi) fs i) _ _ ?xh ?xr ?xn ?xF ?xN ?xX ?xy ?x0 ?xturn ?xdone
  (case xh => exact rfl)
  (case xF => k_asm)
  (case xN => k_asm)
  (case xr => (refine' rng_of ?tn ?th; (case tn => k_asm); (case th => ktn_no "Mem")))
  (case xn => omega)
  (case xX => exact colX)
  (case xy => exact rfl)
  (case x0 => (refine' colS_0 ?xa ?xb ?xc; (case xa => assumption); (case xb => assumption); (case xc => assumption)))
  (case xturn =>
    intro j t2 u2 v2 lg2 ext2 av2 h2 tk2 hj hS2 F2 N2 off2 hav2 hex2
    obtain ⟨tv2, oc2, oy2, ox2, rfl, rfl, ⟨sc2, hoc2⟩, ⟨sy2, hoy2⟩, ⟨sx2, hox2⟩⟩ := hS2
    ((try k_unmd); (try k_fold); k_steps)
    refine' for_upY (Str.ofString "sign") [(Str.ofString "four")] (NumS _ _ _ (hgtOf hi) fs i j) _ _ ?yh ?yr ?yn ?yx ?yxy ?yp ?yF ?yN ?yX ?yy ?y0 ?yturn ?ydone
    (case yh => exact rfl)
    (case yF => k_asm)
    (case yN => k_asm)
    (case yr => (refine' rng_of ?tn ?th; (case tn => k_asm); (case th => ktn_no "Mem")))
    (case yn => omega)
    (case yx => exact rfl)
    (case yxy => decide)
    (case yp => exact rfl)
    (case yX => exact numX)
    (case yy => exact rfl)
    (case y0 => (refine' numS_0 ?ya ?yb; (case ya => assumption); (case yb => assumption)))
    (case yturn =>
      intro n3 t3 u3 v3 lg3 ext3 av3 h3 tk3 hn3 hS3 F3 N3 off3 hav3 hex3
      obtain ⟨tv3, oc3, oy3, rfl, rfl, ⟨sc3, hoc3⟩, ⟨sy3, hoy3⟩⟩ := hS3
      obtain ⟨kq1, kq2, hfn⟩ : ∃ a b, fs[n3]? = some (a, b) := ⟨(fs[n3]'hn3).1, (fs[n3]'hn3).2, List.getElem?_eq_getElem hn3⟩
      have hvn : (fs.map fillIV)[((n3 : Nat) : Int).toNat]? = some (.tup [kq1.four, .lst (kq2.map Q4.four)]) := by rw [Int.toNat_natCast, List.getElem?_map, hfn]; rfl
      (first | (refine' ex_2_0 (hgood _ (List.mem_of_getElem? hfn)) ?_; intro hgq hgl hgc) | (refine' ex_1_1 (hgood _ (List.mem_of_getElem? hfn)) ?_; intro hgq hgl hgc) | (obtain ⟨hgq, hgl, hgc⟩ := hgood _ (List.mem_of_getElem? hfn)))
      dsimp only at hgq hgl hgc
      cases hq : kq1.hit (j : Int) ((hgtOf hi : Int) - 1 - (i : Int))
      · ((try k_unmd); (try k_fold); k_steps)
        all_goals (refine' fend_num ?na ?nb ?nc ?nd ?ne ?nf ?ng ?nh ?ni; (case na => k_asm); (case nb => k_asm); (case nc => ktn_no "Mem"); (case nd => ktn_no "Mem"); (case ne => ktn_no "Sub"); (case nf => exact off3); (case ng => exact rfl); (case nh => exact numS_out hfn hq (by assumption) (by assumption)); (case ni => exact (by intro z9 hz9 hy9 hs9; (simp only [List.contains_cons, List.contains_nil, Bool.or_false, Bool.or_eq_false_iff, beq_eq_false_iff_ne, ne_eq] at hs9); simp +zetaDelta [hz9, hy9, hs9])))
      · ((try k_unmd); (try k_fold); k_steps)
        refine' cmp_notHit (cs := kq2) (cx := (j : Int)) (r := (hgtOf hi : Int) - 1 - (i : Int)) _ ?vh ?vl ?vd ?vn ?vx ?vk ?vf ?vN ?vX ?vturn ?vfin
        (case vh => exact rfl)
        (case vl => (refine' lst_of ?tn ?th; (case tn => k_asm); (case th => ktn_no "Mem")))
        (case vx => exact rfl)
        (case vk => exact rfl)
        (case vf => k_asm)
        (case vN => k_asm)
        (case vX => exact sl_refl)
        (case vd => (refine' VAll.mono ?tc ?td; (case tc => with_reducible assumption); (case td => ktn_no "Sub")))
        (case vn => exact Nat.le_trans (by rw [VAll.length (by with_reducible assumption)]; rw [List.length_map]; omega : _ ≤ 1000) (by decide))
        (case vturn =>
          intro i5 v5 q5 C oC m5 ext5 av5 h5 tk5 E' hqi hvq hoC hxC hCe F5 N5 off5 hav5 hex5
          have hgq5 := hgc q5 (List.mem_of_getElem? hqi)
          cases hq5 : q5.hit (j : Int) ((hgtOf hi : Int) - 1 - (i : Int))
          all_goals ((try k_unmd); (try k_fold); k_steps)
          all_goals exact cend_S (by k_asm) (by k_asm) (by ktn_no "Sub") off5 ⟨rfl, by first | rfl | assumption⟩)
        (case vfin =>
          intro g5 ys5 hys5
          have hb5 := notHit_le (cs := kq2) (c := (j : Int)) (r := (hgtOf hi : Int) - 1 - (i : Int))
          by_cases hz5 : notHit kq2 (j : Int) ((hgtOf hi : Int) - 1 - (i : Int)) = 0
          · ((try k_unmd); (try k_fold); k_steps)
            all_goals (refine' fend_num ?na ?nb ?nc ?nd ?ne ?nf ?ng ?nh ?ni; (case na => k_asm); (case nb => k_asm); (case nc => ktn_no "Mem"); (case nd => ktn_no "Mem"); (case ne => ktn_no "Sub"); (case nf => exact off3); (case ng => exact rfl); (case nh => exact numS_yes hfn hq hz5 (by assumption) (by assumption)); (case ni => exact (by intro z9 hz9 hy9 hs9; (simp only [List.contains_cons, List.contains_nil, Bool.or_false, Bool.or_eq_false_iff, beq_eq_false_iff_ne, ne_eq] at hs9); simp +zetaDelta [hz9, hy9, hs9])))
          · ((try k_unmd); (try k_fold); k_steps)
            all_goals (refine' fend_num ?na ?nb ?nc ?nd ?ne ?nf ?ng ?nh ?ni; (case na => k_asm); (case nb => k_asm); (case nc => ktn_no "Mem"); (case nd => ktn_no "Mem"); (case ne => ktn_no "Sub"); (case nf => exact off3); (case ng => exact rfl); (case nh => exact numS_clip hfn hz5 (by assumption) (by assumption)); (case ni => exact (by intro z9 hz9 hy9 hs9; (simp only [List.contains_cons, List.contains_nil, Bool.or_false, Bool.or_eq_false_iff, beq_eq_false_iff_ne, ne_eq] at hs9); simp +zetaDelta [hz9, hy9, hs9])))))
    (case ydone =>
      intro h4 tk4 u4 v4 lg4 hS4 F4 N4
      obtain ⟨tv4, oc4, oy4, rfl, rfl, ⟨sc4, hoc4⟩, ⟨sy4, hoy4⟩⟩ := hS4
      rw [cellN_all] at F4
      ((try k_unmd); (try k_fold); k_steps)
      all_goals (refine' fend_col ?na ?nb ?nc ?nd ?nj ?ne ?nf ?nk ?nl ?nm ?ng ?ni; (case na => k_asm); (case nb => k_asm); (case nc => ktn_no "Mem"); (case nd => ktn_no "Mem"); (case nj => ktn_no "Mem"); (case ne => ktn_no "Sub"); (case nf => exact off2); (case nk => assumption); (case nl => assumption); (case nm => assumption); (case ng => exact rfl); (case ni => exact (by intro z9 hz9 hs9; first | ktn_no "mz" | ((simp only [List.contains_cons, List.contains_nil, Bool.or_false, Bool.or_eq_false_iff, beq_eq_false_iff_ne, ne_eq] at hs9); simp +zetaDelta [hz9, hs9]))))))
  (case xdone =>
    intro h2 tk2 u2 v2 lg2 hS2 F2 N2
    obtain ⟨tv2, oc2, oy2, ox2, rfl, rfl, ⟨sc2, hoc2⟩, ⟨sy2, hoy2⟩, ⟨sx2, hox2⟩⟩ := hS2
    ((try k_unmd); (try k_fold); k_steps)
    all_goals (refine' fend_row ?na ?nb ?nc ?nd ?nj ?nr ?ne ?nf ?nv ?nk ?nl ?nm ?ni; (case na => k_asm); (case nb => k_asm); (case nc => ktn_no "Mem"); (case nd => ktn_no "Mem"); (case nj => ktn_no "Mem"); (case nr => ktn_no "Mem"); (case ne => ktn_no "Sub"); (case nf => exact off1); (case nv => exact hvs1); (case nk => assumption); (case nl => assumption); (case nm => assumption); (case ni => exact (by intro z9 hz9 hs9; first | ktn_no "mz" | ((simp only [List.contains_cons, List.contains_nil, Bool.or_false, Bool.or_eq_false_iff, beq_eq_false_iff_ne, ne_eq] at hs9); simp +zetaDelta [hz9, hs9])))))
end
theorem resetLC : True := by w_top off; trivial
theorem linesLC : True := by
  (k_with "w:compareOp Eq ref ref" => ((fail_if_success k_extra "x327"); ((k_here; (with_reducible show wpAny _ _ (compareOp CmpOp.Eq (Value.ref _) (Value.ref _)) _ _ _); k_dflt (refine' eq_lst ?nN_207 ?na_207 ?nb_207 ?ns_207 ?nt_207 8 ?np_207 ?nu_207 ?_; (case nN_207 => k_asm); (case ns_207 => exact sl_refl); (case nt_207 => exact sl_refl); (case na_207 => (refine' VIn.mono ?vx_207 ?vy_207; (case vx_207 => with_reducible assumption); (case vy_207 => ktn_no "Sub"))); (case nb_207 => (refine' lst_arr ?vm_207 ?va_207; (case vm_207 => ktn_no "Mem"); (case va_207 => exact VAll.cons sign_vin VAll.nil))); (case np_207 => exact rfl); (case nu_207 => first | ke_room | k_room); k_whole)))))
  (k_with "w:CEnd" => ((fail_if_success k_extra "x328"); ((k_dflt (refine' cend_many ?eF_204 ?eN_204 ?eT_204 ?eO_204 ?eQ_204 ?eV_204; (case eF_204 => k_asm); (case eN_204 => k_asm); (case eT_204 => (repeat' (first | exact tkn_base | refine' tkn_cons ?_ | refine' tkn_app ?_))); (case eO_204 => with_reducible assumption); (case eQ_204 => ((try simp only [List.cons_append, List.append_assoc, List.nil_append, List.append_nil]); ktn_no "Off")); (case eV_204 => ((try simp only [List.cons_append, List.append_assoc, List.nil_append, List.append_nil]); ktn_no "VIn")))))))
  (k_with "w:call ref" => ((fail_if_success k_extra "x329"); ((k_here; (with_reducible show wpAny _ _ (PySem.call (Value.ref 400) _) _ _ _); k_dflt (refine' spUse (pictL _ _ ?q0_203 ?q1_203 _ _ ?q2_203 ?q3_203 _ _ _ _) ?k1_203 ?k2_203 ?k3_203 ?k4_203 ?k5_203 ?k6_203 _ ?ks_203 ?pre_203 ?kd_203 ?ku_203 ?_; (case k1_203 => k_asm); (case k2_203 => k_asm); (case k3_203 => k_asm); (case k4_203 => k_asm); (case k5_203 => k_asm); (case k6_203 => first | exact rfl | assumption); (case ks_203 => exact sl_refl); (case pre_203 => (refine' And.intro ?zx_203 (And.intro ?zy_203 ?zz_203); (case zz_203 => exact rfl); (case zx_203 => (refine' lst_arr ?vm_203 ?va_203; (case vm_203 => ktn_no "Mem"); (case va_203 => (refine' VAll.mono ?vx_203 ?vy_203; (case vx_203 => with_reducible assumption); (case vy_203 => ktn_no "Sub"))))); (case zy_203 => (refine' lst_arr ?vm_203 ?va_203; (case vm_203 => ktn_no "Mem"); (case va_203 => (refine' VAll.mono ?vx_203 ?vy_203; (case vx_203 => with_reducible assumption); (case vy_203 => ktn_no "Sub"))))))); (case q0_203 => with_reducible assumption); (case q1_203 => omega); (case q2_203 => omega); (case q3_203 => omega); (case kd_203 => k_room); (case ku_203 => k_room); k_whole; intro r9 tl9 h9 tk9 lg9 li9 F9 N9 ne9 post9; have hv8 := post9; refine VIn.op (.seq .rest) post9 ?_; clear post9; intro a5065n k5067n vs5066n hal5070n hm5068n hk5069n; (try k_sweep); (try dsimp only); (try k_unmd); (try k_fold))))))
  (k_with "w:call ref" => ((fail_if_success k_extra "x330"); ((k_here; (with_reducible show wpAny _ _ (PySem.call (Value.ref 400) [_, _, Value.int 2 _, Value.int 1 _]) _ _ _); k_dflt (refine' spUse (pictM _ _ ?q0_206 _ _ _ _) ?k1_206 ?k2_206 ?k3_206 ?k4_206 ?k5_206 ?k6_206 _ ?ks_206 ?pre_206 ?kd_206 ?ku_206 ?_; (case k1_206 => k_asm); (case k2_206 => k_asm); (case k3_206 => k_asm); (case k4_206 => k_asm); (case k5_206 => k_asm); (case k6_206 => first | exact rfl | assumption); (case ks_206 => exact sl_refl); (case pre_206 => (refine' And.intro ?zx_206 (And.intro ?zy_206 ?zz_206); (case zz_206 => exact rfl); (case zx_206 => (refine' lst_in ?vm_206 ?va_206; (case vm_206 => ktn_no "Mem"); (case va_206 => (refine' VAll.mono ?vx_206 ?vy_206; (case vx_206 => with_reducible assumption); (case vy_206 => ktn_no "Sub"))))); (case zy_206 => (refine' lst_arr ?vm_206 ?va_206; (case vm_206 => ktn_no "Mem"); (case va_206 => (refine' vall_rep ?vx_206 _; (case vx_206 => ktn_no "VIn"))))))); (case q0_206 => omega); (case kd_206 => k_room); (case ku_206 => k_room); k_whole; intro r9 tl9 h9 tk9 lg9 li9 F9 N9 ne9 post9; have hv8 := post9; refine VIn.op (.seq .rest) post9 ?_; clear post9; intro a5072n k5074n vs5073n hal5077n hm5075n hk5076n; (try k_sweep); (try dsimp only); (try k_unmd); (try k_fold))))))
  (k_with "w:binaryOp Mult ref int" => ((fail_if_success k_extra "x331"); ((k_here; (with_reducible show wpAny _ _ (binaryOp Operator.Mult (Value.ref _) (Value.int (Nat.cast _) _)) _ _ _); k_dflt (refine' mul_rep ?xF_205 ?xN_205 ?xl_205 ?xz_205 ?_; (case xF_205 => k_asm); (case xN_205 => k_asm); (case xl_205 => ktn_no "Mem"); (case xz_205 => omega); k_whole); intro D' h' F' N' l1; (try k_lt l1); (try k_sweep)))))
  trivial
section
set_option maxRecDepth 100000 in
set_option maxHeartbeats 0 in
theorem lawEnd : doneSplit.2.1 := by
  unfold doneSplit
  dsimp -zeta only
  k_fill
  set_option tactic.hygienic false in intros
  unfold Here
  rename LawI _ _ _ _ _ _ _ _ _ _ => hL
  intro h6 tk6 u6 vs6 k6 oc6 oy6 ox6 sc6 sy6 sx6 hoc6 hoy6 hox6 hvs6 F6 N6
  have hg9 := hL.good
  have pk9 := hL.pool
  have hts9 := hL.len
  have hfl9 := fills_le (ks := ts.map Turn.pm)
  rw [List.length_map, hts9] at hfl9
  replace hvs6 := rows_eq hvs6 (by omega)
  clear hL
  ((try k_unmd); (try k_fold); k_steps)
  refine' cmp_many ?up (Mine.V.tup [.str (Str.ofString "fill"), .str (Str.ofString "nonzero"), rectV 0 0 1 1, Mine.V.tup []]) ?uh ?ur ?un ?ux ?uk ?uf ?uN ?uturn ?ufin
  (case up => exact pk9)
  (case uh => exact rfl)
  (case uf => k_asm)
  (case uN => k_asm)
  (case ur => (refine' rng_of ?tn ?th; (case tn => k_asm); (case th => ktn_no "Mem")))
  (case un => omega)
  (case ux => exact rfl)
  (case uk => exact rfl)
  (case uturn =>
    intro i7 t7 tl7 C oC m7 ext7 av7 h7 tk7 E' hi7 hoC hxC hCe F7 N7 off7 hav7 hex7
    ((try k_unmd); (try k_fold); k_steps))
  (case ufin =>
    intro g7 ys7 tl7 hv7
    ((try k_unmd); (try k_fold); k_steps))
end
theorem resetLZ : True := by w_top off; trivial
theorem linesLZ : True := by
  k_with_none
  trivial
section
theorem law : LawT := lawSplit.2.2 ⟨turnSplit.2 ⟨lawTurn⟩⟩ ⟨doneSplit.2.2 ⟨lawRowT⟩ ⟨lawEnd⟩⟩
theorem law0.tw7639406124816373305 : True := trivial
theorem law0.tw14937504029950485366 : True := trivial
theorem law0.tw11100738904498411591 : True := trivial
theorem law0.tw1143871135489802795 : True := trivial
theorem law0.tw3970096734784217494 : True := trivial
theorem law0.tw7607937526690147209 : True := trivial
theorem law0.tw4561561729034917768 : True := trivial
theorem law0.tw8823700931136743518 : True := trivial
theorem law0.tw580402903621318384 : True := trivial
theorem law0.tw15658079990400200462 : True := trivial
theorem law0.tw9106370644419644570 : True := trivial
theorem law0.tw18121475477714518631 : True := trivial
theorem law0.tw7990524779948732366 : True := trivial
theorem law0.tw17060322643916109081 : True := trivial
theorem law0.tw16482494306776878487 : True := trivial
theorem law0.tw3821402484137310781 : True := trivial
theorem law0.tw9790705716845746001 : True := trivial
theorem law0.tw13298795663699361863 : True := trivial
theorem law0.tw8811285888202015372 : True := trivial
theorem law0.tw10638804470103758555 : True := trivial
theorem law0.tw10574968783111339845 : True := trivial
theorem law0.tw2585905329054630142 : True := trivial
theorem law0.tw4481202519914314849 : True := trivial
theorem law0.tw10243675091773315103 : True := trivial
theorem law0.tw12907588007717754026 : True := trivial
theorem law0.tw1120601747542707154 : True := trivial
theorem law0.tw13813049209832515063 : True := trivial
theorem law0.tw7077805863983052617 : True := trivial
theorem law0.tw8721598728829398577 : True := trivial
theorem law0.tw5002331931532664453 : True := trivial
theorem law0.tw5114199050186101605 : True := trivial
theorem law0.tw8534102061822074730 : True := trivial
theorem law0.tw17040400367079689262 : True := trivial
theorem law0.tw4284765048415791295 : True := trivial
theorem law0.tw5119665536910966732 : True := trivial
theorem law0.tw4737207653721729026 : True := trivial
theorem law0.tw1971760986489661492 : True := trivial
theorem law0.tw17032392217455283701 : True := trivial
theorem law0.tw10398291495982506635 : True := trivial
theorem law0.tw18054649212832017133 : True := trivial
theorem law0.tw6848286301176108429 : True := trivial
theorem law0.tw4854118856619766050 : True := trivial
theorem law0.tw16808574446134438158 : True := trivial
theorem law0.tw1301087600333278179 : True := trivial
theorem law0.tw11294410451544581352 : True := trivial
theorem law0.tw13217344302191610192 : True := trivial
theorem law0.tw14339209358556982765 : True := trivial
theorem law0.tw7767183559601821968 : True := trivial
theorem law0.tw2387248126177973573 : True := trivial
theorem law0.tw9645502415899612455 : True := trivial
theorem law0.tw4962522757505427171 : True := trivial
theorem law0.tw17806077935734619701 : True := trivial
theorem law0.tw2870774076158240088 : True := trivial
theorem law0.tw11279332160713150011 : True := trivial
theorem law0.tw17269267974568637587 : True := trivial
theorem law0.tw1256541888418543775 : True := trivial
theorem law0.tw4170698696564580519 : True := trivial
theorem law0.tw1012470812491704163 : True := trivial
theorem law0.tw4612160342394651920 : True := trivial
theorem law0.tw8061837325655190527 : True := trivial
theorem law0.tw17243755711882070545 : True := trivial
theorem law0.tw16365815079679400605 : True := trivial
theorem law0.tw406732618581100268 : True := trivial
theorem law0.tw14768403720961908982 : True := trivial
theorem law0.tw12121318249026566611 : True := trivial
theorem law0.tw17520565913379921954 : True := trivial
theorem law0.tw17475498791739800603 : True := trivial
theorem law0.tw10640730311697556760 : True := trivial
theorem law0.tw683344684444809692 : True := trivial
theorem law0.tw8668630876662886431 : True := trivial
theorem law0.tw12936148741032507619 : True := trivial
theorem law0.tw6511098520777711806 : True := trivial
theorem law0.tw9957872472602079019 : True := trivial
theorem law0.tw5939451988605485103 : True := trivial
theorem law0.tw6898228811242048183 : True := trivial
theorem law0.tw11768607861433844436 : True := trivial
theorem law0.tw10362422835864789747 : True := trivial
theorem law0.tw17166832978769807858 : True := trivial
theorem law0.tw17256165414976335950 : True := trivial
theorem law0.tw16271119650846240727 : True := trivial
theorem law0.tw8435690084547625439 : True := trivial
theorem law0.tw12518874940694051859 : True := trivial
theorem law0.tw4204731671227804059 : True := trivial
theorem law0.tw3195556814979673680 : True := trivial
theorem law0.tw6548944034584603356 : True := trivial
theorem law0.tw3931010722223078194 : True := trivial
theorem law0.tw8092387742102067909 : True := trivial
theorem law0.tw3273024139611784903 : True := trivial
theorem law0.tw14901411054664445431 : True := trivial
theorem law0.tw4901849741008609393 : True := trivial
theorem law0.tw10296725909595943339 : True := trivial
theorem law0.tw2969279790835003084 : True := trivial
theorem law0.tw6256109457577637075 : True := trivial
theorem law0.tw4878174255723778311 : True := trivial
theorem law0.tw14182104752391197219 : True := trivial
theorem law0.tw15396018925762796838 : True := trivial
theorem law0.tw16453817514517916139 : True := trivial
theorem law0.tw14384508155022082502 : True := trivial
theorem law0.tw16255955146399468362 : True := trivial
theorem law0.tw8848493925928239251 : True := trivial
theorem law0.tw3130647335490634437 : True := trivial
theorem law0.tw4461244602327236999 : True := trivial
theorem law0.tw18073406225219371946 : True := trivial
theorem law0.tw8539634873401475426 : True := trivial
theorem law0.tw1250230261030379670 : True := trivial
theorem law0.tw2024550331791334527 : True := trivial
theorem law0.tw2400834441726409510 : True := trivial
theorem law0.tw11036847710331240904 : True := trivial
theorem law0.tw289858469092574169 : True := trivial
theorem law0.tw13974521956536804830 : True := trivial
theorem law0.tw6082462370846908609 : True := trivial
theorem law0.tw10032620121105566045 : True := trivial
theorem law0.tw12179399893007281532 : True := trivial
theorem law0.tw2345004794090384986 : True := trivial
theorem law0.tw16655196608270618420 : True := trivial
theorem law0.tw13726209520415603424 : True := trivial
theorem law0.tw14222045865594920884 : True := trivial
theorem law0.tw12690935760319975772 : True := trivial
theorem law0.tw17769265309602209102 : True := trivial
theorem law0.tw9253683799435313286 : True := trivial
theorem law0.tw97011327422333217 : True := trivial
theorem law0.tw12187896493673951328 : True := trivial
theorem law0.tw18094338034007330530 : True := trivial
theorem law0.tw11941072796341011789 : True := trivial
theorem law0.tw13705220664706776002 : True := trivial
theorem law0.tw17552607062676667121 : True := trivial
theorem law0.tw10930028396939313440 : True := trivial
theorem law0.tw11880619284057773595 : True := trivial
theorem law0.tw6210296940715465124 : True := trivial
theorem law0.tw9191664701150861271 : True := trivial
theorem law0.tw17113863806779207263 : True := trivial
theorem law0.tw11489117911404403429 : True := trivial
theorem law0.tw10632122141816074874 : True := trivial
theorem law0.tw3482451569368453523 : True := trivial
theorem law0.tw13538943877853874382 : True := trivial
theorem law0.tw16264966986630423340 : True := trivial
theorem law0.tw10095480883494231459 : True := trivial
theorem law0.tw12905442778794159604 : True := trivial
theorem law0.tw18374434582272365559 : True := trivial
theorem law0.tw17594945486036861063 : True := trivial
theorem law0.tw8732781603247525935 : True := trivial
theorem law0.tw7336845008441408947 : True := trivial
theorem law0.tw9746241777457074522 : True := trivial
theorem law0.tw4057515594649406518 : True := trivial
theorem law0.tw146156352817040425 : True := trivial
theorem law0.tw15400320650452073477 : True := trivial
theorem law0.tw1572260085071351954 : True := trivial
theorem law0.tw8325049363055077699 : True := trivial
theorem law0.tw10228416958493388419 : True := trivial
theorem law0.tw5415976762292680621 : True := trivial
theorem law0.tw13037445154975419688 : True := trivial
theorem law0.tw15925853844416230114 : True := trivial
theorem law0.tw13609090822235187885 : True := trivial
theorem law0.tw4663366627004655151 : True := trivial
theorem law0.tw3925605507518493404 : True := trivial
theorem law0.tw15581958874973260358 : True := trivial
theorem law0.tw8426834778133437203 : True := trivial
theorem law0.tw1560864682570406453 : True := trivial
theorem law0.tw6393542445638457130 : True := trivial
theorem law0.tw4845757795591933476 : True := trivial
theorem law0.tw11349390854862241673 : True := trivial
theorem law0.tw12914708300935762758 : True := trivial
theorem law0.tw15098190217213594503 : True := trivial
theorem law0.tw11740282413712714646 : True := trivial
theorem law0.tw4350571009898500681 : True := trivial
theorem law0.tw17487462031322022738 : True := trivial
theorem law0.tw11743516832410986192 : True := trivial
theorem law0.tw6934433870043238913 : True := trivial
theorem law0.tw3383080383691934540 : True := trivial
theorem law0.tw8696416252155241285 : True := trivial
theorem law0.tw11244846509269613564 : True := trivial
theorem law0.tw9744488965110276969 : True := trivial
theorem law0.tw5518365810387356747 : True := trivial
theorem law0.tw8741323657634275309 : True := trivial
theorem law0.tw10495193435668566393 : True := trivial
theorem law0.tw6288377990846394384 : True := trivial
theorem law0.tw4777423316363239594 : True := trivial
theorem law0.tw13668072922049362273 : True := trivial
theorem law0.tw16635115964208037963 : True := trivial
theorem law0.tw3270473191983451912 : True := trivial
theorem law0.tw6349018997213617475 : True := trivial
theorem law0.tw15209474424923665710 : True := trivial
theorem law0.tw12760033617824366741 : True := trivial
theorem law0.tw15539889429708838373 : True := trivial
theorem law0.tw11781440929437947442 : True := trivial
theorem law0.tw8564532653089736524 : True := trivial
theorem law0.tw10698895085878880220 : True := trivial
theorem law0.tw5477759606112286231 : True := trivial
theorem law0.tw1148156948500624280 : True := trivial
theorem law0.tw12417697683833045658 : True := trivial
theorem law0.tw12928778544257273783 : True := trivial
theorem law0.tw263368751529485520 : True := trivial
theorem law0.tw592230626558410880 : True := trivial
theorem law0.tw4186683680755608804 : True := trivial
theorem law0.tw15661216235391965819 : True := trivial
theorem law0.tw457584707125716224 : True := trivial
theorem law0.tw12115355804274566541 : True := trivial
theorem law0.tw4975717993037137203 : True := trivial
theorem law0.tw17441776116287734442 : True := trivial
theorem law0.tw13491575879610427701 : True := trivial
theorem law0.tw728762544613829889 : True := trivial
theorem law0.tw1029867904371488340 : True := trivial
theorem law0.tw17131453603766426202 : True := trivial
theorem law0.tw9055424141346860641 : True := trivial
theorem law0.tw17671035210168139024 : True := trivial
theorem law0.tw1113048983786053832 : True := trivial
theorem law0.tw13398523139639869546 : True := trivial
theorem law0.tw7029406129357418648 : True := trivial
theorem law0.tw8768074342612837633 : True := trivial
theorem law0.tw13138766442663531568 : True := trivial
theorem law0.tw6357754386109894475 : True := trivial
theorem law0.tw5612557307416470968 : True := trivial
theorem law0.tw7167304669271956453 : True := trivial
theorem law0.tw10425015170511429681 : True := trivial
theorem law0.tw9095731128961565082 : True := trivial
theorem law0.tw4054983809775569881 : True := trivial
theorem law0.tw9699364687105232913 : True := trivial
theorem law0.tw13709963760737386461 : True := trivial
theorem law0.tw933056323244810274 : True := trivial
theorem law0.tw17510720145201880253 : True := trivial
theorem law0.tw12329313315254369492 : True := trivial
theorem law0.tw5440122548897807150 : True := trivial
theorem law0.tw15558232140933581128 : True := trivial
theorem law0.tw11482298066756889448 : True := trivial
theorem law0.tw5381826499560636667 : True := trivial
theorem law0.tw8536823136808770218 : True := trivial
theorem law0.tw13661154312628583589 : True := trivial
theorem law0.tw9691323953756417837 : True := trivial
theorem law0.tw8228160451886409589 : True := trivial
theorem law0.tw16045430477529018428 : True := trivial
theorem law0.tw1140421731826474158 : True := trivial
theorem law0.tw4090130315669302589 : True := trivial
theorem law0.tw4497690841124745990 : True := trivial
theorem law0.tw11075808383779748141 : True := trivial
theorem law0.tw15504040966046871213 : True := trivial
theorem law0.tw5025593678828415352 : True := trivial
theorem law0.tw15644298317654728097 : True := trivial
theorem law0.tw17982489431699272184 : True := trivial
theorem law0.tw9274311002253135827 : True := trivial
theorem law0.tw6973953932337457085 : True := trivial
theorem law0.tw16968188877876828738 : True := trivial
theorem law0.tw10146772343947262596 : True := trivial
theorem law0.tw6016667800294712410 : True := trivial
theorem law0.tw11807491744446184378 : True := trivial
theorem law0.tw6130985832315650006 : True := trivial
theorem law0.tw15701137439533193855 : True := trivial
theorem law0.tw14272788763499293698 : True := trivial
theorem law0.tw10722740242206101657 : True := trivial
theorem law0.tw4760926238602746080 : True := trivial
theorem law0.tw8061300883978502320 : True := trivial
theorem law0.tw639473187771563341 : True := trivial
theorem law0.tw895686109493235694 : True := trivial
theorem law0.tw8033044512686501878 : True := trivial
theorem law0.tw1610760908340044523 : True := trivial
theorem law0.tw8853725770238395067 : True := trivial
theorem law0.tw16510565966699294474 : True := trivial
theorem law0.tw3339082071947028493 : True := trivial
theorem law0.tw13260206350598397620 : True := trivial
theorem law0.tw1659798432566798892 : True := trivial
theorem law0.tw11968146927376267721 : True := trivial
theorem law0.tw10509397538588029826 : True := trivial
theorem law0.tw289323920926920408 : True := trivial
theorem law0.tw5959803100917200937 : True := trivial
theorem law0.tw3886516943617693102 : True := trivial
theorem law0.tw17814776440076039115 : True := trivial
theorem law0.tw11678702231157683389 : True := trivial
theorem law0.tw16391677862512807954 : True := trivial
theorem law0.tw14482511730175057139 : True := trivial
theorem law0.tw11721474100885778110 : True := trivial
theorem law0.tw5848207159276898234 : True := trivial
theorem law0.tw2432761451093742056 : True := trivial
theorem law0.tw725396219421286547 : True := trivial
theorem law0.tw13963636438348786699 : True := trivial
theorem law0.tw6623399549322444180 : True := trivial
theorem law0.tw14249455553144110659 : True := trivial
theorem law0.tw6045903549345957425 : True := trivial
theorem law0.tw8581138001695752568 : True := trivial
theorem law0.tw15954258749922267880 : True := trivial
theorem law0.tw7801147410584236977 : True := trivial
theorem law0.tw15490146520500397125 : True := trivial
theorem law0.tw7787490541490617941 : True := trivial
theorem law0.tw17013168110424536153 : True := trivial
theorem law0.tw12848170634960922858 : True := trivial
theorem law0.tw12570585773123973062 : True := trivial
theorem law0.tw11079979589425848743 : True := trivial
theorem law0.tw6760053353978620505 : True := trivial
theorem law0.tw1620366084565181 : True := trivial
theorem law0.tw4282332121779080828 : True := trivial
theorem law0.tw5492148337788819266 : True := trivial
theorem law0.tw1816006655830455449 : True := trivial
theorem law0.tw1511544562154037056 : True := trivial
theorem law0.tw7344769075188907917 : True := trivial
theorem law0.tw14151614236255821887 : True := trivial
theorem law0.tw8945475822508080894 : True := trivial
theorem law0.tw8363347024729784745 : True := trivial
theorem law0.tw15674937678839129268 : True := trivial
theorem law0.tw15592796592814307169 : True := trivial
theorem law0.tw1699502032180820545 : True := trivial
theorem law0.tw1750916937534900898 : True := trivial
theorem law0.tw14576423877304278153 : True := trivial
theorem law0.tw7688396677744957350 : True := trivial
theorem law0.tw17449046181744618239 : True := trivial
theorem law0.tw15980337086325442238 : True := trivial
theorem law0.tw6639347798800800660 : True := trivial
theorem law0.tw14434923722173704082 : True := trivial
theorem law0.tw13246404300884090135 : True := trivial
theorem law0.tw1224861732899476550 : True := trivial
theorem law0.tw7594193784959163769 : True := trivial
theorem law0.tw1794121823536959684 : True := trivial
theorem law0.tw6241515457476834934 : True := trivial
theorem law0.tw12077173611834777896 : True := trivial
theorem law0.tw11124415872490299997 : True := trivial
theorem law0.tw5651199925033432619 : True := trivial
theorem law0.tw4164379245637474487 : True := trivial
theorem law0.tw17297040426022239527 : True := trivial
theorem law0.tw16902740794687970784 : True := trivial
theorem law0.tw8169778085295301913 : True := trivial
theorem law0.tw18324102207052972509 : True := trivial
theorem law0.tw8650417762742300654 : True := trivial
theorem law0.tw8993865214624504486 : True := trivial
theorem law0.tw11959361041871765522 : True := trivial
theorem law0.tw15096049168482566556 : True := trivial
theorem law0.tw15604162442191108158 : True := trivial
theorem law0.tw9965426040842941362 : True := trivial
theorem law0.tw1981240897093889685 : True := trivial
theorem law0.tw8847630710544114645 : True := trivial
theorem law0.tw5758735845162950703 : True := trivial
theorem law0.tw7268769024733401268 : True := trivial
theorem law0.tw3434582454841411237 : True := trivial
theorem law0.tw10519158481278488814 : True := trivial
theorem law0.tw1612859565653257706 : True := trivial
theorem law0.tw5948292913123377103 : True := trivial
theorem law0.tw12567413917277387327 : True := trivial
theorem law0.tw937520463590543270 : True := trivial
theorem law0.tw14233094864384590596 : True := trivial
theorem law0.tw5216217320173452620 : True := trivial
theorem law0.tw11184539905663124145 : True := trivial
theorem law0.tw5586566422014233881 : True := trivial
theorem law0.tw16843579158291322015 : True := trivial
theorem law0.tw8502409024445453311 : True := trivial
theorem law0.tw1466521111429940374 : True := trivial
theorem law0.tw12685334502247184692 : True := trivial
theorem law0.tw5572361690901912919 : True := trivial
theorem law0.tw4075999430707963476 : True := trivial
theorem law0.tw5303300865597011080 : True := trivial
theorem law0.tw7186975061929560226 : True := trivial
theorem law0.tw1648573743134891248 : True := trivial
theorem law0.tw15713155829458776652 : True := trivial
theorem law0.tw17487109258656810561 : True := trivial
theorem law0.tw11670579973658460868 : True := trivial
theorem law0.tw334938984278594083 : True := trivial
theorem law0.tw9423096244356068456 : True := trivial
theorem law0.tw3326316516304273019 : True := trivial
theorem law0.tw17381222127576093679 : True := trivial
theorem law0.tw3395613344678616342 : True := trivial
theorem law0.tw1113339125664489831 : True := trivial
theorem law0.tw17296415204380466621 : True := trivial
theorem law0.tw5163654349093044652 : True := trivial
theorem law0.tw14502637881921623089 : True := trivial
theorem law0.tw4275896889816186295 : True := trivial
theorem law0.tw7004839300810321954 : True := trivial
theorem law0.tw15720522073359794044 : True := trivial
theorem law0.tw13887094470469057045 : True := trivial
theorem law0.tw16516802300063895728 : True := trivial
theorem law0.tw242830475430967187 : True := trivial
theorem law0.tw8386381093137330377 : True := trivial
theorem law0.tw15538646976755602108 : True := trivial
theorem law0.tw17805116810125923400 : True := trivial
theorem law0.tw15867905304814998245 : True := trivial
theorem law0.tw4405837867525578729 : True := trivial
theorem law0.tw385648869156053653 : True := trivial
theorem law0.tw15205234438939564417 : True := trivial
theorem law0.tw2103560864816513878 : True := trivial
theorem law0.tw11769744777727433914 : True := trivial
theorem law0.tw3469058355537598690 : True := trivial
theorem law0.tw3701953910418593409 : True := trivial
theorem law0.tw13854614608279854937 : True := trivial
theorem law0.tw17704810439068118663 : True := trivial
theorem law0.tw9234777441205207876 : True := trivial
theorem law0.tw10579325594000092617 : True := trivial
theorem law0.tw8628969197698505031 : True := trivial
theorem law0.tw916933664783632141 : True := trivial
theorem law0.tw1333287347765847669 : True := trivial
theorem law0.tw2744046844789289277 : True := trivial
theorem law0.tw5693048122307196755 : True := trivial
theorem law0.tw9555923757770736567 : True := trivial
theorem law0.tw1090360207944554471 : True := trivial
theorem law0.tw8051031949587765908 : True := trivial
theorem law0.tw12903829019190351280 : True := trivial
theorem law0.tw4571592872686814216 : True := trivial
theorem law0.tw9355614656220279423 : True := trivial
theorem law0.tw14094185149303377795 : True := trivial
theorem law0.tw1365545971563116970 : True := trivial
theorem law0.tw11235163905024454578 : True := trivial
theorem law0.tw2825262767062204201 : True := trivial
theorem law0.tw8132111524018249781 : True := trivial
theorem law0.tw16634044909119717332 : True := trivial
theorem law0.tw9095329318817840553 : True := trivial
theorem law0.tw8949378396715247453 : True := trivial
theorem law0.tw18367183321457360210 : True := trivial
theorem law0.tw13913900303448555893 : True := trivial
theorem law0.tw10370449228678350469 : True := trivial
theorem law0.tw8516599157299696030 : True := trivial
theorem law0.tw6315476539618263395 : True := trivial
theorem law0.tw1920005134880902547 : True := trivial
theorem law0.tw11617937476487697543 : True := trivial
theorem law0.tw6340828899037711153 : True := trivial
theorem law0.tw12445363386462770490 : True := trivial
theorem law0.tw7738846441960369706 : True := trivial
theorem law0.tw3958576831354999733 : True := trivial
theorem law0.tw7503660469446011787 : True := trivial
theorem law0.tw10184597460235263154 : True := trivial
theorem law0.tw7173576350407658487 : True := trivial
theorem law0.tw13191535121604622858 : True := trivial
theorem law0.tw8283855022375279528 : True := trivial
theorem law0.tw10638423611223273120 : True := trivial
theorem law0.tw6012819776628231351 : True := trivial
theorem law0.tw7631227208767884998 : True := trivial
theorem law0.tw10342660765624301627 : True := trivial
theorem law0.tw4927182970050576560 : True := trivial
theorem law0.tw4777488686911143438 : True := trivial
theorem law0.tw941832887711519615 : True := trivial
theorem law0.tw5814044628978598525 : True := trivial
theorem law0.tw2361512705433084800 : True := trivial
theorem law0.tw6696426381134993225 : True := trivial
theorem law0.tw6050021630079543386 : True := trivial
theorem law0.tw1014089360491510555 : True := trivial
theorem law0.tw5756853278724639683 : True := trivial
theorem law0.tw10520613172350448831 : True := trivial
theorem law0.tw4713212355711889015 : True := trivial
theorem law0.tw14290611070207523167 : True := trivial
theorem law0.tw1808313271418205839 : True := trivial
theorem law0.tw16101665688037099658 : True := trivial
theorem law0.tw15155366415528000585 : True := trivial
theorem law0.tw3893947409712690706 : True := trivial
theorem law0.tw15679921803559219214 : True := trivial
theorem law0.tw13236858790507959795 : True := trivial
theorem law0.tw11859431632840310305 : True := trivial
theorem law0.tw14499254527334126155 : True := trivial
theorem law0.tw7890787108813072124 : True := trivial
theorem law0.tw18369454740777806523 : True := trivial
theorem law0.tw16886223664993613692 : True := trivial
theorem law0.tw7975160994723591189 : True := trivial
theorem law0.tw15306539674793857377 : True := trivial
theorem law0.tw3221429205929893152 : True := trivial
theorem law0.tw16373875780119690239 : True := trivial
theorem law0.tw12736088991738443239 : True := trivial
theorem law0.tw1671635544576667785 : True := trivial
theorem law0.tw14022769802701494863 : True := trivial
theorem law0.tw6988337780988868650 : True := trivial
theorem law0.tw8357062748579437083 : True := trivial
theorem law0.tw6521327892170795074 : True := trivial
theorem law0.tw2727131649380120607 : True := trivial
theorem law0.tw8619248468740512260 : True := trivial
theorem law0.tw15559928143493665678 : True := trivial
theorem law0.tw10682867708260657703 : True := trivial
theorem law0.tw14014459566360197110 : True := trivial
theorem law0.tw4003093422367203626 : True := trivial
set_option Elab.async true in
set_option maxRecDepth 100000 in
set_option maxHeartbeats 0 in
theorem law0 : PySem.Challenge.rw_nn0221_01.Holds := by
  w_on
  o_law
  k_head
  case hw => w_witness2
  exact law
end
end Mine
theorem PySem.Challenge.cw_nn0221_01_holds : PySem.Challenge.rw_nn0221_01.Holds :=
  Mine.law0
