import PyProof.Rows.All
import Wide.All
import OpenK.AllK
import Wide.FinOn
import Lean
import PySem.Challenge.RW_pq0153_01
set_option maxRecDepth 100000
set_option maxHeartbeats 0
set_option autoImplicit false
set_option Elab.async false
set_option genSizeOf false
set_option backward.eqns.nonrecursive false
set_option genInjectivity false
set_option bootstrap.genMatcherCode false
set_option compiler.extract_closed false
set_option linter.all false
section
namespace Mine
theorem ex0_2 {A0 A1 : Prop} {P : Prop} (h : A0 ∧ A1) (k : A0 → A1 → P) : P := by obtain ⟨a0, a1⟩ := h; exact k a0 a1
theorem ex0_3 {A0 A1 A2 : Prop} {P : Prop} (h : A0 ∧ A1 ∧ A2) (k : A0 → A1 → A2 → P) : P := by obtain ⟨a0, a1, a2⟩ := h; exact k a0 a1 a2
theorem ex0_4 {A0 A1 A2 A3 : Prop} {P : Prop} (h : A0 ∧ A1 ∧ A2 ∧ A3) (k : A0 → A1 → A2 → A3 → P) : P := by obtain ⟨a0, a1, a2, a3⟩ := h; exact k a0 a1 a2 a3
theorem ex1_1 {α0 : Type} {A0 : α0 → Prop} {P : Prop} (h : ∃ x0, A0 x0) (k : ∀ x0, A0 x0 → P) : P := by obtain ⟨x0, a0⟩ := h; exact k x0 a0
theorem ex1_2 {α0 : Type} {A0 A1 : α0 → Prop} {P : Prop} (h : ∃ x0, A0 x0 ∧ A1 x0) (k : ∀ x0, A0 x0 → A1 x0 → P) : P := by obtain ⟨x0, a0, a1⟩ := h; exact k x0 a0 a1
theorem ex1_3 {α0 : Type} {A0 A1 A2 : α0 → Prop} {P : Prop} (h : ∃ x0, A0 x0 ∧ A1 x0 ∧ A2 x0) (k : ∀ x0, A0 x0 → A1 x0 → A2 x0 → P) : P := by obtain ⟨x0, a0, a1, a2⟩ := h; exact k x0 a0 a1 a2
theorem ex1_4 {α0 : Type} {A0 A1 A2 A3 : α0 → Prop} {P : Prop} (h : ∃ x0, A0 x0 ∧ A1 x0 ∧ A2 x0 ∧ A3 x0) (k : ∀ x0, A0 x0 → A1 x0 → A2 x0 → A3 x0 → P) : P := by obtain ⟨x0, a0, a1, a2, a3⟩ := h; exact k x0 a0 a1 a2 a3
theorem ex2_1 {α0 α1 : Type} {A0 : α0 → α1 → Prop} {P : Prop} (h : ∃ x0 x1, A0 x0 x1) (k : ∀ x0 x1, A0 x0 x1 → P) : P := by obtain ⟨x0, x1, a0⟩ := h; exact k x0 x1 a0
theorem ex2_2 {α0 α1 : Type} {A0 A1 : α0 → α1 → Prop} {P : Prop} (h : ∃ x0 x1, A0 x0 x1 ∧ A1 x0 x1) (k : ∀ x0 x1, A0 x0 x1 → A1 x0 x1 → P) : P := by obtain ⟨x0, x1, a0, a1⟩ := h; exact k x0 x1 a0 a1
theorem ex2_3 {α0 α1 : Type} {A0 A1 A2 : α0 → α1 → Prop} {P : Prop} (h : ∃ x0 x1, A0 x0 x1 ∧ A1 x0 x1 ∧ A2 x0 x1) (k : ∀ x0 x1, A0 x0 x1 → A1 x0 x1 → A2 x0 x1 → P) : P := by obtain ⟨x0, x1, a0, a1, a2⟩ := h; exact k x0 x1 a0 a1 a2
theorem ex2_4 {α0 α1 : Type} {A0 A1 A2 A3 : α0 → α1 → Prop} {P : Prop} (h : ∃ x0 x1, A0 x0 x1 ∧ A1 x0 x1 ∧ A2 x0 x1 ∧ A3 x0 x1) (k : ∀ x0 x1, A0 x0 x1 → A1 x0 x1 → A2 x0 x1 → A3 x0 x1 → P) : P := by obtain ⟨x0, x1, a0, a1, a2, a3⟩ := h; exact k x0 x1 a0 a1 a2 a3
theorem ex2_5 {α0 α1 : Type} {A0 A1 A2 A3 A4 : α0 → α1 → Prop} {P : Prop} (h : ∃ x0 x1, A0 x0 x1 ∧ A1 x0 x1 ∧ A2 x0 x1 ∧ A3 x0 x1 ∧ A4 x0 x1) (k : ∀ x0 x1, A0 x0 x1 → A1 x0 x1 → A2 x0 x1 → A3 x0 x1 → A4 x0 x1 → P) : P := by obtain ⟨x0, x1, a0, a1, a2, a3, a4⟩ := h; exact k x0 x1 a0 a1 a2 a3 a4
theorem ex2_6 {α0 α1 : Type} {A0 A1 A2 A3 A4 A5 : α0 → α1 → Prop} {P : Prop} (h : ∃ x0 x1, A0 x0 x1 ∧ A1 x0 x1 ∧ A2 x0 x1 ∧ A3 x0 x1 ∧ A4 x0 x1 ∧ A5 x0 x1) (k : ∀ x0 x1, A0 x0 x1 → A1 x0 x1 → A2 x0 x1 → A3 x0 x1 → A4 x0 x1 → A5 x0 x1 → P) : P := by obtain ⟨x0, x1, a0, a1, a2, a3, a4, a5⟩ := h; exact k x0 x1 a0 a1 a2 a3 a4 a5
theorem ex2_7 {α0 α1 : Type} {A0 A1 A2 A3 A4 A5 A6 : α0 → α1 → Prop} {P : Prop} (h : ∃ x0 x1, A0 x0 x1 ∧ A1 x0 x1 ∧ A2 x0 x1 ∧ A3 x0 x1 ∧ A4 x0 x1 ∧ A5 x0 x1 ∧ A6 x0 x1) (k : ∀ x0 x1, A0 x0 x1 → A1 x0 x1 → A2 x0 x1 → A3 x0 x1 → A4 x0 x1 → A5 x0 x1 → A6 x0 x1 → P) : P := by obtain ⟨x0, x1, a0, a1, a2, a3, a4, a5, a6⟩ := h; exact k x0 x1 a0 a1 a2 a3 a4 a5 a6
theorem ex3_2 {α0 α1 α2 : Type} {A0 A1 : α0 → α1 → α2 → Prop} {P : Prop} (h : ∃ x0 x1 x2, A0 x0 x1 x2 ∧ A1 x0 x1 x2) (k : ∀ x0 x1 x2, A0 x0 x1 x2 → A1 x0 x1 x2 → P) : P := by obtain ⟨x0, x1, x2, a0, a1⟩ := h; exact k x0 x1 x2 a0 a1
theorem ex3_3 {α0 α1 α2 : Type} {A0 A1 A2 : α0 → α1 → α2 → Prop} {P : Prop} (h : ∃ x0 x1 x2, A0 x0 x1 x2 ∧ A1 x0 x1 x2 ∧ A2 x0 x1 x2) (k : ∀ x0 x1 x2, A0 x0 x1 x2 → A1 x0 x1 x2 → A2 x0 x1 x2 → P) : P := by obtain ⟨x0, x1, x2, a0, a1, a2⟩ := h; exact k x0 x1 x2 a0 a1 a2
theorem ex3_4 {α0 α1 α2 : Type} {A0 A1 A2 A3 : α0 → α1 → α2 → Prop} {P : Prop} (h : ∃ x0 x1 x2, A0 x0 x1 x2 ∧ A1 x0 x1 x2 ∧ A2 x0 x1 x2 ∧ A3 x0 x1 x2) (k : ∀ x0 x1 x2, A0 x0 x1 x2 → A1 x0 x1 x2 → A2 x0 x1 x2 → A3 x0 x1 x2 → P) : P := by obtain ⟨x0, x1, x2, a0, a1, a2, a3⟩ := h; exact k x0 x1 x2 a0 a1 a2 a3
theorem ex3_5 {α0 α1 α2 : Type} {A0 A1 A2 A3 A4 : α0 → α1 → α2 → Prop} {P : Prop} (h : ∃ x0 x1 x2, A0 x0 x1 x2 ∧ A1 x0 x1 x2 ∧ A2 x0 x1 x2 ∧ A3 x0 x1 x2 ∧ A4 x0 x1 x2) (k : ∀ x0 x1 x2, A0 x0 x1 x2 → A1 x0 x1 x2 → A2 x0 x1 x2 → A3 x0 x1 x2 → A4 x0 x1 x2 → P) : P := by obtain ⟨x0, x1, x2, a0, a1, a2, a3, a4⟩ := h; exact k x0 x1 x2 a0 a1 a2 a3 a4
theorem ex3_6 {α0 α1 α2 : Type} {A0 A1 A2 A3 A4 A5 : α0 → α1 → α2 → Prop} {P : Prop} (h : ∃ x0 x1 x2, A0 x0 x1 x2 ∧ A1 x0 x1 x2 ∧ A2 x0 x1 x2 ∧ A3 x0 x1 x2 ∧ A4 x0 x1 x2 ∧ A5 x0 x1 x2) (k : ∀ x0 x1 x2, A0 x0 x1 x2 → A1 x0 x1 x2 → A2 x0 x1 x2 → A3 x0 x1 x2 → A4 x0 x1 x2 → A5 x0 x1 x2 → P) : P := by obtain ⟨x0, x1, x2, a0, a1, a2, a3, a4, a5⟩ := h; exact k x0 x1 x2 a0 a1 a2 a3 a4 a5
theorem ex4_3 {α0 α1 α2 α3 : Type} {A0 A1 A2 : α0 → α1 → α2 → α3 → Prop} {P : Prop} (h : ∃ x0 x1 x2 x3, A0 x0 x1 x2 x3 ∧ A1 x0 x1 x2 x3 ∧ A2 x0 x1 x2 x3) (k : ∀ x0 x1 x2 x3, A0 x0 x1 x2 x3 → A1 x0 x1 x2 x3 → A2 x0 x1 x2 x3 → P) : P := by obtain ⟨x0, x1, x2, x3, a0, a1, a2⟩ := h; exact k x0 x1 x2 x3 a0 a1 a2
theorem ex4_4 {α0 α1 α2 α3 : Type} {A0 A1 A2 A3 : α0 → α1 → α2 → α3 → Prop} {P : Prop} (h : ∃ x0 x1 x2 x3, A0 x0 x1 x2 x3 ∧ A1 x0 x1 x2 x3 ∧ A2 x0 x1 x2 x3 ∧ A3 x0 x1 x2 x3) (k : ∀ x0 x1 x2 x3, A0 x0 x1 x2 x3 → A1 x0 x1 x2 x3 → A2 x0 x1 x2 x3 → A3 x0 x1 x2 x3 → P) : P := by obtain ⟨x0, x1, x2, x3, a0, a1, a2, a3⟩ := h; exact k x0 x1 x2 x3 a0 a1 a2 a3
theorem ex4_6 {α0 α1 α2 α3 : Type} {A0 A1 A2 A3 A4 A5 : α0 → α1 → α2 → α3 → Prop} {P : Prop} (h : ∃ x0 x1 x2 x3, A0 x0 x1 x2 x3 ∧ A1 x0 x1 x2 x3 ∧ A2 x0 x1 x2 x3 ∧ A3 x0 x1 x2 x3 ∧ A4 x0 x1 x2 x3 ∧ A5 x0 x1 x2 x3) (k : ∀ x0 x1 x2 x3, A0 x0 x1 x2 x3 → A1 x0 x1 x2 x3 → A2 x0 x1 x2 x3 → A3 x0 x1 x2 x3 → A4 x0 x1 x2 x3 → A5 x0 x1 x2 x3 → P) : P := by obtain ⟨x0, x1, x2, x3, a0, a1, a2, a3, a4, a5⟩ := h; exact k x0 x1 x2 x3 a0 a1 a2 a3 a4 a5
theorem ex5_5 {α0 α1 α2 α3 α4 : Type} {A0 A1 A2 A3 A4 : α0 → α1 → α2 → α3 → α4 → Prop} {P : Prop} (h : ∃ x0 x1 x2 x3 x4, A0 x0 x1 x2 x3 x4 ∧ A1 x0 x1 x2 x3 x4 ∧ A2 x0 x1 x2 x3 x4 ∧ A3 x0 x1 x2 x3 x4 ∧ A4 x0 x1 x2 x3 x4) (k : ∀ x0 x1 x2 x3 x4, A0 x0 x1 x2 x3 x4 → A1 x0 x1 x2 x3 x4 → A2 x0 x1 x2 x3 x4 → A3 x0 x1 x2 x3 x4 → A4 x0 x1 x2 x3 x4 → P) : P := by obtain ⟨x0, x1, x2, x3, x4, a0, a1, a2, a3, a4⟩ := h; exact k x0 x1 x2 x3 x4 a0 a1 a2 a3 a4
theorem ex5_7 {α0 α1 α2 α3 α4 : Type} {A0 A1 A2 A3 A4 A5 A6 : α0 → α1 → α2 → α3 → α4 → Prop} {P : Prop} (h : ∃ x0 x1 x2 x3 x4, A0 x0 x1 x2 x3 x4 ∧ A1 x0 x1 x2 x3 x4 ∧ A2 x0 x1 x2 x3 x4 ∧ A3 x0 x1 x2 x3 x4 ∧ A4 x0 x1 x2 x3 x4 ∧ A5 x0 x1 x2 x3 x4 ∧ A6 x0 x1 x2 x3 x4) (k : ∀ x0 x1 x2 x3 x4, A0 x0 x1 x2 x3 x4 → A1 x0 x1 x2 x3 x4 → A2 x0 x1 x2 x3 x4 → A3 x0 x1 x2 x3 x4 → A4 x0 x1 x2 x3 x4 → A5 x0 x1 x2 x3 x4 → A6 x0 x1 x2 x3 x4 → P) : P := by obtain ⟨x0, x1, x2, x3, x4, a0, a1, a2, a3, a4, a5, a6⟩ := h; exact k x0 x1 x2 x3 x4 a0 a1 a2 a3 a4 a5 a6
theorem ex6_7 {α0 α1 α2 α3 α4 α5 : Type} {A0 A1 A2 A3 A4 A5 A6 : α0 → α1 → α2 → α3 → α4 → α5 → Prop} {P : Prop} (h : ∃ x0 x1 x2 x3 x4 x5, A0 x0 x1 x2 x3 x4 x5 ∧ A1 x0 x1 x2 x3 x4 x5 ∧ A2 x0 x1 x2 x3 x4 x5 ∧ A3 x0 x1 x2 x3 x4 x5 ∧ A4 x0 x1 x2 x3 x4 x5 ∧ A5 x0 x1 x2 x3 x4 x5 ∧ A6 x0 x1 x2 x3 x4 x5) (k : ∀ x0 x1 x2 x3 x4 x5, A0 x0 x1 x2 x3 x4 x5 → A1 x0 x1 x2 x3 x4 x5 → A2 x0 x1 x2 x3 x4 x5 → A3 x0 x1 x2 x3 x4 x5 → A4 x0 x1 x2 x3 x4 x5 → A5 x0 x1 x2 x3 x4 x5 → A6 x0 x1 x2 x3 x4 x5 → P) : P := by obtain ⟨x0, x1, x2, x3, x4, x5, a0, a1, a2, a3, a4, a5, a6⟩ := h; exact k x0 x1 x2 x3 x4 x5 a0 a1 a2 a3 a4 a5 a6
theorem ex7_2 {α0 α1 α2 α3 α4 α5 α6 : Type} {A0 A1 : α0 → α1 → α2 → α3 → α4 → α5 → α6 → Prop} {P : Prop} (h : ∃ x0 x1 x2 x3 x4 x5 x6, A0 x0 x1 x2 x3 x4 x5 x6 ∧ A1 x0 x1 x2 x3 x4 x5 x6) (k : ∀ x0 x1 x2 x3 x4 x5 x6, A0 x0 x1 x2 x3 x4 x5 x6 → A1 x0 x1 x2 x3 x4 x5 x6 → P) : P := by obtain ⟨x0, x1, x2, x3, x4, x5, x6, a0, a1⟩ := h; exact k x0 x1 x2 x3 x4 x5 x6 a0 a1
theorem ex7_6 {α0 α1 α2 α3 α4 α5 α6 : Type} {A0 A1 A2 A3 A4 A5 : α0 → α1 → α2 → α3 → α4 → α5 → α6 → Prop} {P : Prop} (h : ∃ x0 x1 x2 x3 x4 x5 x6, A0 x0 x1 x2 x3 x4 x5 x6 ∧ A1 x0 x1 x2 x3 x4 x5 x6 ∧ A2 x0 x1 x2 x3 x4 x5 x6 ∧ A3 x0 x1 x2 x3 x4 x5 x6 ∧ A4 x0 x1 x2 x3 x4 x5 x6 ∧ A5 x0 x1 x2 x3 x4 x5 x6) (k : ∀ x0 x1 x2 x3 x4 x5 x6, A0 x0 x1 x2 x3 x4 x5 x6 → A1 x0 x1 x2 x3 x4 x5 x6 → A2 x0 x1 x2 x3 x4 x5 x6 → A3 x0 x1 x2 x3 x4 x5 x6 → A4 x0 x1 x2 x3 x4 x5 x6 → A5 x0 x1 x2 x3 x4 x5 x6 → P) : P := by obtain ⟨x0, x1, x2, x3, x4, x5, x6, a0, a1, a2, a3, a4, a5⟩ := h; exact k x0 x1 x2 x3 x4 x5 x6 a0 a1 a2 a3 a4 a5
theorem ex5_10 {α0 α1 α2 α3 α4 : Type} {A0 A1 A2 A3 A4 A5 A6 A7 A8 A9 : α0 → α1 → α2 → α3 → α4 → Prop} {P : Prop} (h : ∃ x0 x1 x2 x3 x4, A0 x0 x1 x2 x3 x4 ∧ A1 x0 x1 x2 x3 x4 ∧ A2 x0 x1 x2 x3 x4 ∧ A3 x0 x1 x2 x3 x4 ∧ A4 x0 x1 x2 x3 x4 ∧ A5 x0 x1 x2 x3 x4 ∧ A6 x0 x1 x2 x3 x4 ∧ A7 x0 x1 x2 x3 x4 ∧ A8 x0 x1 x2 x3 x4 ∧ A9 x0 x1 x2 x3 x4) (k : ∀ x0 x1 x2 x3 x4, A0 x0 x1 x2 x3 x4 → A1 x0 x1 x2 x3 x4 → A2 x0 x1 x2 x3 x4 → A3 x0 x1 x2 x3 x4 → A4 x0 x1 x2 x3 x4 → A5 x0 x1 x2 x3 x4 → A6 x0 x1 x2 x3 x4 → A7 x0 x1 x2 x3 x4 → A8 x0 x1 x2 x3 x4 → A9 x0 x1 x2 x3 x4 → P) : P := by obtain ⟨x0, x1, x2, x3, x4, a0, a1, a2, a3, a4, a5, a6, a7, a8, a9⟩ := h; exact k x0 x1 x2 x3 x4 a0 a1 a2 a3 a4 a5 a6 a7 a8 a9
end Mine
end
section
open PySem PySem.W PyProof.Rows PySem.Calls
namespace MineH
noncomputable section
noncomputable abbrev pg : Program := PySem.Challenge.rw_pq0153_01.row.toRowW.prog
noncomputable def nth : List Stmt → Nat → Stmt
  | [], _ => .Pass ⟨0, 0, 0, 0⟩
  | x :: _, 0 => x
  | _ :: l, n + 1 => nth l n
noncomputable def inner : Stmt → List Stmt
  | .FunctionDef _ _ b _ _ _ _ _ _ _ => b
  | .ClassDef _ _ _ b _ _ _ _ _ _ _ => b
  | _ => []
noncomputable def stAt : List Stmt → List Nat → Stmt
  | _, [] => .Pass ⟨0, 0, 0, 0⟩
  | l, [k] => nth l k
  | l, k :: r => stAt (inner (nth l k)) r
noncomputable def prmOf : Stmt → Arguments
  | .FunctionDef _ args _ _ _ _ _ _ _ _ => args
  | _ => ⟨[], [], none, [], [], none, []⟩
noncomputable def scpOf : Stmt → Scope
  | .FunctionDef _ _ _ _ _ _ scope _ _ _ => scope
  | _ => pg.main.scope
noncomputable def prm (p : List Nat) : Arguments := prmOf (stAt pg.main.body p)
noncomputable def bdy (p : List Nat) : List Stmt := inner (stAt pg.main.body p)
noncomputable def scp (p : List Nat) : Scope := scpOf (stAt pg.main.body p)
noncomputable abbrev fo (name qual : String) (p : List Nat) (dV pm cdv ct : Value) (cl : List (Str × Addr)) : Obj :=
  { cls := .type "function", data := .func { name := Str.ofString name, qualname := Str.ofString qual, params := prm p, body := .stmts (bdy p), scope := scp p, globals := 3, closure := cl, defaults := dV, kwdefaults := .none, pyModule := pm, code := cdv, closureTuple := ct } }
noncomputable def fdOf (q : String) : Stmt → FuncData
  | .FunctionDef name args b _ _ _ scope _ _ _ => { name, qualname := Str.ofString q, params := args, body := .stmts b, scope, globals := 3, closure := [], defaults := .none, kwdefaults := .none }
  | _ => default
noncomputable def fd (p : List Nat) (q : String) : FuncData := fdOf q (stAt pg.main.body p)
noncomputable def ff (p : List Nat) (q : String) : Obj := { cls := .none, data := .func { fd p q with globals := 0 } }
noncomputable abbrev s (x : String) (t : Nat) : Value := .str (Str.ofString x) t
noncomputable abbrev i (n : Int) (t : Nat) : Value := .int n t
noncomputable abbrev r (a : Addr) : Value := .ref a
noncomputable def tu (l : List Value) : Obj := { cls := .type "tuple", data := .seq l.toArray }
noncomputable def fl (l : List Value) : Obj := { cls := .none, data := .fields l.toArray }
noncomputable def cd (l : List Value) : Obj := { cls := .type "code", data := .fields l.toArray }
noncomputable def e (P : Params) (x : String) (t : Nat) (v : Value) : DictEntry := ⟨PyData.keyHash P (Str.ofString x), .str (Str.ofString x) t, v⟩
noncomputable def N (o : Params → Obj) (l r : Params → BT) : Params → BT := fun P => .node (o P) (l P) (r P)
noncomputable def L (o : Params → Obj) : Params → BT := fun P => .node (o P) .nil .nil
noncomputable def E : Params → BT := fun _ => .nil
noncomputable def M (a b c : Params → Obj) : Params → BT := N a (L b) (L c)
noncomputable abbrev z (t : Nat) : Value := s "/claim/cut.py" t
noncomputable def gl (P : Params) : List DictEntry := [e P "__doc__" 166 .none, e P "__package__" 167 .none, e P "__loader__" 168 (.builtin "__main__.__loader__#opaque"), e P "__spec__" 169 .none, e P "__annotations__" 170 (r 6), e P "__builtins__" 171 (r 4), e P "__file__" 173 (z 172), e P "__cached__" 174 .none, e P "MOST_TEXT" 190 (i 255 189), e P "MOST_EXPONENT" 192 (i 99 191), e P "BasicError" 226 (r 34), e P "kind_of" 233 (r 44), e P "figures_of" 242 (r 51), e P "rounded_by" 253 (r 58), e P "made" 265 (r 65), e P "whole_near" 275 (r 72), e P "fits" 283 (r 79), e P "whole_of" 292 (r 86), e P "decimal_of" 300 (r 93), e P "checked_text" 307 (r 100), e P "is_nought" 314 (r 107), e P "is_true" 321 (r 114), e P "truth" 328 (r 121), e P "sign_of" 336 (r 128), e P "ONE" 341 (r 129), e P "MOST_POWER" 343 (i 9999 342), e P "d_negated" 350 (r 136), e P "alike" 359 (r 143), e P "d_add" 371 (r 150), e P "d_sub" 380 (r 157), e P "d_mul" 389 (r 164), e P "with_rest" 398 (r 171), e P "d_div" 412 (r 178), e P "d_compare" 423 (r 185), e P "d_power" 435 (r 192), e P "square_or_end" 443 (r 199), e P "is_whole" 452 (r 206), e P "settled" 461 (r 213), e P "whole_reckoned" 472 (r 220), e P "cut_quotient" 481 (r 227), e P "cut_rest" 489 (r 234), e P "exponent_of" 496 (r 241), e P "whole_power" 506 (r 248), e P "raised" 517 (r 255), e P "reckoned" 533 (r 262), e P "negated" 542 (r 269), e P "order_of" 550 (r 276), e P "inverted" 558 (r 283), e P "logic" 570 (r 290), e P "LOGIC" 578 (r 291), e P "COMPARISONS" 585 (r 292), e P "order_of_texts" 593 (r 299), e P "compared" 601 (r 306), e P "worth_of_texts" 610 (r 313), e P "worth_of_two" 616 (r 318), e P "worth_of_one" 626 (r 325), e P "worth_of_leaf" 637 (r 332), e P "LEAVES" 643 (r 333), e P "RowCode" 674 (r 350), e P "leaf_order" 683 (r 361), e P "expression_orders" 696 (r 368), e P "target_orders" 708 (r 375), e P "row_orders" 721 (r 382), e P "led_to" 732 (r 389), e P "compile_rows" 745 (r 396), e P "moved_orders" 753 (r 401), e P "rows_left" 759 (r 406), e P "drop_rows" 765 (r 411), e P "Flat" 800 (r 428), e P "put_row_of" 809 (r 439), e P "put_if" 820 (r 446), e P "put_all" 830 (r 453), e P "gather" 846 (r 460), e P "join_rows" 856 (r 467), e P "end_loops" 867 (r 474), e P "flatten" 877 (r 481), e P "place_of" 885 (r 488), e P "line_of" 893 (r 495), e P "end_of_while" 901 (r 502), e P "next_of_for" 909 (r 509), e P "MOST_NUMBER" 913 (i 255 912), e P "Control" 944 (r 526), e P "put_upon" 952 (r 537), e P "floor_of" 960 (r 544), e P "found_at" 970 (r 551), e P "cut_to" 978 (r 558), e P "is_past" 988 (r 565), e P "for_begin" 1000 (r 572), e P "for_name" 1009 (r 579), e P "for_next" 1026 (r 586), e P "while_begin" 1032 (r 591), e P "while_end" 1038 (r 596), e P "wend_place" 1048 (r 604), e P "gosub" 1056 (r 611), e P "return_place" 1065 (r 618), e P "chosen" 1073 (r 625), e P "JUMPS" 1082 (r 626), e P "do_flow" 1091 (r 633), e P "do_jump" 1105 (r 640), e P "do_loop" 1115 (r 647), e P "do_for" 1136 (r 654), e P "next_from" 1149 (r 661), e P "FlowRun" 1242 (r 720), e P "PlainHooks" 1324 (r 776), e P "RowWays" 1363 (r 797), e P "RowRun" 1461 (r 853), e P "_law_next" 1471 (r 864), e P "_law_worth" 1481 (r 871), e P "_law_part" 1487 (r 876), e P "_law_by_orders" 1500 (r 883), e P "law" 1506 (r 888)]
noncomputable def d3 (P : Params) (v : Value) (n : Nat) : Obj := { cls := (.type "dict"), data := .dict (e P "__name__" 165 v :: (gl P).take n).toArray (n + 1) }
noncomputable def ml : List Value := [(i 4 0), (i 0 0), (r 21), (i 10 0), (i 0 0), (r 43), (i 14 0), (i 0 0), (r 50), (i 20 0), (i 0 0), (r 57), (i 30 0), (i 0 0), (r 64), (i 45 0), (i 0 0), (r 71), (i 51 0), (i 0 0), (r 78), (i 53 0), (i 0 0), (r 85), (i 60 0), (i 0 0), (r 92), (i 64 0), (i 0 0), (r 99), (i 68 0), (i 0 0), (r 106), (i 72 0), (i 0 0), (r 113), (i 74 0), (i 0 0), (r 120), (i 76 0), (i 0 0), (r 127), (i 84 0), (i 0 0), (r 135), (i 86 0), (i 0 0), (r 142), (i 89 0), (i 0 0), (r 149), (i 92 0), (i 0 0), (r 156), (i 94 0), (i 0 0), (r 163), (i 96 0), (i 0 0), (r 170), (i 98 0), (i 0 0), (r 177), (i 106 0), (i 0 0), (r 184), (i 109 0), (i 0 0), (r 191), (i 123 0), (i 0 0), (r 198), (i 126 0), (i 0 0), (r 205), (i 130 0), (i 0 0), (r 212), (i 132 0), (i 0 0), (r 219), (i 136 0), (i 0 0), (r 226), (i 141 0), (i 0 0), (r 233), (i 143 0), (i 0 0), (r 240), (i 149 0), (i 0 0), (r 247), (i 155 0), (i 0 0), (r 254), (i 160 0), (i 0 0), (r 261), (i 175 0), (i 0 0), (r 268), (i 177 0), (i 0 0), (r 275), (i 183 0), (i 0 0), (r 282), (i 185 0), (i 0 0), (r 289), (i 197 0), (i 0 0), (r 298), (i 199 0), (i 0 0), (r 305), (i 205 0), (i 0 0), (r 312), (i 211 0), (i 0 0), (r 317), (i 222 0), (i 0 0), (r 324), (i 226 0), (i 0 0), (r 331), (i 233 0), (i 0 0), (r 339), (i 238 0), (i 0 0), (r 360), (i 243 0), (i 0 0), (r 367), (i 263 0), (i 0 0), (r 374), (i 270 0), (i 0 0), (r 381), (i 284 0), (i 0 0), (r 388), (i 291 0), (i 0 0), (r 395), (i 299 0), (i 0 0), (r 400), (i 306 0), (i 0 0), (r 405), (i 317 0), (i 0 0), (r 410), (i 330 0), (i 0 0), (r 417), (i 339 0), (i 0 0), (r 438), (i 342 0), (i 0 0), (r 445), (i 352 0), (i 0 0), (r 452), (i 358 0), (i 0 0), (r 459), (i 380 0), (i 0 0), (r 466), (i 385 0), (i 0 0), (r 473), (i 389 0), (i 0 0), (r 480), (i 398 0), (i 0 0), (r 487), (i 402 0), (i 0 0), (r 494), (i 404 0), (i 0 0), (r 501), (i 408 0), (i 0 0), (r 508), (i 414 0), (i 0 0), (r 515), (i 420 0), (i 0 0), (r 536), (i 424 0), (i 0 0), (r 543), (i 429 0), (i 0 0), (r 550), (i 434 0), (i 0 0), (r 557), (i 436 0), (i 0 0), (r 564), (i 438 0), (i 0 0), (r 571), (i 443 0), (i 0 0), (r 578), (i 448 0), (i 0 0), (r 585), (i 459 0), (i 0 0), (r 590), (i 466 0), (i 0 0), (r 595), (i 471 0), (i 0 0), (r 603), (i 477 0), (i 0 0), (r 610), (i 479 0), (i 0 0), (r 617), (i 486 0), (i 0 0), (r 624), (i 492 0), (i 0 0), (r 632), (i 494 0), (i 0 0), (r 639), (i 513 0), (i 0 0), (r 646), (i 526 0), (i 0 0), (r 653), (i 540 0), (i 0 0), (r 660), (i 548 0), (i 0 0), (r 667), (i 592 0), (i 0 0), (r 730), (i 622 0), (i 0 0), (r 786), (i 630 0), (i 0 0), (r 807), (i 709 0), (i 0 0), (r 863), (i 714 0), (i 0 0), (r 870), (i 721 0), (i 0 0), (r 875), (i 737 0), (i 0 0), (r 882), (i 750 0), (i 0 0), (r 887)]
noncomputable def co (a q : String) (t l p o k n r1 : Nat) (b : Bool) (r2 : Nat) (v w x y : Value) (u : Nat) : Obj := cd [s a t, s q (t + 1), z (t + 2), i (.ofNat l) 0, i (.ofNat p) 0, i (.ofNat o) 0, i (.ofNat k) 0, i (.ofNat n) 0, r r1, .bool b, i 181 0, r r2, v, w, x, y, i (.ofNat u) 0, i (.ofNat l) 0, z (u + 1)]
def o11 (P : Params) : Obj := tu []
def o12 (P : Params) : Obj := fl []
def o13 (P : Params) : Obj := co "<module>" "<module>" 182 1 0 0 0 0 11 false 12 .none .none .none .none 185
def o14 (P : Params) : Obj := { cls := (.type "frame"), slots := #[some (r 13), some (r 3), some (r 3), none, some (s "__main__" 164), none, some (r 0)] }
def t0 : Params → BT := (N boot_o_0 (N boot_o_1 (M boot_o_3 boot_o_7 o11) (M boot_o_5 boot_o_9 o13)) (N boot_o_2 (M boot_o_4 boot_o_8 o12) (M boot_o_6 boot_o_10 o14)))
def o2 (P : Params) : Obj := { cls := .none, data := .dict #[e P "type.__subclasses__.Exception.0" 223 (i 34 0), e P "type.__subclasses__.Exception.n" 224 (i 1 0)] 2 }
def o3 (P : Params) : Obj := d3 P (s "basicplus.values" 187) 22
def o12v1 (P : Params) : Obj := fl (ml.take 36)
def o15 (P : Params) : Obj := tu [(.type "Exception")]
def o16 (P : Params) : Obj := { cls := (.type "builtin_function_or_method"), data := .fields #[(.builtin "type.__prepare__"), (.type "type")] }
def o17 (P : Params) : Obj := { cls := (.type "dict"), data := .dict #[e P "__module__" 200 (s "basicplus.values" 187), e P "__qualname__" 202 (s "BasicError" 201), e P "__firstlineno__" 204 (i 4 203), e P "__init__" 215 (r 31), e P "__static_attributes__" 218 (r 32), e P "__classcell__" 219 (r 18)] 6 }
def o18 (P : Params) : Obj := { cls := (.type "cell"), data := .cell (some (r 34)) }
def o20 (P : Params) : Obj := fl [(i 6 0), (i 4 0), (r 30)]
def o21 (P : Params) : Obj := co "BasicError" "BasicError" 195 4 0 0 0 0 19 false 20 .none .none .none .none 198
def o22 (P : Params) : Obj := { cls := (.type "frame"), slots := #[some (r 21), some (r 3), some (r 17), none, some (s "basicplus.values" 187), none, some (r 0)] }
def o23 (P : Params) : Obj := tu [(s "" 205)]
def o24 (P : Params) : Obj := tu [(r 18)]
def o25 (P : Params) : Obj := tu [(s "__class__" 209)]
def o27 (P : Params) : Obj := tu [(s "self" 210), (s "code" 211), (s "told" 212)]
def o29 (P : Params) : Obj := ff [3, 0] "BasicError.__init__"
def o30 (P : Params) : Obj := co "__init__" "BasicError.__init__" 206 6 3 0 0 3 25 true 26 .none (r 27) (r 28) (r 29) 213
def o31 (P : Params) : Obj := fo "__init__" "BasicError.__init__" [3, 0] (r 23) (s "basicplus.values" 187) (r 30) (r 24) [("__class__", 18)]
def o32 (P : Params) : Obj := tu [(s "code" 216), (s "told" 217)]
def o33 (P : Params) : Obj := { cls := (.type "dict"), data := .dict #[e P "__module__" 200 (s "basicplus.values" 187), e P "__firstlineno__" 204 (i 4 203), e P "__init__" 215 (r 31), e P "__static_attributes__" 218 (r 32), e P "__weakref__" 221 (r 35), e P "__doc__" 222 .none] 4 }
def o34 (P : Params) : Obj := { cls := (.type "type"), data := .cls { name := "BasicError", bases := [(.type "Exception")], mro := [(r 34), (.type "Exception"), (.type "BaseException"), (.type "object")], ns := 33, qualname := "BasicError" }, slots := #[some (r 15), none, some (s "BasicError" 193), some (s "BasicError" 201), some (.builtin "Exception.__new__"), some (.bool true)] }
def o35 (P : Params) : Obj := { cls := (.type "getset_descriptor"), data := .fields #[(s "__weakref__" 220), (r 34), (.builtin "ExceptionGroup.__weakref__"), .none] }
def o36 (P : Params) : Obj := { cls := (.type "super"), data := .fields #[(r 34), (r 34), (r 34)] }
def o37 (P : Params) : Obj := { cls := (.type "builtin_function_or_method"), data := .fields #[(.builtin "object.__init_subclass__"), (r 34)] }
def o40 (P : Params) : Obj := tu [(s "value" 230)]
def o42 (P : Params) : Obj := ff [4] "kind_of"
def o43 (P : Params) : Obj := co "kind_of" "kind_of" 227 10 1 0 0 3 38 true 39 .none (r 40) (r 41) (r 42) 231
def o44 (P : Params) : Obj := fo "kind_of" "kind_of" [4] .none (s "basicplus.values" 187) (r 43) .none []
def o47 (P : Params) : Obj := tu [(s "number" 237), (s "many" 238), (s "bound" 239)]
def o49 (P : Params) : Obj := ff [5] "figures_of"
def o50 (P : Params) : Obj := co "figures_of" "figures_of" 234 14 1 0 0 3 45 true 46 .none (r 47) (r 48) (r 49) 240
def o51 (P : Params) : Obj := fo "figures_of" "figures_of" [5] .none (s "basicplus.values" 187) (r 50) .none []
def o54 (P : Params) : Obj := tu [(s "number" 246), (s "places" 247), (s "unit" 248), (s "found" 249), (s "rest" 250)]
def o56 (P : Params) : Obj := ff [6] "rounded_by"
def o57 (P : Params) : Obj := co "rounded_by" "rounded_by" 243 20 2 0 0 3 52 true 53 .none (r 54) (r 55) (r 56) 251
def o58 (P : Params) : Obj := fo "rounded_by" "rounded_by" [6] .none (s "basicplus.values" 187) (r 57) .none []
def o61 (P : Params) : Obj := tu [(s "coefficient" 257), (s "exponent" 258), (s "digits" 259), (s "size" 260), (s "more" 261), (s "first" 262)]
def o63 (P : Params) : Obj := ff [7] "made"
def o64 (P : Params) : Obj := co "made" "made" 254 30 3 0 0 3 59 true 60 .none (r 61) (r 62) (r 63) 263
def o65 (P : Params) : Obj := fo "made" "made" [7] .none (s "basicplus.values" 187) (r 64) .none []
def o68 (P : Params) : Obj := tu [(s "value" 269), (s "coefficient" 270), (s "exponent" 271), (s "size" 272)]
def o70 (P : Params) : Obj := ff [8] "whole_near"
def o71 (P : Params) : Obj := co "whole_near" "whole_near" 266 45 1 0 0 3 66 true 67 .none (r 68) (r 69) (r 70) 273
def o72 (P : Params) : Obj := fo "whole_near" "whole_near" [8] .none (s "basicplus.values" 187) (r 71) .none []
def o75 (P : Params) : Obj := tu [(s "number" 279), (s "bits" 280)]
def o77 (P : Params) : Obj := ff [9] "fits"
def o78 (P : Params) : Obj := co "fits" "fits" 276 51 2 0 0 3 73 true 74 .none (r 75) (r 76) (r 77) 281
def o79 (P : Params) : Obj := fo "fits" "fits" [9] .none (s "basicplus.values" 187) (r 78) .none []
def o82 (P : Params) : Obj := tu [(s "value" 287), (s "bits" 288), (s "number" 289)]
def o84 (P : Params) : Obj := ff [10] "whole_of"
def o85 (P : Params) : Obj := co "whole_of" "whole_of" 284 53 2 0 0 3 80 true 81 .none (r 82) (r 83) (r 84) 290
def o86 (P : Params) : Obj := fo "whole_of" "whole_of" [10] .none (s "basicplus.values" 187) (r 85) .none []
def o89 (P : Params) : Obj := tu [(s "value" 296), (s "digits" 297)]
def o91 (P : Params) : Obj := ff [11] "decimal_of"
def o92 (P : Params) : Obj := co "decimal_of" "decimal_of" 293 60 2 0 0 3 87 true 88 .none (r 89) (r 90) (r 91) 298
def o93 (P : Params) : Obj := fo "decimal_of" "decimal_of" [11] .none (s "basicplus.values" 187) (r 92) .none []
def o96 (P : Params) : Obj := tu [(s "text" 304)]
def o98 (P : Params) : Obj := ff [12] "checked_text"
def o99 (P : Params) : Obj := co "checked_text" "checked_text" 301 64 1 0 0 3 94 true 95 .none (r 96) (r 97) (r 98) 305
def o100 (P : Params) : Obj := fo "checked_text" "checked_text" [12] .none (s "basicplus.values" 187) (r 99) .none []
def o103 (P : Params) : Obj := tu [(s "value" 311)]
def o105 (P : Params) : Obj := ff [13] "is_nought"
def o106 (P : Params) : Obj := co "is_nought" "is_nought" 308 68 1 0 0 3 101 true 102 .none (r 103) (r 104) (r 105) 312
def o107 (P : Params) : Obj := fo "is_nought" "is_nought" [13] .none (s "basicplus.values" 187) (r 106) .none []
def o110 (P : Params) : Obj := tu [(s "value" 318)]
def o112 (P : Params) : Obj := ff [14] "is_true"
def o113 (P : Params) : Obj := co "is_true" "is_true" 315 72 1 0 0 3 108 true 109 .none (r 110) (r 111) (r 112) 319
def o114 (P : Params) : Obj := fo "is_true" "is_true" [14] .none (s "basicplus.values" 187) (r 113) .none []
def t1 : Params → BT := (N boot_o_0 (N boot_o_1 (N o3 (N boot_o_7 (N o15 (M o31 o63 o12) (M o47 o79 o11)) (N o23 (M o12 o71 o103) (N o11 (L o11) E))) (N o11 (N o11 (M o35 o12 o99) (N o51 (L o11) E)) (N o27 (M o43 o75 o107) (N o11 (L o91) E)))) (N boot_o_5 (N boot_o_9 (N o17 (M o33 o65 o11) (M o49 o12 o113)) (N o25 (M o11 o11 o105) (N o57 (L o89) E))) (N o13 (N o21 (M o37 o11 o11) (N o12 (L o85) E)) (N o29 (M o11 o77 o12) (N o61 (L o93) E))))) (N o2 (N boot_o_4 (N boot_o_8 (N o16 (M o32 o64 o96) (M o11 o11 o112)) (N o24 (M o40 o72 o11) (N o56 (L o12) E))) (N o12v1 (N o20 (M o36 o68 o100) (N o11 (L o84) E)) (N o11 (M o44 o11 o11) (N o12 (L o92) E)))) (N boot_o_6 (N boot_o_10 (N o18 (M o34 o11 o98) (M o50 o82 o114)) (N o12 (M o42 o12 o106) (N o58 (L o11) E))) (N o14 (N o22 (M o11 o70 o12) (N o54 (L o86) E)) (N o30 (M o12 o78 o110) (N o11 (L o11) E))))))
def o3v1 (P : Params) : Obj := d3 P (s "basicplus.arith" 444) 42
def o12v2 (P : Params) : Obj := fl (ml.take 90)
def o117 (P : Params) : Obj := tu [(s "is_so" 325)]
def o119 (P : Params) : Obj := ff [15] "truth"
def o120 (P : Params) : Obj := co "truth" "truth" 322 74 1 0 0 3 115 true 116 .none (r 117) (r 118) (r 119) 326
def o121 (P : Params) : Obj := fo "truth" "truth" [15] .none (s "basicplus.values" 187) (r 120) .none []
def o124 (P : Params) : Obj := tu [(s "value" 332), (s "size" 333)]
def o126 (P : Params) : Obj := ff [16] "sign_of"
def o127 (P : Params) : Obj := co "sign_of" "sign_of" 329 76 1 0 0 3 122 true 123 .none (r 124) (r 125) (r 126) 334
def o128 (P : Params) : Obj := fo "sign_of" "sign_of" [16] .none (s "basicplus.values" 187) (r 127) .none []
def o129 (P : Params) : Obj := tu [(i 1 339), (i 0 340)]
def o132 (P : Params) : Obj := tu [(s "a" 347)]
def o134 (P : Params) : Obj := ff [20] "d_negated"
def o135 (P : Params) : Obj := co "d_negated" "d_negated" 344 84 1 0 0 3 130 true 131 .none (r 132) (r 133) (r 134) 348
def o136 (P : Params) : Obj := fo "d_negated" "d_negated" [20] .none (s "basicplus.decimals" 337) (r 135) .none []
def o139 (P : Params) : Obj := tu [(s "a" 354), (s "b" 355), (s "least" 356)]
def o141 (P : Params) : Obj := ff [21] "alike"
def o142 (P : Params) : Obj := co "alike" "alike" 351 86 2 0 0 3 137 true 138 .none (r 139) (r 140) (r 141) 357
def o143 (P : Params) : Obj := fo "alike" "alike" [21] .none (s "basicplus.decimals" 337) (r 142) .none []
def o146 (P : Params) : Obj := tu [(s "a" 363), (s "b" 364), (s "digits" 365), (s "one" 366), (s "other" 367), (s "exponent" 368)]
def o148 (P : Params) : Obj := ff [22] "d_add"
def o149 (P : Params) : Obj := co "d_add" "d_add" 360 89 3 0 0 3 144 true 145 .none (r 146) (r 147) (r 148) 369
def o150 (P : Params) : Obj := fo "d_add" "d_add" [22] .none (s "basicplus.decimals" 337) (r 149) .none []
def o153 (P : Params) : Obj := tu [(s "a" 375), (s "b" 376), (s "digits" 377)]
def o155 (P : Params) : Obj := ff [23] "d_sub"
def o156 (P : Params) : Obj := co "d_sub" "d_sub" 372 92 3 0 0 3 151 true 152 .none (r 153) (r 154) (r 155) 378
def o157 (P : Params) : Obj := fo "d_sub" "d_sub" [23] .none (s "basicplus.decimals" 337) (r 156) .none []
def o160 (P : Params) : Obj := tu [(s "a" 384), (s "b" 385), (s "digits" 386)]
def o162 (P : Params) : Obj := ff [24] "d_mul"
def o163 (P : Params) : Obj := co "d_mul" "d_mul" 381 94 3 0 0 3 158 true 159 .none (r 160) (r 161) (r 162) 387
def o164 (P : Params) : Obj := fo "d_mul" "d_mul" [24] .none (s "basicplus.decimals" 337) (r 163) .none []
def o167 (P : Params) : Obj := tu [(s "whole" 393), (s "rest" 394), (s "exponent" 395)]
def o169 (P : Params) : Obj := ff [25] "with_rest"
def o170 (P : Params) : Obj := co "with_rest" "with_rest" 390 96 3 0 0 3 165 true 166 .none (r 167) (r 168) (r 169) 396
def o171 (P : Params) : Obj := fo "with_rest" "with_rest" [25] .none (s "basicplus.decimals" 337) (r 170) .none []
def o174 (P : Params) : Obj := tu [(s "a" 402), (s "b" 403), (s "digits" 404), (s "size" 405), (s "below" 406), (s "places" 407), (s "whole" 408), (s "exponent" 409)]
def o176 (P : Params) : Obj := ff [26] "d_div"
def o177 (P : Params) : Obj := co "d_div" "d_div" 399 98 3 0 0 3 172 true 173 .none (r 174) (r 175) (r 176) 410
def o178 (P : Params) : Obj := fo "d_div" "d_div" [26] .none (s "basicplus.decimals" 337) (r 177) .none []
def o181 (P : Params) : Obj := tu [(s "a" 416), (s "b" 417), (s "one" 418), (s "other" 419), (s "exponent" 420)]
def o183 (P : Params) : Obj := ff [27] "d_compare"
def o184 (P : Params) : Obj := co "d_compare" "d_compare" 413 106 2 0 0 3 179 true 180 .none (r 181) (r 182) (r 183) 421
def o185 (P : Params) : Obj := fo "d_compare" "d_compare" [27] .none (s "basicplus.decimals" 337) (r 184) .none []
def o188 (P : Params) : Obj := tu [(s "a" 427), (s "n" 428), (s "digits" 429), (s "work" 430), (s "found" 431), (s "left" 432)]
def o190 (P : Params) : Obj := ff [28] "d_power"
def o191 (P : Params) : Obj := co "d_power" "d_power" 424 109 3 0 0 3 186 true 187 .none (r 188) (r 189) (r 190) 433
def o192 (P : Params) : Obj := fo "d_power" "d_power" [28] .none (s "basicplus.decimals" 337) (r 191) .none []
def o195 (P : Params) : Obj := tu [(s "a" 439), (s "work" 440)]
def o197 (P : Params) : Obj := ff [29] "square_or_end"
def o198 (P : Params) : Obj := co "square_or_end" "square_or_end" 436 123 2 0 0 3 193 true 194 .none (r 195) (r 196) (r 197) 441
def o199 (P : Params) : Obj := fo "square_or_end" "square_or_end" [29] .none (s "basicplus.decimals" 337) (r 198) .none []
def o202 (P : Params) : Obj := tu [(s "value" 449)]
def o204 (P : Params) : Obj := ff [31] "is_whole"
def o205 (P : Params) : Obj := co "is_whole" "is_whole" 446 126 1 0 0 3 200 true 201 .none (r 202) (r 203) (r 204) 450
def o206 (P : Params) : Obj := fo "is_whole" "is_whole" [31] .none (s "basicplus.arith" 444) (r 205) .none []
def o209 (P : Params) : Obj := tu [(s "number" 456), (s "bits" 457), (s "digits" 458)]
def o211 (P : Params) : Obj := ff [32] "settled"
def o212 (P : Params) : Obj := co "settled" "settled" 453 130 3 0 0 3 207 true 208 .none (r 209) (r 210) (r 211) 459
def o213 (P : Params) : Obj := fo "settled" "settled" [32] .none (s "basicplus.arith" 444) (r 212) .none []
def o216 (P : Params) : Obj := tu [(s "op" 465), (s "a" 466), (s "b" 467), (s "bits" 468), (s "digits" 469)]
def o218 (P : Params) : Obj := ff [33] "whole_reckoned"
def o219 (P : Params) : Obj := co "whole_reckoned" "whole_reckoned" 462 132 5 0 0 3 214 true 215 .none (r 216) (r 217) (r 218) 470
def o220 (P : Params) : Obj := fo "whole_reckoned" "whole_reckoned" [33] .none (s "basicplus.arith" 444) (r 219) .none []
def o223 (P : Params) : Obj := tu [(s "a" 476), (s "b" 477), (s "found" 478)]
def o225 (P : Params) : Obj := ff [34] "cut_quotient"
def o226 (P : Params) : Obj := co "cut_quotient" "cut_quotient" 473 136 2 0 0 3 221 true 222 .none (r 223) (r 224) (r 225) 479
def o227 (P : Params) : Obj := fo "cut_quotient" "cut_quotient" [34] .none (s "basicplus.arith" 444) (r 226) .none []
def o230 (P : Params) : Obj := tu [(s "a" 485), (s "b" 486)]
def o232 (P : Params) : Obj := ff [35] "cut_rest"
def o233 (P : Params) : Obj := co "cut_rest" "cut_rest" 482 141 2 0 0 3 228 true 229 .none (r 230) (r 231) (r 232) 487
def o234 (P : Params) : Obj := fo "cut_rest" "cut_rest" [35] .none (s "basicplus.arith" 444) (r 233) .none []
def o237 (P : Params) : Obj := tu [(s "value" 493)]
def o239 (P : Params) : Obj := ff [36] "exponent_of"
def o240 (P : Params) : Obj := co "exponent_of" "exponent_of" 490 143 1 0 0 3 235 true 236 .none (r 237) (r 238) (r 239) 494
def o241 (P : Params) : Obj := fo "exponent_of" "exponent_of" [36] .none (s "basicplus.arith" 444) (r 240) .none []
def t2 : Params → BT := (N boot_o_0 (N boot_o_1 (N o3v1 (N boot_o_7 (N o15 (N o31 (M o63 o127 o191) (M o12 o12 o223)) (N o47 (M o79 o143 o11) (M o11 o11 o239))) (N o23 (N o12 (M o71 o135 o199) (M o103 o167 o11)) (N o11 (M o11 o11 o12) (N o119 (L o183) E)))) (N o11 (N o11 (N o35 (M o12 o12 o195) (M o99 o163 o227)) (N o51 (M o11 o11 o211) (N o11 (L o11) E))) (N o27 (N o43 (M o75 o139 o11) (M o107 o171 o11)) (N o11 (M o91 o155 o219) (N o12 (L o12) E))))) (N boot_o_5 (N boot_o_9 (N o17 (N o33 (M o65 o129 o11) (M o11 o11 o225)) (N o49 (M o12 o12 o209) (M o113 o177 o241))) (N o25 (N o11 (M o11 o11 o12) (M o105 o169 o233)) (N o57 (M o89 o153 o11) (N o121 (L o185) E)))) (N o13 (N o21 (N o37 (M o11 o11 o197) (M o11 o11 o12)) (N o12 (M o85 o149 o213) (N o117 (L o181) E))) (N o29 (N o11 (M o77 o141 o205) (M o12 o12 o237)) (N o61 (M o93 o157 o11) (N o11 (L o11) E)))))) (N o2 (N boot_o_4 (N boot_o_8 (N o16 (N o32 (M o64 o128 o192) (M o96 o160 o11)) (N o11 (M o11 o11 o12) (M o112 o176 o240))) (N o24 (N o40 (M o72 o136 o11) (M o11 o11 o232)) (N o56 (M o12 o12 o216) (N o120 (L o184) E)))) (N o12v2 (N o20 (N o36 (M o68 o132 o11) (M o100 o164 o11)) (N o11 (M o84 o148 o212) (N o12 (L o12) E))) (N o11 (N o44 (M o11 o11 o204) (M o11 o11 o12)) (N o12 (M o92 o156 o220) (N o124 (L o188) E))))) (N boot_o_6 (N boot_o_10 (N o18 (N o34 (M o11 o11 o12) (M o98 o162 o226)) (N o50 (M o82 o146 o11) (N o114 (L o178) E))) (N o12 (N o42 (M o12 o12 o202) (M o106 o170 o234)) (N o58 (M o11 o11 o218) (N o11 (L o11) E)))) (N o14 (N o22 (N o11 (M o70 o134 o198) (M o12 o12 o230)) (N o54 (M o86 o150 o11) (N o11 (L o11) E))) (N o30 (N o12 (M o78 o142 o206) (M o110 o174 o11)) (N o11 (M o11 o11 o12) (N o126 (L o190) E)))))))
def o3v2 (P : Params) : Obj := d3 P (s "basicplus.rowcode" 638) 58
def o12v3 (P : Params) : Obj := fl (ml.take 129)
def o244 (P : Params) : Obj := tu [(s "a" 500), (s "n" 501), (s "bits" 502), (s "digits" 503)]
def o246 (P : Params) : Obj := ff [37] "whole_power"
def o247 (P : Params) : Obj := co "whole_power" "whole_power" 497 149 4 0 0 3 242 true 243 .none (r 244) (r 245) (r 246) 504
def o248 (P : Params) : Obj := fo "whole_power" "whole_power" [37] .none (s "basicplus.arith" 444) (r 247) .none []
def o251 (P : Params) : Obj := tu [(s "a" 510), (s "b" 511), (s "bits" 512), (s "digits" 513), (s "n" 514)]
def o253 (P : Params) : Obj := ff [38] "raised"
def o254 (P : Params) : Obj := co "raised" "raised" 507 155 4 0 0 3 249 true 250 .none (r 251) (r 252) (r 253) 515
def o255 (P : Params) : Obj := fo "raised" "raised" [38] .none (s "basicplus.arith" 444) (r 254) .none []
def o258 (P : Params) : Obj := tu [(s "op" 521), (s "a" 522), (s "b" 523), (s "bits" 524), (s "digits" 525), (s "is_first" 526), (s "is_second" 527), (s "work" 528), (s "one" 529), (s "other" 530)]
def o260 (P : Params) : Obj := ff [39] "reckoned"
def o261 (P : Params) : Obj := co "reckoned" "reckoned" 518 160 5 0 0 3 256 true 257 .none (r 258) (r 259) (r 260) 531
def o262 (P : Params) : Obj := fo "reckoned" "reckoned" [39] .none (s "basicplus.arith" 444) (r 261) .none []
def o265 (P : Params) : Obj := tu [(s "a" 537), (s "bits" 538), (s "digits" 539)]
def o267 (P : Params) : Obj := ff [40] "negated"
def o268 (P : Params) : Obj := co "negated" "negated" 534 175 3 0 0 3 263 true 264 .none (r 265) (r 266) (r 267) 540
def o269 (P : Params) : Obj := fo "negated" "negated" [40] .none (s "basicplus.arith" 444) (r 268) .none []
def o272 (P : Params) : Obj := tu [(s "a" 546), (s "b" 547)]
def o274 (P : Params) : Obj := ff [41] "order_of"
def o275 (P : Params) : Obj := co "order_of" "order_of" 543 177 2 0 0 3 270 true 271 .none (r 272) (r 273) (r 274) 548
def o276 (P : Params) : Obj := fo "order_of" "order_of" [41] .none (s "basicplus.arith" 444) (r 275) .none []
def o279 (P : Params) : Obj := tu [(s "a" 554), (s "bits" 555)]
def o281 (P : Params) : Obj := ff [42] "inverted"
def o282 (P : Params) : Obj := co "inverted" "inverted" 551 183 2 0 0 3 277 true 278 .none (r 279) (r 280) (r 281) 556
def o283 (P : Params) : Obj := fo "inverted" "inverted" [42] .none (s "basicplus.arith" 444) (r 282) .none []
def o286 (P : Params) : Obj := tu [(s "op" 562), (s "a" 563), (s "b" 564), (s "bits" 565), (s "one" 566), (s "other" 567)]
def o288 (P : Params) : Obj := ff [43] "logic"
def o289 (P : Params) : Obj := co "logic" "logic" 559 185 4 0 0 3 284 true 285 .none (r 286) (r 287) (r 288) 568
def o290 (P : Params) : Obj := fo "logic" "logic" [43] .none (s "basicplus.arith" 444) (r 289) .none []
def o291 (P : Params) : Obj := tu [(s "AND" 573), (s "OR" 574), (s "XOR" 575), (s "EQV" 576), (s "IMP" 577)]
def o292 (P : Params) : Obj := tu [(s "=" 579), (s "<>" 580), (s "<" 581), (s ">" 582), (s "<=" 583), (s ">=" 584)]
def o295 (P : Params) : Obj := tu [(s "one" 589), (s "other" 590)]
def o297 (P : Params) : Obj := ff [47] "order_of_texts"
def o298 (P : Params) : Obj := co "order_of_texts" "order_of_texts" 586 197 2 0 0 3 293 true 294 .none (r 295) (r 296) (r 297) 591
def o299 (P : Params) : Obj := fo "order_of_texts" "order_of_texts" [47] .none (s "basicplus.worth" 571) (r 298) .none []
def o302 (P : Params) : Obj := tu [(s "op" 597), (s "order" 598)]
def o304 (P : Params) : Obj := ff [48] "compared"
def o305 (P : Params) : Obj := co "compared" "compared" 594 199 2 0 0 3 300 true 301 .none (r 302) (r 303) (r 304) 599
def o306 (P : Params) : Obj := fo "compared" "compared" [48] .none (s "basicplus.worth" 571) (r 305) .none []
def o309 (P : Params) : Obj := tu [(s "op" 605), (s "one" 606), (s "other" 607)]
def o311 (P : Params) : Obj := ff [49] "worth_of_texts"
def o312 (P : Params) : Obj := co "worth_of_texts" "worth_of_texts" 602 205 3 0 0 3 307 true 308 .none (r 309) (r 310) (r 311) 608
def o313 (P : Params) : Obj := fo "worth_of_texts" "worth_of_texts" [49] .none (s "basicplus.worth" 571) (r 312) .none []
def o316 (P : Params) : Obj := ff [50] "worth_of_two"
def o317 (P : Params) : Obj := co "worth_of_two" "worth_of_two" 611 211 5 0 0 3 314 true 315 .none .none .none (r 316) 614
def o318 (P : Params) : Obj := fo "worth_of_two" "worth_of_two" [50] .none (s "basicplus.worth" 571) (r 317) .none []
def o321 (P : Params) : Obj := tu [(s "op" 620), (s "value" 621), (s "bits" 622), (s "digits" 623)]
def o323 (P : Params) : Obj := ff [51] "worth_of_one"
def o324 (P : Params) : Obj := co "worth_of_one" "worth_of_one" 617 222 4 0 0 3 319 true 320 .none (r 321) (r 322) (r 323) 624
def o325 (P : Params) : Obj := fo "worth_of_one" "worth_of_one" [51] .none (s "basicplus.worth" 571) (r 324) .none []
def o328 (P : Params) : Obj := tu [(s "tree" 630), (s "bits" 631), (s "digits" 632), (s "kind" 633), (s "value" 634)]
def o330 (P : Params) : Obj := ff [52] "worth_of_leaf"
def o331 (P : Params) : Obj := co "worth_of_leaf" "worth_of_leaf" 627 226 3 0 0 3 326 true 327 .none (r 328) (r 329) (r 330) 635
def o332 (P : Params) : Obj := fo "worth_of_leaf" "worth_of_leaf" [52] .none (s "basicplus.worth" 571) (r 331) .none []
def o333 (P : Params) : Obj := tu [(s "whole" 640), (s "decimal" 641), (s "text" 642)]
def t3 : Params → BT := (N boot_o_0 (N boot_o_1 (N o3v2 (N boot_o_7 (N o15 (N o31 (N o63 (N o127 (L o255) E) (N o191 (L o11) E)) (N o12 (N o12 (L o11) E) (L o223))) (N o47 (N o79 (N o143 (L o12) E) (L o11)) (N o11 (N o11 (L o11) E) (L o239)))) (N o23 (N o12 (N o71 (N o135 (L o11) E) (N o199 (L o12) E)) (N o103 (N o167 (L o295) E) (L o11))) (N o11 (N o11 (N o11 (L o279) E) (L o12)) (N o119 (N o183 (L o311) E) (L o247))))) (N o11 (N o11 (N o35 (N o12 (N o12 (L o11) E) (N o195 (L o323) E)) (N o99 (N o163 (L o291) E) (L o227))) (N o51 (N o11 (N o11 (L o275) E) (L o211)) (N o11 (N o11 (L o11) E) (L o12)))) (N o27 (N o43 (N o75 (N o139 (L o267) E) (N o11 (L o331) E)) (N o107 (N o171 (L o299) E) (L o11))) (N o11 (N o91 (N o155 (L o283) E) (L o219)) (N o12 (N o12 (L o12) E) (L o251)))))) (N boot_o_5 (N boot_o_9 (N o17 (N o33 (N o65 (N o129 (L o12) E) (N o11 (L o321) E)) (N o11 (N o11 (L o289) E) (L o225))) (N o49 (N o12 (N o12 (L o11) E) (L o209)) (N o113 (N o177 (L o305) E) (L o241)))) (N o25 (N o11 (N o11 (N o11 (L o265) E) (N o12 (L o11) E)) (N o105 (N o169 (L o297) E) (L o233))) (N o57 (N o89 (N o153 (L o281) E) (L o11)) (N o121 (N o185 (L o313) E) (L o11))))) (N o13 (N o21 (N o37 (N o11 (N o11 (L o261) E) (N o197 (L o325) E)) (N o11 (N o11 (L o11) E) (L o12))) (N o12 (N o85 (N o149 (L o11) E) (L o213)) (N o117 (N o181 (L o309) E) (L o11)))) (N o29 (N o11 (N o77 (N o141 (L o269) E) (N o205 (L o333) E)) (N o12 (N o12 (L o12) E) (L o237))) (N o61 (N o93 (N o157 (L o12) E) (L o11)) (N o11 (N o11 (L o317) E) (L o253))))))) (N o2 (N boot_o_4 (N boot_o_8 (N o16 (N o32 (N o64 (N o128 (L o11) E) (N o192 (L o12) E)) (N o96 (N o160 (L o288) E) (L o11))) (N o11 (N o11 (N o11 (L o272) E) (L o12)) (N o112 (N o176 (L o304) E) (L o240)))) (N o24 (N o40 (N o72 (N o136 (L o12) E) (N o11 (L o328) E)) (N o11 (N o11 (L o11) E) (L o232))) (N o56 (N o12 (N o12 (L o11) E) (L o216)) (N o120 (N o184 (L o312) E) (L o248))))) (N o12v3 (N o20 (N o36 (N o68 (N o132 (L o260) E) (N o11 (L o324) E)) (N o100 (N o164 (L o292) E) (L o11))) (N o11 (N o84 (N o148 (L o276) E) (L o212)) (N o12 (N o12 (L o12) E) (L o244)))) (N o11 (N o44 (N o11 (N o11 (L o268) E) (N o204 (L o332) E)) (N o11 (N o11 (L o11) E) (L o12))) (N o12 (N o92 (N o156 (L o11) E) (L o220)) (N o124 (N o188 (L o316) E) (L o11)))))) (N boot_o_6 (N boot_o_10 (N o18 (N o34 (N o11 (N o11 (L o258) E) (N o12 (L o11) E)) (N o98 (N o162 (L o290) E) (L o226))) (N o50 (N o82 (N o146 (L o274) E) (L o11)) (N o114 (N o178 (L o306) E) (L o11)))) (N o12 (N o42 (N o12 (N o12 (L o11) E) (N o202 (L o330) E)) (N o106 (N o170 (L o298) E) (L o234))) (N o58 (N o11 (N o11 (L o282) E) (L o218)) (N o11 (N o11 (L o11) E) (L o12))))) (N o14 (N o22 (N o11 (N o70 (N o134 (L o262) E) (N o198 (L o11) E)) (N o12 (N o12 (L o12) E) (L o230))) (N o54 (N o86 (N o150 (L o12) E) (L o11)) (N o11 (N o11 (L o11) E) (L o246)))) (N o30 (N o12 (N o78 (N o142 (L o11) E) (L o206)) (N o110 (N o174 (L o302) E) (L o11))) (N o11 (N o11 (N o11 (L o286) E) (L o12)) (N o126 (N o190 (L o318) E) (L o254))))))))
def o3v3 (P : Params) : Obj := d3 P (s "basicplus.flatten" 766) 68
def o12v4 (P : Params) : Obj := fl (ml.take 159)
def o336 (P : Params) : Obj := { cls := (.type "dict"), data := .dict #[e P "__module__" 651 (s "basicplus.rowcode" 638), e P "__qualname__" 653 (s "RowCode" 652), e P "__firstlineno__" 655 (i 233 654), e P "__init__" 664 (r 347), e P "__static_attributes__" 667 (r 348)] 5 }
def o338 (P : Params) : Obj := fl [(i 235 0), (i 4 0), (r 346)]
def o339 (P : Params) : Obj := co "RowCode" "RowCode" 646 233 0 0 0 0 337 false 338 .none .none .none .none 649
def o340 (P : Params) : Obj := { cls := (.type "frame"), slots := #[some (r 339), some (r 3), some (r 336), none, some (s "basicplus.rowcode" 638), none, some (r 0)] }
def o343 (P : Params) : Obj := tu [(s "self" 659), (s "orders" 660), (s "starts" 661)]
def o345 (P : Params) : Obj := ff [55, 0] "RowCode.__init__"
def o346 (P : Params) : Obj := co "__init__" "RowCode.__init__" 656 235 3 0 0 3 341 true 342 .none (r 343) (r 344) (r 345) 662
def o347 (P : Params) : Obj := fo "__init__" "RowCode.__init__" [55, 0] .none (s "basicplus.rowcode" 638) (r 346) .none []
def o348 (P : Params) : Obj := tu [(s "orders" 665), (s "starts" 666)]
def o349 (P : Params) : Obj := { cls := (.type "dict"), data := .dict #[e P "__module__" 651 (s "basicplus.rowcode" 638), e P "__firstlineno__" 655 (i 233 654), e P "__init__" 664 (r 347), e P "__static_attributes__" 667 (r 348), e P "__dict__" 669 (r 351), e P "__weakref__" 671 (r 352), e P "__doc__" 672 .none] 4 }
def o350 (P : Params) : Obj := { cls := (.type "type"), data := .cls { name := "RowCode", bases := [(.type "object")], mro := [(r 350), (.type "object")], ns := 349, qualname := "RowCode" }, slots := #[none, none, some (s "RowCode" 644), some (s "RowCode" 652), some (.builtin "object.__new__"), some (.bool true)] }
def o351 (P : Params) : Obj := { cls := (.type "getset_descriptor"), data := .fields #[(s "__dict__" 668), (r 350), (.builtin "function.__dict__"), (.builtin "function.__dict__#set")] }
def o352 (P : Params) : Obj := { cls := (.type "getset_descriptor"), data := .fields #[(s "__weakref__" 670), (r 350), (.builtin "ExceptionGroup.__weakref__"), .none] }
def o353 (P : Params) : Obj := { cls := (.type "super"), data := .fields #[(r 350), (r 350), (r 350)] }
def o354 (P : Params) : Obj := { cls := (.type "builtin_function_or_method"), data := .fields #[(.builtin "object.__init_subclass__"), (r 350)] }
def o357 (P : Params) : Obj := tu [(s "tree" 678), (s "bits" 679), (s "digits" 680)]
def o359 (P : Params) : Obj := ff [56] "leaf_order"
def o360 (P : Params) : Obj := co "leaf_order" "leaf_order" 675 238 3 0 0 3 355 true 356 .none (r 357) (r 358) (r 359) 681
def o361 (P : Params) : Obj := fo "leaf_order" "leaf_order" [56] .none (s "basicplus.rowcode" 638) (r 360) .none []
def o364 (P : Params) : Obj := tu [(s "tree" 687), (s "bits" 688), (s "digits" 689), (s "found" 690), (s "waiting" 691), (s "part" 692), (s "kind" 693)]
def o366 (P : Params) : Obj := ff [57] "expression_orders"
def o367 (P : Params) : Obj := co "expression_orders" "expression_orders" 684 243 3 0 0 3 362 true 363 .none (r 364) (r 365) (r 366) 694
def o368 (P : Params) : Obj := fo "expression_orders" "expression_orders" [57] .none (s "basicplus.rowcode" 638) (r 367) .none []
def o371 (P : Params) : Obj := tu [(s "target" 700), (s "value" 701), (s "bits" 702), (s "digits" 703), (s "found" 704), (s "sub" 705)]
def o373 (P : Params) : Obj := ff [58] "target_orders"
def o374 (P : Params) : Obj := co "target_orders" "target_orders" 697 263 4 0 0 3 369 true 370 .none (r 371) (r 372) (r 373) 706
def o375 (P : Params) : Obj := fo "target_orders" "target_orders" [58] .none (s "basicplus.rowcode" 638) (r 374) .none []
def o378 (P : Params) : Obj := tu [(s "flat" 712), (s "at" 713), (s "bits" 714), (s "digits" 715), (s "line" 716), (s "statement" 717), (s "word" 718)]
def o380 (P : Params) : Obj := ff [59] "row_orders"
def o381 (P : Params) : Obj := co "row_orders" "row_orders" 709 270 4 0 0 3 376 true 377 .none (r 378) (r 379) (r 380) 719
def o382 (P : Params) : Obj := fo "row_orders" "row_orders" [59] .none (s "basicplus.rowcode" 638) (r 381) .none []
def o385 (P : Params) : Obj := tu [(s "orders" 725), (s "starts" 726), (s "end" 727), (s "found" 728), (s "order" 729)]
def o387 (P : Params) : Obj := ff [60] "led_to"
def o388 (P : Params) : Obj := co "led_to" "led_to" 722 284 3 0 0 3 383 true 384 .none (r 385) (r 386) (r 387) 730
def o389 (P : Params) : Obj := fo "led_to" "led_to" [60] .none (s "basicplus.rowcode" 638) (r 388) .none []
def o392 (P : Params) : Obj := tu [(s "flat" 736), (s "bits" 737), (s "digits" 738), (s "orders" 739), (s "starts" 740), (s "at" 741), (s "end" 742)]
def o394 (P : Params) : Obj := ff [61] "compile_rows"
def o395 (P : Params) : Obj := co "compile_rows" "compile_rows" 733 291 3 0 0 3 390 true 391 .none (r 392) (r 393) (r 394) 743
def o396 (P : Params) : Obj := fo "compile_rows" "compile_rows" [61] .none (s "basicplus.rowcode" 638) (r 395) .none []
def o399 (P : Params) : Obj := ff [63] "moved_orders"
def o400 (P : Params) : Obj := co "moved_orders" "moved_orders" 748 299 3 0 0 3 397 true 398 .none .none .none (r 399) 751
def o401 (P : Params) : Obj := fo "moved_orders" "moved_orders" [63] .none (s "basicplus.passes" 746) (r 400) .none []
def o404 (P : Params) : Obj := ff [64] "rows_left"
def o405 (P : Params) : Obj := co "rows_left" "rows_left" 754 306 2 0 0 3 402 true 403 .none .none .none (r 404) 757
def o406 (P : Params) : Obj := fo "rows_left" "rows_left" [64] .none (s "basicplus.passes" 746) (r 405) .none []
def o409 (P : Params) : Obj := ff [65] "drop_rows"
def o410 (P : Params) : Obj := co "drop_rows" "drop_rows" 760 317 2 0 0 3 407 true 408 .none .none .none (r 409) 763
def o411 (P : Params) : Obj := fo "drop_rows" "drop_rows" [65] .none (s "basicplus.passes" 746) (r 410) .none []
def t4 : Params → BT := (N boot_o_0 (N boot_o_1 (N o3v3 (N boot_o_7 (N o15 (N o31 (N o63 (M o127 o255 o11) (N o191 (L o11) E)) (N o12 (N o12 (L o11) E) (N o223 (L o351) E))) (N o47 (N o79 (M o143 o12 o399) (N o11 (L o16) E)) (N o11 (N o11 (L o11) E) (N o239 (L o367) E)))) (N o23 (N o12 (N o71 (M o135 o11 o12) (N o199 (L o12) E)) (N o103 (N o167 (L o295) E) (N o11 (L o359) E))) (N o11 (N o11 (M o11 o279 o11) (N o12 (L o343) E)) (N o119 (N o183 (L o311) E) (N o247 (L o375) E))))) (N o11 (N o11 (N o35 (N o12 (M o12 o11 o387) (N o195 (L o323) E)) (N o99 (N o163 (L o291) E) (N o227 (L o11) E))) (N o51 (N o11 (M o11 o275 o12) (N o211 (L o339) E)) (N o11 (N o11 (L o11) E) (N o12 (L o371) E)))) (N o27 (N o43 (N o75 (M o139 o267 o395) (N o11 (L o331) E)) (N o107 (N o171 (L o299) E) (N o11 (L o12) E))) (N o11 (N o91 (M o155 o283 o411) (N o219 (L o347) E)) (N o12 (N o12 (L o12) E) (N o251 (L o11) E)))))) (N boot_o_5 (N boot_o_9 (N o17 (N o33 (N o65 (M o129 o12 o385) (N o11 (L o321) E)) (N o11 (N o11 (L o289) E) (N o225 (L o353) E))) (N o49 (N o12 (M o12 o11 o401) (N o209 (L o11) E)) (N o113 (N o177 (L o305) E) (N o241 (L o11) E)))) (N o25 (N o11 (N o11 (M o11 o265 o11) (N o12 (L o11) E)) (N o105 (N o169 (L o297) E) (N o233 (L o361) E))) (N o57 (N o89 (M o153 o281 o409) (N o11 (L o345) E)) (N o121 (N o185 (L o313) E) (N o11 (L o12) E))))) (N o13 (N o21 (N o37 (N o11 (M o11 o261 o389) (N o197 (L o325) E)) (N o11 (N o11 (L o11) E) (N o12 (L o357) E))) (N o12 (N o85 (M o149 o11 o405) (N o213 (L o11) E)) (N o117 (N o181 (L o309) E) (N o11 (L o373) E)))) (N o29 (N o11 (N o77 (M o141 o269 o11) (N o205 (L o333) E)) (N o12 (N o12 (L o12) E) (N o237 (L o11) E))) (N o61 (N o93 (N o157 (L o12) E) (N o11 (L o349) E)) (N o11 (N o11 (L o317) E) (N o253 (L o381) E))))))) (N o2 (N boot_o_4 (N boot_o_8 (N o16 (N o32 (N o64 (M o128 o11 o12) (N o192 (L o12) E)) (N o96 (N o160 (L o288) E) (N o11 (L o352) E))) (N o11 (N o11 (M o11 o272 o400) (N o12 (L o336) E)) (N o112 (N o176 (L o304) E) (N o240 (L o368) E)))) (N o24 (N o40 (N o72 (M o136 o12 o392) (N o11 (L o328) E)) (N o11 (N o11 (L o11) E) (N o232 (L o360) E))) (N o56 (N o12 (M o12 o11 o12) (N o216 (L o11) E)) (N o120 (N o184 (L o312) E) (N o248 (L o11) E))))) (N o12v4 (N o20 (N o36 (N o68 (M o132 o260 o388) (N o11 (L o324) E)) (N o100 (N o164 (L o292) E) (N o11 (L o12) E))) (N o11 (N o84 (M o148 o276 o404) (N o212 (L o340) E)) (N o12 (N o12 (L o12) E) (N o244 (L o11) E)))) (N o11 (N o44 (N o11 (M o11 o268 o396) (N o204 (L o332) E)) (N o11 (N o11 (L o11) E) (N o12 (L o364) E))) (N o12 (N o92 (N o156 (L o11) E) (N o220 (L o348) E)) (N o124 (N o188 (L o316) E) (N o11 (L o380) E)))))) (N boot_o_6 (N boot_o_10 (N o18 (N o34 (N o11 (M o11 o258 o11) (N o12 (L o11) E)) (N o98 (N o162 (L o290) E) (N o226 (L o354) E))) (N o50 (N o82 (M o146 o274 o11) (N o11 (L o338) E)) (N o114 (N o178 (L o306) E) (N o11 (L o12) E)))) (N o12 (N o42 (N o12 (M o12 o11 o394) (N o202 (L o330) E)) (N o106 (N o170 (L o298) E) (N o234 (L o11) E))) (N o58 (N o11 (M o11 o282 o410) (N o218 (L o346) E)) (N o11 (N o11 (L o11) E) (N o12 (L o378) E))))) (N o14 (N o22 (N o11 (N o70 (M o134 o262 o11) (N o198 (L o11) E)) (N o12 (N o12 (L o12) E) (N o230 (L o11) E))) (N o54 (N o86 (M o150 o12 o406) (N o11 (L o12) E)) (N o11 (N o11 (L o11) E) (N o246 (L o374) E)))) (N o30 (N o12 (N o78 (M o142 o11 o12) (N o206 (L o11) E)) (N o110 (N o174 (L o302) E) (N o11 (L o366) E))) (N o11 (N o11 (N o11 (L o286) E) (N o12 (L o350) E)) (N o126 (N o190 (L o318) E) (N o254 (L o382) E))))))))
def o3v4 (P : Params) : Obj := d3 P (s "basicplus.control" 910) 81
def o12v5 (P : Params) : Obj := fl (ml.take 195)
def o414 (P : Params) : Obj := { cls := (.type "dict"), data := .dict #[e P "__module__" 775 (s "basicplus.flatten" 766), e P "__qualname__" 777 (s "Flat" 776), e P "__firstlineno__" 779 (i 330 778), e P "__init__" 786 (r 425), e P "__static_attributes__" 793 (r 426)] 5 }
def o416 (P : Params) : Obj := fl [(i 332 0), (i 4 0), (r 424)]
def o417 (P : Params) : Obj := co "Flat" "Flat" 770 330 0 0 0 0 415 false 416 .none .none .none .none 773
def o418 (P : Params) : Obj := { cls := (.type "frame"), slots := #[some (r 417), some (r 3), some (r 414), none, some (s "basicplus.flatten" 766), none, some (r 0)] }
def o421 (P : Params) : Obj := tu [(s "self" 783)]
def o423 (P : Params) : Obj := ff [67, 0] "Flat.__init__"
def o424 (P : Params) : Obj := co "__init__" "Flat.__init__" 780 332 1 0 0 3 419 true 420 .none (r 421) (r 422) (r 423) 784
def o425 (P : Params) : Obj := fo "__init__" "Flat.__init__" [67, 0] .none (s "basicplus.flatten" 766) (r 424) .none []
def o426 (P : Params) : Obj := tu [(s "data" 787), (s "fns" 788), (s "loops" 789), (s "pairs" 790), (s "places" 791), (s "rows" 792)]
def o427 (P : Params) : Obj := { cls := (.type "dict"), data := .dict #[e P "__module__" 775 (s "basicplus.flatten" 766), e P "__firstlineno__" 779 (i 330 778), e P "__init__" 786 (r 425), e P "__static_attributes__" 793 (r 426), e P "__dict__" 795 (r 429), e P "__weakref__" 797 (r 430), e P "__doc__" 798 .none] 4 }
def o428 (P : Params) : Obj := { cls := (.type "type"), data := .cls { name := "Flat", bases := [(.type "object")], mro := [(r 428), (.type "object")], ns := 427, qualname := "Flat" }, slots := #[none, none, some (s "Flat" 768), some (s "Flat" 776), some (.builtin "object.__new__"), some (.bool true)] }
def o429 (P : Params) : Obj := { cls := (.type "getset_descriptor"), data := .fields #[(s "__dict__" 794), (r 428), (.builtin "function.__dict__"), (.builtin "function.__dict__#set")] }
def o430 (P : Params) : Obj := { cls := (.type "getset_descriptor"), data := .fields #[(s "__weakref__" 796), (r 428), (.builtin "ExceptionGroup.__weakref__"), .none] }
def o431 (P : Params) : Obj := { cls := (.type "super"), data := .fields #[(r 428), (r 428), (r 428)] }
def o432 (P : Params) : Obj := { cls := (.type "builtin_function_or_method"), data := .fields #[(.builtin "object.__init_subclass__"), (r 428)] }
def o435 (P : Params) : Obj := tu [(s "flat" 804), (s "line" 805), (s "statement" 806)]
def o437 (P : Params) : Obj := ff [68] "put_row_of"
def o438 (P : Params) : Obj := co "put_row_of" "put_row_of" 801 339 3 0 0 3 433 true 434 .none (r 435) (r 436) (r 437) 807
def o439 (P : Params) : Obj := fo "put_row_of" "put_row_of" [68] .none (s "basicplus.flatten" 766) (r 438) .none []
def o442 (P : Params) : Obj := tu [(s "flat" 813), (s "line" 814), (s "statement" 815), (s "test" 816), (s "skip" 817)]
def o444 (P : Params) : Obj := ff [69] "put_if"
def o445 (P : Params) : Obj := co "put_if" "put_if" 810 342 3 0 0 3 440 true 441 .none (r 442) (r 443) (r 444) 818
def o446 (P : Params) : Obj := fo "put_if" "put_if" [69] .none (s "basicplus.flatten" 766) (r 445) .none []
def o449 (P : Params) : Obj := tu [(s "flat" 824), (s "line" 825), (s "statements" 826), (s "statement" 827)]
def o451 (P : Params) : Obj := ff [70] "put_all"
def o452 (P : Params) : Obj := co "put_all" "put_all" 821 352 3 0 0 3 447 true 448 .none (r 449) (r 450) (r 451) 828
def o453 (P : Params) : Obj := fo "put_all" "put_all" [70] .none (s "basicplus.flatten" 766) (r 452) .none []
def o456 (P : Params) : Obj := tu [(s "flat" 834), (s "whiles" 835), (s "fors" 836), (s "heads" 837), (s "at" 838), (s "pair" 839), (s "line" 840), (s "statement" 841), (s "word" 842), (s "text" 843)]
def o458 (P : Params) : Obj := ff [71] "gather"
def o459 (P : Params) : Obj := co "gather" "gather" 831 358 1 0 0 3 454 true 455 .none (r 456) (r 457) (r 458) 844
def o460 (P : Params) : Obj := fo "gather" "gather" [71] .none (s "basicplus.flatten" 766) (r 459) .none []
def o463 (P : Params) : Obj := tu [(s "flat" 850), (s "open_rows" 851), (s "at" 852), (s "begin" 853)]
def o465 (P : Params) : Obj := ff [72] "join_rows"
def o466 (P : Params) : Obj := co "join_rows" "join_rows" 847 380 3 0 0 3 461 true 462 .none (r 463) (r 464) (r 465) 854
def o467 (P : Params) : Obj := fo "join_rows" "join_rows" [72] .none (s "basicplus.flatten" 766) (r 466) .none []
def o470 (P : Params) : Obj := tu [(s "flat" 860), (s "fors" 861), (s "at" 862), (s "many" 863), (s "which" 864)]
def o472 (P : Params) : Obj := ff [73] "end_loops"
def o473 (P : Params) : Obj := co "end_loops" "end_loops" 857 385 4 0 0 3 468 true 469 .none (r 470) (r 471) (r 472) 865
def o474 (P : Params) : Obj := fo "end_loops" "end_loops" [73] .none (s "basicplus.flatten" 766) (r 473) .none []
def o477 (P : Params) : Obj := tu [(s "parsed" 871), (s "flat" 872), (s "line" 873), (s "statements" 874)]
def o479 (P : Params) : Obj := ff [74] "flatten"
def o480 (P : Params) : Obj := co "flatten" "flatten" 868 389 1 0 0 3 475 true 476 .none (r 477) (r 478) (r 479) 875
def o481 (P : Params) : Obj := fo "flatten" "flatten" [74] .none (s "basicplus.flatten" 766) (r 480) .none []
def o484 (P : Params) : Obj := tu [(s "flat" 881), (s "line" 882)]
def o486 (P : Params) : Obj := ff [75] "place_of"
def o487 (P : Params) : Obj := co "place_of" "place_of" 878 398 2 0 0 3 482 true 483 .none (r 484) (r 485) (r 486) 883
def o488 (P : Params) : Obj := fo "place_of" "place_of" [75] .none (s "basicplus.flatten" 766) (r 487) .none []
def o491 (P : Params) : Obj := tu [(s "flat" 889), (s "row" 890)]
def o493 (P : Params) : Obj := ff [76] "line_of"
def o494 (P : Params) : Obj := co "line_of" "line_of" 886 402 2 0 0 3 489 true 490 .none (r 491) (r 492) (r 493) 891
def o495 (P : Params) : Obj := fo "line_of" "line_of" [76] .none (s "basicplus.flatten" 766) (r 494) .none []
def o498 (P : Params) : Obj := tu [(s "flat" 897), (s "row" 898)]
def o500 (P : Params) : Obj := ff [77] "end_of_while"
def o501 (P : Params) : Obj := co "end_of_while" "end_of_while" 894 404 2 0 0 3 496 true 497 .none (r 498) (r 499) (r 500) 899
def o502 (P : Params) : Obj := fo "end_of_while" "end_of_while" [77] .none (s "basicplus.flatten" 766) (r 501) .none []
def o505 (P : Params) : Obj := tu [(s "flat" 905), (s "row" 906)]
def o507 (P : Params) : Obj := ff [78] "next_of_for"
def o508 (P : Params) : Obj := co "next_of_for" "next_of_for" 902 408 2 0 0 3 503 true 504 .none (r 505) (r 506) (r 507) 907
def o509 (P : Params) : Obj := fo "next_of_for" "next_of_for" [78] .none (s "basicplus.flatten" 766) (r 508) .none []
def t5 : Params → BT := (N boot_o_0 (N boot_o_1 (N o3v4 (N boot_o_7 (N o15 (N o31 (N o63 (M o127 o255 o11) (M o191 o11 o11)) (N o12 (M o12 o11 o11) (M o223 o351 o479))) (N o47 (N o79 (M o143 o12 o399) (M o11 o16 o463)) (N o11 (M o11 o11 o431) (M o239 o367 o495)))) (N o23 (N o12 (N o71 (M o135 o11 o12) (M o199 o12 o12)) (N o103 (M o167 o295 o423) (M o11 o359 o487))) (N o11 (N o11 (M o11 o279 o11) (M o12 o343 o11)) (N o119 (M o183 o311 o439) (M o247 o375 o11))))) (N o11 (N o11 (N o35 (N o12 (M o12 o11 o387) (M o195 o323 o451)) (N o99 (M o163 o291 o11) (M o227 o11 o12))) (N o51 (N o11 (M o11 o275 o12) (M o211 o339 o467)) (N o11 (M o11 o11 o435) (M o12 o371 o11)))) (N o27 (N o43 (N o75 (M o139 o267 o395) (M o11 o331 o459)) (N o107 (M o171 o299 o427) (M o11 o12 o491))) (N o11 (N o91 (M o155 o283 o411) (M o219 o347 o11)) (N o12 (M o12 o12 o11) (M o251 o11 o507)))))) (N boot_o_5 (N boot_o_9 (N o17 (N o33 (N o65 (M o129 o12 o385) (M o11 o321 o449)) (N o11 (M o11 o289 o417) (M o225 o353 o481))) (N o49 (N o12 (M o12 o11 o401) (M o209 o11 o465)) (N o113 (M o177 o305 o11) (M o241 o11 o12)))) (N o25 (N o11 (N o11 (M o11 o265 o11) (M o12 o11 o11)) (N o105 (M o169 o297 o425) (M o233 o361 o11))) (N o57 (N o89 (M o153 o281 o409) (M o11 o345 o473)) (N o121 (M o185 o313 o12) (M o11 o12 o505))))) (N o13 (N o21 (N o37 (N o11 (M o11 o261 o389) (M o197 o325 o453)) (N o11 (M o11 o11 o421) (M o12 o357 o11))) (N o12 (N o85 (M o149 o11 o405) (M o213 o11 o12)) (N o117 (M o181 o309 o437) (M o11 o373 o501)))) (N o29 (N o11 (N o77 (M o141 o269 o11) (M o205 o333 o11)) (N o12 (M o12 o12 o429) (M o237 o11 o493))) (N o61 (N o93 (M o157 o12 o16) (M o11 o349 o477)) (N o11 (M o11 o317 o445) (M o253 o381 o509))))))) (N o2 (N boot_o_4 (N boot_o_8 (N o16 (N o32 (N o64 (M o128 o11 o12) (M o192 o12 o12)) (N o96 (M o160 o288 o416) (M o11 o352 o480))) (N o11 (N o11 (M o11 o272 o400) (M o12 o336 o11)) (N o112 (M o176 o304 o432) (M o240 o368 o11)))) (N o24 (N o40 (N o72 (M o136 o12 o392) (M o11 o328 o456)) (N o11 (M o11 o11 o424) (M o232 o360 o488))) (N o56 (N o12 (M o12 o11 o12) (M o216 o11 o472)) (N o120 (M o184 o312 o11) (M o248 o11 o12))))) (N o12v5 (N o20 (N o36 (N o68 (M o132 o260 o388) (M o11 o324 o452)) (N o100 (M o164 o292 o12) (M o11 o12 o484))) (N o11 (N o84 (M o148 o276 o404) (M o212 o340 o11)) (N o12 (M o12 o12 o11) (M o244 o11 o500)))) (N o11 (N o44 (N o11 (M o11 o268 o396) (M o204 o332 o460)) (N o11 (M o11 o11 o428) (M o12 o364 o11))) (N o12 (N o92 (M o156 o11 o11) (M o220 o348 o12)) (N o124 (M o188 o316 o444) (M o11 o380 o508)))))) (N boot_o_6 (N boot_o_10 (N o18 (N o34 (N o11 (M o11 o258 o11) (M o12 o11 o11)) (N o98 (M o162 o290 o418) (M o226 o354 o11))) (N o50 (N o82 (M o146 o274 o11) (M o11 o338 o466)) (N o114 (M o178 o306 o12) (M o11 o12 o498)))) (N o12 (N o42 (N o12 (M o12 o11 o394) (M o202 o330 o458)) (N o106 (M o170 o298 o426) (M o234 o11 o12))) (N o58 (N o11 (M o11 o282 o410) (M o218 o346 o474)) (N o11 (M o11 o11 o442) (M o12 o378 o11))))) (N o14 (N o22 (N o11 (N o70 (M o134 o262 o11) (M o198 o11 o11)) (N o12 (M o12 o12 o11) (M o230 o11 o486))) (N o54 (N o86 (M o150 o12 o406) (M o11 o12 o470)) (N o11 (M o11 o11 o438) (M o246 o374 o502)))) (N o30 (N o12 (N o78 (M o142 o11 o12) (M o206 o11 o12)) (N o110 (M o174 o302 o430) (M o11 o366 o494))) (N o11 (N o11 (M o11 o286 o414) (M o12 o350 o11)) (N o126 (M o190 o318 o446) (N o254 (L o382) E))))))))
def o3v5 (P : Params) : Obj := d3 P (s "basicplus.control" 910) 94
def o12v6 (P : Params) : Obj := fl (ml.take 234)
def o512 (P : Params) : Obj := { cls := (.type "dict"), data := .dict #[e P "__module__" 921 (s "basicplus.control" 910), e P "__qualname__" 923 (s "Control" 922), e P "__firstlineno__" 925 (i 414 924), e P "__init__" 933 (r 523), e P "__static_attributes__" 937 (r 524)] 5 }
def o514 (P : Params) : Obj := fl [(i 416 0), (i 4 0), (r 522)]
def o515 (P : Params) : Obj := co "Control" "Control" 916 414 0 0 0 0 513 false 514 .none .none .none .none 919
def o516 (P : Params) : Obj := { cls := (.type "frame"), slots := #[some (r 515), some (r 3), some (r 512), none, some (s "basicplus.control" 910), none, some (r 0)] }
def o519 (P : Params) : Obj := tu [(s "self" 929), (s "most" 930)]
def o521 (P : Params) : Obj := ff [81, 0] "Control.__init__"
def o522 (P : Params) : Obj := co "__init__" "Control.__init__" 926 416 2 0 0 3 517 true 518 .none (r 519) (r 520) (r 521) 931
def o523 (P : Params) : Obj := fo "__init__" "Control.__init__" [81, 0] .none (s "basicplus.control" 910) (r 522) .none []
def o524 (P : Params) : Obj := tu [(s "failed_at" 934), (s "most" 935), (s "pile" 936)]
def o525 (P : Params) : Obj := { cls := (.type "dict"), data := .dict #[e P "__module__" 921 (s "basicplus.control" 910), e P "__firstlineno__" 925 (i 414 924), e P "__init__" 933 (r 523), e P "__static_attributes__" 937 (r 524), e P "__dict__" 939 (r 527), e P "__weakref__" 941 (r 528), e P "__doc__" 942 .none] 4 }
def o526 (P : Params) : Obj := { cls := (.type "type"), data := .cls { name := "Control", bases := [(.type "object")], mro := [(r 526), (.type "object")], ns := 525, qualname := "Control" }, slots := #[none, none, some (s "Control" 914), some (s "Control" 922), some (.builtin "object.__new__"), some (.bool true)] }
def o527 (P : Params) : Obj := { cls := (.type "getset_descriptor"), data := .fields #[(s "__dict__" 938), (r 526), (.builtin "function.__dict__"), (.builtin "function.__dict__#set")] }
def o528 (P : Params) : Obj := { cls := (.type "getset_descriptor"), data := .fields #[(s "__weakref__" 940), (r 526), (.builtin "ExceptionGroup.__weakref__"), .none] }
def o529 (P : Params) : Obj := { cls := (.type "super"), data := .fields #[(r 526), (r 526), (r 526)] }
def o530 (P : Params) : Obj := { cls := (.type "builtin_function_or_method"), data := .fields #[(.builtin "object.__init_subclass__"), (r 526)] }
def o533 (P : Params) : Obj := tu [(s "control" 948), (s "entry" 949)]
def o535 (P : Params) : Obj := ff [82] "put_upon"
def o536 (P : Params) : Obj := co "put_upon" "put_upon" 945 420 2 0 0 3 531 true 532 .none (r 533) (r 534) (r 535) 950
def o537 (P : Params) : Obj := fo "put_upon" "put_upon" [82] .none (s "basicplus.control" 910) (r 536) .none []
def o540 (P : Params) : Obj := tu [(s "pile" 956), (s "at" 957)]
def o542 (P : Params) : Obj := ff [83] "floor_of"
def o543 (P : Params) : Obj := co "floor_of" "floor_of" 953 424 1 0 0 3 538 true 539 .none (r 540) (r 541) (r 542) 958
def o544 (P : Params) : Obj := fo "floor_of" "floor_of" [83] .none (s "basicplus.control" 910) (r 543) .none []
def o547 (P : Params) : Obj := tu [(s "pile" 964), (s "kind" 965), (s "name" 966), (s "at" 967)]
def o549 (P : Params) : Obj := ff [84] "found_at"
def o550 (P : Params) : Obj := co "found_at" "found_at" 961 429 3 0 0 3 545 true 546 .none (r 547) (r 548) (r 549) 968
def o551 (P : Params) : Obj := fo "found_at" "found_at" [84] .none (s "basicplus.control" 910) (r 550) .none []
def o554 (P : Params) : Obj := tu [(s "control" 974), (s "many" 975)]
def o556 (P : Params) : Obj := ff [85] "cut_to"
def o557 (P : Params) : Obj := co "cut_to" "cut_to" 971 434 2 0 0 3 552 true 553 .none (r 554) (r 555) (r 556) 976
def o558 (P : Params) : Obj := fo "cut_to" "cut_to" [85] .none (s "basicplus.control" 910) (r 557) .none []
def o561 (P : Params) : Obj := tu [(s "value" 982), (s "limit" 983), (s "step" 984), (s "order" 985)]
def o563 (P : Params) : Obj := ff [86] "is_past"
def o564 (P : Params) : Obj := co "is_past" "is_past" 979 436 4 0 0 3 559 true 560 .none (r 561) (r 562) (r 563) 986
def o565 (P : Params) : Obj := fo "is_past" "is_past" [86] .none (s "basicplus.control" 910) (r 564) .none []
def o568 (P : Params) : Obj := tu [(s "control" 992), (s "name" 993), (s "place" 994), (s "limit" 995), (s "step" 996), (s "at" 997)]
def o570 (P : Params) : Obj := ff [87] "for_begin"
def o571 (P : Params) : Obj := co "for_begin" "for_begin" 989 438 5 0 0 3 566 true 567 .none (r 568) (r 569) (r 570) 998
def o572 (P : Params) : Obj := fo "for_begin" "for_begin" [87] .none (s "basicplus.control" 910) (r 571) .none []
def o575 (P : Params) : Obj := tu [(s "control" 1004), (s "name" 1005), (s "at" 1006)]
def o577 (P : Params) : Obj := ff [88] "for_name"
def o578 (P : Params) : Obj := co "for_name" "for_name" 1001 443 2 0 0 3 573 true 574 .none (r 575) (r 576) (r 577) 1007
def o579 (P : Params) : Obj := fo "for_name" "for_name" [88] .none (s "basicplus.control" 910) (r 578) .none []
def o582 (P : Params) : Obj := tu [(s "control" 1013), (s "name" 1014), (s "value" 1015), (s "add" 1016), (s "order" 1017), (s "at" 1018), (s "kind" 1019), (s "word" 1020), (s "place" 1021), (s "limit" 1022), (s "step" 1023)]
def o584 (P : Params) : Obj := ff [89] "for_next"
def o585 (P : Params) : Obj := co "for_next" "for_next" 1010 448 5 0 0 3 580 true 581 .none (r 582) (r 583) (r 584) 1024
def o586 (P : Params) : Obj := fo "for_next" "for_next" [89] .none (s "basicplus.control" 910) (r 585) .none []
def o589 (P : Params) : Obj := ff [90] "while_begin"
def o590 (P : Params) : Obj := co "while_begin" "while_begin" 1027 459 2 0 0 3 587 true 588 .none .none .none (r 589) 1030
def o591 (P : Params) : Obj := fo "while_begin" "while_begin" [90] .none (s "basicplus.control" 910) (r 590) .none []
def o594 (P : Params) : Obj := ff [91] "while_end"
def o595 (P : Params) : Obj := co "while_end" "while_end" 1033 466 2 0 0 3 592 true 593 .none .none .none (r 594) 1036
def o596 (P : Params) : Obj := fo "while_end" "while_end" [91] .none (s "basicplus.control" 910) (r 595) .none []
def o597 (P : Params) : Obj := tu [(s "" 1039)]
def o600 (P : Params) : Obj := tu [(s "control" 1043), (s "place" 1044), (s "at" 1045)]
def o602 (P : Params) : Obj := ff [92] "wend_place"
def o603 (P : Params) : Obj := co "wend_place" "wend_place" 1040 471 2 0 0 3 598 true 599 .none (r 600) (r 601) (r 602) 1046
def o604 (P : Params) : Obj := fo "wend_place" "wend_place" [92] (r 597) (s "basicplus.control" 910) (r 603) .none []
def o607 (P : Params) : Obj := tu [(s "control" 1052), (s "place" 1053)]
def o609 (P : Params) : Obj := ff [93] "gosub"
def o610 (P : Params) : Obj := co "gosub" "gosub" 1049 477 2 0 0 3 605 true 606 .none (r 607) (r 608) (r 609) 1054
def o611 (P : Params) : Obj := fo "gosub" "gosub" [93] .none (s "basicplus.control" 910) (r 610) .none []
def t6 : Params → BT := (N boot_o_0 (N boot_o_1 (N o3v5 (N boot_o_7 (N o15 (N o31 (N o63 (N o127 (N o255 (L o16) E) (L o11)) (N o191 (N o11 (L o575) E) (L o11))) (N o12 (N o12 (N o11 (L o543) E) (L o11)) (N o223 (N o351 (L o607) E) (L o479)))) (N o47 (N o79 (N o143 (N o12 (L o527) E) (L o399)) (N o11 (N o16 (L o591) E) (L o463))) (N o11 (N o11 (N o11 (L o11) E) (L o431)) (M o239 o367 o495)))) (N o23 (N o12 (N o71 (N o135 (N o11 (L o519) E) (L o12)) (N o199 (N o12 (L o11) E) (L o12))) (N o103 (N o167 (N o295 (L o551) E) (L o423)) (M o11 o359 o487))) (N o11 (N o11 (N o11 (N o279 (L o535) E) (L o11)) (N o12 (N o343 (L o12) E) (L o11))) (N o119 (N o183 (N o311 (L o12) E) (L o439)) (M o247 o375 o11))))) (N o11 (N o11 (N o35 (N o12 (N o12 (N o11 (L o515) E) (L o387)) (N o195 (N o323 (L o579) E) (L o451))) (N o99 (N o163 (N o291 (L o547) E) (L o11)) (N o227 (N o11 (L o611) E) (L o12)))) (N o51 (N o11 (N o11 (N o275 (L o11) E) (L o12)) (N o211 (N o339 (L o595) E) (L o467))) (N o11 (N o11 (N o11 (L o563) E) (L o435)) (M o12 o371 o11)))) (N o27 (N o43 (N o75 (N o139 (N o267 (L o523) E) (L o395)) (N o11 (N o331 (L o11) E) (L o459))) (N o107 (N o171 (N o299 (L o11) E) (L o427)) (M o11 o12 o491))) (N o11 (N o91 (N o155 (N o283 (L o12) E) (L o411)) (N o219 (N o347 (L o603) E) (L o11))) (N o12 (N o12 (N o12 (L o571) E) (L o11)) (M o251 o11 o507)))))) (N boot_o_5 (N boot_o_9 (N o17 (N o33 (N o65 (N o129 (N o12 (L o11) E) (L o385)) (N o11 (N o321 (L o577) E) (L o449))) (N o11 (N o11 (N o289 (L o11) E) (L o417)) (N o225 (N o353 (L o609) E) (L o481)))) (N o49 (N o12 (N o12 (N o11 (L o529) E) (L o401)) (N o209 (N o11 (L o12) E) (L o465))) (N o113 (N o177 (N o305 (L o561) E) (L o11)) (M o241 o11 o12)))) (N o25 (N o11 (N o11 (N o11 (N o265 (L o521) E) (L o11)) (N o12 (N o11 (L o585) E) (L o11))) (N o105 (N o169 (N o297 (L o12) E) (L o425)) (M o233 o361 o11))) (N o57 (N o89 (N o153 (N o281 (L o537) E) (L o409)) (N o11 (N o345 (L o11) E) (L o473))) (N o121 (N o185 (N o313 (L o11) E) (L o12)) (M o11 o12 o505))))) (N o13 (N o21 (N o37 (N o11 (N o11 (N o261 (L o11) E) (L o389)) (N o197 (N o325 (L o12) E) (L o453))) (N o11 (N o11 (N o11 (L o549) E) (L o421)) (M o12 o357 o11))) (N o12 (N o85 (N o149 (N o11 (L o533) E) (L o405)) (N o213 (N o11 (L o597) E) (L o12))) (N o117 (N o181 (N o309 (L o565) E) (L o437)) (M o11 o373 o501)))) (N o29 (N o11 (N o77 (N o141 (N o269 (L o525) E) (L o11)) (N o205 (N o333 (L o589) E) (L o11))) (N o12 (N o12 (N o12 (L o557) E) (L o429)) (M o237 o11 o493))) (N o61 (N o93 (N o157 (N o12 (L o11) E) (L o16)) (N o11 (N o349 (L o11) E) (L o477))) (N o11 (N o11 (N o317 (L o11) E) (L o445)) (M o253 o381 o509))))))) (N o2 (N boot_o_4 (N boot_o_8 (N o16 (N o32 (N o64 (N o128 (N o11 (L o512) E) (L o12)) (N o192 (N o12 (L o11) E) (L o12))) (N o96 (N o160 (N o288 (L o544) E) (L o416)) (N o11 (N o352 (L o11) E) (L o480)))) (N o11 (N o11 (N o11 (N o272 (L o528) E) (L o400)) (N o12 (N o336 (L o11) E) (L o11))) (N o112 (N o176 (N o304 (L o12) E) (L o432)) (M o240 o368 o11)))) (N o24 (N o40 (N o72 (N o136 (N o12 (L o11) E) (L o392)) (N o11 (N o328 (L o584) E) (L o456))) (N o11 (N o11 (N o11 (L o11) E) (L o424)) (M o232 o360 o488))) (N o56 (N o12 (N o12 (N o11 (L o536) E) (L o12)) (N o216 (N o11 (L o600) E) (L o472))) (N o120 (N o184 (N o312 (L o568) E) (L o11)) (M o248 o11 o12))))) (N o12v6 (N o20 (N o36 (N o68 (N o132 (N o260 (L o516) E) (L o388)) (N o11 (N o324 (L o11) E) (L o452))) (N o100 (N o164 (N o292 (L o11) E) (L o12)) (M o11 o12 o484))) (N o11 (N o84 (N o148 (N o276 (L o12) E) (L o404)) (N o212 (N o340 (L o596) E) (L o11))) (N o12 (N o12 (N o12 (L o564) E) (L o11)) (M o244 o11 o500)))) (N o11 (N o44 (N o11 (N o11 (N o268 (L o524) E) (L o396)) (N o204 (N o332 (L o12) E) (L o460))) (N o11 (N o11 (N o11 (L o556) E) (L o428)) (M o12 o364 o11))) (N o12 (N o92 (N o156 (N o11 (L o540) E) (L o11)) (N o220 (N o348 (L o604) E) (L o12))) (N o124 (N o188 (N o316 (L o572) E) (L o444)) (M o11 o380 o508)))))) (N boot_o_6 (N boot_o_10 (N o18 (N o34 (N o11 (N o11 (N o258 (L o514) E) (L o11)) (N o12 (N o11 (L o578) E) (L o11))) (N o98 (N o162 (N o290 (L o12) E) (L o418)) (N o226 (N o354 (L o610) E) (L o11)))) (N o50 (N o82 (N o146 (N o274 (L o530) E) (L o11)) (N o11 (N o338 (L o594) E) (L o466))) (N o114 (N o178 (N o306 (L o11) E) (L o12)) (M o11 o12 o498)))) (N o12 (N o42 (N o12 (N o12 (N o11 (L o522) E) (L o394)) (N o202 (N o330 (L o586) E) (L o458))) (N o106 (N o170 (N o298 (L o554) E) (L o426)) (M o234 o11 o12))) (N o58 (N o11 (N o11 (N o282 (L o11) E) (L o410)) (N o218 (N o346 (L o602) E) (L o474))) (N o11 (N o11 (N o11 (L o570) E) (L o442)) (M o12 o378 o11))))) (N o14 (N o22 (N o11 (N o70 (N o134 (N o262 (L o12) E) (L o11)) (N o198 (N o11 (L o582) E) (L o11))) (N o12 (N o12 (N o12 (L o550) E) (L o11)) (M o230 o11 o486))) (N o54 (N o86 (N o150 (N o12 (L o11) E) (L o406)) (N o11 (N o12 (L o11) E) (L o470))) (N o11 (N o11 (N o11 (L o11) E) (L o438)) (M o246 o374 o502)))) (N o30 (N o12 (N o78 (N o142 (N o11 (L o526) E) (L o12)) (N o206 (N o11 (L o590) E) (L o12))) (N o110 (N o174 (N o302 (L o558) E) (L o430)) (M o11 o366 o494))) (N o11 (N o11 (N o11 (N o286 (L o542) E) (L o414)) (N o12 (N o350 (L o12) E) (L o11))) (N o126 (N o190 (N o318 (L o12) E) (L o446)) (M o254 o382 o11))))))))
def o3v6 (P : Params) : Obj := d3 P (s "basicplus.flow" 1074) 102
def o12v7 (P : Params) : Obj := fl (ml.take 255)
def o614 (P : Params) : Obj := tu [(s "control" 1060), (s "many" 1061), (s "place" 1062)]
def o616 (P : Params) : Obj := ff [94] "return_place"
def o617 (P : Params) : Obj := co "return_place" "return_place" 1057 479 1 0 0 3 612 true 613 .none (r 614) (r 615) (r 616) 1063
def o618 (P : Params) : Obj := fo "return_place" "return_place" [94] .none (s "basicplus.control" 910) (r 617) .none []
def o621 (P : Params) : Obj := tu [(s "number" 1069), (s "many" 1070)]
def o623 (P : Params) : Obj := ff [95] "chosen"
def o624 (P : Params) : Obj := co "chosen" "chosen" 1066 486 2 0 0 3 619 true 620 .none (r 621) (r 622) (r 623) 1071
def o625 (P : Params) : Obj := fo "chosen" "chosen" [95] .none (s "basicplus.control" 910) (r 624) .none []
def o626 (P : Params) : Obj := tu [(s "IFNOT" 1076), (s "JUMP" 1077), (s "GOTO" 1078), (s "GOSUB" 1079), (s "ONGO" 1080), (s "RETURN" 1081)]
def o629 (P : Params) : Obj := tu [(s "run" 1086), (s "at" 1087), (s "statement" 1088)]
def o631 (P : Params) : Obj := ff [98] "do_flow"
def o632 (P : Params) : Obj := co "do_flow" "do_flow" 1083 492 3 0 0 3 627 true 628 .none (r 629) (r 630) (r 631) 1089
def o633 (P : Params) : Obj := fo "do_flow" "do_flow" [98] .none (s "basicplus.flow" 1074) (r 632) .none []
def o636 (P : Params) : Obj := tu [(s "run" 1095), (s "at" 1096), (s "statement" 1097), (s "word" 1098), (s "place" 1099), (s "line" 1100), (s "which" 1101), (s "goal" 1102)]
def o638 (P : Params) : Obj := ff [99] "do_jump"
def o639 (P : Params) : Obj := co "do_jump" "do_jump" 1092 494 3 0 0 3 634 true 635 .none (r 636) (r 637) (r 638) 1103
def o640 (P : Params) : Obj := fo "do_jump" "do_jump" [99] .none (s "basicplus.flow" 1074) (r 639) .none []
def o643 (P : Params) : Obj := tu [(s "run" 1109), (s "at" 1110), (s "statement" 1111), (s "word" 1112)]
def o645 (P : Params) : Obj := ff [100] "do_loop"
def o646 (P : Params) : Obj := co "do_loop" "do_loop" 1106 513 3 0 0 3 641 true 642 .none (r 643) (r 644) (r 645) 1113
def o647 (P : Params) : Obj := fo "do_loop" "do_loop" [100] .none (s "basicplus.flow" 1074) (r 646) .none []
def o650 (P : Params) : Obj := tu [(s "run" 1119), (s "at" 1120), (s "statement" 1121), (s "word" 1122), (s "name" 1123), (s "first" 1124), (s "last" 1125), (s "stride" 1126), (s "begin" 1127), (s "limit" 1128), (s "step" 1129), (s "value" 1130), (s "row" 1131), (s "which" 1132), (s "names" 1133)]
def o652 (P : Params) : Obj := ff [101] "do_for"
def o653 (P : Params) : Obj := co "do_for" "do_for" 1116 526 3 0 0 3 648 true 649 .none (r 650) (r 651) (r 652) 1134
def o654 (P : Params) : Obj := fo "do_for" "do_for" [101] .none (s "basicplus.flow" 1074) (r 653) .none []
def o657 (P : Params) : Obj := tu [(s "run" 1140), (s "at" 1141), (s "names" 1142), (s "told" 1143), (s "name" 1144), (s "value" 1145), (s "place" 1146)]
def o659 (P : Params) : Obj := ff [102] "next_from"
def o660 (P : Params) : Obj := co "next_from" "next_from" 1137 540 3 0 0 3 655 true 656 .none (r 657) (r 658) (r 659) 1147
def o661 (P : Params) : Obj := fo "next_from" "next_from" [102] .none (s "basicplus.flow" 1074) (r 660) .none []
def t7 : Params → BT := (N boot_o_0 (N boot_o_1 (N o3v6 (N boot_o_7 (N o15 (N o31 (N o63 (N o127 (N o255 (L o16) E) (N o11 (L o639) E)) (N o191 (N o11 (L o575) E) (L o11))) (N o12 (N o12 (N o11 (L o543) E) (L o11)) (N o223 (N o351 (L o607) E) (L o479)))) (N o47 (N o79 (N o143 (N o12 (L o527) E) (N o399 (L o11) E)) (N o11 (N o16 (L o591) E) (L o463))) (N o11 (N o11 (N o11 (L o11) E) (L o431)) (N o239 (N o367 (L o623) E) (L o495))))) (N o23 (N o12 (N o71 (N o135 (N o11 (L o519) E) (N o12 (L o647) E)) (N o199 (N o12 (L o11) E) (L o12))) (N o103 (N o167 (N o295 (L o551) E) (L o423)) (N o11 (N o359 (L o11) E) (L o487)))) (N o11 (N o11 (N o11 (N o279 (L o535) E) (L o11)) (N o12 (N o343 (L o12) E) (L o11))) (N o119 (N o183 (N o311 (L o12) E) (L o439)) (N o247 (N o375 (L o631) E) (L o11)))))) (N o11 (N o11 (N o35 (N o12 (N o12 (N o11 (L o515) E) (N o387 (L o643) E)) (N o195 (N o323 (L o579) E) (L o451))) (N o99 (N o163 (N o291 (L o547) E) (L o11)) (N o227 (N o11 (L o611) E) (L o12)))) (N o51 (N o11 (N o11 (N o275 (L o11) E) (N o12 (L o659) E)) (N o211 (N o339 (L o595) E) (L o467))) (N o11 (N o11 (N o11 (L o563) E) (L o435)) (N o12 (N o371 (L o11) E) (L o11))))) (N o27 (N o43 (N o75 (N o139 (N o267 (L o523) E) (N o395 (L o11) E)) (N o11 (N o331 (L o11) E) (L o459))) (N o107 (N o171 (N o299 (L o11) E) (L o427)) (N o11 (N o12 (L o11) E) (L o491)))) (N o11 (N o91 (N o155 (N o283 (L o12) E) (L o411)) (N o219 (N o347 (L o603) E) (L o11))) (N o12 (N o12 (N o12 (L o571) E) (L o11)) (N o251 (N o11 (L o12) E) (L o507))))))) (N boot_o_5 (N boot_o_9 (N o17 (N o33 (N o65 (N o129 (N o12 (L o11) E) (N o385 (L o11) E)) (N o11 (N o321 (L o577) E) (L o449))) (N o11 (N o11 (N o289 (L o11) E) (L o417)) (N o225 (N o353 (L o609) E) (L o481)))) (N o49 (N o12 (N o12 (N o11 (L o529) E) (N o401 (L o657) E)) (N o209 (N o11 (L o12) E) (L o465))) (N o113 (N o177 (N o305 (L o561) E) (L o11)) (N o241 (N o11 (L o625) E) (L o12))))) (N o25 (N o11 (N o11 (N o11 (N o265 (L o521) E) (N o11 (L o12) E)) (N o12 (N o11 (L o585) E) (L o11))) (N o105 (N o169 (N o297 (L o12) E) (L o425)) (N o233 (N o361 (L o617) E) (L o11)))) (N o57 (N o89 (N o153 (N o281 (L o537) E) (L o409)) (N o11 (N o345 (L o11) E) (L o473))) (N o121 (N o185 (N o313 (L o11) E) (L o12)) (N o11 (N o12 (L o633) E) (L o505)))))) (N o13 (N o21 (N o37 (N o11 (N o11 (N o261 (L o11) E) (N o389 (L o645) E)) (N o197 (N o325 (L o12) E) (L o453))) (N o11 (N o11 (N o11 (L o549) E) (L o421)) (N o12 (N o357 (L o12) E) (L o11)))) (N o12 (N o85 (N o149 (N o11 (L o533) E) (N o405 (L o661) E)) (N o213 (N o11 (L o597) E) (L o12))) (N o117 (N o181 (N o309 (L o565) E) (L o437)) (N o11 (N o373 (L o629) E) (L o501))))) (N o29 (N o11 (N o77 (N o141 (N o269 (L o525) E) (N o11 (L o653) E)) (N o205 (N o333 (L o589) E) (L o11))) (N o12 (N o12 (N o12 (L o557) E) (L o429)) (N o237 (N o11 (L o621) E) (L o493)))) (N o61 (N o93 (N o157 (N o12 (L o11) E) (L o16)) (N o11 (N o349 (L o11) E) (L o477))) (N o11 (N o11 (N o317 (L o11) E) (L o445)) (N o253 (N o381 (L o11) E) (L o509)))))))) (N o2 (N boot_o_4 (N boot_o_8 (N o16 (N o32 (N o64 (N o128 (N o11 (L o512) E) (N o12 (L o640) E)) (N o192 (N o12 (L o11) E) (L o12))) (N o96 (N o160 (N o288 (L o544) E) (L o416)) (N o11 (N o352 (L o11) E) (L o480)))) (N o11 (N o11 (N o11 (N o272 (L o528) E) (N o400 (L o12) E)) (N o12 (N o336 (L o11) E) (L o11))) (N o112 (N o176 (N o304 (L o12) E) (L o432)) (N o240 (N o368 (L o624) E) (L o11))))) (N o24 (N o40 (N o72 (N o136 (N o12 (L o11) E) (N o392 (L o11) E)) (N o11 (N o328 (L o584) E) (L o456))) (N o11 (N o11 (N o11 (L o11) E) (L o424)) (N o232 (N o360 (L o616) E) (L o488)))) (N o56 (N o12 (N o12 (N o11 (L o536) E) (L o12)) (N o216 (N o11 (L o600) E) (L o472))) (N o120 (N o184 (N o312 (L o568) E) (L o11)) (N o248 (N o11 (L o632) E) (L o12)))))) (N o12v7 (N o20 (N o36 (N o68 (N o132 (N o260 (L o516) E) (N o388 (L o11) E)) (N o11 (N o324 (L o11) E) (L o452))) (N o100 (N o164 (N o292 (L o11) E) (L o12)) (N o11 (N o12 (L o11) E) (L o484)))) (N o11 (N o84 (N o148 (N o276 (L o12) E) (N o404 (L o660) E)) (N o212 (N o340 (L o596) E) (L o11))) (N o12 (N o12 (N o12 (L o564) E) (L o11)) (N o244 (N o11 (L o12) E) (L o500))))) (N o11 (N o44 (N o11 (N o11 (N o268 (L o524) E) (N o396 (L o652) E)) (N o204 (N o332 (L o12) E) (L o460))) (N o11 (N o11 (N o11 (L o556) E) (L o428)) (N o12 (N o364 (L o12) E) (L o11)))) (N o12 (N o92 (N o156 (N o11 (L o540) E) (L o11)) (N o220 (N o348 (L o604) E) (L o12))) (N o124 (N o188 (N o316 (L o572) E) (L o444)) (N o11 (N o380 (L o636) E) (L o508))))))) (N boot_o_6 (N boot_o_10 (N o18 (N o34 (N o11 (N o11 (N o258 (L o514) E) (N o11 (L o12) E)) (N o12 (N o11 (L o578) E) (L o11))) (N o98 (N o162 (N o290 (L o12) E) (L o418)) (N o226 (N o354 (L o610) E) (L o11)))) (N o50 (N o82 (N o146 (N o274 (L o530) E) (N o11 (L o11) E)) (N o11 (N o338 (L o594) E) (L o466))) (N o114 (N o178 (N o306 (L o11) E) (L o12)) (N o11 (N o12 (L o626) E) (L o498))))) (N o12 (N o42 (N o12 (N o12 (N o11 (L o522) E) (N o394 (L o650) E)) (N o202 (N o330 (L o586) E) (L o458))) (N o106 (N o170 (N o298 (L o554) E) (L o426)) (N o234 (N o11 (L o618) E) (L o12)))) (N o58 (N o11 (N o11 (N o282 (L o11) E) (L o410)) (N o218 (N o346 (L o602) E) (L o474))) (N o11 (N o11 (N o11 (L o570) E) (L o442)) (N o12 (N o378 (L o11) E) (L o11)))))) (N o14 (N o22 (N o11 (N o70 (N o134 (N o262 (L o12) E) (N o11 (L o646) E)) (N o198 (N o11 (L o582) E) (L o11))) (N o12 (N o12 (N o12 (L o550) E) (L o11)) (N o230 (N o11 (L o614) E) (L o486)))) (N o54 (N o86 (N o150 (N o12 (L o11) E) (L o406)) (N o11 (N o12 (L o11) E) (L o470))) (N o11 (N o11 (N o11 (L o11) E) (L o438)) (N o246 (N o374 (L o11) E) (L o502))))) (N o30 (N o12 (N o78 (N o142 (N o11 (L o526) E) (N o12 (L o654) E)) (N o206 (N o11 (L o590) E) (L o12))) (N o110 (N o174 (N o302 (L o558) E) (L o430)) (N o11 (N o366 (L o11) E) (L o494)))) (N o11 (N o11 (N o11 (N o286 (L o542) E) (L o414)) (N o12 (N o350 (L o12) E) (L o11))) (N o126 (N o190 (N o318 (L o12) E) (L o446)) (N o254 (N o382 (L o638) E) (L o11)))))))))
def o3v7 (P : Params) : Obj := d3 P (s "basicplus.hooks" 1243) 103
def o12v8 (P : Params) : Obj := fl (ml.take 258)
def o664 (P : Params) : Obj := { cls := (.type "dict"), data := .dict #[e P "__module__" 1157 (s "basicplus.flow" 1074), e P "__qualname__" 1159 (s "FlowRun" 1158), e P "__firstlineno__" 1161 (i 548 1160), e P "__init__" 1173 (r 675), e P "worth" 1182 (r 682), e P "whole" 1190 (r 689), e P "value_of_name" 1198 (r 696), e P "store" 1207 (r 703), e P "plus" 1216 (r 710), e P "go" 1227 (r 717), e P "__static_attributes__" 1235 (r 718)] 11 }
def o666 (P : Params) : Obj := fl [(i 550 0), (i 4 0), (r 674), (i 559 0), (i 4 0), (r 681), (i 563 0), (i 4 0), (r 688), (i 566 0), (i 4 0), (r 695), (i 569 0), (i 4 0), (r 702), (i 572 0), (i 4 0), (r 709), (i 575 0), (i 4 0), (r 716)]
def o667 (P : Params) : Obj := co "FlowRun" "FlowRun" 1152 548 0 0 0 0 665 false 666 .none .none .none .none 1155
def o668 (P : Params) : Obj := { cls := (.type "frame"), slots := #[some (r 667), some (r 3), some (r 664), none, some (s "basicplus.flow" 1074), none, some (r 0)] }
def o671 (P : Params) : Obj := tu [(s "self" 1165), (s "flat" 1166), (s "values" 1167), (s "worth_of" 1168), (s "bits" 1169), (s "digits" 1170)]
def o673 (P : Params) : Obj := ff [103, 0] "FlowRun.__init__"
def o674 (P : Params) : Obj := co "__init__" "FlowRun.__init__" 1162 550 6 0 0 3 669 true 670 .none (r 671) (r 672) (r 673) 1171
def o675 (P : Params) : Obj := fo "__init__" "FlowRun.__init__" [103, 0] .none (s "basicplus.flow" 1074) (r 674) .none []
def o678 (P : Params) : Obj := tu [(s "self" 1177), (s "tree" 1178), (s "given_worth" 1179)]
def o680 (P : Params) : Obj := ff [103, 1] "FlowRun.worth"
def o681 (P : Params) : Obj := co "worth" "FlowRun.worth" 1174 559 2 0 0 3 676 true 677 .none (r 678) (r 679) (r 680) 1180
def o682 (P : Params) : Obj := fo "worth" "FlowRun.worth" [103, 1] .none (s "basicplus.flow" 1074) (r 681) .none []
def o685 (P : Params) : Obj := tu [(s "self" 1186), (s "tree" 1187)]
def o687 (P : Params) : Obj := ff [103, 2] "FlowRun.whole"
def o688 (P : Params) : Obj := co "whole" "FlowRun.whole" 1183 563 2 0 0 3 683 true 684 .none (r 685) (r 686) (r 687) 1188
def o689 (P : Params) : Obj := fo "whole" "FlowRun.whole" [103, 2] .none (s "basicplus.flow" 1074) (r 688) .none []
def o692 (P : Params) : Obj := tu [(s "self" 1194), (s "name" 1195)]
def o694 (P : Params) : Obj := ff [103, 3] "FlowRun.value_of_name"
def o695 (P : Params) : Obj := co "value_of_name" "FlowRun.value_of_name" 1191 566 2 0 0 3 690 true 691 .none (r 692) (r 693) (r 694) 1196
def o696 (P : Params) : Obj := fo "value_of_name" "FlowRun.value_of_name" [103, 3] .none (s "basicplus.flow" 1074) (r 695) .none []
def o699 (P : Params) : Obj := tu [(s "self" 1202), (s "name" 1203), (s "value" 1204)]
def o701 (P : Params) : Obj := ff [103, 4] "FlowRun.store"
def o702 (P : Params) : Obj := co "store" "FlowRun.store" 1199 569 3 0 0 3 697 true 698 .none (r 699) (r 700) (r 701) 1205
def o703 (P : Params) : Obj := fo "store" "FlowRun.store" [103, 4] .none (s "basicplus.flow" 1074) (r 702) .none []
def o706 (P : Params) : Obj := tu [(s "self" 1211), (s "value" 1212), (s "step" 1213)]
def o708 (P : Params) : Obj := ff [103, 5] "FlowRun.plus"
def o709 (P : Params) : Obj := co "plus" "FlowRun.plus" 1208 572 3 0 0 3 704 true 705 .none (r 706) (r 707) (r 708) 1214
def o710 (P : Params) : Obj := fo "plus" "FlowRun.plus" [103, 5] .none (s "basicplus.flow" 1074) (r 709) .none []
def o713 (P : Params) : Obj := tu [(s "self" 1220), (s "at" 1221), (s "most" 1222), (s "turn" 1223), (s "statement" 1224)]
def o715 (P : Params) : Obj := ff [103, 6] "FlowRun.go"
def o716 (P : Params) : Obj := co "go" "FlowRun.go" 1217 575 3 0 0 3 711 true 712 .none (r 713) (r 714) (r 715) 1225
def o717 (P : Params) : Obj := fo "go" "FlowRun.go" [103, 6] .none (s "basicplus.flow" 1074) (r 716) .none []
def o718 (P : Params) : Obj := tu [(s "bits" 1228), (s "control" 1229), (s "digits" 1230), (s "flat" 1231), (s "notes" 1232), (s "values" 1233), (s "worth_of" 1234)]
def o719 (P : Params) : Obj := { cls := (.type "dict"), data := .dict #[e P "__module__" 1157 (s "basicplus.flow" 1074), e P "__firstlineno__" 1161 (i 548 1160), e P "__init__" 1173 (r 675), e P "worth" 1182 (r 682), e P "whole" 1190 (r 689), e P "value_of_name" 1198 (r 696), e P "store" 1207 (r 703), e P "plus" 1216 (r 710), e P "go" 1227 (r 717), e P "__static_attributes__" 1235 (r 718), e P "__dict__" 1237 (r 721), e P "__weakref__" 1239 (r 722), e P "__doc__" 1240 .none] 4 }
def o720 (P : Params) : Obj := { cls := (.type "type"), data := .cls { name := "FlowRun", bases := [(.type "object")], mro := [(r 720), (.type "object")], ns := 719, qualname := "FlowRun" }, slots := #[none, none, some (s "FlowRun" 1150), some (s "FlowRun" 1158), some (.builtin "object.__new__"), some (.bool true)] }
def o721 (P : Params) : Obj := { cls := (.type "getset_descriptor"), data := .fields #[(s "__dict__" 1236), (r 720), (.builtin "function.__dict__"), (.builtin "function.__dict__#set")] }
def o722 (P : Params) : Obj := { cls := (.type "getset_descriptor"), data := .fields #[(s "__weakref__" 1238), (r 720), (.builtin "ExceptionGroup.__weakref__"), .none] }
def o723 (P : Params) : Obj := { cls := (.type "super"), data := .fields #[(r 720), (r 720), (r 720)] }
def o724 (P : Params) : Obj := { cls := (.type "builtin_function_or_method"), data := .fields #[(.builtin "object.__init_subclass__"), (r 720)] }
def t8 : Params → BT := (N boot_o_0 (N boot_o_1 (N o3v7 (N boot_o_7 (N o15 (N o31 (N o63 (N o127 (N o255 (L o16) E) (N o11 (L o639) E)) (N o191 (N o11 (L o575) E) (N o11 (L o703) E))) (N o12 (N o12 (N o11 (L o543) E) (N o11 (L o671) E)) (N o223 (N o351 (L o607) E) (L o479)))) (N o47 (N o79 (N o143 (N o12 (L o527) E) (N o399 (L o11) E)) (N o11 (N o16 (L o591) E) (N o463 (L o719) E))) (N o11 (N o11 (N o11 (L o11) E) (N o431 (L o687) E)) (N o239 (N o367 (L o623) E) (L o495))))) (N o23 (N o12 (N o71 (N o135 (N o11 (L o519) E) (N o12 (L o647) E)) (N o199 (N o12 (L o11) E) (N o12 (L o11) E))) (N o103 (N o167 (N o295 (L o551) E) (N o423 (L o11) E)) (N o11 (N o359 (L o11) E) (L o487)))) (N o11 (N o11 (N o11 (N o279 (L o535) E) (N o11 (L o16) E)) (N o12 (N o343 (L o12) E) (L o11))) (N o119 (N o183 (N o311 (L o12) E) (N o439 (L o695) E)) (N o247 (N o375 (L o631) E) (L o11)))))) (N o11 (N o11 (N o35 (N o12 (N o12 (N o11 (L o515) E) (N o387 (L o643) E)) (N o195 (N o323 (L o579) E) (N o451 (L o11) E))) (N o99 (N o163 (N o291 (L o547) E) (N o11 (L o675) E)) (N o227 (N o11 (L o611) E) (L o12)))) (N o51 (N o11 (N o11 (N o275 (L o11) E) (N o12 (L o659) E)) (N o211 (N o339 (L o595) E) (N o467 (L o723) E))) (N o11 (N o11 (N o11 (L o563) E) (N o435 (L o12) E)) (N o12 (N o371 (L o11) E) (L o11))))) (N o27 (N o43 (N o75 (N o139 (N o267 (L o523) E) (N o395 (L o11) E)) (N o11 (N o331 (L o11) E) (N o459 (L o715) E))) (N o107 (N o171 (N o299 (L o11) E) (N o427 (L o11) E)) (N o11 (N o12 (L o11) E) (L o491)))) (N o11 (N o91 (N o155 (N o283 (L o12) E) (N o411 (L o667) E)) (N o219 (N o347 (L o603) E) (L o11))) (N o12 (N o12 (N o12 (L o571) E) (N o11 (L o699) E)) (N o251 (N o11 (L o12) E) (L o507))))))) (N boot_o_5 (N boot_o_9 (N o17 (N o33 (N o65 (N o129 (N o12 (L o11) E) (N o385 (L o11) E)) (N o11 (N o321 (L o577) E) (N o449 (L o12) E))) (N o11 (N o11 (N o289 (L o11) E) (N o417 (L o673) E)) (N o225 (N o353 (L o609) E) (L o481)))) (N o49 (N o12 (N o12 (N o11 (L o529) E) (N o401 (L o657) E)) (N o209 (N o11 (L o12) E) (N o465 (L o721) E))) (N o113 (N o177 (N o305 (L o561) E) (N o11 (L o689) E)) (N o241 (N o11 (L o625) E) (L o12))))) (N o25 (N o11 (N o11 (N o11 (N o265 (L o521) E) (N o11 (L o12) E)) (N o12 (N o11 (L o585) E) (N o11 (L o713) E))) (N o105 (N o169 (N o297 (L o12) E) (N o425 (L o681) E)) (N o233 (N o361 (L o617) E) (L o11)))) (N o57 (N o89 (N o153 (N o281 (L o537) E) (N o409 (L o11) E)) (N o11 (N o345 (L o11) E) (L o473))) (N o121 (N o185 (N o313 (L o11) E) (N o12 (L o11) E)) (N o11 (N o12 (L o633) E) (L o505)))))) (N o13 (N o21 (N o37 (N o11 (N o11 (N o261 (L o11) E) (N o389 (L o645) E)) (N o197 (N o325 (L o12) E) (N o453 (L o709) E))) (N o11 (N o11 (N o11 (L o549) E) (N o421 (L o12) E)) (N o12 (N o357 (L o12) E) (L o11)))) (N o12 (N o85 (N o149 (N o11 (L o533) E) (N o405 (L o661) E)) (N o213 (N o11 (L o597) E) (L o12))) (N o117 (N o181 (N o309 (L o565) E) (N o437 (L o11) E)) (N o11 (N o373 (L o629) E) (L o501))))) (N o29 (N o11 (N o77 (N o141 (N o269 (L o525) E) (N o11 (L o653) E)) (N o205 (N o333 (L o589) E) (N o11 (L o717) E))) (N o12 (N o12 (N o12 (L o557) E) (N o429 (L o685) E)) (N o237 (N o11 (L o621) E) (L o493)))) (N o61 (N o93 (N o157 (N o12 (L o11) E) (N o16 (L o11) E)) (N o11 (N o349 (L o11) E) (L o477))) (N o11 (N o11 (N o317 (L o11) E) (N o445 (L o701) E)) (N o253 (N o381 (L o11) E) (L o509)))))))) (N o2 (N boot_o_4 (N boot_o_8 (N o16 (N o32 (N o64 (N o128 (N o11 (L o512) E) (N o12 (L o640) E)) (N o192 (N o12 (L o11) E) (N o12 (L o11) E))) (N o96 (N o160 (N o288 (L o544) E) (N o416 (L o11) E)) (N o11 (N o352 (L o11) E) (L o480)))) (N o11 (N o11 (N o11 (N o272 (L o528) E) (N o400 (L o12) E)) (N o12 (N o336 (L o11) E) (N o11 (L o720) E))) (N o112 (N o176 (N o304 (L o12) E) (N o432 (L o688) E)) (N o240 (N o368 (L o624) E) (L o11))))) (N o24 (N o40 (N o72 (N o136 (N o12 (L o11) E) (N o392 (L o11) E)) (N o11 (N o328 (L o584) E) (N o456 (L o12) E))) (N o11 (N o11 (N o11 (L o11) E) (N o424 (L o680) E)) (N o232 (N o360 (L o616) E) (L o488)))) (N o56 (N o12 (N o12 (N o11 (L o536) E) (N o12 (L o664) E)) (N o216 (N o11 (L o600) E) (L o472))) (N o120 (N o184 (N o312 (L o568) E) (N o11 (L o696) E)) (N o248 (N o11 (L o632) E) (L o12)))))) (N o12v8 (N o20 (N o36 (N o68 (N o132 (N o260 (L o516) E) (N o388 (L o11) E)) (N o11 (N o324 (L o11) E) (N o452 (L o708) E))) (N o100 (N o164 (N o292 (L o11) E) (N o12 (L o11) E)) (N o11 (N o12 (L o11) E) (L o484)))) (N o11 (N o84 (N o148 (N o276 (L o12) E) (N o404 (L o660) E)) (N o212 (N o340 (L o596) E) (N o11 (L o724) E))) (N o12 (N o12 (N o12 (L o564) E) (N o11 (L o692) E)) (N o244 (N o11 (L o12) E) (L o500))))) (N o11 (N o44 (N o11 (N o11 (N o268 (L o524) E) (N o396 (L o652) E)) (N o204 (N o332 (L o12) E) (N o460 (L o716) E))) (N o11 (N o11 (N o11 (L o556) E) (N o428 (L o12) E)) (N o12 (N o364 (L o12) E) (L o11)))) (N o12 (N o92 (N o156 (N o11 (L o540) E) (N o11 (L o668) E)) (N o220 (N o348 (L o604) E) (L o12))) (N o124 (N o188 (N o316 (L o572) E) (N o444 (L o11) E)) (N o11 (N o380 (L o636) E) (L o508))))))) (N boot_o_6 (N boot_o_10 (N o18 (N o34 (N o11 (N o11 (N o258 (L o514) E) (N o11 (L o12) E)) (N o12 (N o11 (L o578) E) (N o11 (L o706) E))) (N o98 (N o162 (N o290 (L o12) E) (N o418 (L o674) E)) (N o226 (N o354 (L o610) E) (L o11)))) (N o50 (N o82 (N o146 (N o274 (L o530) E) (N o11 (L o11) E)) (N o11 (N o338 (L o594) E) (N o466 (L o722) E))) (N o114 (N o178 (N o306 (L o11) E) (N o12 (L o11) E)) (N o11 (N o12 (L o626) E) (L o498))))) (N o12 (N o42 (N o12 (N o12 (N o11 (L o522) E) (N o394 (L o650) E)) (N o202 (N o330 (L o586) E) (N o458 (L o11) E))) (N o106 (N o170 (N o298 (L o554) E) (N o426 (L o682) E)) (N o234 (N o11 (L o618) E) (L o12)))) (N o58 (N o11 (N o11 (N o282 (L o11) E) (N o410 (L o666) E)) (N o218 (N o346 (L o602) E) (L o474))) (N o11 (N o11 (N o11 (L o570) E) (N o442 (L o12) E)) (N o12 (N o378 (L o11) E) (L o11)))))) (N o14 (N o22 (N o11 (N o70 (N o134 (N o262 (L o12) E) (N o11 (L o646) E)) (N o198 (N o11 (L o582) E) (N o11 (L o710) E))) (N o12 (N o12 (N o12 (L o550) E) (N o11 (L o678) E)) (N o230 (N o11 (L o614) E) (L o486)))) (N o54 (N o86 (N o150 (N o12 (L o11) E) (N o406 (L o11) E)) (N o11 (N o12 (L o11) E) (L o470))) (N o11 (N o11 (N o11 (L o11) E) (N o438 (L o694) E)) (N o246 (N o374 (L o11) E) (L o502))))) (N o30 (N o12 (N o78 (N o142 (N o11 (L o526) E) (N o12 (L o654) E)) (N o206 (N o11 (L o590) E) (N o12 (L o718) E))) (N o110 (N o174 (N o302 (L o558) E) (N o430 (L o11) E)) (N o11 (N o366 (L o11) E) (L o494)))) (N o11 (N o11 (N o11 (N o286 (L o542) E) (N o414 (L o12) E)) (N o12 (N o350 (L o12) E) (L o11))) (N o126 (N o190 (N o318 (L o12) E) (N o446 (L o702) E)) (N o254 (N o382 (L o638) E) (L o11)))))))))
def o3v8 (P : Params) : Obj := d3 P (s "basicplus.rowrun" 1325) 104
def o12v9 (P : Params) : Obj := fl (ml.take 261)
def o727 (P : Params) : Obj := { cls := (.type "dict"), data := .dict #[e P "__module__" 1252 (s "basicplus.hooks" 1243), e P "__qualname__" 1254 (s "PlainHooks" 1253), e P "__firstlineno__" 1256 (i 592 1255), e P "__init__" 1266 (r 738), e P "value_of_name" 1274 (r 745), e P "told" 1285 (r 752), e P "item_of" 1294 (r 759), e P "call" 1303 (r 766), e P "fn" 1312 (r 773), e P "__static_attributes__" 1317 (r 774)] 10 }
def o729 (P : Params) : Obj := fl [(i 594 0), (i 4 0), (r 737), (i 600 0), (i 4 0), (r 744), (i 606 0), (i 4 0), (r 751), (i 613 0), (i 4 0), (r 758), (i 616 0), (i 4 0), (r 765), (i 619 0), (i 4 0), (r 772)]
def o730 (P : Params) : Obj := co "PlainHooks" "PlainHooks" 1247 592 0 0 0 0 728 false 729 .none .none .none .none 1250
def o731 (P : Params) : Obj := { cls := (.type "frame"), slots := #[some (r 730), some (r 3), some (r 727), none, some (s "basicplus.hooks" 1243), none, some (r 0)] }
def o734 (P : Params) : Obj := tu [(s "self" 1260), (s "values" 1261), (s "bits" 1262), (s "digits" 1263)]
def o736 (P : Params) : Obj := ff [105, 0] "PlainHooks.__init__"
def o737 (P : Params) : Obj := co "__init__" "PlainHooks.__init__" 1257 594 4 0 0 3 732 true 733 .none (r 734) (r 735) (r 736) 1264
def o738 (P : Params) : Obj := fo "__init__" "PlainHooks.__init__" [105, 0] .none (s "basicplus.hooks" 1243) (r 737) .none []
def o741 (P : Params) : Obj := tu [(s "self" 1270), (s "word" 1271)]
def o743 (P : Params) : Obj := ff [105, 1] "PlainHooks.value_of_name"
def o744 (P : Params) : Obj := co "value_of_name" "PlainHooks.value_of_name" 1267 600 2 0 0 3 739 true 740 .none (r 741) (r 742) (r 743) 1272
def o745 (P : Params) : Obj := fo "value_of_name" "PlainHooks.value_of_name" [105, 1] .none (s "basicplus.hooks" 1243) (r 744) .none []
def o748 (P : Params) : Obj := tu [(s "self" 1278), (s "word" 1279), (s "args" 1280), (s "code" 1281), (s "key" 1282)]
def o750 (P : Params) : Obj := ff [105, 2] "PlainHooks.told"
def o751 (P : Params) : Obj := co "told" "PlainHooks.told" 1275 606 4 0 0 3 746 true 747 .none (r 748) (r 749) (r 750) 1283
def o752 (P : Params) : Obj := fo "told" "PlainHooks.told" [105, 2] .none (s "basicplus.hooks" 1243) (r 751) .none []
def o755 (P : Params) : Obj := tu [(s "self" 1289), (s "word" 1290), (s "subs" 1291)]
def o757 (P : Params) : Obj := ff [105, 3] "PlainHooks.item_of"
def o758 (P : Params) : Obj := co "item_of" "PlainHooks.item_of" 1286 613 3 0 0 3 753 true 754 .none (r 755) (r 756) (r 757) 1292
def o759 (P : Params) : Obj := fo "item_of" "PlainHooks.item_of" [105, 3] .none (s "basicplus.hooks" 1243) (r 758) .none []
def o762 (P : Params) : Obj := tu [(s "self" 1298), (s "word" 1299), (s "args" 1300)]
def o764 (P : Params) : Obj := ff [105, 4] "PlainHooks.call"
def o765 (P : Params) : Obj := co "call" "PlainHooks.call" 1295 616 3 0 0 3 760 true 761 .none (r 762) (r 763) (r 764) 1301
def o766 (P : Params) : Obj := fo "call" "PlainHooks.call" [105, 4] .none (s "basicplus.hooks" 1243) (r 765) .none []
def o769 (P : Params) : Obj := tu [(s "self" 1307), (s "word" 1308), (s "args" 1309)]
def o771 (P : Params) : Obj := ff [105, 5] "PlainHooks.fn"
def o772 (P : Params) : Obj := co "fn" "PlainHooks.fn" 1304 619 3 0 0 3 767 true 768 .none (r 769) (r 770) (r 771) 1310
def o773 (P : Params) : Obj := fo "fn" "PlainHooks.fn" [105, 5] .none (s "basicplus.hooks" 1243) (r 772) .none []
def o774 (P : Params) : Obj := tu [(s "asked" 1313), (s "bits" 1314), (s "digits" 1315), (s "values" 1316)]
def o775 (P : Params) : Obj := { cls := (.type "dict"), data := .dict #[e P "__module__" 1252 (s "basicplus.hooks" 1243), e P "__firstlineno__" 1256 (i 592 1255), e P "__init__" 1266 (r 738), e P "value_of_name" 1274 (r 745), e P "told" 1285 (r 752), e P "item_of" 1294 (r 759), e P "call" 1303 (r 766), e P "fn" 1312 (r 773), e P "__static_attributes__" 1317 (r 774), e P "__dict__" 1319 (r 777), e P "__weakref__" 1321 (r 778), e P "__doc__" 1322 .none] 4 }
def o776 (P : Params) : Obj := { cls := (.type "type"), data := .cls { name := "PlainHooks", bases := [(.type "object")], mro := [(r 776), (.type "object")], ns := 775, qualname := "PlainHooks" }, slots := #[none, none, some (s "PlainHooks" 1245), some (s "PlainHooks" 1253), some (.builtin "object.__new__"), some (.bool true)] }
def o777 (P : Params) : Obj := { cls := (.type "getset_descriptor"), data := .fields #[(s "__dict__" 1318), (r 776), (.builtin "function.__dict__"), (.builtin "function.__dict__#set")] }
def o778 (P : Params) : Obj := { cls := (.type "getset_descriptor"), data := .fields #[(s "__weakref__" 1320), (r 776), (.builtin "ExceptionGroup.__weakref__"), .none] }
def o779 (P : Params) : Obj := { cls := (.type "super"), data := .fields #[(r 776), (r 776), (r 776)] }
def o780 (P : Params) : Obj := { cls := (.type "builtin_function_or_method"), data := .fields #[(.builtin "object.__init_subclass__"), (r 776)] }
def t9 : Params → BT := (N boot_o_0 (N boot_o_1 (N o3v8 (N boot_o_7 (N o15 (N o31 (N o63 (N o127 (M o255 o16 o11) (N o11 (L o639) E)) (N o191 (N o11 (L o575) E) (N o11 (L o703) E))) (N o12 (N o12 (N o11 (L o543) E) (N o11 (L o671) E)) (N o223 (N o351 (L o607) E) (N o479 (L o11) E)))) (N o47 (N o79 (N o143 (N o12 (L o527) E) (N o399 (L o11) E)) (N o11 (N o16 (L o591) E) (N o463 (L o719) E))) (N o11 (N o11 (N o11 (L o11) E) (N o431 (L o687) E)) (N o239 (N o367 (L o623) E) (N o495 (L o751) E))))) (N o23 (N o12 (N o71 (N o135 (M o11 o519 o775) (N o12 (L o647) E)) (N o199 (N o12 (L o11) E) (N o12 (L o11) E))) (N o103 (N o167 (N o295 (L o551) E) (N o423 (L o11) E)) (N o11 (N o359 (L o11) E) (N o487 (L o743) E)))) (N o11 (N o11 (N o11 (N o279 (L o535) E) (N o11 (L o16) E)) (N o12 (N o343 (L o12) E) (N o11 (L o727) E))) (N o119 (N o183 (N o311 (L o12) E) (N o439 (L o695) E)) (N o247 (N o375 (L o631) E) (N o11 (L o759) E)))))) (N o11 (N o11 (N o35 (N o12 (N o12 (M o11 o515 o771) (N o387 (L o643) E)) (N o195 (N o323 (L o579) E) (N o451 (L o11) E))) (N o99 (N o163 (N o291 (L o547) E) (N o11 (L o675) E)) (N o227 (N o11 (L o611) E) (N o12 (L o11) E)))) (N o51 (N o11 (N o11 (N o275 (L o11) E) (N o12 (L o659) E)) (N o211 (N o339 (L o595) E) (N o467 (L o723) E))) (N o11 (N o11 (N o11 (L o563) E) (N o435 (L o12) E)) (N o12 (N o371 (L o11) E) (N o11 (L o755) E))))) (N o27 (N o43 (N o75 (N o139 (M o267 o523 o779) (N o395 (L o11) E)) (N o11 (N o331 (L o11) E) (N o459 (L o715) E))) (N o107 (N o171 (N o299 (L o11) E) (N o427 (L o11) E)) (N o11 (N o12 (L o11) E) (N o491 (L o12) E)))) (N o11 (N o91 (N o155 (N o283 (L o12) E) (N o411 (L o667) E)) (N o219 (N o347 (L o603) E) (N o11 (L o731) E))) (N o12 (N o12 (N o12 (L o571) E) (N o11 (L o699) E)) (N o251 (N o11 (L o12) E) (N o507 (L o11) E))))))) (N boot_o_5 (N boot_o_9 (N o17 (N o33 (N o65 (N o129 (M o12 o11 o769) (N o385 (L o11) E)) (N o11 (N o321 (L o577) E) (N o449 (L o12) E))) (N o11 (N o11 (N o289 (L o11) E) (N o417 (L o673) E)) (N o225 (N o353 (L o609) E) (N o481 (L o737) E)))) (N o49 (N o12 (N o12 (N o11 (L o529) E) (N o401 (L o657) E)) (N o209 (N o11 (L o12) E) (N o465 (L o721) E))) (N o113 (N o177 (N o305 (L o561) E) (N o11 (L o689) E)) (N o241 (N o11 (L o625) E) (N o12 (L o11) E))))) (N o25 (N o11 (N o11 (N o11 (M o265 o521 o777) (N o11 (L o12) E)) (N o12 (N o11 (L o585) E) (N o11 (L o713) E))) (N o105 (N o169 (N o297 (L o12) E) (N o425 (L o681) E)) (N o233 (N o361 (L o617) E) (N o11 (L o745) E)))) (N o57 (N o89 (N o153 (N o281 (L o537) E) (N o409 (L o11) E)) (N o11 (N o345 (L o11) E) (N o473 (L o729) E))) (N o121 (N o185 (N o313 (L o11) E) (N o12 (L o11) E)) (N o11 (N o12 (L o633) E) (N o505 (L o12) E)))))) (N o13 (N o21 (N o37 (N o11 (N o11 (M o261 o11 o773) (N o389 (L o645) E)) (N o197 (N o325 (L o12) E) (N o453 (L o709) E))) (N o11 (N o11 (N o11 (L o549) E) (N o421 (L o12) E)) (N o12 (N o357 (L o12) E) (N o11 (L o741) E)))) (N o12 (N o85 (N o149 (N o11 (L o533) E) (N o405 (L o661) E)) (N o213 (N o11 (L o597) E) (N o12 (L o11) E))) (N o117 (N o181 (N o309 (L o565) E) (N o437 (L o11) E)) (N o11 (N o373 (L o629) E) (N o501 (L o757) E))))) (N o29 (N o11 (N o77 (N o141 (N o269 (L o525) E) (N o11 (L o653) E)) (N o205 (N o333 (L o589) E) (N o11 (L o717) E))) (N o12 (N o12 (N o12 (L o557) E) (N o429 (L o685) E)) (N o237 (N o11 (L o621) E) (N o493 (L o11) E)))) (N o61 (N o93 (N o157 (N o12 (L o11) E) (N o16 (L o11) E)) (N o11 (N o349 (L o11) E) (N o477 (L o12) E))) (N o11 (N o11 (N o317 (L o11) E) (N o445 (L o701) E)) (N o253 (N o381 (L o11) E) (N o509 (L o765) E)))))))) (N o2 (N boot_o_4 (N boot_o_8 (N o16 (N o32 (N o64 (N o128 (M o11 o512 o12) (N o12 (L o640) E)) (N o192 (N o12 (L o11) E) (N o12 (L o11) E))) (N o96 (N o160 (N o288 (L o544) E) (N o416 (L o11) E)) (N o11 (N o352 (L o11) E) (N o480 (L o736) E)))) (N o11 (N o11 (N o11 (N o272 (L o528) E) (N o400 (L o12) E)) (N o12 (N o336 (L o11) E) (N o11 (L o720) E))) (N o112 (N o176 (N o304 (L o12) E) (N o432 (L o688) E)) (N o240 (N o368 (L o624) E) (N o11 (L o752) E))))) (N o24 (N o40 (N o72 (N o136 (M o12 o11 o776) (N o392 (L o11) E)) (N o11 (N o328 (L o584) E) (N o456 (L o12) E))) (N o11 (N o11 (N o11 (L o11) E) (N o424 (L o680) E)) (N o232 (N o360 (L o616) E) (N o488 (L o744) E)))) (N o56 (N o12 (N o12 (N o11 (L o536) E) (N o12 (L o664) E)) (N o216 (N o11 (L o600) E) (N o472 (L o11) E))) (N o120 (N o184 (N o312 (L o568) E) (N o11 (L o696) E)) (N o248 (N o11 (L o632) E) (N o12 (L o11) E)))))) (N o12v9 (N o20 (N o36 (N o68 (N o132 (M o260 o516 o772) (N o388 (L o11) E)) (N o11 (N o324 (L o11) E) (N o452 (L o708) E))) (N o100 (N o164 (N o292 (L o11) E) (N o12 (L o11) E)) (N o11 (N o12 (L o11) E) (N o484 (L o12) E)))) (N o11 (N o84 (N o148 (N o276 (L o12) E) (N o404 (L o660) E)) (N o212 (N o340 (L o596) E) (N o11 (L o724) E))) (N o12 (N o12 (N o12 (L o564) E) (N o11 (L o692) E)) (N o244 (N o11 (L o12) E) (N o500 (L o11) E))))) (N o11 (N o44 (N o11 (N o11 (M o268 o524 o780) (N o396 (L o652) E)) (N o204 (N o332 (L o12) E) (N o460 (L o716) E))) (N o11 (N o11 (N o11 (L o556) E) (N o428 (L o12) E)) (N o12 (N o364 (L o12) E) (N o11 (L o748) E)))) (N o12 (N o92 (N o156 (N o11 (L o540) E) (N o11 (L o668) E)) (N o220 (N o348 (L o604) E) (N o12 (L o11) E))) (N o124 (N o188 (N o316 (L o572) E) (N o444 (L o11) E)) (N o11 (N o380 (L o636) E) (N o508 (L o764) E))))))) (N boot_o_6 (N boot_o_10 (N o18 (N o34 (N o11 (N o11 (M o258 o514 o11) (N o11 (L o12) E)) (N o12 (N o11 (L o578) E) (N o11 (L o706) E))) (N o98 (N o162 (N o290 (L o12) E) (N o418 (L o674) E)) (N o226 (N o354 (L o610) E) (N o11 (L o738) E)))) (N o50 (N o82 (N o146 (N o274 (L o530) E) (N o11 (L o11) E)) (N o11 (N o338 (L o594) E) (N o466 (L o722) E))) (N o114 (N o178 (N o306 (L o11) E) (N o12 (L o11) E)) (N o11 (N o12 (L o626) E) (N o498 (L o12) E))))) (N o12 (N o42 (N o12 (N o12 (M o11 o522 o778) (N o394 (L o650) E)) (N o202 (N o330 (L o586) E) (N o458 (L o11) E))) (N o106 (N o170 (N o298 (L o554) E) (N o426 (L o682) E)) (N o234 (N o11 (L o618) E) (N o12 (L o11) E)))) (N o58 (N o11 (N o11 (N o282 (L o11) E) (N o410 (L o666) E)) (N o218 (N o346 (L o602) E) (N o474 (L o730) E))) (N o11 (N o11 (N o11 (L o570) E) (N o442 (L o12) E)) (N o12 (N o378 (L o11) E) (N o11 (L o762) E)))))) (N o14 (N o22 (N o11 (N o70 (N o134 (M o262 o12 o774) (N o11 (L o646) E)) (N o198 (N o11 (L o582) E) (N o11 (L o710) E))) (N o12 (N o12 (N o12 (L o550) E) (N o11 (L o678) E)) (N o230 (N o11 (L o614) E) (N o486 (L o11) E)))) (N o54 (N o86 (N o150 (N o12 (L o11) E) (N o406 (L o11) E)) (N o11 (N o12 (L o11) E) (N o470 (L o16) E))) (N o11 (N o11 (N o11 (L o11) E) (N o438 (L o694) E)) (N o246 (N o374 (L o11) E) (N o502 (L o758) E))))) (N o30 (N o12 (N o78 (N o142 (N o11 (L o526) E) (N o12 (L o654) E)) (N o206 (N o11 (L o590) E) (N o12 (L o718) E))) (N o110 (N o174 (N o302 (L o558) E) (N o430 (L o11) E)) (N o11 (N o366 (L o11) E) (N o494 (L o750) E)))) (N o11 (N o11 (N o11 (N o286 (L o542) E) (N o414 (L o12) E)) (N o12 (N o350 (L o12) E) (N o11 (L o734) E))) (N o126 (N o190 (N o318 (L o12) E) (N o446 (L o702) E)) (N o254 (N o382 (L o638) E) (N o11 (L o766) E)))))))))
def o3v9 (P : Params) : Obj := d3 P (s "basicplus.rowrun" 1325) 105
def o12v10 (P : Params) : Obj := fl (ml.take 264)
def o783 (P : Params) : Obj := { cls := (.type "dict"), data := .dict #[e P "__module__" 1334 (s "basicplus.rowrun" 1325), e P "__qualname__" 1336 (s "RowWays" 1335), e P "__firstlineno__" 1338 (i 622 1337), e P "__init__" 1350 (r 794), e P "__static_attributes__" 1356 (r 795)] 5 }
def o785 (P : Params) : Obj := fl [(i 624 0), (i 4 0), (r 793)]
def o786 (P : Params) : Obj := co "RowWays" "RowWays" 1329 622 0 0 0 0 784 false 785 .none .none .none .none 1332
def o787 (P : Params) : Obj := { cls := (.type "frame"), slots := #[some (r 786), some (r 3), some (r 783), none, some (s "basicplus.rowrun" 1325), none, some (r 0)] }
def o790 (P : Params) : Obj := tu [(s "self" 1342), (s "begin" 1343), (s "store" 1344), (s "put" 1345), (s "do" 1346), (s "led" 1347)]
def o792 (P : Params) : Obj := ff [107, 0] "RowWays.__init__"
def o793 (P : Params) : Obj := co "__init__" "RowWays.__init__" 1339 624 6 0 0 3 788 true 789 .none (r 790) (r 791) (r 792) 1348
def o794 (P : Params) : Obj := fo "__init__" "RowWays.__init__" [107, 0] .none (s "basicplus.rowrun" 1325) (r 793) .none []
def o795 (P : Params) : Obj := tu [(s "begin" 1351), (s "do" 1352), (s "led" 1353), (s "put" 1354), (s "store" 1355)]
def o796 (P : Params) : Obj := { cls := (.type "dict"), data := .dict #[e P "__module__" 1334 (s "basicplus.rowrun" 1325), e P "__firstlineno__" 1338 (i 622 1337), e P "__init__" 1350 (r 794), e P "__static_attributes__" 1356 (r 795), e P "__dict__" 1358 (r 798), e P "__weakref__" 1360 (r 799), e P "__doc__" 1361 .none] 4 }
def o797 (P : Params) : Obj := { cls := (.type "type"), data := .cls { name := "RowWays", bases := [(.type "object")], mro := [(r 797), (.type "object")], ns := 796, qualname := "RowWays" }, slots := #[none, none, some (s "RowWays" 1327), some (s "RowWays" 1335), some (.builtin "object.__new__"), some (.bool true)] }
def o798 (P : Params) : Obj := { cls := (.type "getset_descriptor"), data := .fields #[(s "__dict__" 1357), (r 797), (.builtin "function.__dict__"), (.builtin "function.__dict__#set")] }
def o799 (P : Params) : Obj := { cls := (.type "getset_descriptor"), data := .fields #[(s "__weakref__" 1359), (r 797), (.builtin "ExceptionGroup.__weakref__"), .none] }
def o800 (P : Params) : Obj := { cls := (.type "super"), data := .fields #[(r 797), (r 797), (r 797)] }
def o801 (P : Params) : Obj := { cls := (.type "builtin_function_or_method"), data := .fields #[(.builtin "object.__init_subclass__"), (r 797)] }
def t10 : Params → BT := (N boot_o_0 (N boot_o_1 (N o3v9 (N boot_o_7 (N o15 (N o31 (N o63 (N o127 (M o255 o16 o11) (N o11 (L o639) E)) (N o191 (N o11 (L o575) E) (N o11 (L o703) E))) (N o12 (N o12 (M o11 o543 o799) (N o11 (L o671) E)) (N o223 (N o351 (L o607) E) (N o479 (L o11) E)))) (N o47 (N o79 (N o143 (M o12 o527 o783) (N o399 (L o11) E)) (N o11 (N o16 (L o591) E) (N o463 (L o719) E))) (N o11 (N o11 (N o11 (L o11) E) (N o431 (L o687) E)) (N o239 (N o367 (L o623) E) (N o495 (L o751) E))))) (N o23 (N o12 (N o71 (N o135 (M o11 o519 o775) (N o12 (L o647) E)) (N o199 (N o12 (L o11) E) (N o12 (L o11) E))) (N o103 (N o167 (N o295 (L o551) E) (N o423 (L o11) E)) (N o11 (N o359 (L o11) E) (N o487 (L o743) E)))) (N o11 (N o11 (N o11 (M o279 o535 o11) (N o11 (L o16) E)) (N o12 (N o343 (L o12) E) (N o11 (L o727) E))) (N o119 (N o183 (N o311 (L o12) E) (N o439 (L o695) E)) (N o247 (N o375 (L o631) E) (N o11 (L o759) E)))))) (N o11 (N o11 (N o35 (N o12 (N o12 (M o11 o515 o771) (N o387 (L o643) E)) (N o195 (N o323 (L o579) E) (N o451 (L o11) E))) (N o99 (N o163 (N o291 (L o547) E) (N o11 (L o675) E)) (N o227 (N o11 (L o611) E) (N o12 (L o11) E)))) (N o51 (N o11 (N o11 (M o275 o11 o787) (N o12 (L o659) E)) (N o211 (N o339 (L o595) E) (N o467 (L o723) E))) (N o11 (N o11 (N o11 (L o563) E) (N o435 (L o12) E)) (N o12 (N o371 (L o11) E) (N o11 (L o755) E))))) (N o27 (N o43 (N o75 (N o139 (M o267 o523 o779) (N o395 (L o11) E)) (N o11 (N o331 (L o11) E) (N o459 (L o715) E))) (N o107 (N o171 (N o299 (L o11) E) (N o427 (L o11) E)) (N o11 (N o12 (L o11) E) (N o491 (L o12) E)))) (N o11 (N o91 (N o155 (M o283 o12 o795) (N o411 (L o667) E)) (N o219 (N o347 (L o603) E) (N o11 (L o731) E))) (N o12 (N o12 (N o12 (L o571) E) (N o11 (L o699) E)) (N o251 (N o11 (L o12) E) (N o507 (L o11) E))))))) (N boot_o_5 (N boot_o_9 (N o17 (N o33 (N o65 (N o129 (M o12 o11 o769) (N o385 (L o11) E)) (N o11 (N o321 (L o577) E) (N o449 (L o12) E))) (N o11 (N o11 (M o289 o11 o801) (N o417 (L o673) E)) (N o225 (N o353 (L o609) E) (N o481 (L o737) E)))) (N o49 (N o12 (N o12 (M o11 o529 o785) (N o401 (L o657) E)) (N o209 (N o11 (L o12) E) (N o465 (L o721) E))) (N o113 (N o177 (N o305 (L o561) E) (N o11 (L o689) E)) (N o241 (N o11 (L o625) E) (N o12 (L o11) E))))) (N o25 (N o11 (N o11 (N o11 (M o265 o521 o777) (N o11 (L o12) E)) (N o12 (N o11 (L o585) E) (N o11 (L o713) E))) (N o105 (N o169 (N o297 (L o12) E) (N o425 (L o681) E)) (N o233 (N o361 (L o617) E) (N o11 (L o745) E)))) (N o57 (N o89 (N o153 (M o281 o537 o793) (N o409 (L o11) E)) (N o11 (N o345 (L o11) E) (N o473 (L o729) E))) (N o121 (N o185 (N o313 (L o11) E) (N o12 (L o11) E)) (N o11 (N o12 (L o633) E) (N o505 (L o12) E)))))) (N o13 (N o21 (N o37 (N o11 (N o11 (M o261 o11 o773) (N o389 (L o645) E)) (N o197 (N o325 (L o12) E) (N o453 (L o709) E))) (N o11 (N o11 (N o11 (L o549) E) (N o421 (L o12) E)) (N o12 (N o357 (L o12) E) (N o11 (L o741) E)))) (N o12 (N o85 (N o149 (M o11 o533 o12) (N o405 (L o661) E)) (N o213 (N o11 (L o597) E) (N o12 (L o11) E))) (N o117 (N o181 (N o309 (L o565) E) (N o437 (L o11) E)) (N o11 (N o373 (L o629) E) (N o501 (L o757) E))))) (N o29 (N o11 (N o77 (N o141 (M o269 o525 o11) (N o11 (L o653) E)) (N o205 (N o333 (L o589) E) (N o11 (L o717) E))) (N o12 (N o12 (N o12 (L o557) E) (N o429 (L o685) E)) (N o237 (N o11 (L o621) E) (N o493 (L o11) E)))) (N o61 (N o93 (N o157 (M o12 o11 o797) (N o16 (L o11) E)) (N o11 (N o349 (L o11) E) (N o477 (L o12) E))) (N o11 (N o11 (N o317 (L o11) E) (N o445 (L o701) E)) (N o253 (N o381 (L o11) E) (N o509 (L o765) E)))))))) (N o2 (N boot_o_4 (N boot_o_8 (N o16 (N o32 (N o64 (N o128 (M o11 o512 o12) (N o12 (L o640) E)) (N o192 (N o12 (L o11) E) (N o12 (L o11) E))) (N o96 (N o160 (M o288 o544 o800) (N o416 (L o11) E)) (N o11 (N o352 (L o11) E) (N o480 (L o736) E)))) (N o11 (N o11 (N o11 (M o272 o528 o11) (N o400 (L o12) E)) (N o12 (N o336 (L o11) E) (N o11 (L o720) E))) (N o112 (N o176 (N o304 (L o12) E) (N o432 (L o688) E)) (N o240 (N o368 (L o624) E) (N o11 (L o752) E))))) (N o24 (N o40 (N o72 (N o136 (M o12 o11 o776) (N o392 (L o11) E)) (N o11 (N o328 (L o584) E) (N o456 (L o12) E))) (N o11 (N o11 (N o11 (L o11) E) (N o424 (L o680) E)) (N o232 (N o360 (L o616) E) (N o488 (L o744) E)))) (N o56 (N o12 (N o12 (M o11 o536 o792) (N o12 (L o664) E)) (N o216 (N o11 (L o600) E) (N o472 (L o11) E))) (N o120 (N o184 (N o312 (L o568) E) (N o11 (L o696) E)) (N o248 (N o11 (L o632) E) (N o12 (L o11) E)))))) (N o12v10 (N o20 (N o36 (N o68 (N o132 (M o260 o516 o772) (N o388 (L o11) E)) (N o11 (N o324 (L o11) E) (N o452 (L o708) E))) (N o100 (N o164 (N o292 (L o11) E) (N o12 (L o11) E)) (N o11 (N o12 (L o11) E) (N o484 (L o12) E)))) (N o11 (N o84 (N o148 (M o276 o12 o11) (N o404 (L o660) E)) (N o212 (N o340 (L o596) E) (N o11 (L o724) E))) (N o12 (N o12 (N o12 (L o564) E) (N o11 (L o692) E)) (N o244 (N o11 (L o12) E) (N o500 (L o11) E))))) (N o11 (N o44 (N o11 (N o11 (M o268 o524 o780) (N o396 (L o652) E)) (N o204 (N o332 (L o12) E) (N o460 (L o716) E))) (N o11 (N o11 (N o11 (L o556) E) (N o428 (L o12) E)) (N o12 (N o364 (L o12) E) (N o11 (L o748) E)))) (N o12 (N o92 (N o156 (M o11 o540 o796) (N o11 (L o668) E)) (N o220 (N o348 (L o604) E) (N o12 (L o11) E))) (N o124 (N o188 (N o316 (L o572) E) (N o444 (L o11) E)) (N o11 (N o380 (L o636) E) (N o508 (L o764) E))))))) (N boot_o_6 (N boot_o_10 (N o18 (N o34 (N o11 (N o11 (M o258 o514 o11) (N o11 (L o12) E)) (N o12 (N o11 (L o578) E) (N o11 (L o706) E))) (N o98 (N o162 (N o290 (L o12) E) (N o418 (L o674) E)) (N o226 (N o354 (L o610) E) (N o11 (L o738) E)))) (N o50 (N o82 (N o146 (M o274 o530 o786) (N o11 (L o11) E)) (N o11 (N o338 (L o594) E) (N o466 (L o722) E))) (N o114 (N o178 (N o306 (L o11) E) (N o12 (L o11) E)) (N o11 (N o12 (L o626) E) (N o498 (L o12) E))))) (N o12 (N o42 (N o12 (N o12 (M o11 o522 o778) (N o394 (L o650) E)) (N o202 (N o330 (L o586) E) (N o458 (L o11) E))) (N o106 (N o170 (N o298 (L o554) E) (N o426 (L o682) E)) (N o234 (N o11 (L o618) E) (N o12 (L o11) E)))) (N o58 (N o11 (N o11 (M o282 o11 o794) (N o410 (L o666) E)) (N o218 (N o346 (L o602) E) (N o474 (L o730) E))) (N o11 (N o11 (N o11 (L o570) E) (N o442 (L o12) E)) (N o12 (N o378 (L o11) E) (N o11 (L o762) E)))))) (N o14 (N o22 (N o11 (N o70 (N o134 (M o262 o12 o774) (N o11 (L o646) E)) (N o198 (N o11 (L o582) E) (N o11 (L o710) E))) (N o12 (N o12 (N o12 (L o550) E) (N o11 (L o678) E)) (N o230 (N o11 (L o614) E) (N o486 (L o11) E)))) (N o54 (N o86 (N o150 (M o12 o11 o790) (N o406 (L o11) E)) (N o11 (N o12 (L o11) E) (N o470 (L o16) E))) (N o11 (N o11 (N o11 (L o11) E) (N o438 (L o694) E)) (N o246 (N o374 (L o11) E) (N o502 (L o758) E))))) (N o30 (N o12 (N o78 (N o142 (M o11 o526 o16) (N o12 (L o654) E)) (N o206 (N o11 (L o590) E) (N o12 (L o718) E))) (N o110 (N o174 (N o302 (L o558) E) (N o430 (L o11) E)) (N o11 (N o366 (L o11) E) (N o494 (L o750) E)))) (N o11 (N o11 (N o11 (M o286 o542 o798) (N o414 (L o12) E)) (N o12 (N o350 (L o12) E) (N o11 (L o734) E))) (N o126 (N o190 (N o318 (L o12) E) (N o446 (L o702) E)) (N o254 (N o382 (L o638) E) (N o11 (L o766) E)))))))))
def o3v10 (P : Params) : Obj := { cls := (.type "dict"), data := .dict (e P "__name__" 165 (s "law_pq0153_01" 1462) :: gl P).toArray 112 }
def o12v11 (P : Params) : Obj := fl ml
def o804 (P : Params) : Obj := { cls := (.type "dict"), data := .dict #[e P "__module__" 1371 (s "basicplus.rowrun" 1325), e P "__qualname__" 1373 (s "RowRun" 1372), e P "__firstlineno__" 1375 (i 630 1374), e P "__init__" 1388 (r 815), e P "place_of" 1397 (r 822), e P "taken" 1407 (r 829), e P "go_from" 1418 (r 836), e P "done" 1433 (r 843), e P "value_of" 1445 (r 850), e P "__static_attributes__" 1454 (r 851)] 10 }
def o806 (P : Params) : Obj := fl [(i 632 0), (i 4 0), (r 814), (i 642 0), (i 4 0), (r 821), (i 646 0), (i 4 0), (r 828), (i 652 0), (i 4 0), (r 835), (i 662 0), (i 4 0), (r 842), (i 688 0), (i 4 0), (r 849)]
def o807 (P : Params) : Obj := co "RowRun" "RowRun" 1366 630 0 0 0 0 805 false 806 .none .none .none .none 1369
def o808 (P : Params) : Obj := { cls := (.type "frame"), slots := #[some (r 807), some (r 3), some (r 804), none, some (s "basicplus.rowrun" 1325), none, some (r 0)] }
def o811 (P : Params) : Obj := tu [(s "self" 1379), (s "code" 1380), (s "values" 1381), (s "bits" 1382), (s "digits" 1383), (s "hooks" 1384), (s "ways" 1385)]
def o813 (P : Params) : Obj := ff [108, 0] "RowRun.__init__"
def o814 (P : Params) : Obj := co "__init__" "RowRun.__init__" 1376 632 7 0 0 3 809 true 810 .none (r 811) (r 812) (r 813) 1386
def o815 (P : Params) : Obj := fo "__init__" "RowRun.__init__" [108, 0] .none (s "basicplus.rowrun" 1325) (r 814) .none []
def o818 (P : Params) : Obj := tu [(s "self" 1392), (s "row" 1393), (s "starts" 1394)]
def o820 (P : Params) : Obj := ff [108, 1] "RowRun.place_of"
def o821 (P : Params) : Obj := co "place_of" "RowRun.place_of" 1389 642 2 0 0 3 816 true 817 .none (r 818) (r 819) (r 820) 1395
def o822 (P : Params) : Obj := fo "place_of" "RowRun.place_of" [108, 1] .none (s "basicplus.rowrun" 1325) (r 821) .none []
def o825 (P : Params) : Obj := tu [(s "self" 1401), (s "many" 1402), (s "left" 1403), (s "found" 1404)]
def o827 (P : Params) : Obj := ff [108, 2] "RowRun.taken"
def o828 (P : Params) : Obj := co "taken" "RowRun.taken" 1398 646 2 0 0 3 823 true 824 .none (r 825) (r 826) (r 827) 1405
def o829 (P : Params) : Obj := fo "taken" "RowRun.taken" [108, 2] .none (s "basicplus.rowrun" 1325) (r 828) .none []
def o832 (P : Params) : Obj := tu [(s "self" 1411), (s "row" 1412), (s "place" 1413), (s "wrong" 1414), (s "led" 1415)]
def o834 (P : Params) : Obj := ff [108, 3] "RowRun.go_from"
def o835 (P : Params) : Obj := co "go_from" "RowRun.go_from" 1408 652 2 0 0 3 830 true 831 .none (r 832) (r 833) (r 834) 1416
def o836 (P : Params) : Obj := fo "go_from" "RowRun.go_from" [108, 3] .none (s "basicplus.rowrun" 1325) (r 835) .none []
def o839 (P : Params) : Obj := tu [(s "self" 1422), (s "order" 1423), (s "place" 1424), (s "word" 1425), (s "begin" 1426), (s "do" 1427), (s "store" 1428), (s "value" 1429), (s "put" 1430)]
def o841 (P : Params) : Obj := ff [108, 4] "RowRun.done"
def o842 (P : Params) : Obj := co "done" "RowRun.done" 1419 662 3 0 0 3 837 true 838 .none (r 839) (r 840) (r 841) 1431
def o843 (P : Params) : Obj := fo "done" "RowRun.done" [108, 4] .none (s "basicplus.rowrun" 1325) (r 842) .none []
def o846 (P : Params) : Obj := tu [(s "self" 1437), (s "order" 1438), (s "word" 1439), (s "hooks" 1440), (s "one" 1441), (s "other" 1442)]
def o848 (P : Params) : Obj := ff [108, 5] "RowRun.value_of"
def o849 (P : Params) : Obj := co "value_of" "RowRun.value_of" 1434 688 2 0 0 3 844 true 845 .none (r 846) (r 847) (r 848) 1443
def o850 (P : Params) : Obj := fo "value_of" "RowRun.value_of" [108, 5] .none (s "basicplus.rowrun" 1325) (r 849) .none []
def o851 (P : Params) : Obj := tu [(s "bits" 1446), (s "code" 1447), (s "digits" 1448), (s "hooks" 1449), (s "pile" 1450), (s "row" 1451), (s "values" 1452), (s "ways" 1453)]
def o852 (P : Params) : Obj := { cls := (.type "dict"), data := .dict #[e P "__module__" 1371 (s "basicplus.rowrun" 1325), e P "__firstlineno__" 1375 (i 630 1374), e P "__init__" 1388 (r 815), e P "place_of" 1397 (r 822), e P "taken" 1407 (r 829), e P "go_from" 1418 (r 836), e P "done" 1433 (r 843), e P "value_of" 1445 (r 850), e P "__static_attributes__" 1454 (r 851), e P "__dict__" 1456 (r 854), e P "__weakref__" 1458 (r 855), e P "__doc__" 1459 .none] 4 }
def o853 (P : Params) : Obj := { cls := (.type "type"), data := .cls { name := "RowRun", bases := [(.type "object")], mro := [(r 853), (.type "object")], ns := 852, qualname := "RowRun" }, slots := #[none, none, some (s "RowRun" 1364), some (s "RowRun" 1372), some (.builtin "object.__new__"), some (.bool true)] }
def o854 (P : Params) : Obj := { cls := (.type "getset_descriptor"), data := .fields #[(s "__dict__" 1455), (r 853), (.builtin "function.__dict__"), (.builtin "function.__dict__#set")] }
def o855 (P : Params) : Obj := { cls := (.type "getset_descriptor"), data := .fields #[(s "__weakref__" 1457), (r 853), (.builtin "ExceptionGroup.__weakref__"), .none] }
def o856 (P : Params) : Obj := { cls := (.type "super"), data := .fields #[(r 853), (r 853), (r 853)] }
def o857 (P : Params) : Obj := { cls := (.type "builtin_function_or_method"), data := .fields #[(.builtin "object.__init_subclass__"), (r 853)] }
def o860 (P : Params) : Obj := tu [(s "coil" 1467), (s "below" 1468)]
def o862 (P : Params) : Obj := ff [110] "_law_next"
def o863 (P : Params) : Obj := co "_law_next" "_law_next" 1464 709 2 0 0 3 858 true 859 .none (r 860) (r 861) (r 862) 1469
def o864 (P : Params) : Obj := fo "_law_next" "_law_next" [110] .none (s "law_pq0153_01" 1462) (r 863) .none []
def o867 (P : Params) : Obj := tu [(s "tree" 1475), (s "values" 1476), (s "one" 1477), (s "other" 1478)]
def o869 (P : Params) : Obj := ff [111] "_law_worth"
def o870 (P : Params) : Obj := co "_law_worth" "_law_worth" 1472 714 2 0 0 3 865 true 866 .none (r 867) (r 868) (r 869) 1479
def o871 (P : Params) : Obj := fo "_law_worth" "_law_worth" [111] .none (s "law_pq0153_01" 1462) (r 870) .none []
def o874 (P : Params) : Obj := ff [112] "_law_part"
def o875 (P : Params) : Obj := co "_law_part" "_law_part" 1482 721 3 0 0 3 872 true 873 .none .none .none (r 874) 1485
def o876 (P : Params) : Obj := fo "_law_part" "_law_part" [112] .none (s "law_pq0153_01" 1462) (r 875) .none []
def o879 (P : Params) : Obj := tu [(s "flat" 1491), (s "code" 1492), (s "hooks" 1493), (s "begin" 1494), (s "do" 1495)]
def o880 (P : Params) : Obj := tu [(s "flat" 1496), (s "run" 1497)]
def o881 (P : Params) : Obj := ff [113] "_law_by_orders"
def o882 (P : Params) : Obj := co "_law_by_orders" "_law_by_orders" 1488 737 1 0 0 3 877 true 878 .none (r 879) (r 880) (r 881) 1498
def o883 (P : Params) : Obj := fo "_law_by_orders" "_law_by_orders" [113] .none (s "law_pq0153_01" 1462) (r 882) .none []
def o886 (P : Params) : Obj := ff [114] "law"
def o887 (P : Params) : Obj := co "law" "law" 1501 750 1 0 0 3 884 true 885 .none .none .none (r 886) 1504
def o888 (P : Params) : Obj := fo "law" "law" [114] .none (s "law_pq0153_01" 1462) (r 887) .none []
def t11 : Params → BT := (N boot_o_0 (N boot_o_1 (N o3v10 (N boot_o_7 (N o15 (N o31 (N o63 (N o127 (M o255 o16 o11) (N o11 (L o639) E)) (N o191 (M o11 o575 o12) (N o11 (L o703) E))) (N o12 (N o12 (M o11 o543 o799) (N o11 (L o671) E)) (N o223 (M o351 o607 o863) (N o479 (L o11) E)))) (N o47 (N o79 (N o143 (M o12 o527 o783) (N o399 (L o11) E)) (N o11 (M o16 o591 o11) (N o463 (L o719) E))) (N o11 (N o11 (M o11 o11 o815) (N o431 (L o687) E)) (N o239 (M o367 o623 o879) (N o495 (L o751) E))))) (N o23 (N o12 (N o71 (N o135 (M o11 o519 o775) (N o12 (L o647) E)) (N o199 (M o12 o11 o839) (N o12 (L o11) E))) (N o103 (N o167 (M o295 o551 o807) (N o423 (L o11) E)) (N o11 (M o359 o11 o871) (N o487 (L o743) E)))) (N o11 (N o11 (N o11 (M o279 o535 o11) (N o11 (L o16) E)) (N o12 (M o343 o12 o855) (N o11 (L o727) E))) (N o119 (N o183 (M o311 o12 o11) (N o439 (L o695) E)) (N o247 (M o375 o631 o887) (N o11 (L o759) E)))))) (N o11 (N o11 (N o35 (N o12 (N o12 (M o11 o515 o771) (N o387 (L o643) E)) (N o195 (M o323 o579 o835) (N o451 (L o11) E))) (N o99 (N o163 (M o291 o547 o16) (N o11 (L o675) E)) (N o227 (M o11 o611 o867) (N o12 (L o11) E)))) (N o51 (N o11 (N o11 (M o275 o11 o787) (N o12 (L o659) E)) (N o211 (M o339 o595 o851) (N o467 (L o723) E))) (N o11 (N o11 (M o11 o563 o11) (N o435 (L o12) E)) (N o12 (M o371 o11 o883) (N o11 (L o755) E))))) (N o27 (N o43 (N o75 (N o139 (M o267 o523 o779) (N o395 (L o11) E)) (N o11 (M o331 o11 o843) (N o459 (L o715) E))) (N o107 (N o171 (M o299 o11 o811) (N o427 (L o11) E)) (N o11 (M o12 o11 o875) (N o491 (L o12) E)))) (N o11 (N o91 (N o155 (M o283 o12 o795) (N o411 (L o667) E)) (N o219 (M o347 o603 o12) (N o11 (L o731) E))) (N o12 (N o12 (M o12 o571 o827) (N o11 (L o699) E)) (N o251 (N o11 (L o12) E) (N o507 (L o11) E))))))) (N boot_o_5 (N boot_o_9 (N o17 (N o33 (N o65 (N o129 (M o12 o11 o769) (N o385 (L o11) E)) (N o11 (M o321 o577 o11) (N o449 (L o12) E))) (N o11 (N o11 (M o289 o11 o801) (N o417 (L o673) E)) (N o225 (M o353 o609 o11) (N o481 (L o737) E)))) (N o49 (N o12 (N o12 (M o11 o529 o785) (N o401 (L o657) E)) (N o209 (M o11 o12 o849) (N o465 (L o721) E))) (N o113 (N o177 (M o305 o561 o12) (N o11 (L o689) E)) (N o241 (M o11 o625 o881) (N o12 (L o11) E))))) (N o25 (N o11 (N o11 (N o11 (M o265 o521 o777) (N o11 (L o12) E)) (N o12 (M o11 o585 o841) (N o11 (L o713) E))) (N o105 (N o169 (M o297 o12 o11) (N o425 (L o681) E)) (N o233 (M o361 o617 o12) (N o11 (L o745) E)))) (N o57 (N o89 (N o153 (M o281 o537 o793) (N o409 (L o11) E)) (N o11 (M o345 o11 o857) (N o473 (L o729) E))) (N o121 (N o185 (M o313 o11 o825) (N o12 (L o11) E)) (N o11 (N o12 (L o633) E) (N o505 (L o12) E)))))) (N o13 (N o21 (N o37 (N o11 (N o11 (M o261 o11 o773) (N o389 (L o645) E)) (N o197 (M o325 o12 o11) (N o453 (L o709) E))) (N o11 (N o11 (M o11 o549 o11) (N o421 (L o12) E)) (N o12 (M o357 o12 o869) (N o11 (L o741) E)))) (N o12 (N o85 (N o149 (M o11 o533 o12) (N o405 (L o661) E)) (N o213 (M o11 o597 o853) (N o12 (L o11) E))) (N o117 (N o181 (M o309 o565 o821) (N o437 (L o11) E)) (N o11 (M o373 o629 o12) (N o501 (L o757) E))))) (N o29 (N o11 (N o77 (N o141 (M o269 o525 o11) (N o11 (L o653) E)) (N o205 (M o333 o589 o12) (N o11 (L o717) E))) (N o12 (N o12 (M o12 o557 o813) (N o429 (L o685) E)) (N o237 (M o11 o621 o11) (N o493 (L o11) E)))) (N o61 (N o93 (N o157 (M o12 o11 o797) (N o16 (L o11) E)) (N o11 (M o349 o11 o11) (N o477 (L o12) E))) (N o11 (N o11 (M o317 o11 o829) (N o445 (L o701) E)) (N o253 (N o381 (L o11) E) (N o509 (L o765) E)))))))) (N o2 (N boot_o_4 (N boot_o_8 (N o16 (N o32 (N o64 (N o128 (M o11 o512 o12) (N o12 (L o640) E)) (N o192 (M o12 o11 o832) (N o12 (L o11) E))) (N o96 (N o160 (M o288 o544 o800) (N o416 (L o11) E)) (N o11 (M o352 o11 o864) (N o480 (L o736) E)))) (N o11 (N o11 (N o11 (M o272 o528 o11) (N o400 (L o12) E)) (N o12 (M o336 o11 o848) (N o11 (L o720) E))) (N o112 (N o176 (M o304 o12 o11) (N o432 (L o688) E)) (N o240 (M o368 o624 o880) (N o11 (L o752) E))))) (N o24 (N o40 (N o72 (N o136 (M o12 o11 o776) (N o392 (L o11) E)) (N o11 (M o328 o584 o11) (N o456 (L o12) E))) (N o11 (N o11 (M o11 o11 o808) (N o424 (L o680) E)) (N o232 (M o360 o616 o11) (N o488 (L o744) E)))) (N o56 (N o12 (N o12 (M o11 o536 o792) (N o12 (L o664) E)) (N o216 (M o11 o600 o856) (N o472 (L o11) E))) (N o120 (N o184 (M o312 o568 o12) (N o11 (L o696) E)) (N o248 (M o11 o632 o888) (N o12 (L o11) E)))))) (N o12v11 (N o20 (N o36 (N o68 (N o132 (M o260 o516 o772) (N o388 (L o11) E)) (N o11 (M o324 o11 o836) (N o452 (L o708) E))) (N o100 (N o164 (M o292 o11 o804) (N o12 (L o11) E)) (N o11 (M o12 o11 o11) (N o484 (L o12) E)))) (N o11 (N o84 (N o148 (M o276 o12 o11) (N o404 (L o660) E)) (N o212 (M o340 o596 o852) (N o11 (L o724) E))) (N o12 (N o12 (M o12 o564 o820) (N o11 (L o692) E)) (N o244 (M o11 o12 o11) (N o500 (L o11) E))))) (N o11 (N o44 (N o11 (N o11 (M o268 o524 o780) (N o396 (L o652) E)) (N o204 (M o332 o12 o11) (N o460 (L o716) E))) (N o11 (N o11 (M o11 o556 o11) (N o428 (L o12) E)) (N o12 (M o364 o12 o876) (N o11 (L o748) E)))) (N o12 (N o92 (N o156 (M o11 o540 o796) (N o11 (L o668) E)) (N o220 (M o348 o604 o860) (N o12 (L o11) E))) (N o124 (N o188 (M o316 o572 o828) (N o444 (L o11) E)) (N o11 (N o380 (L o636) E) (N o508 (L o764) E))))))) (N boot_o_6 (N boot_o_10 (N o18 (N o34 (N o11 (N o11 (M o258 o514 o11) (N o11 (L o12) E)) (N o12 (M o11 o578 o834) (N o11 (L o706) E))) (N o98 (N o162 (M o290 o12 o11) (N o418 (L o674) E)) (N o226 (M o354 o610 o12) (N o11 (L o738) E)))) (N o50 (N o82 (N o146 (M o274 o530 o786) (N o11 (L o11) E)) (N o11 (M o338 o594 o850) (N o466 (L o722) E))) (N o114 (N o178 (M o306 o11 o818) (N o12 (L o11) E)) (N o11 (M o12 o626 o882) (N o498 (L o12) E))))) (N o12 (N o42 (N o12 (N o12 (M o11 o522 o778) (N o394 (L o650) E)) (N o202 (M o330 o586 o842) (N o458 (L o11) E))) (N o106 (N o170 (M o298 o554 o12) (N o426 (L o682) E)) (N o234 (M o11 o618 o874) (N o12 (L o11) E)))) (N o58 (N o11 (N o11 (M o282 o11 o794) (N o410 (L o666) E)) (N o218 (M o346 o602 o11) (N o474 (L o730) E))) (N o11 (N o11 (M o11 o570 o11) (N o442 (L o12) E)) (N o12 (N o378 (L o11) E) (N o11 (L o762) E)))))) (N o14 (N o22 (N o11 (N o70 (N o134 (M o262 o12 o774) (N o11 (L o646) E)) (N o198 (M o11 o582 o12) (N o11 (L o710) E))) (N o12 (N o12 (M o12 o550 o806) (N o11 (L o678) E)) (N o230 (M o11 o614 o870) (N o486 (L o11) E)))) (N o54 (N o86 (N o150 (M o12 o11 o790) (N o406 (L o11) E)) (N o11 (M o12 o11 o854) (N o470 (L o16) E))) (N o11 (N o11 (M o11 o11 o822) (N o438 (L o694) E)) (N o246 (M o374 o11 o886) (N o502 (L o758) E))))) (N o30 (N o12 (N o78 (N o142 (M o11 o526 o16) (N o12 (L o654) E)) (N o206 (M o11 o590 o846) (N o12 (L o718) E))) (N o110 (N o174 (M o302 o558 o814) (N o430 (L o11) E)) (N o11 (M o366 o11 o12) (N o494 (L o750) E)))) (N o11 (N o11 (N o11 (M o286 o542 o798) (N o414 (L o12) E)) (N o12 (M o350 o12 o862) (N o11 (L o734) E))) (N o126 (N o190 (M o318 o12 o11) (N o446 (L o702) E)) (N o254 (N o382 (L o638) E) (N o11 (L o766) E)))))))))
noncomputable def env0 : Env := { scope := pg.main.scope, locals := mainNs, globals := mainNs, cells := [], code := .ref 13, frame := some 14 }
noncomputable def cE : Code := .body (behindTheImports pg) env0
noncomputable def B0 : List Frame := [topFrame ⟨0, 0, 0, 0⟩]
end
end MineH
end
section
open PySem PySem.W PyProof.Rows PySem.Calls
namespace MineH
noncomputable def l0 : List Stmt := ((behindTheImports pg).drop 0).take 15
theorem p0 (w : World) : (fun os => segRunT treeTable pg w 11 (some (.ref 6)) 1 613 ⟨t0 w.params, 15, {}, #[], {}, 187, os⟩ (piecesOf l0 env0 cE ⟨0, 0, 0, 0⟩ B0)) = fun os => some (.next, ⟨t1 w.params, 115, {}, #[], {}, 322, os⟩, cE, ⟨72, 0, 73, 31⟩) := by
  rw [PySem.W.Fast.te10110043849684766642, PySem.W.Fast.te14364793385576792824]; kernel_rfl
noncomputable def l1 : List Stmt := ((behindTheImports pg).drop 15).take 22
theorem p1 (w : World) : (fun os => segRunT treeTable pg w 11 (some (.ref 6)) 1 602 ⟨t1 w.params, 115, {}, #[], {}, 322, os⟩ (piecesOf l1 env0 cE ⟨72, 0, 73, 31⟩ B0)) = fun os => some (.next, ⟨t2 w.params, 242, {}, #[], {}, 497, os⟩, cE, ⟨143, 0, 148, 16⟩) := by
  rw [PySem.W.Fast.te10110043849684766642, PySem.W.Fast.te14364793385576792824]; kernel_rfl
noncomputable def l2 : List Stmt := ((behindTheImports pg).drop 37).take 18
theorem p2 (w : World) : (fun os => segRunT treeTable pg w 11 (some (.ref 6)) 1 473 ⟨t2 w.params, 242, {}, #[], {}, 497, os⟩ (piecesOf l2 env0 cE ⟨143, 0, 148, 16⟩ B0)) = fun os => some (.next, ⟨t3 w.params, 334, {}, #[], {}, 644, os⟩, cE, ⟨232, 0, 232, 6⟩) := by
  rw [PySem.W.Fast.te10110043849684766642, PySem.W.Fast.te14364793385576792824]; kernel_rfl
noncomputable def l3 : List Stmt := ((behindTheImports pg).drop 55).take 12
theorem p3 (w : World) : (fun os => segRunT treeTable pg w 11 (some (.ref 6)) 1 524 ⟨t3 w.params, 334, {}, #[], {}, 644, os⟩ (piecesOf l3 env0 cE ⟨232, 0, 232, 6⟩ B0)) = fun os => some (.next, ⟨t4 w.params, 412, {}, #[], {}, 768, os⟩, cE, ⟨329, 0, 329, 8⟩) := by
  rw [PySem.W.Fast.te10110043849684766642, PySem.W.Fast.te14364793385576792824]; kernel_rfl
noncomputable def l4 : List Stmt := ((behindTheImports pg).drop 67).take 14
theorem p4 (w : World) : (fun os => segRunT treeTable pg w 11 (some (.ref 6)) 1 596 ⟨t4 w.params, 412, {}, #[], {}, 768, os⟩ (piecesOf l4 env0 cE ⟨329, 0, 329, 8⟩ B0)) = fun os => some (.next, ⟨t5 w.params, 510, {}, #[], {}, 914, os⟩, cE, ⟨413, 0, 413, 11⟩) := by
  rw [PySem.W.Fast.te10110043849684766642, PySem.W.Fast.te14364793385576792824]; kernel_rfl
noncomputable def l5 : List Stmt := ((behindTheImports pg).drop 81).take 13
theorem p5 (w : World) : (fun os => segRunT treeTable pg w 11 (some (.ref 6)) 1 598 ⟨t5 w.params, 510, {}, #[], {}, 914, os⟩ (piecesOf l5 env0 cE ⟨413, 0, 413, 11⟩ B0)) = fun os => some (.next, ⟨t6 w.params, 612, {}, #[], {}, 1057, os⟩, cE, ⟨477, 0, 478, 39⟩) := by
  rw [PySem.W.Fast.te10110043849684766642, PySem.W.Fast.te14364793385576792824]; kernel_rfl
noncomputable def l6 : List Stmt := ((behindTheImports pg).drop 94).take 9
theorem p6 (w : World) : (fun os => segRunT treeTable pg w 11 (some (.ref 6)) 1 264 ⟨t6 w.params, 612, {}, #[], {}, 1057, os⟩ (piecesOf l6 env0 cE ⟨477, 0, 478, 39⟩ B0)) = fun os => some (.next, ⟨t7 w.params, 662, {}, #[], {}, 1150, os⟩, cE, ⟨540, 0, 547, 17⟩) := by
  rw [PySem.W.Fast.te10110043849684766642, PySem.W.Fast.te14364793385576792824]; kernel_rfl
noncomputable def l7 : List Stmt := ((behindTheImports pg).drop 103).take 2
theorem p7 (w : World) : (fun os => segRunT treeTable pg w 11 (some (.ref 6)) 1 440 ⟨t7 w.params, 662, {}, #[], {}, 1150, os⟩ (piecesOf l7 env0 cE ⟨540, 0, 547, 17⟩ B0)) = fun os => some (.next, ⟨t8 w.params, 725, {}, #[], {}, 1245, os⟩, cE, ⟨591, 0, 591, 8⟩) := by
  rw [PySem.W.Fast.te10110043849684766642, PySem.W.Fast.te14364793385576792824]; kernel_rfl
noncomputable def l8 : List Stmt := ((behindTheImports pg).drop 105).take 2
theorem p8 (w : World) : (fun os => segRunT treeTable pg w 11 (some (.ref 6)) 1 403 ⟨t8 w.params, 725, {}, #[], {}, 1245, os⟩ (piecesOf l8 env0 cE ⟨591, 0, 591, 8⟩ B0)) = fun os => some (.next, ⟨t9 w.params, 781, {}, #[], {}, 1327, os⟩, cE, ⟨621, 0, 621, 8⟩) := by
  rw [PySem.W.Fast.te10110043849684766642, PySem.W.Fast.te14364793385576792824]; kernel_rfl
noncomputable def l9 : List Stmt := ((behindTheImports pg).drop 107).take 1
theorem p9 (w : World) : (fun os => segRunT treeTable pg w 11 (some (.ref 6)) 1 231 ⟨t9 w.params, 781, {}, #[], {}, 1327, os⟩ (piecesOf l9 env0 cE ⟨621, 0, 621, 8⟩ B0)) = fun os => some (.next, ⟨t10 w.params, 802, {}, #[], {}, 1364, os⟩, cE, ⟨622, 0, 629, 22⟩) := by
  rw [PySem.W.Fast.te10110043849684766642, PySem.W.Fast.te14364793385576792824]; kernel_rfl
noncomputable def l10 : List Stmt := ((behindTheImports pg).drop 108).take 7
theorem p10 (w : World) : (fun os => segRunT treeTable pg w 11 (some (.ref 6)) 1 570 ⟨t10 w.params, 802, {}, #[], {}, 1364, os⟩ (piecesOf l10 env0 cE ⟨622, 0, 629, 22⟩ B0)) = fun os => some (.next, ⟨t11 w.params, 889, {}, #[], {}, 1507, os⟩, cE, ⟨750, 0, 769, 66⟩) := by
  rw [PySem.W.Fast.te10110043849684766642, PySem.W.Fast.te14364793385576792824]; kernel_rfl
theorem pre0 (w : World) : (fun os => topGo treeTable pg w 11 (some (.ref 6)) 12 ⟨boot_heap w.params, #[], boot_drawn, boot_toks, os⟩ (topStub pg)) = fun os => some (⟨absHeap (t0 w.params) 15 {}, #[], {}, 187, os⟩, ⟨denote treeTable cE, cE, ⟨0, 0, 0, 0⟩, B0⟩) := by kernel_rfl
theorem block0 (w : World) (os : OsState) : segRun treeTable pg w 11 (some (.ref 6)) 1 1 ⟨absHeap (t0 w.params) 15 {}, #[], {}, 187, os⟩ (blockOf (behindTheImports pg) env0 cE ⟨0, 0, 0, 0⟩ B0) = some (.next, ⟨absHeap (t0 w.params) 15 {}, #[], {}, 187, os⟩, cE, ⟨0, 0, 0, 0⟩) := by kernel_rfl
theorem fin0 (w : World) (os : OsState) : topRun treeTable pg w 11 (some (.ref 6)) 2 ⟨absHeap (t11 w.params) 889 {}, #[], {}, 1507, os⟩ (restOf [] env0 cE ⟨750, 0, 769, 66⟩ B0) = some ⟨absHeap (t11 w.params) 889 {}, #[], {}, 1507, os⟩ := by kernel_rfl
theorem body_split : behindTheImports pg = l0 ++ (l1 ++ (l2 ++ (l3 ++ (l4 ++ (l5 ++ (l6 ++ (l7 ++ (l8 ++ (l9 ++ (l10 ++ [])))))))))) := by kernel_rfl
theorem runAll (w : World) (os : OsState) : topRun treeTable pg w 11 (some (.ref 6)) (12 + (1 + (613 + (602 + (473 + (524 + (596 + (598 + (264 + (440 + (403 + (231 + (570 + 2))))))))))))) ⟨boot_heap w.params, #[], boot_drawn, boot_toks, os⟩ (topStub pg) = some ⟨absHeap (t11 w.params) 889 {}, #[], {}, 1507, os⟩ := by
  refine go_top (congrFun (pre0 w) os) ?_
  refine piece_block (block0 w os) ?_
  rw [body_split]
  refine piece_app (segRun_of (congrFun (p0 w) os)) ?_
  refine piece_app (segRun_of (congrFun (p1 w) os)) ?_
  refine piece_app (segRun_of (congrFun (p2 w) os)) ?_
  refine piece_app (segRun_of (congrFun (p3 w) os)) ?_
  refine piece_app (segRun_of (congrFun (p4 w) os)) ?_
  refine piece_app (segRun_of (congrFun (p5 w) os)) ?_
  refine piece_app (segRun_of (congrFun (p6 w) os)) ?_
  refine piece_app (segRun_of (congrFun (p7 w) os)) ?_
  refine piece_app (segRun_of (congrFun (p8 w) os)) ?_
  refine piece_app (segRun_of (congrFun (p9 w) os)) ?_
  refine piece_app (segRun_of (congrFun (p10 w) os)) ?_
  exact fin0 w os
end MineH
end
section
open PySem PySem.W PyProof.Rows PySem.Calls
namespace MineH
noncomputable def KF : Params → Frag := fun P => (nat_lit 2, o2 P) :: (nat_lit 3, o3v10 P) :: (nat_lit 15, o15 P) :: (nat_lit 18, o18 P) :: (nat_lit 23, o23 P) :: (nat_lit 24, o24 P) :: (nat_lit 25, o25 P) :: (nat_lit 27, o27 P) :: (nat_lit 28, o11 P) :: (nat_lit 30, o30 P) :: (nat_lit 31, o31 P) :: (nat_lit 32, o32 P) :: (nat_lit 33, o33 P) :: (nat_lit 34, o34 P) :: (nat_lit 35, o35 P) :: (nat_lit 38, o11 P) :: (nat_lit 40, o40 P) :: (nat_lit 41, o11 P) :: (nat_lit 43, o43 P) :: (nat_lit 44, o44 P) ::
  (nat_lit 45, o11 P) :: (nat_lit 47, o47 P) :: (nat_lit 48, o11 P) :: (nat_lit 50, o50 P) :: (nat_lit 51, o51 P) :: (nat_lit 52, o11 P) :: (nat_lit 54, o54 P) :: (nat_lit 55, o11 P) :: (nat_lit 57, o57 P) :: (nat_lit 58, o58 P) :: (nat_lit 59, o11 P) :: (nat_lit 61, o61 P) :: (nat_lit 62, o11 P) :: (nat_lit 64, o64 P) :: (nat_lit 65, o65 P) :: (nat_lit 66, o11 P) :: (nat_lit 68, o68 P) :: (nat_lit 69, o11 P) :: (nat_lit 71, o71 P) :: (nat_lit 72, o72 P) ::
  (nat_lit 73, o11 P) :: (nat_lit 75, o75 P) :: (nat_lit 76, o11 P) :: (nat_lit 78, o78 P) :: (nat_lit 79, o79 P) :: (nat_lit 80, o11 P) :: (nat_lit 82, o82 P) :: (nat_lit 83, o11 P) :: (nat_lit 85, o85 P) :: (nat_lit 86, o86 P) :: (nat_lit 87, o11 P) :: (nat_lit 89, o89 P) :: (nat_lit 90, o11 P) :: (nat_lit 92, o92 P) :: (nat_lit 93, o93 P) :: (nat_lit 94, o11 P) :: (nat_lit 96, o96 P) :: (nat_lit 97, o11 P) :: (nat_lit 99, o99 P) :: (nat_lit 100, o100 P) ::
  (nat_lit 101, o11 P) :: (nat_lit 103, o103 P) :: (nat_lit 104, o11 P) :: (nat_lit 106, o106 P) :: (nat_lit 107, o107 P) :: (nat_lit 108, o11 P) :: (nat_lit 110, o110 P) :: (nat_lit 111, o11 P) :: (nat_lit 113, o113 P) :: (nat_lit 114, o114 P) :: (nat_lit 115, o11 P) :: (nat_lit 117, o117 P) :: (nat_lit 118, o11 P) :: (nat_lit 120, o120 P) :: (nat_lit 121, o121 P) :: (nat_lit 122, o11 P) :: (nat_lit 124, o124 P) :: (nat_lit 125, o11 P) :: (nat_lit 127, o127 P) :: (nat_lit 128, o128 P) ::
  (nat_lit 129, o129 P) :: (nat_lit 130, o11 P) :: (nat_lit 132, o132 P) :: (nat_lit 133, o11 P) :: (nat_lit 135, o135 P) :: (nat_lit 136, o136 P) :: (nat_lit 137, o11 P) :: (nat_lit 139, o139 P) :: (nat_lit 140, o11 P) :: (nat_lit 142, o142 P) :: (nat_lit 143, o143 P) :: (nat_lit 144, o11 P) :: (nat_lit 146, o146 P) :: (nat_lit 147, o11 P) :: (nat_lit 149, o149 P) :: (nat_lit 150, o150 P) :: (nat_lit 151, o11 P) :: (nat_lit 153, o153 P) :: (nat_lit 154, o11 P) :: (nat_lit 156, o156 P) ::
  (nat_lit 157, o157 P) :: (nat_lit 158, o11 P) :: (nat_lit 160, o160 P) :: (nat_lit 161, o11 P) :: (nat_lit 163, o163 P) :: (nat_lit 164, o164 P) :: (nat_lit 165, o11 P) :: (nat_lit 167, o167 P) :: (nat_lit 168, o11 P) :: (nat_lit 170, o170 P) :: (nat_lit 171, o171 P) :: (nat_lit 172, o11 P) :: (nat_lit 174, o174 P) :: (nat_lit 175, o11 P) :: (nat_lit 177, o177 P) :: (nat_lit 178, o178 P) :: (nat_lit 179, o11 P) :: (nat_lit 181, o181 P) :: (nat_lit 182, o11 P) :: (nat_lit 184, o184 P) ::
  (nat_lit 185, o185 P) :: (nat_lit 186, o11 P) :: (nat_lit 188, o188 P) :: (nat_lit 189, o11 P) :: (nat_lit 191, o191 P) :: (nat_lit 192, o192 P) :: (nat_lit 193, o11 P) :: (nat_lit 195, o195 P) :: (nat_lit 196, o11 P) :: (nat_lit 198, o198 P) :: (nat_lit 199, o199 P) :: (nat_lit 200, o11 P) :: (nat_lit 202, o202 P) :: (nat_lit 203, o11 P) :: (nat_lit 205, o205 P) :: (nat_lit 206, o206 P) :: (nat_lit 207, o11 P) :: (nat_lit 209, o209 P) :: (nat_lit 210, o11 P) :: (nat_lit 212, o212 P) ::
  (nat_lit 213, o213 P) :: (nat_lit 214, o11 P) :: (nat_lit 216, o216 P) :: (nat_lit 217, o11 P) :: (nat_lit 219, o219 P) :: (nat_lit 220, o220 P) :: (nat_lit 221, o11 P) :: (nat_lit 223, o223 P) :: (nat_lit 224, o11 P) :: (nat_lit 226, o226 P) :: (nat_lit 227, o227 P) :: (nat_lit 228, o11 P) :: (nat_lit 230, o230 P) :: (nat_lit 231, o11 P) :: (nat_lit 233, o233 P) :: (nat_lit 234, o234 P) :: (nat_lit 235, o11 P) :: (nat_lit 237, o237 P) :: (nat_lit 238, o11 P) :: (nat_lit 240, o240 P) ::
  (nat_lit 241, o241 P) :: (nat_lit 242, o11 P) :: (nat_lit 244, o244 P) :: (nat_lit 245, o11 P) :: (nat_lit 247, o247 P) :: (nat_lit 248, o248 P) :: (nat_lit 249, o11 P) :: (nat_lit 251, o251 P) :: (nat_lit 252, o11 P) :: (nat_lit 254, o254 P) :: (nat_lit 255, o255 P) :: (nat_lit 256, o11 P) :: (nat_lit 258, o258 P) :: (nat_lit 259, o11 P) :: (nat_lit 261, o261 P) :: (nat_lit 262, o262 P) :: (nat_lit 263, o11 P) :: (nat_lit 265, o265 P) :: (nat_lit 266, o11 P) :: (nat_lit 268, o268 P) ::
  (nat_lit 269, o269 P) :: (nat_lit 270, o11 P) :: (nat_lit 272, o272 P) :: (nat_lit 273, o11 P) :: (nat_lit 275, o275 P) :: (nat_lit 276, o276 P) :: (nat_lit 277, o11 P) :: (nat_lit 279, o279 P) :: (nat_lit 280, o11 P) :: (nat_lit 282, o282 P) :: (nat_lit 283, o283 P) :: (nat_lit 284, o11 P) :: (nat_lit 286, o286 P) :: (nat_lit 287, o11 P) :: (nat_lit 289, o289 P) :: (nat_lit 290, o290 P) :: (nat_lit 291, o291 P) :: (nat_lit 292, o292 P) :: (nat_lit 293, o11 P) :: (nat_lit 295, o295 P) ::
  (nat_lit 296, o11 P) :: (nat_lit 298, o298 P) :: (nat_lit 299, o299 P) :: (nat_lit 300, o11 P) :: (nat_lit 302, o302 P) :: (nat_lit 303, o11 P) :: (nat_lit 305, o305 P) :: (nat_lit 306, o306 P) :: (nat_lit 307, o11 P) :: (nat_lit 309, o309 P) :: (nat_lit 310, o11 P) :: (nat_lit 312, o312 P) :: (nat_lit 313, o313 P) :: (nat_lit 314, o11 P) :: (nat_lit 317, o317 P) :: (nat_lit 318, o318 P) :: (nat_lit 319, o11 P) :: (nat_lit 321, o321 P) :: (nat_lit 322, o11 P) :: (nat_lit 324, o324 P) ::
  (nat_lit 325, o325 P) :: (nat_lit 326, o11 P) :: (nat_lit 328, o328 P) :: (nat_lit 329, o11 P) :: (nat_lit 331, o331 P) :: (nat_lit 332, o332 P) :: (nat_lit 333, o333 P) :: (nat_lit 341, o11 P) :: (nat_lit 343, o343 P) :: (nat_lit 344, o11 P) :: (nat_lit 346, o346 P) :: (nat_lit 347, o347 P) :: (nat_lit 348, o348 P) :: (nat_lit 349, o349 P) :: (nat_lit 350, o350 P) :: (nat_lit 351, o351 P) :: (nat_lit 352, o352 P) :: (nat_lit 355, o11 P) :: (nat_lit 357, o357 P) :: (nat_lit 358, o11 P) ::
  (nat_lit 360, o360 P) :: (nat_lit 361, o361 P) :: (nat_lit 362, o11 P) :: (nat_lit 364, o364 P) :: (nat_lit 365, o11 P) :: (nat_lit 367, o367 P) :: (nat_lit 368, o368 P) :: (nat_lit 369, o11 P) :: (nat_lit 371, o371 P) :: (nat_lit 372, o11 P) :: (nat_lit 374, o374 P) :: (nat_lit 375, o375 P) :: (nat_lit 376, o11 P) :: (nat_lit 378, o378 P) :: (nat_lit 379, o11 P) :: (nat_lit 381, o381 P) :: (nat_lit 382, o382 P) :: (nat_lit 383, o11 P) :: (nat_lit 385, o385 P) :: (nat_lit 386, o11 P) ::
  (nat_lit 388, o388 P) :: (nat_lit 389, o389 P) :: (nat_lit 390, o11 P) :: (nat_lit 392, o392 P) :: (nat_lit 393, o11 P) :: (nat_lit 395, o395 P) :: (nat_lit 396, o396 P) :: (nat_lit 397, o11 P) :: (nat_lit 400, o400 P) :: (nat_lit 401, o401 P) :: (nat_lit 402, o11 P) :: (nat_lit 405, o405 P) :: (nat_lit 406, o406 P) :: (nat_lit 407, o11 P) :: (nat_lit 410, o410 P) :: (nat_lit 411, o411 P) :: (nat_lit 419, o11 P) :: (nat_lit 421, o421 P) :: (nat_lit 422, o11 P) :: (nat_lit 424, o424 P) ::
  (nat_lit 425, o425 P) :: (nat_lit 426, o426 P) :: (nat_lit 427, o427 P) :: (nat_lit 428, o428 P) :: (nat_lit 429, o429 P) :: (nat_lit 430, o430 P) :: (nat_lit 433, o11 P) :: (nat_lit 435, o435 P) :: (nat_lit 436, o11 P) :: (nat_lit 438, o438 P) :: (nat_lit 439, o439 P) :: (nat_lit 440, o11 P) :: (nat_lit 442, o442 P) :: (nat_lit 443, o11 P) :: (nat_lit 445, o445 P) :: (nat_lit 446, o446 P) :: (nat_lit 447, o11 P) :: (nat_lit 449, o449 P) :: (nat_lit 450, o11 P) :: (nat_lit 452, o452 P) ::
  (nat_lit 453, o453 P) :: (nat_lit 454, o11 P) :: (nat_lit 456, o456 P) :: (nat_lit 457, o11 P) :: (nat_lit 459, o459 P) :: (nat_lit 460, o460 P) :: (nat_lit 461, o11 P) :: (nat_lit 463, o463 P) :: (nat_lit 464, o11 P) :: (nat_lit 466, o466 P) :: (nat_lit 467, o467 P) :: (nat_lit 468, o11 P) :: (nat_lit 470, o470 P) :: (nat_lit 471, o11 P) :: (nat_lit 473, o473 P) :: (nat_lit 474, o474 P) :: (nat_lit 475, o11 P) :: (nat_lit 477, o477 P) :: (nat_lit 478, o11 P) :: (nat_lit 480, o480 P) ::
  (nat_lit 481, o481 P) :: (nat_lit 482, o11 P) :: (nat_lit 484, o484 P) :: (nat_lit 485, o11 P) :: (nat_lit 487, o487 P) :: (nat_lit 488, o488 P) :: (nat_lit 489, o11 P) :: (nat_lit 491, o491 P) :: (nat_lit 492, o11 P) :: (nat_lit 494, o494 P) :: (nat_lit 495, o495 P) :: (nat_lit 496, o11 P) :: (nat_lit 498, o498 P) :: (nat_lit 499, o11 P) :: (nat_lit 501, o501 P) :: (nat_lit 502, o502 P) :: (nat_lit 503, o11 P) :: (nat_lit 505, o505 P) :: (nat_lit 506, o11 P) :: (nat_lit 508, o508 P) ::
  (nat_lit 509, o509 P) :: (nat_lit 517, o11 P) :: (nat_lit 519, o519 P) :: (nat_lit 520, o11 P) :: (nat_lit 522, o522 P) :: (nat_lit 523, o523 P) :: (nat_lit 524, o524 P) :: (nat_lit 525, o525 P) :: (nat_lit 526, o526 P) :: (nat_lit 527, o527 P) :: (nat_lit 528, o528 P) :: (nat_lit 531, o11 P) :: (nat_lit 533, o533 P) :: (nat_lit 534, o11 P) :: (nat_lit 536, o536 P) :: (nat_lit 537, o537 P) :: (nat_lit 538, o11 P) :: (nat_lit 540, o540 P) :: (nat_lit 541, o11 P) :: (nat_lit 543, o543 P) ::
  (nat_lit 544, o544 P) :: (nat_lit 545, o11 P) :: (nat_lit 547, o547 P) :: (nat_lit 548, o11 P) :: (nat_lit 550, o550 P) :: (nat_lit 551, o551 P) :: (nat_lit 552, o11 P) :: (nat_lit 554, o554 P) :: (nat_lit 555, o11 P) :: (nat_lit 557, o557 P) :: (nat_lit 558, o558 P) :: (nat_lit 559, o11 P) :: (nat_lit 561, o561 P) :: (nat_lit 562, o11 P) :: (nat_lit 564, o564 P) :: (nat_lit 565, o565 P) :: (nat_lit 566, o11 P) :: (nat_lit 568, o568 P) :: (nat_lit 569, o11 P) :: (nat_lit 571, o571 P) ::
  (nat_lit 572, o572 P) :: (nat_lit 573, o11 P) :: (nat_lit 575, o575 P) :: (nat_lit 576, o11 P) :: (nat_lit 578, o578 P) :: (nat_lit 579, o579 P) :: (nat_lit 580, o11 P) :: (nat_lit 582, o582 P) :: (nat_lit 583, o11 P) :: (nat_lit 585, o585 P) :: (nat_lit 586, o586 P) :: (nat_lit 587, o11 P) :: (nat_lit 590, o590 P) :: (nat_lit 591, o591 P) :: (nat_lit 592, o11 P) :: (nat_lit 595, o595 P) :: (nat_lit 596, o596 P) :: (nat_lit 597, o597 P) :: (nat_lit 598, o11 P) :: (nat_lit 600, o600 P) ::
  (nat_lit 601, o11 P) :: (nat_lit 603, o603 P) :: (nat_lit 604, o604 P) :: (nat_lit 605, o11 P) :: (nat_lit 607, o607 P) :: (nat_lit 608, o11 P) :: (nat_lit 610, o610 P) :: (nat_lit 611, o611 P) :: (nat_lit 612, o11 P) :: (nat_lit 614, o614 P) :: (nat_lit 615, o11 P) :: (nat_lit 617, o617 P) :: (nat_lit 618, o618 P) :: (nat_lit 619, o11 P) :: (nat_lit 621, o621 P) :: (nat_lit 622, o11 P) :: (nat_lit 624, o624 P) :: (nat_lit 625, o625 P) :: (nat_lit 626, o626 P) :: (nat_lit 627, o11 P) ::
  (nat_lit 629, o629 P) :: (nat_lit 630, o11 P) :: (nat_lit 632, o632 P) :: (nat_lit 633, o633 P) :: (nat_lit 634, o11 P) :: (nat_lit 636, o636 P) :: (nat_lit 637, o11 P) :: (nat_lit 639, o639 P) :: (nat_lit 640, o640 P) :: (nat_lit 641, o11 P) :: (nat_lit 643, o643 P) :: (nat_lit 644, o11 P) :: (nat_lit 646, o646 P) :: (nat_lit 647, o647 P) :: (nat_lit 648, o11 P) :: (nat_lit 650, o650 P) :: (nat_lit 651, o11 P) :: (nat_lit 653, o653 P) :: (nat_lit 654, o654 P) :: (nat_lit 655, o11 P) ::
  (nat_lit 657, o657 P) :: (nat_lit 658, o11 P) :: (nat_lit 660, o660 P) :: (nat_lit 661, o661 P) :: (nat_lit 669, o11 P) :: (nat_lit 671, o671 P) :: (nat_lit 672, o11 P) :: (nat_lit 674, o674 P) :: (nat_lit 675, o675 P) :: (nat_lit 676, o11 P) :: (nat_lit 678, o678 P) :: (nat_lit 679, o11 P) :: (nat_lit 681, o681 P) :: (nat_lit 682, o682 P) :: (nat_lit 683, o11 P) :: (nat_lit 685, o685 P) :: (nat_lit 686, o11 P) :: (nat_lit 688, o688 P) :: (nat_lit 689, o689 P) :: (nat_lit 690, o11 P) ::
  (nat_lit 692, o692 P) :: (nat_lit 693, o11 P) :: (nat_lit 695, o695 P) :: (nat_lit 696, o696 P) :: (nat_lit 697, o11 P) :: (nat_lit 699, o699 P) :: (nat_lit 700, o11 P) :: (nat_lit 702, o702 P) :: (nat_lit 703, o703 P) :: (nat_lit 704, o11 P) :: (nat_lit 706, o706 P) :: (nat_lit 707, o11 P) :: (nat_lit 709, o709 P) :: (nat_lit 710, o710 P) :: (nat_lit 711, o11 P) :: (nat_lit 713, o713 P) :: (nat_lit 714, o11 P) :: (nat_lit 716, o716 P) :: (nat_lit 717, o717 P) :: (nat_lit 718, o718 P) ::
  (nat_lit 719, o719 P) :: (nat_lit 720, o720 P) :: (nat_lit 721, o721 P) :: (nat_lit 722, o722 P) :: (nat_lit 732, o11 P) :: (nat_lit 734, o734 P) :: (nat_lit 735, o11 P) :: (nat_lit 737, o737 P) :: (nat_lit 738, o738 P) :: (nat_lit 739, o11 P) :: (nat_lit 741, o741 P) :: (nat_lit 742, o11 P) :: (nat_lit 744, o744 P) :: (nat_lit 745, o745 P) :: (nat_lit 746, o11 P) :: (nat_lit 748, o748 P) :: (nat_lit 749, o11 P) :: (nat_lit 751, o751 P) :: (nat_lit 752, o752 P) :: (nat_lit 753, o11 P) ::
  (nat_lit 755, o755 P) :: (nat_lit 756, o11 P) :: (nat_lit 758, o758 P) :: (nat_lit 759, o759 P) :: (nat_lit 760, o11 P) :: (nat_lit 762, o762 P) :: (nat_lit 763, o11 P) :: (nat_lit 765, o765 P) :: (nat_lit 766, o766 P) :: (nat_lit 767, o11 P) :: (nat_lit 769, o769 P) :: (nat_lit 770, o11 P) :: (nat_lit 772, o772 P) :: (nat_lit 773, o773 P) :: (nat_lit 774, o774 P) :: (nat_lit 775, o775 P) :: (nat_lit 776, o776 P) :: (nat_lit 777, o777 P) :: (nat_lit 778, o778 P) :: (nat_lit 788, o11 P) ::
  (nat_lit 790, o790 P) :: (nat_lit 791, o11 P) :: (nat_lit 793, o793 P) :: (nat_lit 794, o794 P) :: (nat_lit 795, o795 P) :: (nat_lit 796, o796 P) :: (nat_lit 797, o797 P) :: (nat_lit 798, o798 P) :: (nat_lit 799, o799 P) :: (nat_lit 809, o11 P) :: (nat_lit 811, o811 P) :: (nat_lit 812, o11 P) :: (nat_lit 814, o814 P) :: (nat_lit 815, o815 P) :: (nat_lit 816, o11 P) :: (nat_lit 818, o818 P) :: (nat_lit 819, o11 P) :: (nat_lit 821, o821 P) :: (nat_lit 822, o822 P) :: (nat_lit 823, o11 P) ::
  (nat_lit 825, o825 P) :: (nat_lit 826, o11 P) :: (nat_lit 828, o828 P) :: (nat_lit 829, o829 P) :: (nat_lit 830, o11 P) :: (nat_lit 832, o832 P) :: (nat_lit 833, o11 P) :: (nat_lit 835, o835 P) :: (nat_lit 836, o836 P) :: (nat_lit 837, o11 P) :: (nat_lit 839, o839 P) :: (nat_lit 840, o11 P) :: (nat_lit 842, o842 P) :: (nat_lit 843, o843 P) :: (nat_lit 844, o11 P) :: (nat_lit 846, o846 P) :: (nat_lit 847, o11 P) :: (nat_lit 849, o849 P) :: (nat_lit 850, o850 P) :: (nat_lit 851, o851 P) ::
  (nat_lit 852, o852 P) :: (nat_lit 853, o853 P) :: (nat_lit 854, o854 P) :: (nat_lit 855, o855 P) :: (nat_lit 858, o11 P) :: (nat_lit 860, o860 P) :: (nat_lit 861, o11 P) :: (nat_lit 863, o863 P) :: (nat_lit 864, o864 P) :: (nat_lit 865, o11 P) :: (nat_lit 867, o867 P) :: (nat_lit 868, o11 P) :: (nat_lit 870, o870 P) :: (nat_lit 871, o871 P) :: (nat_lit 872, o11 P) :: (nat_lit 875, o875 P) :: (nat_lit 876, o876 P) :: (nat_lit 877, o11 P) :: (nat_lit 879, o879 P) :: (nat_lit 880, o880 P) ::
  (nat_lit 882, o882 P) :: (nat_lit 883, o883 P) :: (nat_lit 884, o11 P) :: (nat_lit 887, o887 P) :: (nat_lit 888, o888 P) :: []
noncomputable def KA : List Addr := [2, 3, 15, 18, 23, 24, 25, 27, 28, 30, 31, 32, 33, 34, 35, 38, 40, 41, 43, 44, 45, 47, 48, 50, 51, 52, 54, 55, 57, 58, 59, 61, 62, 64, 65, 66, 68, 69, 71, 72, 73, 75, 76, 78, 79, 80, 82, 83, 85, 86, 87, 89, 90, 92, 93, 94, 96, 97, 99, 100, 101, 103, 104, 106, 107, 108, 110, 111, 113, 114, 115, 117, 118, 120, 121, 122, 124, 125, 127, 128, 129, 130, 132, 133, 135, 136, 137, 139, 140, 142, 143, 144, 146, 147, 149, 150, 151, 153, 154, 156, 157, 158, 160, 161, 163, 164, 165, 167, 168, 170, 171, 172, 174, 175, 177, 178, 179, 181, 182, 184, 185, 186, 188, 189, 191, 192, 193, 195, 196, 198, 199, 200, 202, 203, 205, 206, 207, 209, 210, 212, 213, 214, 216, 217, 219, 220, 221, 223, 224, 226, 227, 228, 230, 231, 233, 234, 235, 237, 238, 240, 241, 242, 244, 245, 247, 248, 249, 251, 252, 254, 255, 256, 258, 259, 261, 262, 263, 265, 266, 268, 269, 270, 272, 273, 275, 276, 277, 279, 280, 282, 283, 284, 286, 287, 289, 290, 291, 292, 293, 295, 296, 298, 299, 300, 302, 303, 305, 306, 307, 309, 310, 312, 313, 314, 317, 318, 319, 321, 322, 324, 325, 326, 328, 329, 331, 332, 333, 341, 343, 344, 346, 347, 348, 349, 350, 351, 352, 355, 357, 358, 360, 361, 362, 364, 365, 367, 368, 369, 371, 372, 374, 375, 376, 378, 379, 381, 382, 383, 385, 386, 388, 389, 390, 392, 393, 395, 396, 397, 400, 401, 402, 405, 406, 407, 410, 411, 419, 421, 422, 424, 425, 426, 427, 428, 429, 430, 433, 435, 436, 438, 439, 440, 442, 443, 445, 446, 447, 449, 450, 452, 453, 454, 456, 457, 459, 460, 461, 463, 464, 466, 467, 468, 470, 471, 473, 474, 475, 477, 478, 480, 481, 482, 484, 485, 487, 488, 489, 491, 492, 494, 495, 496, 498, 499, 501, 502, 503, 505, 506, 508, 509, 517, 519, 520, 522, 523, 524, 525, 526, 527, 528, 531, 533, 534, 536, 537, 538, 540, 541, 543, 544, 545, 547, 548, 550, 551, 552, 554, 555, 557, 558, 559, 561, 562, 564, 565, 566, 568, 569, 571, 572, 573, 575, 576, 578, 579, 580, 582, 583, 585, 586, 587, 590, 591, 592, 595, 596, 597, 598, 600, 601, 603, 604, 605, 607, 608, 610, 611, 612, 614, 615, 617, 618, 619, 621, 622, 624, 625, 626, 627, 629, 630, 632, 633, 634, 636, 637, 639, 640, 641, 643, 644, 646, 647, 648, 650, 651, 653, 654, 655, 657, 658, 660, 661, 669, 671, 672, 674, 675, 676, 678, 679, 681, 682, 683, 685, 686, 688, 689, 690, 692, 693, 695, 696, 697, 699, 700, 702, 703, 704, 706, 707, 709, 710, 711, 713, 714, 716, 717, 718, 719, 720, 721, 722, 732, 734, 735, 737, 738, 739, 741, 742, 744, 745, 746, 748, 749, 751, 752, 753, 755, 756, 758, 759, 760, 762, 763, 765, 766, 767, 769, 770, 772, 773, 774, 775, 776, 777, 778, 788, 790, 791, 793, 794, 795, 796, 797, 798, 799, 809, 811, 812, 814, 815, 816, 818, 819, 821, 822, 823, 825, 826, 828, 829, 830, 832, 833, 835, 836, 837, 839, 840, 842, 843, 844, 846, 847, 849, 850, 851, 852, 853, 854, 855, 858, 860, 861, 863, 864, 865, 867, 868, 870, 871, 872, 875, 876, 877, 879, 880, 882, 883, 884, 887, 888]
theorem ka_eq (P : Params) : KA = (KF P).map (·.1) := by kernel_rfl
noncomputable def vw : Program := { pg with main := { pg.main with body := [stAt pg.main.body [114]] } }
noncomputable def loose : List Str := (["MOST_TEXT", "MOST_EXPONENT", "BasicError", "kind_of", "figures_of", "rounded_by", "made", "whole_near", "fits", "whole_of", "decimal_of", "checked_text", "is_nought", "is_true", "truth", "sign_of", "ONE", "MOST_POWER", "d_negated", "alike", "d_add", "d_sub", "d_mul", "with_rest", "d_div", "d_compare", "d_power", "square_or_end", "is_whole", "settled", "whole_reckoned", "cut_quotient", "cut_rest", "exponent_of", "whole_power", "raised", "reckoned", "negated", "order_of", "inverted", "logic", "LOGIC", "COMPARISONS", "order_of_texts", "compared", "worth_of_texts", "worth_of_two", "worth_of_one", "worth_of_leaf", "LEAVES", "RowCode", "leaf_order", "expression_orders", "target_orders", "row_orders", "led_to", "compile_rows", "moved_orders", "rows_left", "drop_rows", "Flat", "put_row_of", "put_if", "put_all", "gather", "join_rows", "end_loops", "flatten", "place_of", "line_of", "end_of_while", "next_of_for", "MOST_NUMBER", "Control", "put_upon", "floor_of", "found_at", "cut_to", "is_past", "for_begin", "for_name", "for_next", "while_begin", "while_end", "wend_place", "gosub", "return_place", "chosen", "JUMPS", "do_flow", "do_jump", "do_loop", "do_for", "next_from", "FlowRun", "PlainHooks", "RowWays", "RowRun", "_law_next", "_law_worth", "_law_part", "_law_by_orders"] : List String).map Str.ofString
noncomputable abbrev hk : Hook := kmHook KF KA ka_eq [878]
noncomputable def d0 : DefRec := match stAt pg.main.body [114] with
  | .FunctionDef name args b _ _ _ scope _ _ pos => ⟨name, args, b, scope, pos⟩
  | _ => ⟨"", ⟨[], [], none, [], [], none, []⟩, [], pg.main.scope, ⟨0, 0, 0, 0⟩⟩
theorem q1 : defOf vw PySem.Challenge.rw_pq0153_01.row.name = some (d0, []) := by kernel_rfl
theorem q2 : pg.theDef PySem.Challenge.rw_pq0153_01.row.name = some (d0.params, d0.body, d0.scope) := by kernel_rfl
theorem q3 : kwWritten? d0.params.kwonlyargs d0.params.kw_defaults = some [] := by kernel_rfl
theorem q4 : (!PySem.Challenge.rw_pq0153_01.row.writes || PySem.Challenge.rw_pq0153_01.row.toRowW.records.isEmpty) = true := by kernel_rfl
theorem q5 : PySem.Challenge.rw_pq0153_01.row.toRowW.records = [] := by kernel_rfl
theorem q8 : (chainsOk vw && opensWell pg && (frees PySem.Challenge.rw_pq0153_01.row.toRowW && PySem.Challenge.rw_pq0153_01.row.within.isEmpty)) = true := by decide +kernel
theorem q7 : PySem.Challenge.rw_pq0153_01.row.toRowW.promised := by w_witness2
end MineH
end
section
open PySem PySem.W PyProof.Rows PySem.Calls
namespace MineH
noncomputable abbrev H1 (P : Params) : Heap := absHeap (t11 P) 889 {}
noncomputable abbrev S1 (w : World) (os : OsState) : Shared := ⟨H1 w.params, #[], {}, 1507, os⟩
noncomputable abbrev mods : List Str := importedModules pg.main.body
theorem f_open : fenceModules? pg = some := by kernel_rfl
theorem bo : ∀ w : World, (fencedOpening treeTable pg w 10732).map (fun s => (s.heap, s.gens, s.drawn, s.toks)) = some (boot_heap w.params, Array.mk [], boot_drawn, boot_toks) :=
  boot_open (by kernel_rfl) (by kernel_rfl) (fun s => congrFun f_open s)
theorem z0 (w : World) : ((boot_heap w.params).isNs mainGlobals && (#[] : Array GenState).size == 0, (boot_heap w.params).objs.size, (boot_heap w.params).nsMap mainGlobals "__annotations__") = (true, 11, some (.ref 6)) := by kernel_rfl
theorem y1 (w : World) : staticsOk mods (boot_heap w.params) (H1 w.params) = true := by kernel_rfl
theorem y2 (w : World) : namesBound pg (H1 w.params) = true := by kernel_rfl
theorem y4 (w : World) : laidKept (boot_heap w.params) (H1 w.params) = true := by kernel_rfl
theorem s1 (w : World) (os : OsState) : seen ((recsOf vw).map (·.name)) (ownsOf vw) [] { S1 w os with gens := #[] } = expectedOf vw := by kernel_rfl
theorem s2 (w : World) : (H1 w.params).bltView = bltViewBooted := by kernel_rfl
theorem s3 (w : World) : (H1 w.params).keysOk (looseW vw loose) ((recsOf vw).map (·.name)) ((litsOf vw).map (·.1)) ((clssOf vw (looseW vw loose)).map (·.name)) = true := by kernel_rfl
theorem s3a (w : World) : (H1 w.params).accountedOkI mods = true := by kernel_rfl
theorem s3b (w : World) : ((H1 w.params).isNs mainGlobals && (H1 w.params).isNs builtinsNs && tablesOk vw (H1 w.params)) = true := by kernel_rfl
theorem s4 (w : World) (os : OsState) : tabsOk vw (S1 w os) = true := by kernel_rfl
theorem s5 (w : World) (os : OsState) : pinSeenD vw (drecsOf vw) (S1 w os) = pinGoodD (drecsOf vw) := by kernel_rfl
theorem s6 (w : World) (os : OsState) : plainSeenE vw (looseW vw loose) (S1 w os) = plainGoodE vw (looseW vw loose) := by kernel_rfl
theorem s7 (w : World) (os : OsState) : plainSeenD vw loose (S1 w os) = plainGoodD vw loose := by kernel_rfl
theorem s8 (w : World) (os : OsState) : wideSeen vw (S1 w os) = wideGood vw := by kernel_rfl
theorem s9 (w : World) (os : OsState) : clsSeenW vw loose (S1 w os) = clsGoodW vw loose := by kernel_rfl
end MineH
end
section
open PySem PySem.W PyProof.Rows PySem.Calls
namespace MineH
theorem w0 : (sreFenced PySem.Challenge.rw_pq0153_01.row.prog.main) = true := by rw [PySem.W.Fast.te11788848310118352699, PySem.W.Fast.te2368527892694137696]; kernel_rfl
theorem w1 : ((moduleNames PySem.Challenge.rw_pq0153_01.row.prog.main.body).isEmpty ||
  lookedIntoSs (moduleNames PySem.Challenge.rw_pq0153_01.row.prog.main.body) PySem.Challenge.rw_pq0153_01.row.prog.main.body) = true := by rw [PySem.W.Fast.te9807087744658564304, PySem.W.Fast.te2368527892694137696, PySem.W.Fast.te12862048085361865435]; kernel_rfl
theorem w2 : (namesResolve PySem.Challenge.rw_pq0153_01.row.prog) = true := by rw [PySem.W.Fast.te8377067652309620493, PySem.W.Fast.te2368527892694137696]; kernel_rfl
theorem w3 : (PySem.Challenge.rw_pq0153_01.row.prog.boundNames.all fun n => !worldNames.contains n) = true := by rw [PySem.W.R.allR_eq, PySem.W.Fast.te18344453789297297638, PySem.W.Fast.te2368527892694137696, PySem.W.Fast.te3471404346716756564, PySem.W.Fast.sDec_eq, PySem.W.Fast.te14412699480532031325]; kernel_rfl
theorem w4 : (noRoadLSs
  { strict := !(importedModules PySem.Challenge.rw_pq0153_01.row.prog.main.body).all cThrough.contains, foot := none,
    bare :=
      List.filter (readsOut PySem.Challenge.rw_pq0153_01.row.prog PySem.Challenge.rw_pq0153_01.row.prog.main.body)
        [Str.ofString "vars", Str.ofString "dir", Str.ofString "locals"] }
  PySem.Challenge.rw_pq0153_01.row.prog.main.body) = true := by rw [PySem.W.Fast.te8326940854005059898, PySem.W.R.allR_eq, PySem.W.Fast.te5923862056798008813, PySem.W.Fast.te2368527892694137696, PySem.W.Fast.te3471404346716756564, PySem.W.Fast.sDec_eq, PySem.W.Fast.te17691160309236699985, PySem.W.R.filterR_eq, PySem.W.Fast.te13343964577679436407]; kernel_rfl
theorem w5 : (namesMeet PySem.Challenge.rw_pq0153_01.row.prog PySem.Challenge.rw_pq0153_01.row.prog.main.body fun x n => attrL n) = true := by rw [PySem.W.Fast.te17119622794617984870, PySem.W.Fast.te2368527892694137696, PySem.W.Fast.te17868728402115742887]; kernel_rfl
theorem w6 : (PySem.Challenge.rw_pq0153_01.row.loose.isEmpty) = true := by rw [PySem.W.Fast.te2368527892694137696]; kernel_rfl
theorem w7 : (PySem.Challenge.rw_pq0153_01.row.makers.isEmpty) = true := by rw [PySem.W.Fast.te2368527892694137696]; kernel_rfl
theorem w8 : (List.isEmpty PySem.Challenge.rw_pq0153_01.row.records ||
  PySem.Challenge.rw_pq0153_01.row.raises.all fun ct =>
    ct.fst != ExcName.builtin "AttributeError" && ct.fst != ExcName.builtin "TypeError") = true := by rw [PySem.W.Fast.te2368527892694137696, PySem.W.R.allR_eq, PySem.W.Fast.te9706382859710513879]; kernel_rfl
theorem w9 : (PySem.Challenge.rw_pq0153_01.row.raises.all fun ct =>
  match ct.fst with
  | ExcName.builtin n => !PySem.Challenge.rw_pq0153_01.row.prog.boundNames.contains (Str.ofString n) && !ofTheWorld.contains n
  | ExcName.own name => true) = true := by rw [PySem.W.R.allR_eq, PySem.W.Fast.te2368527892694137696, PySem.W.Fast.te3471404346716756564, PySem.W.Fast.sDec_eq, PySem.W.Fast.te18344453789297297638, PySem.W.S.strDecS_eq, PySem.W.Fast.te2357444279172408678]; kernel_rfl
theorem w10 : (decide (List.map (fun x => x.fst) PySem.Challenge.rw_pq0153_01.row.records).Nodup) = true := by rw [PySem.W.R.mapR_eq, PySem.W.Fast.te2368527892694137696, PySem.W.Fast.sDec_eq]; kernel_rfl
theorem w11 : (List.all PySem.Challenge.rw_pq0153_01.row.records fun x =>
  !x.fst.opensWith (Str.ofString "__") && !builtinNamed x.fst &&
      PySem.Challenge.rw_pq0153_01.row.prog.boundNames.contains x.fst &&
    x.snd.all fun f => !f.fst.opensWith (Str.ofString "__")) = true := by rw [PySem.W.R.allR_eq, PySem.W.Fast.te2368527892694137696, PySem.W.Fast.te4857012375875476094, PySem.W.Fast.named_eq, PySem.W.Fast.te3471404346716756564, PySem.W.Fast.sDec_eq, PySem.W.Fast.te18344453789297297638]; kernel_rfl
theorem w12 : (PySem.Challenge.rw_pq0153_01.row.solid) = true := by rw [PySem.W.Fast.te13582783067957832011, PySem.W.Fast.te2368527892694137696]; kernel_rfl
theorem w13 : (PySem.Challenge.rw_pq0153_01.row.pre.litsOk) = true := by rw [PySem.W.Fast.te5318747976498570220, PySem.W.Fast.te2368527892694137696]; kernel_rfl
theorem w14 : (PySem.Challenge.rw_pq0153_01.row.post.litsOk) = true := by rw [PySem.W.Fast.te5318747976498570220, PySem.W.Fast.te2368527892694137696]; kernel_rfl
theorem w15 : (PySem.Challenge.rw_pq0153_01.row.raises.all fun x => x.snd.litsOk) = true := by rw [PySem.W.R.allR_eq, PySem.W.Fast.te2368527892694137696, PySem.W.Fast.te5318747976498570220]; kernel_rfl
theorem w16 : (PySem.Challenge.rw_pq0153_01.row.mutates.all fun i =>
  match PySem.Challenge.rw_pq0153_01.row.args[i]? with
  | some sh => !sh.arms.any WShape.isObj
  | none => false) = true := by rw [PySem.W.R.allR_eq, PySem.W.Fast.te2368527892694137696, PySem.W.Fast.te4579403493507170074, PySem.W.R.anyR_eq, PySem.W.Fast.te4274047373036748609]; kernel_rfl
theorem w17 : (PySem.Challenge.rw_pq0153_01.row.within.all fun i => decide (i < PySem.Challenge.rw_pq0153_01.row.args.length)) = true := by rw [PySem.W.R.allR_eq, PySem.W.Fast.te2368527892694137696]; kernel_rfl
theorem w18 : (Option.all (fun i => decide (i < PySem.Challenge.rw_pq0153_01.row.args.length)) PySem.Challenge.rw_pq0153_01.row.same) = true := by rw [PySem.W.Fast.te2368527892694137696]; kernel_rfl
theorem w19 : (PySem.Challenge.rw_pq0153_01.row.prog.boundNames.contains PySem.Challenge.rw_pq0153_01.row.name) = true := by rw [PySem.W.Fast.te3471404346716756564, PySem.W.Fast.sDec_eq, PySem.W.Fast.te18344453789297297638, PySem.W.Fast.te2368527892694137696]; kernel_rfl
theorem w20 : (!startupNames.contains PySem.Challenge.rw_pq0153_01.row.name) = true := by rw [PySem.W.Fast.te3471404346716756564, PySem.W.Fast.sDec_eq, PySem.W.Fast.te12749700546528644094, PySem.W.Fast.te2368527892694137696]; kernel_rfl
theorem w21 : (decide (PySem.Challenge.rw_pq0153_01.foot ≤ (behindTheImports PySem.Challenge.rw_pq0153_01.prog).length)) = true := by kernel_rfl
theorem w22 : (PySem.Challenge.rw_pq0153_01.footing.all footLine) = true := by rw [PySem.W.R.allR_eq, PySem.W.Fast.te10501279942588096481]; kernel_rfl
theorem w23 : (noClassBlock PySem.Challenge.rw_pq0153_01.prog PySem.Challenge.rw_pq0153_01.footing) = true := by rw [PySem.W.Fast.te8179353310426384613]; kernel_rfl
theorem w24 : (Option.all (fun n => decide (63 ≤ n)) PySem.Challenge.rw_pq0153_01.most) = true := by kernel_rfl
theorem w25 : (Option.all (fun n => decide (2 ^ 63 ≤ n)) PySem.Challenge.rw_pq0153_01.bound) = true := by kernel_rfl
theorem w26 : (noRoadLSs
  { strict := true, foot := some PySem.Challenge.rw_pq0153_01.bound', writes := PySem.Challenge.rw_pq0153_01.writes,
    may := PySem.Challenge.rw_pq0153_01.may }
  PySem.Challenge.rw_pq0153_01.footing) = true := by rw [PySem.W.Fast.te8326940854005059898, PySem.W.Fast.te797321630700447069, PySem.W.Fast.te9572597257264208301]; kernel_rfl
theorem w27 : (defStands PySem.Challenge.rw_pq0153_01.about PySem.Challenge.rw_pq0153_01.above) = true := by rw [PySem.W.Fast.te9558739934217749035]; kernel_rfl
theorem w28 : (PySem.Challenge.rw_pq0153_01.namesIt) = true := by rw [PySem.W.Fast.te16286561074155671207]; kernel_rfl
theorem w29 : ([Str.ofString "type", Str.ofString "isinstance", Str.ofString "issubclass", Str.ofString "getattr",
      Str.ofString "hasattr"].all
  fun n => PySem.Challenge.rw_pq0153_01.about != [n]) = true := by rw [PySem.W.R.allR_eq, PySem.W.Fast.sDec_eq]; kernel_rfl
theorem w30 : (PySem.Challenge.rw_pq0153_01.bound'.all fun n =>
  !builtinNamed n || PySem.Challenge.rw_pq0153_01.about == [n] || !PySem.Challenge.rw_pq0153_01.reads n) = true := by rw [PySem.W.R.allR_eq, PySem.W.Fast.te797321630700447069, PySem.W.Fast.named_eq, PySem.W.Fast.sDec_eq, PySem.W.Fast.te6984425678791042302]; kernel_rfl
theorem w31 : (!PySem.Challenge.rw_pq0153_01.writes ||
  (List.flatMap importedNames PySem.Challenge.rw_pq0153_01.prog.main.body).all fun n => !PySem.Challenge.rw_pq0153_01.reads n) = true := by rw [PySem.W.R.allR_eq, PySem.W.Fast.te17095254045102204799, PySem.W.Fast.te12879404354523853263, PySem.W.Fast.te6984425678791042302]; kernel_rfl
theorem w32 : ((List.flatMap importedNames PySem.Challenge.rw_pq0153_01.prog.main.body).all fun n =>
  !PySem.Challenge.rw_pq0153_01.reads n ||
    (drawsOf n PySem.Challenge.rw_pq0153_01.prog.main.body).all fun mn =>
      mn.snd != Str.ofString "attrgetter" && mn.snd != Str.ofString "methodcaller") = true := by rw [PySem.W.R.allR_eq, PySem.W.Fast.te17095254045102204799, PySem.W.Fast.te12879404354523853263, PySem.W.Fast.te6984425678791042302, PySem.W.Fast.te482687673346738481, PySem.W.Fast.sDec_eq]; kernel_rfl
theorem w33 : (namesMeet PySem.Challenge.rw_pq0153_01.prog PySem.Challenge.rw_pq0153_01.footing fun sc n =>
  (![Str.ofString "type", Str.ofString "isinstance", Str.ofString "issubclass", Str.ofString "getattr",
              Str.ofString "hasattr"].contains
          n ||
      List.lookup n sc.names == some NameKind.globalImplicit) &&
    (PySem.Challenge.rw_pq0153_01.may != some n || sc.kind == ScopeKind.module ||
      List.lookup n sc.names == some NameKind.globalImplicit)) = true := by rw [PySem.W.Fast.te17119622794617984870, PySem.W.Fast.te3471404346716756564, PySem.W.Fast.sDec_eq, PySem.W.Fast.te9572597257264208301]; kernel_rfl
theorem w34 : (PySem.Challenge.rw_pq0153_01.own.contains PySem.Challenge.rw_pq0153_01.name) = true := by rw [PySem.W.Fast.te3471404346716756564, PySem.W.Fast.sDec_eq, PySem.W.Fast.te10792542408131684335]; kernel_rfl
theorem w35 : (PySem.Challenge.rw_pq0153_01.own.eraseDups.length == PySem.Challenge.rw_pq0153_01.own.length) = true := by rw [PySem.W.Fast.te7723801398212525404, PySem.W.Fast.sDec_eq, PySem.W.Fast.te10792542408131684335]; kernel_rfl
theorem w36 : (PySem.Challenge.rw_pq0153_01.own.all fun n => !builtinNamed n) = true := by rw [PySem.W.R.allR_eq, PySem.W.Fast.te10792542408131684335, PySem.W.Fast.named_eq]; kernel_rfl
theorem w37 : (namesMeet PySem.Challenge.rw_pq0153_01.prog PySem.Challenge.rw_pq0153_01.above fun x n => !PySem.Challenge.rw_pq0153_01.own.contains n) = true := by rw [PySem.W.Fast.te17119622794617984870, PySem.W.Fast.te3471404346716756564, PySem.W.Fast.sDec_eq, PySem.W.Fast.te10792542408131684335]; kernel_rfl
theorem w38 : (namesMeet PySem.Challenge.rw_pq0153_01.prog PySem.Challenge.rw_pq0153_01.footing fun sc n =>
  sc.kind == ScopeKind.module || List.lookup n sc.names != some NameKind.globalExplicit) = true := by rw [PySem.W.Fast.te17119622794617984870, PySem.W.Fast.sDec_eq]; kernel_rfl
theorem q9 : PySem.Challenge.rw_pq0153_01.wellSaid = true := by
  unfold OpenLaw.wellSaid OpenRow.wellSaid OpenRow.partSaid looksOpen
  repeat' (with_reducible refine look_both ?_ ?_)
  · exact w0
  · exact w1
  · exact w2
  · exact w3
  · exact w4
  · exact w5
  · exact w6
  · exact w7
  · exact w8
  · exact w9
  · exact w10
  · exact w11
  · exact w12
  · exact w13
  · exact w14
  · exact w15
  · exact w16
  · exact w17
  · exact w18
  · exact w19
  · exact w20
  · exact w21
  · exact w22
  · exact w23
  · exact w24
  · exact w25
  · exact w26
  · exact w27
  · exact w28
  · exact w29
  · exact w30
  · exact w31
  · exact w32
  · exact w33
  · exact w34
  · exact w35
  · exact w36
  · exact w37
  · exact w38
theorem q6t : TablesWhole.wProgram TablesWhole.holds pg = true := by
  delta TablesWhole.wProgram TablesWhole.holds
  rw [PySem.W.Fast.te6116379765354995101, PySem.W.Fast.te15985051520779696433]
  kernel_rfl
theorem q6 : pg.bare := ⟨rfl, rfl, rfl, rfl, rfl, q6t⟩
end MineH
end
section
open PySem PySem.W PyProof.Rows PySem.Calls
namespace MineH
theorem alive_get {T : BT} {n : Nat} {a : Addr} {o : Obj} (ht : (match T.get a with | some o => if Nat.blt a n then alive o else none | none => none) = some o) : (absHeap T n {}).get? a = some o := by
  cases g : T.get a with
  | none => rw [g] at ht; cases ht
  | some o' =>
    rw [g] at ht
    by_cases h : a < n
    · have e : Nat.blt a n = true := Nat.ble_eq_true_of_le h
      simp only [e, if_true] at ht
      rw [abs_get h g, ht]
    · have e : Nat.blt a n = false := by
        cases q : Nat.blt a n with
        | false => rfl
        | true => exact absurd (Nat.le_of_ble_eq_true q) h
      simp [e] at ht
theorem alive_map {T : BT} {n : Nat} : ∀ (as : List Addr) (os : List (Option Obj)), (as.map fun a => match T.get a with | some o => if Nat.blt a n then alive o else none | none => none) = os → (os.all Option.isSome) = true → as.map (absHeap T n {}).get? = os
  | [], os, h, _ => by cases h; rfl
  | a :: as, [], h, _ => by cases h
  | a :: as, o :: os, h, k => by
    rw [List.map_cons, List.cons.injEq] at h
    rw [List.all_cons, Bool.and_eq_true] at k
    cases o with
    | none => simp at k
    | some o => rw [List.map_cons, alive_get h.1, alive_map as os h.2 k.2]
theorem y5a (w : World) : (KA.map fun a => match (t11 w.params).get a with | some o => if Nat.blt a 889 then alive o else none | none => none) = (KF w.params).map fun p => some p.2 := by kernel_rfl
theorem y5b (w : World) : (([878] : List Addr).map fun a => match (t11 w.params).get a with | some o => if Nat.blt a 889 then alive o else none | none => none) = [some (tabObj #[])] := by kernel_rfl
theorem all_some : ∀ K : Frag, ((K.map fun p => some p.2).all Option.isSome) = true
  | [] => rfl
  | _ :: K => all_some K
theorem y5 (w : World) (os : OsState) : hk.obs (S1 w os) = hk.val w := by
  refine Prod.ext (alive_map _ _ (y5a w) ?_) (alive_map _ _ (y5b w) rfl)
  exact all_some _
end MineH
end
section
open PySem PySem.W PyProof.Rows PySem.Calls
namespace MineH
theorem u1 (w : World) (os : OsState) : (staticsOk mods (boot_heap w.params) (H1 w.params) && namesBound pg (H1 w.params) && gensDone (S1 w os) && laidKept (boot_heap w.params) (H1 w.params)) = true := by
  rw [y1, y2, y4]; rfl
theorem u2 (w : World) (os : OsState) : ((H1 w.params).keysOk (looseW vw loose) ((recsOf vw).map (·.name)) ((litsOf vw).map (·.1)) ((clssOf vw (looseW vw loose)).map (·.name)) && (H1 w.params).accountedOkI mods && (H1 w.params).isNs mainGlobals && (H1 w.params).isNs builtinsNs && tablesOk vw (H1 w.params) && true && (if true then (#[] : Array GenState).size == 0 else !leftWithCleanup #[])) = true := by
  have z := s3b w
  simp only [Bool.and_eq_true] at z
  rw [s3, s3a, z.1.1, z.1.2, z.2]; rfl
theorem u3 (w : World) (os : OsState) : openSeen vw loose mods (fun _ => true) true (S1 w os) = openGood vw loose := by
  unfold openSeen openGood
  exact looks_pair (s1 w os) (looks_pair (s2 w) (looks_pair (u2 w os) (looks_pair (s4 w os) (looks_pair (s5 w os) (looks_pair (s6 w os) (looks_pair (s7 w os) (looks_pair (s8 w os) (s9 w os))))))))
theorem u4 (w : World) : (fun os => ((staticsOk mods (boot_heap w.params) (H1 w.params) && namesBound pg (H1 w.params) && gensDone (S1 w os) && laidKept (boot_heap w.params) (H1 w.params)), openSeen vw loose mods (fun _ => true) true (S1 w os), hk.obs (S1 w os))) = fun _ => (true, openGood vw loose, hk.val w) :=
  funext fun os => looks_pair (u1 w os) (looks_pair (u3 w os) (y5 w os))
theorem left : LeftO pg vw loose (fun _ => true) hk.obs hk.val 10732 :=
  LeftO.of_pieces (g0 := true) (H₀ := boot_heap) (H₁ := H1) (M := (12 + (1 + (613 + (602 + (473 + (524 + (596 + (598 + (264 + (440 + (403 + (231 + (570 + 2)))))))))))))) bo z0 runAll (by kernel_rfl) u4
end MineH
end
section
open PySem PySem.W PyProof.Rows PySem.Calls
namespace MineH
theorem recs_nil (h : Heap) : RecFacts PySem.Challenge.rw_pq0153_01.row.toRowW.records h := by
  rw [q5]
  have z : ∀ x, WRecords.fields? ([] : WRecords) x = none := fun x => rfl
  refine ⟨fun x h => (nomatch h), fun x h => (nomatch h), ?_, ?_⟩
  · intro x y a h; rw [z] at h; cases h
  · intro x fs h; rw [z] at h; cases h
theorem top (walk : WalkO vw loose (fun _ _ => True) hk.says PySem.Challenge.rw_pq0153_01.row.toRowW d0 [] fun f vs => PySem.call f vs) : PySem.Challenge.rw_pq0153_01.Holds :=
  holds_law q9 fun said => holds_open (XP := fun _ _ => True) (YP := hk.says) left hk.of hk.keeps (fun _ _ => trivial) (fun _ _ _ _ _ => trivial) q1 q2 q3
    (fun s _ => recs_nil s.heap) q4 said q8 q6 q7 walk
end MineH
end
section
open PySem PySem.W PyProof.Rows PySem.Calls
namespace Mine
inductive V where
  | none
  | bool (b : Bool)
  | int (i : Int)
  | str (s : Str)
  | tup (l : List V)
  | lst (l : List V)
  | raw (v : Value)
structure Gh where
  al : Nat → Nat → Addr
  dx : Nat → Nat → Addr
  nv : Nat → Nat
  F : Addr → Prop
inductive W where
  | v (x : V)
  | ref (k p : Nat)
  | meth (f : Addr) (k p : Nat)
  | unk
  | rng (lo hi st : Int)
  | sem (P : Gh → Heap → Value → Prop)
inductive O where
  | tab (ps : Array Value)
  | list (l : List V)
  | dS (l : List (Str × V))
  | dI (l : List (Int × V))
  | inst (C : Addr) (fs : List (Str × W))
noncomputable abbrev Store := List (Nat × Nat × O)
noncomputable abbrev Loc := List (Str × W)
noncomputable def put (k : Nat) (o : O) : Store → Store
  | [] => []
  | e :: r => if e.1 = k then (k, e.2.1, o) :: r else e :: put k o r
theorem lookup_at {α : Type} {k a : Nat} {x : α} {r : List (Nat × α)} : List.lookup k ((a, x) :: r) = if k = a then some x else List.lookup k r := by
  rw [List.lookup_cons]
  by_cases q : k = a
  · rw [if_pos q, beq_iff_eq.mpr q]
  · rw [if_neg q, beq_false_of_ne q]
theorem put_lookup (k k' : Nat) (o : O) (σ : Store) : (put k o σ).lookup k' = if k' = k then (σ.lookup k).map (fun e => (e.1, o)) else σ.lookup k' := by
  induction σ with
  | nil => exact (ite_self _).symm
  | cons e r ih =>
    show List.lookup k' (if e.1 = k then (k, e.2.1, o) :: r else e :: put k o r) = _
    by_cases h : e.1 = k
    · rw [if_pos h, lookup_at, lookup_at (x := e.2), lookup_at (x := e.2)]
      subst h
      by_cases q : k' = e.1
      · rw [if_pos q, if_pos q, if_pos rfl]; rfl
      · rw [if_neg q, if_neg q, if_neg q]
    · rw [if_neg h, lookup_at (x := e.2), ih, lookup_at (k := k) (x := e.2), lookup_at (k := k') (x := e.2), if_neg (fun q : k = e.1 => h q.symm)]
      by_cases q : k' = k
      · rw [if_pos q, if_pos q, if_neg (fun z : k' = e.1 => h (z.symm.trans q))]
      · rw [if_neg q, if_neg q]
mutual
inductive PV (F : Addr → Prop) (h : Heap) : V → Value → Prop
  | none : PV F h .none .none
  | bool (b : Bool) : PV F h (.bool b) (.bool b)
  | int (i : Int) (t : Tok) : PV F h (.int i) (.int i t)
  | str (s : Str) (t : Tok) : PV F h (.str s) (.str s t)
  | raw (v : Value) : PV F h (.raw v) v
  | tup {a : Addr} {its : Array Value} {l : List V} : F a → h.IsTuple a its → PVs F h l its.toList → PV F h (.tup l) (.ref a)
  | lst {a : Addr} {its : Array Value} {l : List V} : F a → (∃ m, h.get? a = some (listOf its m)) → PVs F h l its.toList → PV F h (.lst l) (.ref a)
inductive PVs (F : Addr → Prop) (h : Heap) : List V → List Value → Prop
  | nil : PVs F h [] []
  | cons {x : V} {v : Value} {l : List V} {vs : List Value} : PV F h x v → PVs F h l vs → PVs F h (x :: l) (v :: vs)
end
theorem isL_of {h : Heap} {a : Addr} {its : Array Value} (x : ∃ m, h.get? a = some (listOf its m)) : h.IsList a its := let ⟨m, ho⟩ := x; ⟨_, ho, rfl, m, rfl⟩
def KVs {K : Type} (F : Addr → Prop) (h : Heap) (l : List (K × V)) (kvs : List (K × Value)) : Prop := kvs.map (·.1) = l.map (·.1) ∧ PVs F h (l.map (·.2)) (kvs.map (·.2))
def FKeep (F : Addr → Prop) (h h' : Heap) : Prop := ∀ a o, F a → h.get? a = some o → h'.get? a = some o
@[elab_as_elim] theorem PVs.c0 {F : Addr → Prop} {h : Heap} {vs : List Value} {motive : List Value → Prop} (r : PVs F h [] vs) (k : motive []) : motive vs := by cases r; exact k
@[elab_as_elim] theorem PVs.c {F : Addr → Prop} {h : Heap} {x : V} {l : List V} {vs : List Value} {motive : List Value → Prop} (r : PVs F h (x :: l) vs) (k : ∀ v vs, PV F h x v → PVs F h l vs → motive (v :: vs)) : motive vs := by cases r with | cons a r => exact k _ _ a r
theorem PV.mono {F F' : Addr → Prop} {h h' : Heap} (hF : ∀ a, F a → F' a) (k : FKeep F h h') {x : V} {v : Value} (r : PV F h x v) : PV F' h' x v := by
  refine PV.rec (motive_1 := fun x v _ => PV F' h' x v) (motive_2 := fun l vs _ => PVs F' h' l vs) .none .bool .int .str .raw (fun fa ht _ ih => ?_) (fun fa hl _ ih => ?_) .nil (fun _ _ a r => .cons a r) r
  · exact ex1_2 ht fun o ho hr => .tup (hF _ fa) ⟨o, k _ _ fa ho, hr⟩ ih
  · exact ex1_1 hl fun m ho => .lst (hF _ fa) ⟨m, k _ _ fa ho⟩ ih
theorem PVs.mono {F F' : Addr → Prop} {h h' : Heap} (hF : ∀ a, F a → F' a) (k : FKeep F h h') {l : List V} : ∀ {vs : List Value}, PVs F h l vs → PVs F' h' l vs := by
  induction l with
  | nil => exact fun r => PVs.c0 r .nil
  | cons x l ih => exact fun r => PVs.c r fun v vs a r => .cons (a.mono hF k) (ih r)
theorem KVs.mono {K : Type} {F F' : Addr → Prop} {h h' : Heap} (hF : ∀ a, F a → F' a) (k : FKeep F h h') {l : List (K × V)} {kvs : List (K × Value)} (x : KVs F h l kvs) : KVs F' h' l kvs := ⟨x.1, x.2.mono hF k⟩
def WR (γ : Gh) (_ : Store) (h : Heap) : W → Value → Prop
  | .v x, v => PV γ.F h x v
  | .ref k p, v => v = .ref (γ.al k p) ∧ p < γ.nv k
  | .meth f k p, v => ∃ a, v = .ref a ∧ γ.F a ∧ h.get? a = some (methodObj (.ref f) (.ref (γ.al k p))) ∧ p < γ.nv k
  | .unk, _ => True
  | .rng lo hi st, v => ∃ a t u w, v = .ref a ∧ γ.F a ∧ IsRange h a lo hi st t u w
  | .sem P, v => (∃ a, v = .ref a) ∧ P γ h v ∧ ∀ γ' h', (∀ a, γ.F a → γ'.F a) → (∀ k p, p < γ.nv k → γ'.al k p = γ.al k p ∧ γ'.dx k p = γ.dx k p ∧ p < γ'.nv k) → FKeep γ.F h h' → P γ' h' v
section
variable {γ : Gh} {σ : Store} {h : Heap} {v : Value}
@[elab_as_elim] theorem WR.c_none {motive : Value → Prop} (r : WR γ σ h (.v .none) v) (k : motive .none) : motive v := by cases r; exact k
@[elab_as_elim] theorem WR.c_bool {t : Bool} {motive : Value → Prop} (r : WR γ σ h (.v (.bool t)) v) (k : motive (.bool t)) : motive v := by cases r; exact k
@[elab_as_elim] theorem WR.c_int {i : Int} {motive : Value → Prop} (r : WR γ σ h (.v (.int i)) v) (k : ∀ t, motive (.int i t)) : motive v := by cases r; exact k _
@[elab_as_elim] theorem WR.c_str {x : Str} {motive : Value → Prop} (r : WR γ σ h (.v (.str x)) v) (k : ∀ t, motive (.str x t)) : motive v := by cases r; exact k _
@[elab_as_elim] theorem WR.c_raw {u : Value} {motive : Value → Prop} (r : WR γ σ h (.v (.raw u)) v) (k : motive u) : motive v := by cases r; exact k
end
inductive FEs (w : World) (γ : Gh) (σ : Store) (h : Heap) : List (Str × W) → List DictEntry → Prop
  | nil : FEs w γ σ h [] []
  | cons {n : Str} {x : W} {e : DictEntry} {t : Tok} {l : List (Str × W)} {es : List DictEntry} : e.key = .str n t → e.hash = PyData.keyHash w.params n → WR γ σ h x e.val → FEs w γ σ h l es → FEs w γ σ h ((n, x) :: l) (e :: es)
noncomputable def tabC : Addr := 882
noncomputable def tabP : Addr := 878
noncomputable def cdf (sc : Scope) : Option Addr := if sc.names.lookup ("hooks" : Str) == some .local && sc.names.lookup ("begin" : Str) == some .local then some tabC else none
def ObjAt (pg : Program) (w : World) (γ : Gh) (σ : Store) (h : Heap) (k p : Nat) : O → Prop
  | .tab ps => γ.al k p = tabP ∧ h.get? (γ.al k p) = some (tabObj ps) ∧ TriplesOk ps.toList
  | .list l => ∃ its n, h.get? (γ.al k p) = some (listOf its n) ∧ PVs γ.F h l its.toList
  | .dS l => ∃ kvs, h.DictOf (strKind pg w) (γ.al k p) kvs ∧ KVs γ.F h l kvs
  | .dI l => ∃ kvs, h.DictOf (intKind pg w) (γ.al k p) kvs ∧ KVs γ.F h l kvs
  | .inst C fs => h.get? (γ.al k p) = some (instObj C (γ.dx k p)) ∧ γ.al k p ≠ γ.dx k p ∧ ∃ es n, h.get? (γ.dx k p) = some (dictOf es n) ∧ FEs w γ σ h fs es
structure Bas where
  prog : Program
  w : World
  h₀ : Heap
  os : OsState
  mg : Str → Option Value
  mb : Str → Option Value
  X : (MineH.KF w.params).In h₀
  g : h₀.Ns mainGlobals mg
  bl : h₀.Ns builtinsNs mb
  bb : ∀ x : Str, x ≠ "__name__" → mb x = bootBuiltins x
  nolimit : h₀.NoLimit
  hid : h₀.get? tabP = none
  cdh : CodeHd h₀ tabC tabP
  bmain : ∃ bm o, mg "__builtins__" = some (.ref bm) ∧ bm ≠ builtinsNs ∧ h₀.get? bm = some o ∧ o.cls = .type "module" ∧ o.dict = some builtinsNs ∧ o.data = .plain
noncomputable abbrev Bas.M (b : Bas) : Model := model b.prog b.w
structure St (b : Bas) (γ : Gh) (σ : Store) (s : Shared) : Prop where
  base : ∀ a o, b.h₀.get? a = some o → s.heap.get? a = some o
  gens : s.gens = #[]
  os : s.os = b.os
  stat : ∀ a, a < b.h₀.objs.size → a ≠ tabP → γ.F a
  lt : ∀ a, γ.F a → a < s.heap.objs.size
  nv : ∀ k p o, σ.lookup k = some (p, o) → p < γ.nv k
  sep : ∀ k p o, σ.lookup k = some (p, o) → ¬ γ.F (γ.al k p) ∧ ¬ γ.F (γ.dx k p) ∧ γ.al k p < s.heap.objs.size ∧ γ.dx k p < s.heap.objs.size
  dist : ∀ k k' p p' o o', σ.lookup k = some (p, o) → σ.lookup k' = some (p', o') → k ≠ k' → γ.al k p ≠ γ.al k' p' ∧ γ.al k p ≠ γ.dx k' p' ∧ γ.dx k p ≠ γ.al k' p' ∧ γ.dx k p ≠ γ.dx k' p'
  obj : ∀ k p o, σ.lookup k = some (p, o) → ObjAt b.prog b.w γ σ s.heap k p o
def Tr (γ : Gh) (σ : Store) (a : Addr) : Prop := ∃ k p o, σ.lookup k = some (p, o) ∧ (a = γ.al k p ∨ a = γ.dx k p)
def AlKeep (γ γ' : Gh) (_ _ : Store) : Prop := ∀ k p, p < γ.nv k → γ'.al k p = γ.al k p ∧ γ'.dx k p = γ.dx k p ∧ p < γ'.nv k
structure Grow (γ : Gh) (σ : Store) (h : Heap) (γ' : Gh) (σ' : Store) : Prop where
  F : ∀ a, γ.F a → γ'.F a
  al : AlKeep γ γ' σ σ'
  newF : ∀ a, γ'.F a → γ.F a ∨ h.objs.size ≤ a
  newT : ∀ a, Tr γ' σ' a → Tr γ σ a ∨ h.objs.size ≤ a
structure Post (b : Bas) (γ : Gh) (σ : Store) (s : Shared) (γ' : Gh) (σ' : Store) (s' : Shared) : Prop where
  st : St b γ' σ' s'
  grow : Grow γ σ s.heap γ' σ'
  keep : ∀ a o, s.heap.get? a = some o → ¬ Tr γ σ a → s'.heap.get? a = some o
  size : s.heap.objs.size ≤ s'.heap.objs.size
theorem St.stat' {b : Bas} {γ : Gh} {σ : Store} {s : Shared} (S : St b γ σ s) {a : Addr} {o : Obj} (e : b.h₀.get? a = some o) : γ.F a := S.stat a (Heap.lt_size e) fun q => by rw [q, b.hid] at e; cases e
theorem St.notTr {b : Bas} {γ : Gh} {σ : Store} {s : Shared} (S : St b γ σ s) {a : Addr} (h : γ.F a) : ¬ Tr γ σ a := by
  rintro ⟨k, p, o, hk, rfl | rfl⟩
  · exact (S.sep k p o hk).1 h
  · exact (S.sep k p o hk).2.1 h
theorem Post.fkeep {b : Bas} {γ γ' : Gh} {σ σ' : Store} {s s' : Shared} (S : St b γ σ s) (P : Post b γ σ s γ' σ' s') : FKeep γ.F s.heap s'.heap :=
  fun a o fa ho => P.keep a o ho (S.notTr fa)
theorem WR.mono {γ γ' : Gh} {σ σ' : Store} {h h' : Heap} (hF : ∀ a, γ.F a → γ'.F a) (hk : FKeep γ.F h h') (hal : AlKeep γ γ' σ σ') {x : W} {v : Value} (r : WR γ σ h x v) : WR γ' σ' h' x v := by
  cases x with
  | v x => exact PV.mono hF hk r
  | ref k p =>
    refine ex0_2 (r) fun zz1 h2 => ?_
    subst zz1
    have z := hal k p h2
    exact ⟨by rw [z.1], z.2.2⟩
  | meth f k p =>
    refine ex1_4 (r) fun a zz2 fa ha h2 => ?_
    subst zz2
    have z := hal k p h2
    exact ⟨a, rfl, hF _ fa, by rw [z.1]; exact hk _ _ fa ha, z.2.2⟩
  | unk => trivial
  | rng lo hi st =>
    refine ex4_3 (r) fun a t u w e fa hr => ?_
    exact ⟨a, t, u, w, e, hF _ fa, hk _ _ fa hr⟩
  | sem Pr =>
    refine ⟨r.1, r.2.2 _ _ hF hal hk, fun γ'' h'' hF' hal' hk' => ?_⟩
    exact r.2.2 _ _ (fun a fa => hF' a (hF a fa)) (fun k p q => by
      have z := hal k p q
      have z' := hal' k p z.2.2
      exact ⟨z'.1.trans z.1, z'.2.1.trans z.2.1, z'.2.2⟩) fun a o fa ho => hk' a o (hF a fa) (hk a o fa ho)
theorem WR.post {b : Bas} {γ γ' : Gh} {σ σ' : Store} {s s' : Shared} (S : St b γ σ s) (P : Post b γ σ s γ' σ' s') {x : W} {v : Value} (h : WR γ σ s.heap x v) : WR γ' σ' s'.heap x v := h.mono P.grow.F (P.fkeep S) P.grow.al
theorem Post.refl {b : Bas} {γ : Gh} {σ : Store} {s : Shared} (S : St b γ σ s) : Post b γ σ s γ σ s :=
  ⟨S, ⟨fun _ h => h, fun _ _ h => ⟨rfl, rfl, h⟩, fun _ h => .inl h, fun _ h => .inl h⟩, fun _ _ h _ => h, Nat.le_refl _⟩
theorem Post.trans {b : Bas} {γ γ' γ'' : Gh} {σ σ' σ'' : Store} {s s' s'' : Shared} (P : Post b γ σ s γ' σ' s') (P' : Post b γ' σ' s' γ'' σ'' s'') : Post b γ σ s γ'' σ'' s'' := by
  refine ⟨P'.st, ⟨fun a h => P'.grow.F a (P.grow.F a h), fun k o h => ?_, fun a h => ?_, fun a h => ?_⟩, fun a o h n => ?_, Nat.le_trans P.size P'.size⟩
  · have z := P.grow.al k o h
    have z' := P'.grow.al k o z.2.2
    exact ⟨z'.1.trans z.1, z'.2.1.trans z.2.1, z'.2.2⟩
  · rcases P'.grow.newF a h with h | h
    · exact P.grow.newF a h
    · exact .inr (Nat.le_trans P.size h)
  · rcases P'.grow.newT a h with h | h
    · exact P.grow.newT a h
    · exact .inr (Nat.le_trans P.size h)
  · refine P'.keep a o (P.keep a o h n) fun t => ?_
    rcases P.grow.newT a t with t | t
    · exact n t
    · exact absurd (Heap.lt_size h) (Nat.not_lt.mpr t)
theorem St.toks {b : Bas} {γ : Gh} {σ : Store} {s : Shared} (S : St b γ σ s) (t : Nat) : St b γ σ { s with toks := t } := ⟨S.base, S.gens, S.os, S.stat, S.lt, S.nv, S.sep, S.dist, S.obj⟩
theorem Post.toks {b : Bas} {γ : Gh} {σ : Store} {s : Shared} (S : St b γ σ s) (t : Nat) : Post b γ σ s γ σ { s with toks := t } :=
  ⟨S.toks t, (Post.refl S).grow, fun _ _ h _ => h, Nat.le_refl _⟩
inductive CelAt (γ : Gh) (σ : Store) (ρ : Loc) (env : Env) (h : Heap) (x : Str) : Prop
  | mk (c : Addr) (o : Obj) (vo : Option Value) (h1 : env.cells.lookup x = some c) (h2 : h.get? c = some o) (h3 : o.data = .cell vo) (h4 : ∀ y, ρ.lookup x = some y → ∃ v, vo = some v ∧ WR γ σ h y v) (h5 : ¬ Tr γ σ c) (h6 : c ≠ env.locals) : CelAt γ σ ρ env h x
structure FrR (b : Bas) (sc : Scope) (γ : Gh) (σ : Store) (ρ : Loc) (env : Env) (h : Heap) : Prop where
  scope : env.scope = sc
  kind : sc.kind = .function
  glob : env.globals = mainGlobals
  bltn : env.builtins = builtinsNs
  own : ¬ γ.F env.locals ∧ ¬ Tr γ σ env.locals
  loc : ∃ m, h.Ns env.locals m ∧ ∀ x y, ρ.lookup x = some y → sc.names.lookup x = some .local → ∃ v, m x = some v ∧ WR γ σ h y v
  cel : ∀ x, (sc.names.lookup x = some .cell ∨ sc.names.lookup x = some .free) → CelAt γ σ ρ env h x
  inj : ∀ x y c, env.cells.lookup x = some c → env.cells.lookup y = some c → x = y
  wr : ρ.lookup ("#" : Str) = none → ∀ x c, sc.names.lookup x = some .cell → env.cells.lookup x = some c → ¬ γ.F c
  code : ∀ c, cdf sc = some c → env.code = .ref c
  fz : ρ.lookup ("#" : Str) ≠ none → ∀ x c, sc.names.lookup x = some .cell → env.cells.lookup x = some c → γ.F c
theorem CelAt.e {γ : Gh} {σ : Store} {ρ : Loc} {env : Env} {h : Heap} {x : Str} {T : Prop} (C : CelAt γ σ ρ env h x) (k : ∀ c o vo, env.cells.lookup x = some c → h.get? c = some o → o.data = .cell vo → (∀ y, ρ.lookup x = some y → ∃ v, vo = some v ∧ WR γ σ h y v) → ¬ Tr γ σ c → c ≠ env.locals → T) : T := by cases C with | mk c o vo h1 h2 h3 h4 h5 h6 => exact k c o vo h1 h2 h3 h4 h5 h6
theorem FrR.post {b : Bas} {sc : Scope} {γ γ' : Gh} {σ σ' : Store} {ρ : Loc} {env : Env} {s s' : Shared} (S : St b γ σ s) (P : Post b γ σ s γ' σ' s') (R : FrR b sc γ σ ρ env s.heap) : FrR b sc γ' σ' ρ env s'.heap := by
  have nf : ∀ a, a < s.heap.objs.size → ¬ γ.F a → ¬ γ'.F a := fun a hl hn h => (P.grow.newF a h).elim hn fun q => absurd hl (Nat.not_lt.mpr q)
  have nt : ∀ a, a < s.heap.objs.size → ¬ Tr γ σ a → ¬ Tr γ' σ' a := fun a hl hn h => (P.grow.newT a h).elim hn fun q => absurd hl (Nat.not_lt.mpr q)
  refine ex1_2 (R.loc) fun m hm hl => ?_
  refine ⟨R.scope, R.kind, R.glob, R.bltn, ⟨nf _ hm.lt R.own.1, nt _ hm.lt R.own.2⟩, ⟨m, ?_, fun x y h1 h2 => ?_⟩, fun x hx => ?_, R.inj, fun h x c hx hc => ?_, R.code, fun h x c hx hc => P.grow.F c (R.fz h x c hx hc)⟩
  · refine ex3_4 (hm) fun o es ep ho hd hk hf => ?_
    exact ⟨o, es, ep, P.keep _ _ ho R.own.2, hd, hk, hf⟩
  · refine ex1_2 (hl x y h1 h2) fun v h3 h4 => ?_
    exact ⟨v, h3, h4.post S P⟩
  · refine (R.cel x hx).e fun c o vo h1 h2 h3 h4 h6 h7 => ?_
    have hlt := Heap.lt_size h2
    refine ⟨c, o, vo, h1, P.keep _ _ h2 h6, h3, fun y hy => ?_, nt _ hlt h6, h7⟩
    refine ex1_2 (h4 y hy) fun v e z => ?_
    exact ⟨v, e, z.post S P⟩
  · refine (R.cel x (.inl hx)).e fun c' o vo h1 h2 _ _ _ _ => ?_
    rw [hc] at h1; cases h1
    exact nf _ (Heap.lt_size h2) (R.wr h x c hx hc)
end Mine
end
section
open PySem PySem.W PyProof.Rows PySem.Calls
namespace Mine
def Room (n : Nat) (A : Around) : Prop := A.depth + 4 * n ≤ 900 ∧ A.units + 40 * n ≤ 9000 ∧ A.handled = none
abbrev NoE : Value → Shared → Prop := fun _ _ => False
inductive RV (b : Bas) (γ : Gh) (σ : Store) (s : Shared) (Q : W → Store → Prop) (v : Value) (s' : Shared) : Prop
  | mk (y : W) (σ' : Store) (γ' : Gh) (q : Q y σ') (P : Post b γ σ s γ' σ' s') (r : WR γ' σ' s'.heap y v) : RV b γ σ s Q v s'
inductive RA {α β : Type} (R : α → β → Prop) (b : Bas) (γ : Gh) (σ : Store) (s : Shared) (Q : α → Store → Prop) (t : β) (s' : Shared) : Prop
  | mk (u : α) (σ' : Store) (γ' : Gh) (q : Q u σ') (P : Post b γ σ s γ' σ' s') (r : R u t) : RA R b γ σ s Q t s'
abbrev RB (b : Bas) (γ : Gh) (σ : Store) (s : Shared) (Q : Bool → Store → Prop) : Bool → Shared → Prop := RA Eq b γ σ s Q
theorem RV.e {b : Bas} {γ : Gh} {σ : Store} {s : Shared} {Q : W → Store → Prop} {v : Value} {s' : Shared} {T : Prop} (h : RV b γ σ s Q v s') (k : ∀ y σ' γ', Q y σ' → Post b γ σ s γ' σ' s' → WR γ' σ' s'.heap y v → T) : T := by cases h with | mk y σ' γ' q P r => exact k y σ' γ' q P r
theorem RA.e {α β : Type} {R : α → β → Prop} {b : Bas} {γ : Gh} {σ : Store} {s : Shared} {Q : α → Store → Prop} {v : β} {s' : Shared} {T : Prop} (h : RA R b γ σ s Q v s') (k : ∀ y σ' γ', Q y σ' → Post b γ σ s γ' σ' s' → R y v → T) : T := by cases h with | mk y σ' γ' q P r => exact k y σ' γ' q P r
theorem RV.trans {b : Bas} {γ γ₁ : Gh} {σ σ₁ : Store} {s s₁ : Shared} {Q : W → Store → Prop} (P : Post b γ σ s γ₁ σ₁ s₁) {v : Value} {s' : Shared} (h : RV b γ₁ σ₁ s₁ Q v s') : RV b γ σ s Q v s' := by
  refine (h).e fun y σ' γ' q p r => ?_
  exact ⟨y, σ', γ', q, P.trans p, r⟩
theorem RA.trans {α β : Type} {R : α → β → Prop} {b : Bas} {γ γ₁ : Gh} {σ σ₁ : Store} {s s₁ : Shared} {Q : α → Store → Prop} (P : Post b γ σ s γ₁ σ₁ s₁) {v : β} {s' : Shared} (h : RA R b γ₁ σ₁ s₁ Q v s') : RA R b γ σ s Q v s' := by
  refine (h).e fun y σ' γ' q p r => ?_
  exact ⟨y, σ', γ', q, P.trans p, r⟩
def EE (b : Bas) (n : Nat) (sc : Scope) (e : Expr) (ρ : Loc) (σ : Store) (Q : W → Store → Prop) : Prop :=
  ∀ A s env γ, Room n A → St b γ σ s → FrR b sc γ σ ρ env s.heap → wpAny b.M A (eval e env) (RV b γ σ s Q) NoE s
def ET (b : Bas) (n : Nat) (sc : Scope) (e : Expr) (ρ : Loc) (σ : Store) (Q : Bool → Store → Prop) : Prop :=
  ∀ A s env γ, Room n A → St b γ σ s → FrR b sc γ σ ρ env s.heap → wpAny b.M A (isTrue e env (eval e env)) (RB b γ σ s Q) NoE s
noncomputable def WRs (γ : Gh) (σ : Store) (h : Heap) : List W → List Value → Prop
  | [], [] => True
  | y :: ys, v :: vs => WR γ σ h y v ∧ WRs γ σ h ys vs
  | _, _ => False
section
variable {σ : Store} {γ : Gh} {h : Heap} {vs : List Value}
@[elab_as_elim] theorem WRs.c0 {motive : List Value → Prop} (r : WRs γ σ h [] vs) (k : motive []) : motive vs := by
  cases vs with
  | nil => exact k
  | cons => exact r.elim
@[elab_as_elim] theorem WRs.c {y : W} {ys : List W} {motive : List Value → Prop} (r : WRs γ σ h (y :: ys) vs) (k : ∀ v vs, WR γ σ h y v → WRs γ σ h ys vs → motive (v :: vs)) : motive vs := by
  cases vs with
  | nil => exact r.elim
  | cons v vs => exact k v vs r.1 r.2
end
inductive RVs (b : Bas) (γ : Gh) (σ : Store) (s : Shared) (Q : List W → Store → Prop) (vs : List Value) (s' : Shared) : Prop
  | mk (ys : List W) (σ' : Store) (γ' : Gh) (q : Q ys σ') (P : Post b γ σ s γ' σ' s') (r : WRs γ' σ' s'.heap ys vs) : RVs b γ σ s Q vs s'
theorem RVs.e {b : Bas} {γ : Gh} {σ : Store} {s : Shared} {Q : List W → Store → Prop} {v : List Value} {s' : Shared} {T : Prop} (h : RVs b γ σ s Q v s') (k : ∀ y σ' γ', Q y σ' → Post b γ σ s γ' σ' s' → WRs γ' σ' s'.heap y v → T) : T := by cases h with | mk y σ' γ' q P r => exact k y σ' γ' q P r
def EEs (b : Bas) (n : Nat) (sc : Scope) (pos : Pos) (es : List Expr) (ρ : Loc) (σ : Store) (Q : List W → Store → Prop) : Prop :=
  ∀ A s env γ, Room n A → St b γ σ s → FrR b sc γ σ ρ env s.heap →
    wpAny b.M A (spliced (backTo pos (starEach es env))) (RVs b γ σ s Q) NoE s
def Op1 (b : Bas) (n : Nat) (f : Value → Sem Value) (x : W) (σ : Store) (Q : W → Store → Prop) : Prop :=
  ∀ A s γ v, Room n A → St b γ σ s → WR γ σ s.heap x v → wpAny b.M A (f v) (RV b γ σ s Q) NoE s
def Op2 (b : Bas) (n : Nat) (f : Value → Value → Sem Value) (x y : W) (σ : Store) (Q : W → Store → Prop) : Prop :=
  ∀ A s γ u v, Room n A → St b γ σ s → WR γ σ s.heap x u → WR γ σ s.heap y v → wpAny b.M A (f u v) (RV b γ σ s Q) NoE s
def OpT (b : Bas) (n : Nat) (x : W) (σ : Store) (Q : Bool → Store → Prop) : Prop :=
  ∀ A s γ v, Room n A → St b γ σ s → WR γ σ s.heap x v → wpAny b.M A (truthy v) (RB b γ σ s Q) NoE s
section
variable {b : Bas} {n : Nat} {sc : Scope} {ρ : Loc} {σ : Store}
theorem WRs.post {γ γ' : Gh} {σ σ' : Store} {s s' : Shared} (S : St b γ σ s) (P : Post b γ σ s γ' σ' s') {ys : List W} : ∀ {vs : List Value}, WRs γ σ s.heap ys vs → WRs γ' σ' s'.heap ys vs := by
  induction ys with
  | nil => exact fun r => WRs.c0 r trivial
  | cons y ys ih => exact fun r => WRs.c r fun v vs a r => ⟨a.post S P, ih r⟩
theorem EE.go {e : Expr} {Q' : W → Store → Prop} (h : EE b n sc e ρ σ Q') {A : Around} {s : Shared} {env : Env} {γ : Gh} (R : Room n A) (S : St b γ σ s) (F : FrR b sc γ σ ρ env s.heap) {T : Value → Shared → Prop}
    (k : ∀ y σ₁ γ₁ v s₁, Q' y σ₁ → Post b γ σ s γ₁ σ₁ s₁ → WR γ₁ σ₁ s₁.heap y v → T v s₁) : wpAny b.M A (eval e env) T NoE s :=
  wpAny_mono (h A s env γ R S F) (fun v s₁ zy1 => zy1.e fun y σ₁ γ₁ q p r => k y σ₁ γ₁ v s₁ q p r) fun _ _ x => x
theorem ET.go {e : Expr} {Q' : Bool → Store → Prop} (h : ET b n sc e ρ σ Q') {A : Around} {s : Shared} {env : Env} {γ : Gh} (R : Room n A) (S : St b γ σ s) (F : FrR b sc γ σ ρ env s.heap) {T : Bool → Shared → Prop}
    (k : ∀ y σ₁ γ₁ s₁, Q' y σ₁ → Post b γ σ s γ₁ σ₁ s₁ → T y s₁) : wpAny b.M A (isTrue e env (eval e env)) T NoE s :=
  wpAny_mono (h A s env γ R S F) (fun v s₁ zy2 => zy2.e fun y σ₁ γ₁ q p r => r ▸ k y σ₁ γ₁ s₁ q p) fun _ _ x => x
theorem EEs.go {pos : Pos} {es : List Expr} {Q' : List W → Store → Prop} (h : EEs b n sc pos es ρ σ Q') {A : Around} {s : Shared} {env : Env} {γ : Gh} (R : Room n A) (S : St b γ σ s) (F : FrR b sc γ σ ρ env s.heap) {T : List Value → Shared → Prop}
    (k : ∀ y σ₁ γ₁ v s₁, Q' y σ₁ → Post b γ σ s γ₁ σ₁ s₁ → WRs γ₁ σ₁ s₁.heap y v → T v s₁) : wpAny b.M A (spliced (backTo pos (starEach es env))) T NoE s :=
  wpAny_mono (h A s env γ R S F) (fun v s₁ zy3 => zy3.e fun y σ₁ γ₁ q p r => k y σ₁ γ₁ v s₁ q p r) fun _ _ x => x
theorem RV.now {γ : Gh} {s : Shared} {Q : W → Store → Prop} {y : W} {v : Value} (S : St b γ σ s) (q : Q y σ) (t : Nat) (r : WR γ σ s.heap y v) : RV b γ σ s Q v { s with toks := t } :=
  ⟨y, σ, γ, q, Post.toks S t, r⟩
theorem RV.same {γ : Gh} {s : Shared} {Q : W → Store → Prop} {y : W} {v : Value} (S : St b γ σ s) (q : Q y σ) (r : WR γ σ s.heap y v) : RV b γ σ s Q v s := ⟨y, σ, γ, q, Post.refl S, r⟩
theorem RB.same {γ : Gh} {s : Shared} {Q : Bool → Store → Prop} {t : Bool} (S : St b γ σ s) (q : Q t σ) : RB b γ σ s Q t s := ⟨t, σ, γ, q, Post.refl S, rfl⟩
theorem EE.cint {i : Int} {k : Nat} {pos : Pos} {Q : W → Store → Prop} (q : Q (.v (.int i)) σ) : EE b n sc (.Constant (.int i) k pos) ρ σ Q :=
  fun _ _ _ _ _ S _ => wpAny_Constant_int (RV.now S q _ (.int i _))
theorem EE.cstr {x : Str} {k : Nat} {pos : Pos} {Q : W → Store → Prop} (q : Q (.v (.str x)) σ) : EE b n sc (.Constant (.str x) k pos) ρ σ Q :=
  fun _ _ _ _ _ S _ => wpAny_Constant_str (RV.now S q _ (.str x _))
theorem EE.cnone {k : Nat} {pos : Pos} {Q : W → Store → Prop} (q : Q (.v .none) σ) : EE b n sc (.Constant .none k pos) ρ σ Q :=
  fun _ _ _ _ _ S _ => wpAny_Constant_none (RV.same S q .none)
theorem EE.cbool {t : Bool} {k : Nat} {pos : Pos} {Q : W → Store → Prop} (q : Q (.v (.bool t)) σ) : EE b n sc (.Constant (.bool t) k pos) ρ σ Q :=
  fun _ _ _ _ _ S _ => wpAny_Constant_bool (RV.same S q (.bool t))
theorem EE.loc {x : Str} {pos : Pos} {y : W} {Q : W → Store → Prop} (hv : ρ.lookup x = some y) (hk : sc.names.lookup x = some .local) (q : Q y σ) (hd : (x == ("__debug__" : Str)) = false := by decide) : EE b n sc (.Name x pos) ρ σ Q := by
  intro A s env γ _ S F
  refine ex1_2 (F.loc) fun m hm hl => ?_
  refine ex1_2 (hl x y hv hk) fun v h1 h2 => ?_
  exact wpAny_Name (wpAny_loadName_local (by rw [F.scope]; exact F.kind) (by show env.scope.names.lookup x = _; rw [F.scope]; exact hk) hm h1 (RV.same S q h2)) hd
theorem EE.cell {x : Str} {pos : Pos} {y : W} {Q : W → Store → Prop} (hv : ρ.lookup x = some y) (hk : sc.names.lookup x = some .cell) (q : Q y σ) (hd : (x == ("__debug__" : Str)) = false := by decide) : EE b n sc (.Name x pos) ρ σ Q := by
  intro A s env γ _ S F
  refine (F.cel x (.inl hk)).e fun c o vo h1 h2 h3 h4 _ _ => ?_
  refine ex1_2 (h4 y hv) fun v zz1 h5 => ?_
  subst zz1
  exact wpAny_Name (wpAny_loadName_cell (by rw [F.scope]; exact F.kind) (by show env.scope.names.lookup x = _; rw [F.scope]; exact hk) h1 ⟨o, h2, h3⟩ (RV.same S q h5)) hd
theorem EE.free {x : Str} {pos : Pos} {y : W} {Q : W → Store → Prop} (hv : ρ.lookup x = some y) (hk : sc.names.lookup x = some .free) (q : Q y σ) (hd : (x == ("__debug__" : Str)) = false := by decide) (hc : (x == ("__classdict__" : Str)) = false := by decide) : EE b n sc (.Name x pos) ρ σ Q := by
  intro A s env γ _ S F
  refine (F.cel x (.inr hk)).e fun c o vo h1 h2 h3 h4 _ _ => ?_
  refine ex1_2 (h4 y hv) fun v zz2 h5 => ?_
  subst zz2
  exact wpAny_Name (wpAny_loadName_free (by rw [F.scope]; exact F.kind) (by show env.scope.names.lookup x = _; rw [F.scope]; exact hk) h1 ⟨o, h2, h3⟩ (RV.same S q h5) hc) hd
theorem loadGlobal_K {γ : Gh} {s : Shared} {env : Env} {A : Around} {x : Str} {v : Value} {Q : Value → Shared → Prop} (S : St b γ σ s) (hg : env.globals = mainGlobals) (e : nsIn (MineH.KF b.w.params) mainGlobals x = some (some v)) (h : Q v s) : wpAny b.M A (loadGlobal env x) Q NoE s := by
  exact Calls.loadGlobal_global (by rw [hg]; exact b.g.keeps S.base) (mg_of b.X b.g e) h
theorem loadGlobal_B {γ : Gh} {s : Shared} {env : Env} {A : Around} {x : Str} {v : Value} {Q : Value → Shared → Prop} (S : St b γ σ s) (hg : env.globals = mainGlobals) (hb : env.builtins = builtinsNs) (e : nsIn (MineH.KF b.w.params) mainGlobals x = some none) (hv : bootBuiltins x = some v) (hn : x ≠ "__name__") (h : Q v s) : wpAny b.M A (loadGlobal env x) Q NoE s := by
  refine Calls.loadGlobal_builtin (by rw [hg]; exact b.g.keeps S.base) (mg_none_of b.X b.g e) (by rw [hb]; exact b.bl.keeps S.base) ?_ h
  exact (b.bb x hn).trans hv
theorem EE.glob {x : Str} {pos : Pos} {v : Value} {Q : W → Store → Prop} (e : nsIn (MineH.KF b.w.params) mainGlobals x = some (some v)) (hk : sc.names.lookup x = some .globalImplicit) (q : Q (.v (.raw v)) σ) (hd : (x == ("__debug__" : Str)) = false := by decide) : EE b n sc (.Name x pos) ρ σ Q := by
  intro A s env γ _ S F
  exact Calls.Name_function_global (by rw [F.scope]; exact F.kind) (by show env.scope.names.lookup x = _; rw [F.scope]; exact hk) (loadGlobal_K S F.glob e (RV.same S q (.raw v))) hd
theorem EE.bltn {x : Str} {pos : Pos} {v : Value} {Q : W → Store → Prop} (e : nsIn (MineH.KF b.w.params) mainGlobals x = some none) (hv : bootBuiltins x = some v) (hk : sc.names.lookup x = some .globalImplicit) (q : Q (.v (.raw v)) σ) (hn : x ≠ "__name__" := by decide) (hd : (x == ("__debug__" : Str)) = false := by decide) : EE b n sc (.Name x pos) ρ σ Q := by
  intro A s env γ _ S F
  exact Calls.Name_function_global (by rw [F.scope]; exact F.kind) (by show env.scope.names.lookup x = _; rw [F.scope]; exact hk) (loadGlobal_B S F.glob F.bltn e hv hn (RV.same S q (.raw v))) hd
abbrev Kop1 (b : Bas) (n : Nat) (f : Value → Sem Value) (Q : W → Store → Prop) : W → Store → Prop := fun y σ => Op1 b n f y σ Q
abbrev Kop2 (b : Bas) (n : Nat) (f : Value → Value → Sem Value) (Q : W → Store → Prop) (x : W) : W → Store → Prop := fun y σ => Op2 b n f x y σ Q
abbrev Kbin (b : Bas) (n : Nat) (sc : Scope) (f : Value → Value → Sem Value) (r : Expr) (ρ : Loc) (Q : W → Store → Prop) : W → Store → Prop := fun x σ => EE b n sc r ρ σ (Kop2 b n f Q x)
abbrev Kife (b : Bas) (n : Nat) (sc : Scope) (x y : Expr) (ρ : Loc) (Q : W → Store → Prop) : Bool → Store → Prop := fun c σ => cond c (EE b n sc x ρ σ Q) (EE b n sc y ρ σ Q)
theorem EE.bin {l r : Expr} {op : Operator} {pos : Pos} {Q : W → Store → Prop} (h : EE b n sc l ρ σ (Kbin b n sc (binaryOp op) r ρ Q)) : EE b n sc (.BinOp l op r pos) ρ σ Q := by
  intro A s env γ R S F
  refine wpAny_BinOp (h.go R S F fun x σ₁ γ₁ v s₁ h₁ P₁ r₁ => ?_)
  refine h₁.go R P₁.st (F.post S P₁) fun y σ₂ γ₂ u s₂ h₂ P₂ r₂ => ?_
  exact wpAny_mono (h₂ A s₂ γ₂ v u R P₂.st (r₁.post P₁.st P₂) r₂) (fun _ _ z => z.trans (P₁.trans P₂)) fun _ _ z => z
theorem EE.un {x : Expr} {op : UnaryOp} {pos : Pos} {Q : W → Store → Prop} (h : EE b n sc x ρ σ (Kop1 b n (unaryOp op) Q)) : EE b n sc (.UnaryOp op x pos) ρ σ Q := by
  intro A s env γ R S F
  refine wpAny_UnaryOp (h.go R S F fun y σ₁ γ₁ v s₁ h₁ P₁ r₁ => ?_)
  exact wpAny_mono (h₁ A s₁ γ₁ v R P₁.st r₁) (fun _ _ z => z.trans P₁) fun _ _ z => z
theorem EE.cmp {l r : Expr} {op : CmpOp} {pos : Pos} {Q : W → Store → Prop} (h : EE b n sc l ρ σ (Kbin b n sc (compareOp op) r ρ Q)) (hm : behindInMarks op r = false := by rfl) : EE b n sc (.Compare l [op] [r] pos) ρ σ Q := by
  intro A s env γ R S F
  refine wpAny_Compare1 (h.go R S F fun x σ₁ γ₁ v s₁ h₁ P₁ r₁ => ?_) hm
  refine h₁.go R P₁.st (F.post S P₁) fun y σ₂ γ₂ u s₂ h₂ P₂ r₂ => ?_
  exact wpAny_mono (h₂ A s₂ γ₂ v u R P₂.st (r₁.post P₁.st P₂) r₂) (fun _ _ z => z.trans (P₁.trans P₂)) fun _ _ z => z
theorem EE.ife {t x y : Expr} {pos : Pos} {Q : W → Store → Prop} (h : ET b n sc t ρ σ (Kife b n sc x y ρ Q)) : EE b n sc (.IfExp t x y pos) ρ σ Q := by
  intro A s env γ R S F
  refine wpAny_IfExp (h.go R S F fun c σ₁ γ₁ s₁ h₁ P₁ => ?_)
  cases c with
  | true => exact wpAny_mono (h₁ A s₁ env γ₁ R P₁.st (F.post S P₁)) (fun _ _ z => z.trans P₁) fun _ _ z => z
  | false => exact wpAny_mono (h₁ A s₁ env γ₁ R P₁.st (F.post S P₁)) (fun _ _ z => z.trans P₁) fun _ _ z => z
end
end Mine
end
section
open PySem PySem.W PyProof.Rows PySem.Calls
namespace Mine
theorem FEs.mono {w : World} {γ γ' : Gh} {σ σ' : Store} {h h' : Heap} (hF : ∀ a, γ.F a → γ'.F a) (hk : FKeep γ.F h h') (hal : AlKeep γ γ' σ σ') {fs : List (Str × W)} {es : List DictEntry} (r : FEs w γ σ h fs es) : FEs w γ' σ' h' fs es := by
  induction r with
  | nil => exact .nil
  | cons a b c _ ih => exact .cons a b (c.mono hF hk hal) ih
theorem ObjAt.mono {pg : Program} {w : World} {γ γ' : Gh} {σ σ' : Store} {h h' : Heap} (hF : ∀ a, γ.F a → γ'.F a) (hk : FKeep γ.F h h') (hal : AlKeep γ γ' σ σ') {k p : Nat} {o : O} (hp : p < γ.nv k)
    (ht : ∀ a ob, (a = γ.al k p ∨ a = γ.dx k p) → h.get? a = some ob → h'.get? a = some ob) (r : ObjAt pg w γ σ h k p o) : ObjAt pg w γ' σ' h' k p o := by
  refine ex0_3 (hal k p hp) fun e1 e2 _ => ?_
  cases o with
  | tab ps =>
    refine ex0_3 (r) fun h1 h2 h3 => ?_
    exact ⟨e1.trans h1, by rw [e1]; exact ht _ _ (.inl rfl) h2, h3⟩
  | list l =>
    refine ex2_2 (r) fun its n h1 h2 => ?_
    exact ⟨its, n, by rw [e1]; exact ht _ _ (.inl rfl) h1, h2.mono hF hk⟩
  | dS l =>
    refine ex1_2 (r) fun kvs zz3 h2 => ?_
    refine ex3_2 (zz3) fun o es ep ho q => ?_
    exact ⟨kvs, ⟨o, es, ep, by rw [e1]; exact ht _ _ (.inl rfl) ho, q⟩, h2.mono hF hk⟩
  | dI l =>
    refine ex1_2 (r) fun kvs zz4 h2 => ?_
    refine ex3_2 (zz4) fun o es ep ho q => ?_
    exact ⟨kvs, ⟨o, es, ep, by rw [e1]; exact ht _ _ (.inl rfl) ho, q⟩, h2.mono hF hk⟩
  | inst C fs =>
    obtain ⟨h1, hne, es, n, h2, h3⟩ := r
    exact ⟨by rw [e1, e2]; exact ht _ _ (.inl rfl) h1, by rw [e1, e2]; exact hne, es, n, by rw [e2]; exact ht _ _ (.inr rfl) h2, h3.mono hF hk hal⟩
theorem AlKeep.same {γ γ' : Gh} {σ σ' : Store} (h1 : γ'.al = γ.al) (h2 : γ'.dx = γ.dx) (h3 : γ'.nv = γ.nv) : AlKeep γ γ' σ σ' := fun k p h => by rw [h1, h2, h3]; exact ⟨rfl, rfl, h⟩
section
variable {b : Bas} {γ : Gh} {σ : Store} {s : Shared}
theorem Post.same {F' : Addr → Prop} {h' : Heap} {t : Nat} (S : St b γ σ s) (keep : ∀ a o, s.heap.get? a = some o → h'.get? a = some o) (hz : s.heap.objs.size ≤ h'.objs.size) (hF : ∀ a, γ.F a → F' a) (hn : ∀ a, F' a → γ.F a ∨ s.heap.objs.size ≤ a) (hl : ∀ a, F' a → a < h'.objs.size) :
    Post b γ σ s { γ with F := F' } σ { s with heap := h', toks := t } := by
  have al : AlKeep γ { γ with F := F' } σ σ := AlKeep.same rfl rfl rfl
  have nf : ∀ a, a < s.heap.objs.size → ¬ γ.F a → ¬ F' a := fun a hl hn' h => (hn a h).elim hn' fun q => absurd hl (Nat.not_lt.mpr q)
  refine ⟨⟨fun a o e => keep _ _ (S.base a o e), S.gens, S.os, fun a e ne => hF a (S.stat a e ne), hl, S.nv, fun k p o h => ?_, S.dist, fun k p o h => ?_⟩, ⟨hF, al, hn, fun _ h => .inl h⟩, fun a o e _ => keep a o e, hz⟩
  · have z := S.sep k p o h
    exact ⟨nf _ z.2.2.1 z.1, nf _ z.2.2.2 z.2.1, Nat.lt_of_lt_of_le z.2.2.1 hz, Nat.lt_of_lt_of_le z.2.2.2 hz⟩
  · exact ObjAt.mono (γ := γ) (γ' := { γ with F := F' }) (σ := σ) (h := s.heap) hF (fun a o _ e => keep a o e) al (S.nv k p o h) (fun a o _ e => keep a o e) (S.obj k p o h)
noncomputable def Gh.fz (γ : Gh) (a : Addr) : Gh := { γ with F := fun x => γ.F x ∨ x = a }
theorem Post.allocF {ob : Obj} (S : St b γ σ s) : Post b γ σ s (γ.fz s.heap.objs.size) σ { s with heap := s.heap.push ob } := by
  refine Post.same (t := s.toks) S (fun a o e => Heap.get?_push_of_some _ e) (by rw [Heap.size_push]; exact Nat.le_succ _) (fun _ h => .inl h) (fun a h => ?_) (fun a h => ?_)
  · rcases h with h | h
    · exact .inl h
    · exact .inr (by rw [h]; exact Nat.le_refl _)
  · rw [Heap.size_push]
    rcases h with h | h
    · exact Nat.lt_succ_of_lt (S.lt a h)
    · rw [h]; exact Nat.lt_succ_self _
theorem Post.garbage {ob : Obj} (S : St b γ σ s) : Post b γ σ s γ σ { s with heap := s.heap.push ob } :=
  Post.same (F' := γ.F) (t := s.toks) S (fun a o e => Heap.get?_push_of_some _ e) (by rw [Heap.size_push]; exact Nat.le_succ _) (fun _ h => h) (fun a h => .inl h) (fun a h => by rw [Heap.size_push]; exact Nat.lt_succ_of_lt (S.lt a h))
theorem Post.stray {a : Addr} {h' : Heap} (t : Nat) (S : St b γ σ s) (hs : Heap.SameBut a s.heap h') (hf : ¬ γ.F a) (ht : ¬ Tr γ σ a) : St b γ σ { s with heap := h', toks := t } := by
  have ne : ∀ x, γ.F x → x ≠ a := fun x h e => hf (e ▸ h)
  have al : AlKeep γ γ σ σ := AlKeep.same rfl rfl rfl
  refine ⟨fun x o e => (hs.2 x (ne x (S.stat' e))).trans (S.base x o e), S.gens, S.os, S.stat, fun x h => ?_, S.nv, fun k p o h => ?_, S.dist, fun k p o h => ?_⟩
  · show x < h'.objs.size
    rw [hs.1]; exact S.lt x h
  · have z := S.sep k p o h
    show _ ∧ _ ∧ γ.al k p < h'.objs.size ∧ γ.dx k p < h'.objs.size
    rw [hs.1]; exact z
  · refine (S.obj k p o h).mono (fun _ h => h) (fun x o fx e => (hs.2 x (ne x fx)).trans e) al (S.nv k p o h) fun x o hx e => (hs.2 x fun q => ht ?_).trans e
    subst q
    exact ⟨k, p, _, h, hx⟩
noncomputable def Gh.tr (γ : Gh) (k : Nat) (a d : Addr) : Gh := { γ with al := fun j q => if j = k ∧ q = γ.nv k then a else γ.al j q, dx := fun j q => if j = k ∧ q = γ.nv k then d else γ.dx j q, nv := fun j => if j = k then γ.nv k + 1 else γ.nv j }
theorem lookup_cons_ne {k j : Nat} {e : Nat × O} {σ : Store} (h : j ≠ k) : List.lookup j ((k, e) :: σ) = σ.lookup j := by
  have : (j == k) = false := by simpa using h
  rw [List.lookup_cons, this]
theorem lookup_cons_eq {k : Nat} {e : Nat × O} {σ : Store} : List.lookup k ((k, e) :: σ) = some e := by
  rw [List.lookup_cons]; simp
theorem Gh.tr_keep {k : Nat} {a d : Addr} {σ σ' : Store} : AlKeep γ (γ.tr k a d) σ σ' := fun j q h => by
  have ne : ¬ (j = k ∧ q = γ.nv k) := fun e => by obtain ⟨rfl, rfl⟩ := e; exact Nat.lt_irrefl _ h
  refine ⟨if_neg ne, if_neg ne, ?_⟩
  show q < (if j = k then γ.nv k + 1 else γ.nv j)
  by_cases e : j = k
  · subst e; rw [if_pos rfl]; exact Nat.lt_succ_of_lt h
  · rw [if_neg e]; exact h
theorem Gh.tr_at {k : Nat} {a d : Addr} : (γ.tr k a d).al k (γ.nv k) = a ∧ (γ.tr k a d).dx k (γ.nv k) = d ∧ γ.nv k < (γ.tr k a d).nv k := by
  refine ⟨if_pos ⟨rfl, rfl⟩, if_pos ⟨rfl, rfl⟩, ?_⟩
  show γ.nv k < (if k = k then γ.nv k + 1 else γ.nv k)
  rw [if_pos rfl]; exact Nat.lt_succ_self _
theorem Post.allocT {k : Nat} {o : O} {a d : Addr} {h' : Heap} (S : St b γ σ s) (keep : ∀ x ob, s.heap.get? x = some ob → h'.get? x = some ob)
    (ha : s.heap.objs.size ≤ a) (hd : s.heap.objs.size ≤ d) (ha' : a < h'.objs.size) (hd' : d < h'.objs.size) (hsz : s.heap.objs.size ≤ h'.objs.size)
    (ho : ObjAt b.prog b.w (γ.tr k a d) ((k, γ.nv k, o) :: σ) h' k (γ.nv k) o) : Post b γ σ s (γ.tr k a d) ((k, γ.nv k, o) :: σ) { s with heap := h' } := by
  have al : AlKeep γ (γ.tr k a d) σ ((k, γ.nv k, o) :: σ) := Gh.tr_keep
  have old : ∀ j q x, List.lookup j ((k, γ.nv k, o) :: σ) = some (q, x) → (j = k ∧ q = γ.nv k ∧ x = o) ∨ (j ≠ k ∧ σ.lookup j = some (q, x) ∧ (γ.tr k a d).al j q = γ.al j q ∧ (γ.tr k a d).dx j q = γ.dx j q) := fun j q x h => by
    by_cases ne : j = k
    · subst ne; rw [lookup_cons_eq] at h; cases h; exact .inl ⟨rfl, rfl, rfl⟩
    · rw [lookup_cons_ne ne] at h; exact .inr ⟨ne, h, if_neg fun e => ne e.1, if_neg fun e => ne e.1⟩
  have ek := Gh.tr_at (γ := γ) (k := k) (a := a) (d := d)
  refine ⟨⟨fun x ob e => keep _ _ (S.base x ob e), S.gens, S.os, S.stat, fun x h => Nat.lt_of_lt_of_le (S.lt x h) hsz, fun j q x h => ?_, fun j q x h => ?_, fun j j' q q' x x' h h' ne => ?_, fun j q x h => ?_⟩, ⟨fun _ h => h, al, fun _ h => .inl h, fun x h => ?_⟩, fun x ob e _ => keep _ _ e, hsz⟩
  · rcases old j q x h with ⟨rfl, rfl, rfl⟩ | ⟨ne, h, e1, e2⟩
    · exact ek.2.2
    · exact (al j q (S.nv j q x h)).2.2
  · rcases old j q x h with ⟨rfl, rfl, rfl⟩ | ⟨ne, h, e1, e2⟩
    · rw [ek.1, ek.2.1]
      exact ⟨fun q => absurd (S.lt _ q) (Nat.not_lt.mpr ha), fun q => absurd (S.lt _ q) (Nat.not_lt.mpr hd), ha', hd'⟩
    · have z := S.sep j q x h
      rw [e1, e2]
      exact ⟨z.1, z.2.1, Nat.lt_of_lt_of_le z.2.2.1 hsz, Nat.lt_of_lt_of_le z.2.2.2 hsz⟩
  · rcases old j q x h with ⟨q1, q2, _⟩ | ⟨n1, q1, e1, e2⟩ <;> rcases old j' q' x' h' with ⟨q3, q4, _⟩ | ⟨n2, q3, e1', e2'⟩
    · exact absurd (q1.trans q3.symm) ne
    · have z := S.sep j' q' x' q3
      subst q1 q2
      rw [ek.1, ek.2.1, e1', e2']
      exact ⟨Nat.ne_of_gt (Nat.lt_of_lt_of_le z.2.2.1 ha), Nat.ne_of_gt (Nat.lt_of_lt_of_le z.2.2.2 ha), Nat.ne_of_gt (Nat.lt_of_lt_of_le z.2.2.1 hd), Nat.ne_of_gt (Nat.lt_of_lt_of_le z.2.2.2 hd)⟩
    · have z := S.sep j q x q1
      subst q3 q4
      rw [ek.1, ek.2.1, e1, e2]
      exact ⟨Nat.ne_of_lt (Nat.lt_of_lt_of_le z.2.2.1 ha), Nat.ne_of_lt (Nat.lt_of_lt_of_le z.2.2.1 hd), Nat.ne_of_lt (Nat.lt_of_lt_of_le z.2.2.2 ha), Nat.ne_of_lt (Nat.lt_of_lt_of_le z.2.2.2 hd)⟩
    · rw [e1, e2, e1', e2']
      exact S.dist j j' q q' x x' q1 q3 ne
  · rcases old j q x h with ⟨rfl, rfl, rfl⟩ | ⟨ne, h, e1, e2⟩
    · exact ho
    · exact ObjAt.mono (γ := γ) (γ' := γ.tr k a d) (σ := σ) (h := s.heap) (fun _ h => h) (fun x ob _ e => keep x ob e) al (S.nv j q x h) (fun x ob _ e => keep x ob e) (S.obj j q x h)
  · refine ex3_2 (h) fun j q y h hx => ?_
    rcases old j q y h with ⟨rfl, rfl, rfl⟩ | ⟨ne, h, e1, e2⟩
    · rw [ek.1, ek.2.1] at hx
      exact .inr (hx.elim (fun q => q ▸ ha) fun q => q ▸ hd)
    · rw [e1, e2] at hx
      exact .inl ⟨j, q, y, h, hx⟩
theorem put_self {k p : Nat} {o o' : O} {σ : Store} (h : σ.lookup k = some (p, o)) : (put k o' σ).lookup k = some (p, o') := by rw [put_lookup, if_pos rfl, h]; rfl
theorem put_ne {k j : Nat} {o' : O} {σ : Store} (h : j ≠ k) : (put k o' σ).lookup j = σ.lookup j := by rw [put_lookup, if_neg h]
theorem AlKeep.put {k : Nat} {o' : O} : AlKeep γ γ σ (put k o' σ) := AlKeep.same rfl rfl rfl
theorem Post.set {k p : Nat} {o o' : O} {a : Addr} {h' : Heap} (t : Nat) (S : St b γ σ s) (hk : σ.lookup k = some (p, o)) (ha : a = γ.al k p ∨ a = γ.dx k p) (hs : Heap.SameBut a s.heap h')
    (ho : ObjAt b.prog b.w γ (put k o' σ) h' k p o') : Post b γ σ s γ (put k o' σ) { s with heap := h', toks := t } := by
  have z := S.sep k p o hk
  have nf : ¬ γ.F a := ha.elim (fun e => by rw [e]; exact z.1) (fun e => by rw [e]; exact z.2.1)
  have ne : ∀ x, γ.F x → x ≠ a := fun x h e => nf (e ▸ h)
  have sep : ∀ j q x, (put k o' σ).lookup j = some (q, x) → ∃ y, σ.lookup j = some (q, y) ∧ (j ≠ k → y = x) := fun j q x h => by
    by_cases e : j = k
    · subst e; rw [put_self hk] at h; cases h; exact ⟨o, hk, fun q => absurd rfl q⟩
    · rw [put_ne e] at h; exact ⟨x, h, fun _ => rfl⟩
  refine ⟨⟨fun x ob e => (hs.2 x (ne x (S.stat' e))).trans (S.base x ob e), S.gens, S.os, S.stat, fun x h => ?_, fun j q x h => ?_, fun j q x h => ?_, fun j j' q q' x x' h h' n => ?_, fun j q x h => ?_⟩, ⟨fun _ h => h, AlKeep.put, fun _ h => .inl h, fun x h => ?_⟩, fun x ob e nt => ?_, ?_⟩
  · show x < h'.objs.size
    rw [hs.1]; exact S.lt x h
  · refine ex1_2 (sep j q x h) fun y hy _ => ?_
    exact S.nv j q y hy
  · refine ex1_2 (sep j q x h) fun y hy _ => ?_
    have z := S.sep j q y hy
    show _ ∧ _ ∧ γ.al j q < h'.objs.size ∧ γ.dx j q < h'.objs.size
    rw [hs.1]; exact z
  · refine ex1_2 (sep j q x h) fun y hy _ => ?_
    refine ex1_2 (sep j' q' x' h') fun y' hy' _ => ?_
    exact S.dist j j' q q' y y' hy hy' n
  · by_cases e : j = k
    · subst e; rw [put_self hk] at h; cases h; exact ho
    · rw [put_ne e] at h
      refine (S.obj j q x h).mono (fun _ h => h) (fun x ob fx e => (hs.2 x (ne x fx)).trans e) AlKeep.put (S.nv j q x h) fun x' ob hx q' => (hs.2 x' fun e' => ?_).trans q'
      have d := S.dist j k q p x o h hk e
      subst e'
      rcases ha with rfl | rfl <;> rcases hx with hx | hx
      · exact d.1 hx.symm
      · exact d.2.2.1 hx.symm
      · exact d.2.1 hx.symm
      · exact d.2.2.2 hx.symm
  · refine ex3_2 (h) fun j q y h hx => ?_
    refine ex1_2 (sep j q y h) fun y' hy' _ => ?_
    exact .inl ⟨j, q, y', hy', hx⟩
  · exact (hs.2 x fun e' => nt ⟨k, p, o, hk, e' ▸ ha⟩).trans e
  · show s.heap.objs.size ≤ h'.objs.size
    rw [hs.1]; exact Nat.le_refl _
def Sub (σ' σ : Store) : Prop := ∀ k e, σ'.lookup k = some e → σ.lookup k = some e
theorem Post.sub {σ' : Store} (S : St b γ σ s) (h : Sub σ' σ) : Post b γ σ s γ σ' s := by
  refine ⟨⟨S.base, S.gens, S.os, S.stat, S.lt, fun k p o e => S.nv k p o (h _ _ e), fun k p o e => S.sep k p o (h _ _ e), fun k k' p p' o o' e e' => S.dist k k' p p' o o' (h _ _ e) (h _ _ e'), fun k p o e => ?_⟩,
    ⟨fun _ h => h, AlKeep.same rfl rfl rfl, fun _ h => .inl h, fun a zy4 => ex3_2 zy4 fun k p o e q => .inl ⟨k, p, o, h _ _ e, q⟩⟩, fun _ _ h _ => h, Nat.le_refl _⟩
  exact (S.obj k p o (h _ _ e)).mono (fun _ h => h) (fun _ _ _ e => e) (AlKeep.same rfl rfl rfl) (S.nv k p o (h _ _ e)) fun _ _ _ e => e
end
end Mine
end
section
open PySem PySem.W PyProof.Rows PySem.Calls
namespace Mine
def EA (b : Bas) (n : Nat) (sc : Scope) (op : BoolOp) (es : List Expr) (ρ : Loc) (σ : Store) (Q : Bool → Store → Prop) : Prop :=
  ∀ A s env γ, Room n A → St b γ σ s → FrR b sc γ σ ρ env s.heap → wpAny b.M A (allTrue op es env) (RB b γ σ s Q) NoE s
def EO (b : Bas) (n : Nat) (sc : Scope) (pos : Pos) (op : BoolOp) (es : List Expr) (ρ : Loc) (σ : Store) (Q : W → Store → Prop) : Prop :=
  ∀ A s env γ, Room n A → St b γ σ s → FrR b sc γ σ ρ env s.heap → wpAny b.M A (boolOp pos op (evalEach es env)) (RV b γ σ s Q) NoE s
def AP (b : Bas) (n : Nat) (f : W) (ys : List W) (σ : Store) (Q : W → Store → Prop) : Prop :=
  ∀ A s γ fv vs, Room n A → St b γ σ s → WR γ σ s.heap f fv → WRs γ σ s.heap ys vs →
    (∃ k, (k = Keeper.frame ∨ k = Keeper.machine ∨ k = Keeper.boundFrame) ∧ Looks b.M s.heap (keeperOf fv) k) ∧ wpAny b.M A (call fv vs) (RV b γ σ s Q) NoE s
abbrev KeepOk (b : Bas) (h : Heap) (f : Value) : Prop := ∃ k, (k = Keeper.frame ∨ k = Keeper.machine ∨ k = Keeper.boundFrame) ∧ Looks b.M h (keeperOf f) k
section
variable {b : Bas} {n : Nat} {σ : Store} {γ : Gh} {h : Heap} {vs : List Value} {u : Value} {Q : W → Store → Prop}
theorem AP.r1 {y : W} (k : ∀ A s γ v, Room n A → St b γ σ s → WR γ σ s.heap y v → KeepOk b s.heap u ∧ wpAny b.M A (call u [v]) (RV b γ σ s Q) NoE s) : AP b n (.v (.raw u)) [y] σ Q := fun A s γ fv vs R S r rs =>
  WR.c_raw r (WRs.c rs fun v vs r1 rs => WRs.c0 rs (k A s γ v R S r1))
theorem AP.r2 {y z : W} (k : ∀ A s γ v w, Room n A → St b γ σ s → WR γ σ s.heap y v → WR γ σ s.heap z w → KeepOk b s.heap u ∧ wpAny b.M A (call u [v, w]) (RV b γ σ s Q) NoE s) : AP b n (.v (.raw u)) [y, z] σ Q := fun A s γ fv vs R S r rs =>
  WR.c_raw r (WRs.c rs fun v vs r1 rs => WRs.c rs fun w vs r2 rs => WRs.c0 rs (k A s γ v w R S r1 r2))
theorem AP.r3 {y z x : W} (k : ∀ A s γ v w t, Room n A → St b γ σ s → WR γ σ s.heap y v → WR γ σ s.heap z w → WR γ σ s.heap x t → KeepOk b s.heap u ∧ wpAny b.M A (call u [v, w, t]) (RV b γ σ s Q) NoE s) : AP b n (.v (.raw u)) [y, z, x] σ Q := fun A s γ fv vs R S r rs =>
  WR.c_raw r (WRs.c rs fun v vs r1 rs => WRs.c rs fun w vs r2 rs => WRs.c rs fun t vs r3 rs => WRs.c0 rs (k A s γ v w t R S r1 r2 r3))
end
def RC (b : Bas) (γ : Gh) (σ : Store) (s : Shared) (Q : W → Store → Prop) (r : Result) (s' : Shared) : Prop := match r with
  | .ok (.ret v) => RV b γ σ s Q v s'
  | _ => False
def FN (b : Bas) (n : Nat) (f : Value) (ys : List W) (σ : Store) (Q : W → Store → Prop) : Prop :=
  ∀ A s γ vs, Room n A → St b γ σ s → WRs γ σ s.heap ys vs → codeAny b.M A (.call f ⟨vs, []⟩) (RC b γ σ s Q) s
section
variable {b : Bas} {n : Nat} {sc : Scope} {ρ : Loc} {σ : Store}
abbrev Knot (Q : Bool → Store → Prop) : Bool → Store → Prop := fun t => Q (!t)
abbrev Kand (b : Bas) (n : Nat) (sc : Scope) (r : List Expr) (ρ : Loc) (Q : Bool → Store → Prop) : Bool → Store → Prop := fun t σ => cond t (EA b n sc .And r ρ σ Q) (Q false σ)
abbrev Kor (b : Bas) (n : Nat) (sc : Scope) (r : List Expr) (ρ : Loc) (Q : Bool → Store → Prop) : Bool → Store → Prop := fun t σ => cond t (Q true σ) (EA b n sc .Or r ρ σ Q)
abbrev KopT (b : Bas) (n : Nat) (Q : Bool → Store → Prop) : W → Store → Prop := fun z σ => OpT b n z σ Q
abbrev KandV (b : Bas) (n : Nat) (sc : Scope) (pos : Pos) (r : List Expr) (ρ : Loc) (Q : W → Store → Prop) (v : W) : Bool → Store → Prop := fun t σ => cond t (EO b n sc pos .And r ρ σ Q) (Q v σ)
abbrev KorV (b : Bas) (n : Nat) (sc : Scope) (pos : Pos) (r : List Expr) (ρ : Loc) (Q : W → Store → Prop) (v : W) : Bool → Store → Prop := fun t σ => cond t (Q v σ) (EO b n sc pos .Or r ρ σ Q)
abbrev KandE (b : Bas) (n : Nat) (sc : Scope) (pos : Pos) (r : List Expr) (ρ : Loc) (Q : W → Store → Prop) : W → Store → Prop := fun v σ => OpT b n v σ (KandV b n sc pos r ρ Q v)
abbrev KorE (b : Bas) (n : Nat) (sc : Scope) (pos : Pos) (r : List Expr) (ρ : Loc) (Q : W → Store → Prop) : W → Store → Prop := fun v σ => OpT b n v σ (KorV b n sc pos r ρ Q v)
abbrev Kcons (Q : List W → Store → Prop) (y : W) : List W → Store → Prop := fun ys => Q (y :: ys)
abbrev Kargs (b : Bas) (n : Nat) (sc : Scope) (pos : Pos) (r : List Expr) (ρ : Loc) (Q : List W → Store → Prop) : W → Store → Prop := fun y σ => EEs b n sc pos r ρ σ (Kcons Q y)
theorem ET.not {x : Expr} {pos : Pos} {Q : Bool → Store → Prop} (h : ET b n sc x ρ σ (Knot Q)) : ET b n sc (.UnaryOp .Not x pos) ρ σ Q := by
  intro A s env γ R S F
  exact wpAny_isTrue_Not (h.go R S F fun t σ₁ γ₁ s₁ q P => ⟨!t, σ₁, γ₁, q, P, rfl⟩)
theorem ET.bop {op : BoolOp} {es : List Expr} {pos : Pos} {Q : Bool → Store → Prop} (h : EA b n sc op es ρ σ Q) : ET b n sc (.BoolOp op es pos) ρ σ Q :=
  fun A s env γ R S F => wpAny_isTrue_BoolOp (h A s env γ R S F)
theorem EA.and0 {Q : Bool → Store → Prop} (q : Q true σ) : EA b n sc .And [] ρ σ Q := fun _ _ _ _ _ S _ => wpAny_allTrue_And_nil (RB.same S q)
theorem EA.or0 {Q : Bool → Store → Prop} (q : Q false σ) : EA b n sc .Or [] ρ σ Q := fun _ _ _ _ _ S _ => wpAny_allTrue_Or_nil (RB.same S q)
theorem EA.and {x : Expr} {r : List Expr} {Q : Bool → Store → Prop} (h : ET b n sc x ρ σ (Kand b n sc r ρ Q)) : EA b n sc .And (x :: r) ρ σ Q := by
  intro A s env γ R S F
  refine wpAny_allTrue_And_cons (h.go R S F fun t σ₁ γ₁ s₁ h₁ P => ?_)
  cases t with
  | true => exact wpAny_mono (h₁ A s₁ env γ₁ R P.st (F.post S P)) (fun _ _ z => z.trans P) fun _ _ z => z
  | false => exact ⟨false, σ₁, γ₁, h₁, P, rfl⟩
theorem EA.or {x : Expr} {r : List Expr} {Q : Bool → Store → Prop} (h : ET b n sc x ρ σ (Kor b n sc r ρ Q)) : EA b n sc .Or (x :: r) ρ σ Q := by
  intro A s env γ R S F
  refine wpAny_allTrue_Or_cons (h.go R S F fun t σ₁ γ₁ s₁ h₁ P => ?_)
  cases t with
  | false => exact wpAny_mono (h₁ A s₁ env γ₁ R P.st (F.post S P)) (fun _ _ z => z.trans P) fun _ _ z => z
  | true => exact ⟨true, σ₁, γ₁, h₁, P, rfl⟩
theorem ET.cmp {l r : Expr} {op : CmpOp} {pos : Pos} {Q : Bool → Store → Prop} (h : EE b n sc l ρ σ (Kbin b n sc (compareOp op) r ρ (KopT b n Q)))
    (hm : behindInMarks op r = false := by rfl) : ET b n sc (.Compare l [op] [r] pos) ρ σ Q := by
  intro A s env γ R S F
  refine wpAny_isTrue_Compare1 (h.go R S F fun x σ₁ γ₁ v s₁ h₁ P₁ r₁ => ?_) hm
  refine h₁.go R P₁.st (F.post S P₁) fun y σ₂ γ₂ u s₂ h₂ P₂ r₂ => ?_
  refine wpAny_mono (h₂ A s₂ γ₂ v u R P₂.st (r₁.post P₁.st P₂) r₂) (fun c s₃ zy5 => zy5.e fun z σ₃ γ₃ h₃ P₃ r₃ => ?_) fun _ _ z => z
  exact wpAny_mono (h₃ A s₃ γ₃ c R P₃.st r₃) (fun _ _ z => z.trans (P₁.trans (P₂.trans P₃))) fun _ _ z => z
theorem ET.val {e : Expr} {Q : Bool → Store → Prop} (h : EE b n sc e ρ σ (KopT b n Q)) (he : ∀ env whole, isTrue e env whole = (do let v ← whole; standAt e.pos; holding [v] (truthy v)) := by intros; rfl) : ET b n sc e ρ σ Q := by
  intro A s env γ R S F
  refine wpAny_isTrue_value (h.go R S F fun x σ₁ γ₁ v s₁ h₁ P₁ r₁ => ?_) (he _ _)
  exact wpAny_mono (h₁ A s₁ γ₁ v R P₁.st r₁) (fun _ _ z => z.trans P₁) fun _ _ z => z
theorem OpT.bool {t : Bool} {Q : Bool → Store → Prop} (q : Q t σ) : OpT b n (.v (.bool t)) σ Q := by
  intro A s γ v _ S r
  refine WR.c_bool r ?_
  exact wpAny_truthy_bool (RB.same S q)
theorem EO.one {pos : Pos} {op : BoolOp} {x : Expr} {Q : W → Store → Prop} (h : EE b n sc x ρ σ Q) : EO b n sc pos op [x] ρ σ Q := fun A s env γ R S F => h A s env γ R S F
theorem EO.and {pos : Pos} {x y : Expr} {r : List Expr} {Q : W → Store → Prop} (h : EE b n sc x ρ σ (KandE b n sc pos (y :: r) ρ Q)) : EO b n sc pos .And (x :: y :: r) ρ σ Q := by
  intro A s env γ R S F
  show wpAny b.M A (do
    let v ← eval x env
    standAt pos
    let t ← holding [v] (truthy v)
    match BoolOp.And, t with
    | .And, false | .Or, true => pure v
    | _, _ => boolOp pos .And (evalEach (y :: r) env)) _ _ s
  refine wpAny_bind (h.go R S F fun v σ₁ γ₁ u s₁ h₁ P₁ r₁ => wpAny_bind (wpAny_standAt (wpAny_bind (wpAny_holding (wpAny_mono (h₁ A s₁ γ₁ u R P₁.st r₁) (fun t s₂ zy6 => zy6.e fun t' σ₂ γ₂ h₂ P₂ e => ?_) fun _ _ z => z)))))
  subst e
  cases t' with
  | false => exact wpAny_pure ⟨v, σ₂, γ₂, h₂, P₁.trans P₂, r₁.post P₁.st P₂⟩
  | true => exact wpAny_mono (h₂ A s₂ env γ₂ R P₂.st ((F.post S P₁).post P₁.st P₂)) (fun _ _ z => z.trans (P₁.trans P₂)) fun _ _ z => z
theorem EO.or {pos : Pos} {x y : Expr} {r : List Expr} {Q : W → Store → Prop} (h : EE b n sc x ρ σ (KorE b n sc pos (y :: r) ρ Q)) : EO b n sc pos .Or (x :: y :: r) ρ σ Q := by
  intro A s env γ R S F
  show wpAny b.M A (do
    let v ← eval x env
    standAt pos
    let t ← holding [v] (truthy v)
    match BoolOp.Or, t with
    | .And, false | .Or, true => pure v
    | _, _ => boolOp pos .Or (evalEach (y :: r) env)) _ _ s
  refine wpAny_bind (h.go R S F fun v σ₁ γ₁ u s₁ h₁ P₁ r₁ => wpAny_bind (wpAny_standAt (wpAny_bind (wpAny_holding (wpAny_mono (h₁ A s₁ γ₁ u R P₁.st r₁) (fun t s₂ zy7 => zy7.e fun t' σ₂ γ₂ h₂ P₂ e => ?_) fun _ _ z => z)))))
  subst e
  cases t' with
  | true => exact wpAny_pure ⟨v, σ₂, γ₂, h₂, P₁.trans P₂, r₁.post P₁.st P₂⟩
  | false => exact wpAny_mono (h₂ A s₂ env γ₂ R P₂.st ((F.post S P₁).post P₁.st P₂)) (fun _ _ z => z.trans (P₁.trans P₂)) fun _ _ z => z
theorem EE.bop {pos : Pos} {op : BoolOp} {es : List Expr} {Q : W → Store → Prop} (h : EO b n sc pos op es ρ σ Q) : EE b n sc (.BoolOp op es pos) ρ σ Q := fun A s env γ R S F => h A s env γ R S F
theorem EEs.nil {pos : Pos} {Q : List W → Store → Prop} (q : Q [] σ) : EEs b n sc pos [] ρ σ Q := fun _ _ _ γ _ S _ => wpAny_items_nil ⟨[], σ, γ, q, Post.refl S, trivial⟩
theorem EEs.cons {pos : Pos} {e : Expr} {r : List Expr} {Q : List W → Store → Prop} (h : EE b n sc e ρ σ (Kargs b n sc pos r ρ Q))
    (he : ∀ env, starEach (e :: r) env = (false, eval e env) :: starEach r env := by intros; rfl) : EEs b n sc pos (e :: r) ρ σ Q := by
  intro A s env γ R S F
  refine wpAny_items_cons (h.go R S F fun y σ₁ γ₁ v s₁ h₁ P₁ r₁ => ?_) (he _)
  exact h₁.go R P₁.st (F.post S P₁) fun ys σ₂ γ₂ vs s₂ h₂ P₂ r₂ => ⟨y :: ys, σ₂, γ₂, h₂, P₁.trans P₂, r₁.post P₁.st P₂, r₂⟩
noncomputable def vOf : W → Option V
  | .v x => some x
  | _ => none
theorem vOf_eq {y : W} {x : V} (h : vOf y = some x) : y = .v x := by
  cases y with
  | v z => cases h; rfl
  | _ => cases h
noncomputable def pvs : List W → Option (List V)
  | [] => some []
  | y :: r => (vOf y).bind fun x => (pvs r).map (x :: ·)
theorem WRs.pure {γ : Gh} {h : Heap} {ys : List W} : ∀ {xs : List V} {vs : List Value}, pvs ys = some xs → WRs γ σ h ys vs → PVs γ.F h xs vs := by
  induction ys with
  | nil => intro xs vs e r; cases e; exact WRs.c0 r .nil
  | cons y r ih =>
    intro xs vs e r
    refine ex1_2 (Option.bind_eq_some_iff.mp (show (vOf y).bind _ = some xs from e)) fun x hx e => ex1_2 (Option.map_eq_some_iff.mp e) fun l hl e => ?_
    subst e
    refine WRs.c r fun v vs a r => .cons ?_ (ih hl r)
    rw [vOf_eq hx] at a; exact a
theorem WRs.length {γ : Gh} {h : Heap} {ys : List W} : ∀ {vs : List Value}, WRs γ σ h ys vs → vs.length = ys.length := by
  induction ys with
  | nil => exact fun r => WRs.c0 r rfl
  | cons y r ih => exact fun r => WRs.c r fun v vs _ r => congrArg (· + 1) (ih r)
theorem PVs.length {F : Addr → Prop} {h : Heap} {xs : List V} : ∀ {vs : List Value}, PVs F h xs vs → vs.length = xs.length := by
  induction xs with
  | nil => exact fun r => PVs.c0 r rfl
  | cons y r ih => exact fun r => PVs.c r fun v vs _ r => congrArg (· + 1) (ih r)
abbrev Ktup (Q : W → Store → Prop) : List W → Store → Prop := fun ys σ => ∃ xs, pvs ys = some xs ∧ ys.length ≤ 1000 ∧ Q (.v (.tup xs)) σ
theorem Ktup.mk {Q : W → Store → Prop} {ys : List W} {xs : List V} (e : pvs ys = some xs) (h : ys.length ≤ 1000) (q : Q (.v (.tup xs)) σ) : Ktup Q ys σ := ⟨xs, e, h, q⟩
abbrev Klst (Q : W → Store → Prop) : List W → Store → Prop := fun ys σ => ∃ xs, pvs ys = some xs ∧ ys.length ≤ 1000 ∧ Q (.v (.lst xs)) σ
theorem Klst.mk {Q : W → Store → Prop} {ys : List W} {xs : List V} (e : pvs ys = some xs) (h : ys.length ≤ 1000) (q : Q (.v (.lst xs)) σ) : Klst Q ys σ := ⟨xs, e, h, q⟩
abbrev KnewList (k : Nat) (Q : W → Store → Prop) : List W → Store → Prop := fun ys σ => ∃ xs, pvs ys = some xs ∧ ys.length ≤ 1000 ∧ ∀ p, Q (.ref k p) ((k, p, .list xs) :: σ)
theorem KnewList.mk {k : Nat} {Q : W → Store → Prop} {ys : List W} {xs : List V} (e : pvs ys = some xs) (h : ys.length ≤ 1000) (q : ∀ p, Q (.ref k p) ((k, p, .list xs) :: σ)) : KnewList k Q ys σ := ⟨xs, e, h, q⟩
theorem EE.tup {es : List Expr} {k : Nat} {pos : Pos} {Q : W → Store → Prop} (h : EEs b n sc pos es ρ σ (Ktup Q)) : EE b n sc (.Tuple es k pos) ρ σ Q := by
  intro A s env γ R S F
  refine wpAny_Tuple (h.go R S F fun ys σ₁ γ₁ vs s₁ zy8 P₁ r₁ => ex1_3 zy8 fun xs hx hl q => ⟨by rw [r₁.length, sizeLine_eq]; lia, ?_⟩)
  refine ⟨_, σ₁, _, q, P₁.trans (Post.allocF P₁.st), .tup (.inr rfl) ⟨_, Heap.get?_push_size _ rfl, rfl, 0, rfl⟩ ?_⟩
  exact PVs.mono (F := γ₁.F) (h := s₁.heap) (fun _ => .inl) (fun a o _ e => Heap.get?_push_of_some _ e) (r₁.pure hx)
theorem EE.lst {es : List Expr} {pos : Pos} {Q : W → Store → Prop} (h : EEs b n sc pos es ρ σ (Klst Q)) : EE b n sc (.List es pos) ρ σ Q := by
  intro A s env γ R S F
  refine wpAny_List (h.go R S F fun ys σ₁ γ₁ vs s₁ zy9 P₁ r₁ => ex1_3 zy9 fun xs hx hl q => ⟨by rw [r₁.length, sizeLine_eq]; lia, ?_⟩)
  refine ⟨_, σ₁, _, q, P₁.trans (Post.allocF P₁.st), .lst (.inr rfl) ⟨0, Heap.get?_push_size _ rfl⟩ ?_⟩
  exact PVs.mono (F := γ₁.F) (h := s₁.heap) (fun _ => .inl) (fun a o _ e => Heap.get?_push_of_some _ e) (r₁.pure hx)
theorem Post.newList {γ : Gh} {s : Shared} {k : Nat} {xs : List V} {vs : Array Value} (S : St b γ σ s) (hx : PVs γ.F s.heap xs vs.toList) :
    Post b γ σ s (γ.tr k s.heap.objs.size s.heap.objs.size) ((k, γ.nv k, .list xs) :: σ) { s with heap := s.heap.push { cls := .type "list", data := .seq vs } } := by
  refine Post.allocT S (fun x ob e => Heap.get?_push_of_some _ e) (Nat.le_refl _) (Nat.le_refl _) (by rw [Heap.size_push]; exact Nat.lt_succ_self _) (by rw [Heap.size_push]; exact Nat.lt_succ_self _) (by rw [Heap.size_push]; exact Nat.le_succ _) ?_
  refine ⟨vs, 0, ?_, PVs.mono (F := γ.F) (h := s.heap) (fun _ h => h) (fun a o _ e => Heap.get?_push_of_some _ e) hx⟩
  rw [Gh.tr_at.1]
  exact Heap.get?_push_size _ rfl
theorem WR.new {γ : Gh} {σ : Store} {h : Heap} {k : Nat} {a d : Addr} : WR (γ.tr k a d) σ h (.ref k (γ.nv k)) (.ref a) := ⟨congrArg Value.ref Gh.tr_at.1.symm, Gh.tr_at.2.2⟩
theorem EE.newList (k : Nat) {es : List Expr} {pos : Pos} {Q : W → Store → Prop} (h : EEs b n sc pos es ρ σ (KnewList k Q)) : EE b n sc (.List es pos) ρ σ Q := by
  intro A s env γ R S F
  refine wpAny_List (h.go R S F fun ys σ₁ γ₁ vs s₁ zy10 P₁ r₁ => ex1_3 zy10 fun xs hx hl q => ⟨by rw [r₁.length, sizeLine_eq]; lia, ?_⟩)
  exact ⟨_, _, _, q _, P₁.trans (Post.newList P₁.st (r₁.pure hx)), WR.new⟩
theorem evalArgs_go {f : Value} {args : List (Bool × Sem Value)} {A : Around} {s : Shared} {T : Args → Shared → Prop} (hs : args.any (·.1) = false)
    (h : wpAny b.M A (spliced args) (fun vs s₁ => T ⟨vs, []⟩ s₁) NoE s) : wpAny b.M A (evalArgs f true args []) T NoE s := by
  cases args with
  | nil =>
    unfold evalArgs
    show wpAny b.M A (spliced [] >>= _) T NoE s
    refine wpAny_bind (wpAny_mono h (fun vs s' h' => ?_) fun _ _ x => x)
    refine wpAny_bind (wpAny_pure ?_)
    refine wpAny_holding ?_
    exact wpAny_bind (wpAny_pure (wpAny_bind (wpAny_pure (wpAny_pure h'))))
  | cons a r =>
    obtain ⟨t, x⟩ := a
    have ht : t = false := by
      simp only [List.any_cons, Bool.or_eq_false_iff] at hs; exact hs.1
    subst ht
    exact evalArgs_plain h
end
end Mine
end
section
open PySem PySem.W PyProof.Rows PySem.Calls
namespace Mine
inductive Fl where
  | nx | br | ct
  | rt (y : W)
def FlR (γ : Gh) (σ : Store) (h : Heap) : Fl → Flow → Prop
  | .nx, .next => True
  | .br, .brk => True
  | .ct, .cont => True
  | .rt y, .ret v => WR γ σ h y v
  | _, _ => False
def Own (sc : Scope) (env : Env) (a : Addr) : Prop := a = env.locals ∨ ∃ x, sc.names.lookup x = some .cell ∧ env.cells.lookup x = some a
structure PostO (b : Bas) (own : Addr → Prop) (γ : Gh) (σ : Store) (s : Shared) (γ' : Gh) (σ' : Store) (s' : Shared) : Prop where
  st : St b γ' σ' s'
  grow : Grow γ σ s.heap γ' σ'
  keep : ∀ a o, s.heap.get? a = some o → ¬ Tr γ σ a → (own a → γ.F a) → s'.heap.get? a = some o
  size : s.heap.objs.size ≤ s'.heap.objs.size
abbrev PostF (b : Bas) (sc : Scope) (env : Env) (γ : Gh) (σ : Store) (s : Shared) (γ' : Gh) (σ' : Store) (s' : Shared) : Prop := PostO b (Own sc env) γ σ s γ' σ' s'
inductive RF (b : Bas) (sc : Scope) (env : Env) (γ : Gh) (σ : Store) (s : Shared) (Q : Fl → Loc → Store → Prop) (f : Flow) (s' : Shared) : Prop
  | mk (fl : Fl) (ρ' : Loc) (σ' : Store) (γ' : Gh) (q : Q fl ρ' σ') (P : PostF b sc env γ σ s γ' σ' s') (F : FrR b sc γ' σ' ρ' env s'.heap) (e : FlR γ' σ' s'.heap fl f) : RF b sc env γ σ s Q f s'
theorem RF.e {b : Bas} {sc : Scope} {env : Env} {γ : Gh} {σ : Store} {s : Shared} {Q : Fl → Loc → Store → Prop} {f : Flow} {s' : Shared} {T : Prop} (h : RF b sc env γ σ s Q f s') (k : ∀ fl ρ' σ' γ', Q fl ρ' σ' → PostF b sc env γ σ s γ' σ' s' → FrR b sc γ' σ' ρ' env s'.heap → FlR γ' σ' s'.heap fl f → T) : T := by cases h with | mk fl ρ' σ' γ' q P F e => exact k fl ρ' σ' γ' q P F e
noncomputable abbrev envS (sc : Scope) : Env := { scope := sc, locals := 0, globals := 0, cells := [] }
theorem swSt {ts : List Expr} {e : Expr} {env : Env} {sc : Scope} {r : Sem (Option (List Str))} (h : swappedStores ts e (envS sc) = r) (hs : env.scope = sc) : swappedStores ts e env = r := by subst hs; exact h
theorem swWi {e : Expr} {t : Option Expr} {l : Nat} {env : Env} {sc : Scope} {r : Sem Bool} (h : swapsWith e t l (envS sc) = r) (hs : env.scope = sc) : swapsWith e t l env = r := by subst hs; exact h
def ES (b : Bas) (n : Nat) (sc : Scope) (st : Stmt) (ρ : Loc) (σ : Store) (Q : Fl → Loc → Store → Prop) : Prop :=
  ∀ A s env γ, Room n A → St b γ σ s → FrR b sc γ σ ρ env s.heap → wpAny b.M A (exec st env) (RF b sc env γ σ s Q) NoE s
def ESs (b : Bas) (n : Nat) (sc : Scope) (st : List Stmt) (ρ : Loc) (σ : Store) (Q : Fl → Loc → Store → Prop) : Prop :=
  ∀ A s env γ, Room n A → St b γ σ s → FrR b sc γ σ ρ env s.heap → wpAny b.M A (execs st env) (RF b sc env γ σ s Q) NoE s
def AS (b : Bas) (n : Nat) (sc : Scope) (t : Expr) (y : W) (ρ : Loc) (σ : Store) (Q : Loc → Store → Prop) : Prop :=
  ∀ A s env γ v, Room n A → St b γ σ s → FrR b sc γ σ ρ env s.heap → WR γ σ s.heap y v → wpAny b.M A (assign t env v) (fun _ s' => RF b sc env γ σ s (fun fl ρ' σ' => fl = .nx ∧ Q ρ' σ') .next s') NoE s
section
variable {b : Bas} {sc : Scope} {env : Env} {γ γ' γ'' : Gh} {σ σ' σ'' : Store} {s s' s'' : Shared}
theorem Post.toO {own : Addr → Prop} (P : Post b γ σ s γ' σ' s') : PostO b own γ σ s γ' σ' s' := ⟨P.st, P.grow, fun a o h n _ => P.keep a o h n, P.size⟩
theorem Post.toF (P : Post b γ σ s γ' σ' s') : PostF b sc env γ σ s γ' σ' s' := P.toO
theorem PostO.fkeepO {own : Addr → Prop} (S : St b γ σ s) (_ : ∀ a, own a → ¬ γ.F a) (P : PostO b own γ σ s γ' σ' s') : FKeep γ.F s.heap s'.heap :=
  fun a o fa ho => P.keep a o ho (S.notTr fa) fun _ => fa
theorem PostO.fkeep {ρ : Loc} (S : St b γ σ s) (F : FrR b sc γ σ ρ env s.heap) (P : PostF b sc env γ σ s γ' σ' s') : FKeep γ.F s.heap s'.heap := fun a o fa ho => P.keep a o ho (S.notTr fa) fun _ => fa
theorem PostO.mono {own own' : Addr → Prop} (h : ∀ a, own a → own' a) (P : PostO b own γ σ s γ' σ' s') : PostO b own' γ σ s γ' σ' s' := ⟨P.st, P.grow, fun a o e n no => P.keep a o e n fun q => no (h a q), P.size⟩
theorem WR.postF {ρ : Loc} (S : St b γ σ s) (F : FrR b sc γ σ ρ env s.heap) (P : PostF b sc env γ σ s γ' σ' s') {y : W} {v : Value} (r : WR γ σ s.heap y v) : WR γ' σ' s'.heap y v :=
  r.mono P.grow.F (P.fkeep S F) P.grow.al
theorem PostO.trans {own : Addr → Prop} (P : PostO b own γ σ s γ' σ' s') (P' : PostO b own γ' σ' s' γ'' σ'' s'') : PostO b own γ σ s γ'' σ'' s'' := by
  refine ⟨P'.st, ⟨fun a h => P'.grow.F a (P.grow.F a h), fun k o h => ?_, fun a h => ?_, fun a h => ?_⟩, fun a o h n no => ?_, Nat.le_trans P.size P'.size⟩
  · have z := P.grow.al k o h
    have z' := P'.grow.al k o z.2.2
    exact ⟨z'.1.trans z.1, z'.2.1.trans z.2.1, z'.2.2⟩
  · rcases P'.grow.newF a h with h | h
    · exact P.grow.newF a h
    · exact .inr (Nat.le_trans P.size h)
  · rcases P'.grow.newT a h with h | h
    · exact P.grow.newT a h
    · exact .inr (Nat.le_trans P.size h)
  · refine P'.keep a o (P.keep a o h n no) (fun t => ?_) fun q => P.grow.F a (no q)
    rcases P.grow.newT a t with t | t
    · exact n t
    · exact absurd (Heap.lt_size h) (Nat.not_lt.mpr t)
theorem RF.trans {Q : Fl → Loc → Store → Prop} (P : PostF b sc env γ σ s γ' σ' s') {f : Flow} (h : RF b sc env γ' σ' s' Q f s'') : RF b sc env γ σ s Q f s'' := by
  refine (h).e fun fl ρ' σ₂ γ₂ q p r e => ?_
  exact ⟨fl, ρ', σ₂, γ₂, q, P.trans p, r, e⟩
end
noncomputable def setL (x : Str) (y : W) : Loc → Loc
  | [] => [(x, y)]
  | p :: r => if p.1 = x then (x, y) :: r else p :: setL x y r
theorem lookupS {α : Type} {k a : Str} {x : α} {r : List (Str × α)} : List.lookup k ((a, x) :: r) = if k = a then some x else List.lookup k r := by
  rw [List.lookup_cons]
  by_cases q : k = a
  · rw [if_pos q, beq_iff_eq.mpr q]
  · rw [if_neg q, beq_false_of_ne q]
theorem setL_lookup (x z : Str) (y : W) (ρ : Loc) : (setL x y ρ).lookup z = if z = x then some y else ρ.lookup z := by
  induction ρ with
  | nil => exact lookupS
  | cons p r ih =>
    show List.lookup z (if p.1 = x then (x, y) :: r else p :: setL x y r) = _
    by_cases h : p.1 = x
    · rw [if_pos h, lookupS, lookupS (x := p.2)]
      by_cases q : z = x
      · rw [if_pos q, if_pos q]
      · rw [if_neg q, if_neg q, if_neg (fun e => q (e.trans h))]
    · rw [if_neg h, lookupS (x := p.2), lookupS (x := p.2), ih]
      by_cases q : z = p.1
      · rw [if_pos q, if_neg (fun e => h (q.symm.trans e)), if_pos q]
      · rw [if_neg q, if_neg q]
section
variable {b : Bas} {n : Nat} {sc : Scope} {ρ : Loc} {σ : Store}
theorem bind_loc₀ {A : Around} {s : Shared} {env : Env} {γ : Gh} {x : Str} {y : W} {v : Value} (S : St b γ σ s) (F : FrR b sc γ σ ρ env s.heap) (r : WR γ σ s.heap y v) (hk : sc.names.lookup x = some .local) (hsp : ¬ (("#" : Str) = x))
    {T : Unit → Shared → Prop} (k : ∀ s', PostO b (· = env.locals) γ σ s γ σ s' → FrR b sc γ σ (setL x y ρ) env s'.heap → T () s') :
    wpAny b.M A (storeName env x v) T NoE s := by
  refine ex1_2 (F.loc) fun m hm hl => ?_
  refine wpAny_storeName_local (by show env.scope.names.lookup x = _; rw [F.scope]; exact hk) hm (fun h' hn hs => ?_) (by rw [F.scope, F.kind]; rfl)
  have fk : FKeep γ.F s.heap h' := fun a o fa e => (hs.2 a fun q => F.own.1 (q ▸ fa)).trans e
  have al : AlKeep γ γ σ σ := AlKeep.same rfl rfl rfl
  have St' : St b γ σ { s with heap := h', toks := s.toks + 1 } := Post.stray _ S hs F.own.1 F.own.2
  refine k _ ⟨St', (Post.refl S).grow, fun a o e _ no => (hs.2 a fun q => F.own.1 (q ▸ no q)).trans e, by show s.heap.objs.size ≤ h'.objs.size; rw [hs.1]; exact Nat.le_refl _⟩ ⟨F.scope, F.kind, F.glob, F.bltn, F.own, ⟨_, hn, fun z u hz hkz => ?_⟩, fun z hz => ?_, F.inj, fun hh => F.wr (by rw [setL_lookup] at hh; split at hh <;> first | cases hh | exact hh), F.code, fun hh => F.fz (fun q => hh (by rw [setL_lookup, if_neg hsp]; exact q))⟩
  · rw [setL_lookup] at hz
    by_cases e : z = x
    · rw [if_pos e] at hz ⊢
      cases hz
      exact ⟨v, rfl, r.mono (fun _ h => h) fk al⟩
    · rw [if_neg e] at hz ⊢
      refine ex1_2 (hl z u hz hkz) fun v' h1 h2 => ?_
      exact ⟨v', h1, h2.mono (fun _ h => h) fk al⟩
  · refine (F.cel z hz).e fun c o vo h1 h2 h3 h4 h6 h7 => ?_
    refine ⟨c, o, vo, h1, (hs.2 c h7).trans h2, h3, fun u hu => ?_, h6, h7⟩
    rw [setL_lookup, if_neg (fun e => by subst e; rcases hz with hz | hz <;> rw [hk] at hz <;> cases hz)] at hu
    refine ex1_2 (h4 u hu) fun v' e1 e2 => ?_
    exact ⟨v', e1, e2.mono (fun _ h => h) fk al⟩
theorem bind_cell {A : Around} {s : Shared} {env : Env} {γ : Gh} {x : Str} {y : W} {v : Value} (S : St b γ σ s) (F : FrR b sc γ σ ρ env s.heap) (r : WR γ σ s.heap y v) (hk : sc.names.lookup x = some .cell) (hw : ρ.lookup ("#" : Str) = none) (hsp : ¬ (("#" : Str) = x))
    {T : Unit → Shared → Prop} (k : ∀ h', PostF b sc env γ σ s γ σ { s with heap := h' } → FrR b sc γ σ (setL x y ρ) env h' → T () { s with heap := h' }) :
    wpAny b.M A (storeName env x v) T NoE s := by
  refine (F.cel x (.inl hk)).e fun c o vo c1 c2 c3 c4 c6 c7 => ?_
  have c5 := F.wr hw x c hk c1
  refine wpAny_storeName_cell (by rw [F.scope]; exact F.kind) (by show env.scope.names.lookup x = _; rw [F.scope]; exact hk) c1 ⟨o, c2, c3⟩ fun h' hn hs => ?_
  have fk : FKeep γ.F s.heap h' := fun a o fa e => (hs.2 a fun q => c5 (q ▸ fa)).trans e
  have al : AlKeep γ γ σ σ := AlKeep.same rfl rfl rfl
  have St' : St b γ σ { s with heap := h', toks := s.toks } := Post.stray _ S hs c5 c6
  refine ex1_2 (F.loc) fun m hm hl => ?_
  refine ex1_2 (hn) fun o' ho' hd' => ?_
  refine k h' ⟨St', (Post.refl S).grow, fun a o e _ no => (hs.2 a fun q => c5 (q ▸ no (.inr ⟨x, hk, q ▸ c1⟩))).trans e, by show s.heap.objs.size ≤ h'.objs.size; rw [hs.1]; exact Nat.le_refl _⟩ ⟨F.scope, F.kind, F.glob, F.bltn, F.own, ⟨m, hm.sameBut hs (Ne.symm c7), fun z u hz hkz => ?_⟩, fun z hz => ?_, F.inj, fun hh => F.wr (by rw [setL_lookup] at hh; split at hh <;> first | cases hh | exact hh), F.code, fun hh => F.fz (fun q => hh (by rw [setL_lookup, if_neg hsp]; exact q))⟩
  · rw [setL_lookup, if_neg (fun e => by subst e; rw [hk] at hkz; cases hkz)] at hz
    refine ex1_2 (hl z u hz hkz) fun v' h1 h2 => ?_
    exact ⟨v', h1, h2.mono (fun _ h => h) fk al⟩
  · by_cases e : z = x
    · subst e
      refine ⟨c, o', some v, c1, ho', hd', fun u hu => ?_, c6, c7⟩
      rw [setL_lookup, if_pos rfl] at hu
      cases hu
      exact ⟨v, rfl, r.mono (fun _ h => h) fk al⟩
    · refine (F.cel z hz).e fun c' o₁ vo' h1 h2 h3 h4 h6 h7 => ?_
      refine ⟨c', o₁, vo', h1, (hs.2 c' fun q => e (F.inj z x c' h1 (q ▸ c1))).trans h2, h3, fun u hu => ?_, h6, h7⟩
      rw [setL_lookup, if_neg e] at hu
      refine ex1_2 (h4 u hu) fun v' e1 e2 => ?_
      exact ⟨v', e1, e2.mono (fun _ h => h) fk al⟩
noncomputable def bindK (sc : Scope) (ρ : Loc) (x : Str) : Bool := (("#" : Str) != x) && (sc.names.lookup x == some .local || (sc.names.lookup x == some .cell && (ρ.lookup ("#" : Str)).isNone))
theorem bind_any {A : Around} {s : Shared} {env : Env} {γ : Gh} {x : Str} {y : W} {v : Value} (S : St b γ σ s) (F : FrR b sc γ σ ρ env s.heap) (r : WR γ σ s.heap y v) (hk : bindK sc ρ x = true)
    {T : Unit → Shared → Prop} (k : ∀ s', PostF b sc env γ σ s γ σ s' → FrR b sc γ σ (setL x y ρ) env s'.heap → T () s') : wpAny b.M A (storeName env x v) T NoE s := by
  unfold bindK at hk
  refine ex0_2 (Bool.and_eq_true_iff.mp hk) fun hsp hk => ?_
  have hsp : ¬ (("#" : Str) = x) := by simpa using hsp
  rcases Bool.or_eq_true_iff.mp hk with h | h
  · exact bind_loc₀ S F r (by simpa using h) hsp fun s' P F' => k _ (P.mono fun _ q => .inl q) F'
  · refine ex0_2 (Bool.and_eq_true_iff.mp h) fun h1 h2 => ?_
    exact bind_cell S F r (by simpa using h1) (by simpa using h2) hsp fun h' P F' => k _ P F'
theorem AS.name {x : Str} {pos : Pos} {y : W} {Q : Loc → Store → Prop} (q : Q (setL x y ρ) σ) (hk : bindK sc ρ x = true := by rfl) : AS b n sc (.Name x pos) y ρ σ Q := by
  intro A s env γ v _ S F r
  exact wpAny_bind (wpAny_standAt (wpAny_bindName (bind_any S F r hk fun s' P F' => ⟨.nx, _, _, _, ⟨rfl, q⟩, P, F', trivial⟩)))
theorem ESs.nil {Q : Fl → Loc → Store → Prop} (q : Q .nx ρ σ) : ESs b n sc [] ρ σ Q := fun _ _ _ γ _ S F => wpAny_execs_nil ⟨.nx, ρ, σ, γ, q, (Post.refl S).toF, F, trivial⟩
theorem ES.go {st : Stmt} {Q' : Fl → Loc → Store → Prop} (h : ES b n sc st ρ σ Q') {A : Around} {s : Shared} {env : Env} {γ : Gh} (R : Room n A) (S : St b γ σ s) (F : FrR b sc γ σ ρ env s.heap) {T : Flow → Shared → Prop}
    (k : ∀ fl ρ₁ σ₁ γ₁ f s₁, Q' fl ρ₁ σ₁ → PostF b sc env γ σ s γ₁ σ₁ s₁ → FrR b sc γ₁ σ₁ ρ₁ env s₁.heap → FlR γ₁ σ₁ s₁.heap fl f → T f s₁) : wpAny b.M A (exec st env) T NoE s :=
  wpAny_mono (h A s env γ R S F) (fun v s₁ zy11 => zy11.e fun fl ρ₁ σ₁ γ₁ q p r e => k fl ρ₁ σ₁ γ₁ v s₁ q p r e) fun _ _ x => x
abbrev Knxt (b : Bas) (n : Nat) (sc : Scope) (r : List Stmt) (Q : Fl → Loc → Store → Prop) : Fl → Loc → Store → Prop := fun fl ρ₁ σ₁ => match fl with | .nx => ESs b n sc r ρ₁ σ₁ Q | fl => Q fl ρ₁ σ₁
abbrev KexprA (Q : Fl → Loc → Store → Prop) (ρ : Loc) : W → Store → Prop := fun _ σ => Q .nx ρ σ
abbrev Kret (Q : Fl → Loc → Store → Prop) (ρ : Loc) : W → Store → Prop := fun y σ => Q (.rt y) ρ σ
abbrev Kset (Q : Fl → Loc → Store → Prop) (x : Str) (ρ : Loc) : W → Store → Prop := fun y σ => Q .nx (setL x y ρ) σ
abbrev Kite (b : Bas) (n : Nat) (sc : Scope) (x y : List Stmt) (ρ : Loc) (Q : Fl → Loc → Store → Prop) : Bool → Store → Prop := fun c σ => cond c (ESs b n sc x ρ σ Q) (ESs b n sc y ρ σ Q)
theorem Kite.t {x y : List Stmt} {Q : Fl → Loc → Store → Prop} (h : ESs b n sc x ρ σ Q) : Kite b n sc x y ρ Q true σ := h
theorem Kite.f {x y : List Stmt} {Q : Fl → Loc → Store → Prop} (h : ESs b n sc y ρ σ Q) : Kite b n sc x y ρ Q false σ := h
theorem Kite.eqt {x y : List Stmt} {Q : Fl → Loc → Store → Prop} {c : Bool} (e : c = true) (h : ESs b n sc x ρ σ Q) : Kite b n sc x y ρ Q c σ := by subst e; exact h
theorem Kite.eqf {x y : List Stmt} {Q : Fl → Loc → Store → Prop} {c : Bool} (e : c = false) (h : ESs b n sc y ρ σ Q) : Kite b n sc x y ρ Q c σ := by subst e; exact h
abbrev Kap (b : Bas) (n : Nat) (Q : W → Store → Prop) (f : W) : List W → Store → Prop := fun ys σ => AP b n f ys σ Q
abbrev Kcall (b : Bas) (n : Nat) (sc : Scope) (pos : Pos) (args : List Expr) (ρ : Loc) (Q : W → Store → Prop) : W → Store → Prop := fun f σ => EEs b n sc pos args ρ σ (Kap b n Q f)
def Kapm (b : Bas) (n : Nat) (Q : W → Store → Prop) (f : W) (first : List W) : List W → Store → Prop := fun ys σ => AP b n f (first ++ ys) σ Q
theorem Kapm.one {Q : W → Store → Prop} {f x : W} {ys : List W} (h : AP b n f (x :: ys) σ Q) : Kapm b n Q f [x] ys σ := h
abbrev KmethA (b : Bas) (n : Nat) (sc : Scope) (pos : Pos) (args : List Expr) (ρ : Loc) (Q : W → Store → Prop) : W → List W → Store → Prop := fun f first σ => EEs b n sc pos args ρ σ (Kapm b n Q f first)
theorem ESs.cons {st : Stmt} {r : List Stmt} {Q : Fl → Loc → Store → Prop} (h : ES b n sc st ρ σ (Knxt b n sc r Q)) : ESs b n sc (st :: r) ρ σ Q := by
  intro A s env γ R S F
  rw [execs_cons]
  refine wpAny_bind (h.go R S F fun fl ρ₁ σ₁ γ₁ f s₁ h₁ P F₁ e => ?_)
  cases fl with
  | nx =>
    cases f with
    | next => exact wpAny_mono (h₁ A s₁ env γ₁ R P.st F₁) (fun _ _ z => z.trans P) fun _ _ z => z
    | _ => cases e
  | br => cases f with
    | brk => exact wpAny_pure ⟨.br, ρ₁, σ₁, γ₁, h₁, P, F₁, e⟩
    | _ => cases e
  | ct => cases f with
    | cont => exact wpAny_pure ⟨.ct, ρ₁, σ₁, γ₁, h₁, P, F₁, e⟩
    | _ => cases e
  | rt y => cases f with
    | ret v => exact wpAny_pure ⟨.rt y, ρ₁, σ₁, γ₁, h₁, P, F₁, e⟩
    | _ => cases e
theorem FrR.interactive {env : Env} {γ : Gh} {h : Heap} (F : FrR b sc γ σ ρ env h) : interactive env = false := by
  unfold PySem.interactive
  rw [F.scope, F.kind]; rfl
theorem ES.ret {e : Expr} {pos : Pos} {Q : Fl → Loc → Store → Prop} (h : EE b n sc e ρ σ (Kret Q ρ)) : ES b n sc (.Return (some e) pos) ρ σ Q := by
  intro A s env γ R S F
  exact wpAny_Return_some (h.go R S F fun y σ₁ γ₁ v s₁ q P r => ⟨.rt y, ρ, σ₁, γ₁, q, P.toF, F.post S P, r⟩)
theorem ES.set {x : Str} {pos' : Pos} {e : Expr} {pos : Pos} {Q : Fl → Loc → Store → Prop} (h : EE b n sc e ρ σ (Kset Q x ρ)) (hk : bindK sc ρ x = true := by rfl)
    (hs : ∀ env, swapsWith e (some (.Name x pos')) pos.line env = pure false := by intros; rfl) : ES b n sc (.Assign [.Name x pos'] e pos) ρ σ Q := by
  intro A s env γ R S F
  refine wpAny_Assign_Name (h.go R S F fun y σ₁ γ₁ v s₁ q P r => ?_) (hs env)
  exact bind_any P.st (F.post S P) r hk fun s' P' F' => ⟨.nx, _, _, _, q, P.toF.trans P', F', trivial⟩
theorem ES.ite {t : Expr} {x y : List Stmt} {pos : Pos} {Q : Fl → Loc → Store → Prop} (h : ET b n sc t ρ σ (Kite b n sc x y ρ Q)) : ES b n sc (.If t x y pos) ρ σ Q := by
  intro A s env γ R S F
  refine wpAny_If (h.go R S F fun c σ₁ γ₁ s₁ h₁ P₁ => ?_)
  cases c with
  | true => exact wpAny_mono (h₁ A s₁ env γ₁ R P₁.st (F.post S P₁)) (fun _ _ z => z.trans P₁.toF) fun _ _ z => z
  | false => exact wpAny_mono (h₁ A s₁ env γ₁ R P₁.st (F.post S P₁)) (fun _ _ z => z.trans P₁.toF) fun _ _ z => z
theorem EE.call {fe : Expr} {args : List Expr} {pos : Pos} {Q : W → Store → Prop} (h : EE b n sc fe ρ σ (Kcall b n sc pos args ρ Q))
    (he : ∀ env, eval (.Call fe args [] pos) env = (do callWith pos (← eval fe env) [] (backTo pos (starEach args env)) (backToKw pos (keywordEach [] env))) := by intros; rfl)
    (hs : ∀ env, ((backTo pos (starEach args env)).any (·.1)) = false := by intros; rfl) : EE b n sc (.Call fe args [] pos) ρ σ Q := by
  intro A s env γ R S F
  rw [he env]
  refine wpAny_bind (h.go R S F fun f σ₁ γ₁ fv s₁ h₁ P₁ r₁ => ?_)
  refine callWith_of (P := fun h => ∃ k, (k = Keeper.frame ∨ k = Keeper.machine ∨ k = Keeper.boundFrame) ∧ Looks b.M h (keeperOf fv) k) ?_ (fun h x => x) (evalArgs_go (hs env) (h₁.go R P₁.st (F.post S P₁) fun ys σ₂ γ₂ vs s₂ h₂ P₂ r₂ => ?_))
  · show (((backTo pos (starEach args env)).any (·.1)) || false) = false
    rw [hs env]; rfl
  · have z := h₂ A s₂ γ₂ fv vs R P₂.st (r₁.post P₁.st P₂) r₂
    refine ⟨z.1, wpAny_mono z.2 (fun _ _ z => z.trans (P₁.trans P₂)) fun _ _ z => z⟩
inductive RM (b : Bas) (γ : Gh) (σ : Store) (s : Shared) (Q : W → List W → Store → Prop) (fx : Value × List Value) (s' : Shared) : Prop
  | mk (f : W) (first : List W) (σ' : Store) (γ' : Gh) (q : Q f first σ') (P : Post b γ σ s γ' σ' s') (rf : WR γ' σ' s'.heap f fx.1) (rs : WRs γ' σ' s'.heap first fx.2) : RM b γ σ s Q fx s'
theorem RM.e {b : Bas} {γ : Gh} {σ : Store} {s : Shared} {Q : W → List W → Store → Prop} {fx : Value × List Value} {s' : Shared} {T : Prop} (h : RM b γ σ s Q fx s') (k : ∀ f first σ' γ', Q f first σ' → Post b γ σ s γ' σ' s' → WR γ' σ' s'.heap f fx.1 → WRs γ' σ' s'.heap first fx.2 → T) : T := by cases h with | mk f first σ' γ' q P rf rs => exact k f first σ' γ' q P rf rs
def GM (b : Bas) (n : Nat) (o : W) (name : Str) (σ : Store) (Q : W → List W → Store → Prop) : Prop :=
  ∀ A s γ v pl, Room n A → St b γ σ s → WR γ σ s.heap o v → wpAny b.M A (getMethod v name pl) (RM b γ σ s Q) NoE s
theorem WRs.append {γ : Gh} {h : Heap} {ys zs : List W} {vs : List Value} : ∀ {us : List Value}, WRs γ σ h ys us → WRs γ σ h zs vs → WRs γ σ h (ys ++ zs) (us ++ vs) := by
  induction ys with
  | nil => exact fun r z => WRs.c0 r z
  | cons y ys ih => exact fun r z => WRs.c r fun v vs a r => ⟨a, ih r z⟩
abbrev Kmeth (b : Bas) (n : Nat) (sc : Scope) (name : Str) (pos : Pos) (args : List Expr) (ρ : Loc) (Q : W → Store → Prop) : W → Store → Prop := fun ov σ => GM b n ov name σ (KmethA b n sc pos args ρ Q)
theorem EE.meth {o : Expr} {name : Str} {apos pos : Pos} {args : List Expr} {Q : W → Store → Prop} (h : EE b n sc o ρ σ (Kmeth b n sc name pos args ρ Q))
    (he : ∀ env, ∃ pl, eval (.Call (.Attribute o name apos) args [] pos) env = (do
      let ov ← eval o env
      standAt apos.atName
      let (f, first) ← holding [ov] (getMethod ov name pl)
      callWith pos f first (backTo pos (starEach args env)) (backToKw pos (keywordEach [] env))) := by intros; exact ⟨_, rfl⟩)
    (hs : ∀ env, ((backTo pos (starEach args env)).any (·.1)) = false := by intros; rfl) : EE b n sc (.Call (.Attribute o name apos) args [] pos) ρ σ Q := by
  intro A s env γ R S F
  refine ex1_1 (he env) fun pl e => ?_
  rw [e]
  refine wpAny_bind (h.go R S F fun ov σ₁ γ₁ v s₁ h₁ P₁ r₁ => wpAny_bind (wpAny_standAt (wpAny_bind (wpAny_holding (wpAny_mono (h₁ A s₁ γ₁ v pl R P₁.st r₁) (fun fx s₂ zy12 => zy12.e fun f first σ₂ γ₂ h₂ P₂ rf rs => ?_) fun _ _ z => z)))))
  obtain ⟨fv, fs⟩ := fx
  have F₂ := (F.post S P₁).post P₁.st P₂
  refine callWith_of (P := fun h => ∃ k, (k = Keeper.frame ∨ k = Keeper.machine ∨ k = Keeper.boundFrame) ∧ Looks b.M h (keeperOf fv) k) ?_ (fun h x => x) (evalArgs_go (hs env) (h₂.go R P₂.st F₂ fun ys σ₃ γ₃ vs s₃ h₃ P₃ r₃ => ?_))
  · show (((backTo pos (starEach args env)).any (·.1)) || false) = false
    rw [hs env]; rfl
  · have z := h₃ A s₃ γ₃ fv (fs ++ vs) R P₃.st (rf.post P₂.st P₃) ((rs.post P₂.st P₃).append r₃)
    refine ⟨z.1, wpAny_mono z.2 (fun _ _ z => z.trans (P₁.trans (P₂.trans P₃))) fun _ _ z => z⟩
theorem AP.fn {f : Addr} {ys : List W} {Q : W → Store → Prop} (hk : keepIn (MineH.KF b.w.params) (.ref f) = true) (h : FN b n (.ref f) ys σ Q) : AP b n (.v (.raw (.ref f))) ys σ Q := by
  intro A s γ fv vs R S r rs
  refine WR.c_raw r ?_
  refine ⟨keeps_K hk _ (b.X.keeps S.base), wpAny_call (codeAny_mono (h A s γ vs R S rs) fun r s' z => ?_)⟩
  rcases r with e | (v | _ | _ | _) <;> first | exact z | exact z.elim
end
end Mine
end
section
open PySem PySem.W PyProof.Rows PySem.Calls
namespace Mine
theorem bindL_out (k : Str → Option NameKind) (bs : List (Str × Value)) : ∀ (m : Str → Option Value) (x : Str), x ∉ bs.map (·.1) → bindL k bs m x = m x := by
  induction bs with
  | nil => exact fun _ _ _ => rfl
  | cons p r ih =>
    intro m x h
    have hx : x ≠ p.1 := fun e => h (by rw [e]; exact List.mem_cons_self)
    have hr : x ∉ r.map (·.1) := fun e => h (List.mem_cons_of_mem _ e)
    show bindL k r _ x = _
    rw [ih _ x hr]
    split
    · exact if_neg hx
    · rfl
theorem bindC_out (k : Str → Option NameKind) (bs : List (Str × Value)) : ∀ (m : Str → Option Value) (x : Str), x ∉ bs.map (·.1) → bindC k bs m x = m x := by
  induction bs with
  | nil => exact fun _ _ _ => rfl
  | cons p r ih =>
    intro m x h
    have hx : x ≠ p.1 := fun e => h (by rw [e]; exact List.mem_cons_self)
    have hr : x ∉ r.map (·.1) := fun e => h (List.mem_cons_of_mem _ e)
    show bindC k r _ x = _
    rw [ih _ x hr]
    split
    · rfl
    · exact if_neg hx
theorem bind_at {γ : Gh} {σ : Store} {h : Heap} (k : Str → Option NameKind) {xs : List Str} : ∀ (ys : List W) (vs : List Value) (m cm : Str → Option Value), xs.Nodup → WRs γ σ h ys vs → xs.length = ys.length → ∀ x y, List.lookup x (xs.zip ys) = some y →
    ∃ v, WR γ σ h y v ∧ (k x = some .local → bindL k (xs.zip vs) m x = some v) ∧ (k x ≠ some .local → bindC k (xs.zip vs) cm x = some v) := by
  induction xs with
  | nil => intro ys vs m cm _ _ _ x y e; cases e
  | cons a xs ih =>
    intro ys vs m cm hn hw hl x y e
    cases ys with
    | nil => cases hl
    | cons z ys =>
      have hv := hw.length
      cases vs with
      | nil => cases hv
      | cons v vs =>
        refine ex0_2 (List.nodup_cons.mp hn) fun ha hn => ?_
        have hl' : xs.length = ys.length := Nat.succ.inj hl
        have hv : vs.length = ys.length := Nat.succ.inj hv
        rw [List.zip_cons_cons, lookupS] at e
        rw [List.zip_cons_cons]
        by_cases q : x = a
        · subst q
          rw [if_pos rfl] at e
          cases e
          have out : x ∉ (xs.zip vs).map (·.1) := fun hm => ha (by rw [List.map_fst_zip (by lia)] at hm; exact hm)
          refine ⟨v, hw.1, fun hk => ?_, fun hk => ?_⟩
          · unfold bindL; rw [bindL_out _ _ _ _ out, if_pos hk, if_pos rfl]
          · unfold bindC; rw [bindC_out _ _ _ _ out, if_neg hk, if_pos rfl]
        · rw [if_neg q] at e
          exact ih ys vs _ _ hn hw.2 hl' x y e
section
variable {b : Bas} {γ : Gh} {σ : Store} {s : Shared}
theorem Post.ext {h' : Heap} (t : Nat) (S : St b γ σ s) (keep : ∀ a o, s.heap.get? a = some o → h'.get? a = some o) (hsz : s.heap.objs.size ≤ h'.objs.size) : Post b γ σ s γ σ { s with heap := h', toks := t } :=
  Post.same (F' := γ.F) S keep hsz (fun _ h => h) (fun _ h => .inl h) fun a h => Nat.lt_of_lt_of_le (S.lt a h) hsz
end
noncomputable def flv : Fl → W
  | .rt y => y
  | _ => .v .none
theorem vals0 {P : List Value → Prop} (h : P []) : ∀ vs : List Value, vs.length = 0 → P vs := fun vs e => by
  cases vs with
  | nil => exact h
  | cons => cases e
theorem valsS {k : Nat} {P : List Value → Prop} (h : ∀ a, ∀ vs : List Value, vs.length = k → P (a :: vs)) : ∀ vs : List Value, vs.length = k + 1 → P vs := fun vs e => by
  cases vs with
  | nil => cases e
  | cons a r => exact h a r (Nat.succ.inj e)
noncomputable def VP : Nat → (List Value → Prop) → Prop
  | 0, P => P []
  | k + 1, P => ∀ a, VP k fun r => P (a :: r)
theorem valsL {k : Nat} : ∀ {P : List Value → Prop}, VP k P → ∀ vs : List Value, vs.length = k → P vs := by
  induction k with
  | zero => exact fun h => vals0 h
  | succ k ih => exact fun h => valsS fun a => ih (h a)
theorem Room.deeper {n : Nat} {A : Around} (R : Room (n + 1) A) (env : Env) : Room n (A.deeper env) := by
  refine ex0_3 (R) fun a b c => ?_
  refine ⟨?_, ?_, c⟩
  · show A.depth + 1 + 4 * n ≤ 900; lia
  · show A.units + 3 + 40 * n ≤ 9000; lia
theorem Room.lt {n : Nat} {A : Around} (R : Room n A) : A.depth < recursionLimit := by
  have := R.1
  show A.depth < 1000
  lia
section
variable {b : Bas} {n : Nat} {σ : Store}
structure PostL (b : Bas) (L : Addr) (γ : Gh) (σ : Store) (s : Shared) (γ' : Gh) (σ' : Store) (s' : Shared) : Prop where
  st : St b γ' σ' s'
  F : ∀ a, γ.F a → γ'.F a
  al : AlKeep γ γ' σ σ'
  newF : ∀ a, γ'.F a → γ.F a ∨ L ≤ a
  newT : ∀ a, Tr γ' σ' a → Tr γ σ a ∨ L ≤ a
  keep : ∀ a o, s.heap.get? a = some o → ¬ Tr γ σ a → a < L → s'.heap.get? a = some o
  size : s.heap.objs.size ≤ s'.heap.objs.size
theorem PostO.toL {sc : Scope} {env : Env} {γ γ' : Gh} {σ σ' : Store} {s s' : Shared} (P : PostF b sc env γ σ s γ' σ' s') (hL : env.locals ≤ s.heap.objs.size) (hc : ∀ x c, sc.names.lookup x = some .cell → env.cells.lookup x = some c → env.locals < c) : PostL b env.locals γ σ s γ' σ' s' :=
  ⟨P.st, P.grow.F, P.grow.al, fun a h => (P.grow.newF a h).imp id fun q => Nat.le_trans hL q, fun a h => (P.grow.newT a h).imp id fun q => Nat.le_trans hL q, fun a o e n lt => P.keep a o e n fun q => by
    rcases q with rfl | ⟨x, hx, hy⟩
    · exact absurd lt (Nat.lt_irrefl _)
    · exact absurd (hc x a hx hy) (Nat.not_lt.mpr (Nat.le_of_lt lt)), P.size⟩
inductive RL (b : Bas) (L : Addr) (γ : Gh) (σ : Store) (s : Shared) (Q : W → Store → Prop) (f : Flow) (s' : Shared) : Prop
  | mk (fl : Fl) (σ' : Store) (γ' : Gh) (q : Q (flv fl) σ') (P : PostL b L γ σ s γ' σ' s') (e : FlR γ' σ' s'.heap fl f) : RL b L γ σ s Q f s'
theorem RL.e {b : Bas} {L : Addr} {γ : Gh} {σ : Store} {s : Shared} {Q : W → Store → Prop} {f : Flow} {s' : Shared} {T : Prop} (h : RL b L γ σ s Q f s') (k : ∀ fl σ' γ', Q (flv fl) σ' → PostL b L γ σ s γ' σ' s' → FlR γ' σ' s'.heap fl f → T) : T := by cases h with | mk fl σ' γ' q P e => exact k fl σ' γ' q P e
theorem FN.coreD {f : Addr} {ys : List W} {Q : W → Store → Prop} {name qual : Str} {params : Arguments} {body : List Stmt} {scope : Scope} {dV kV doc pm cdv ct oc : Value} {an od : Option Addr} {osl : Array (Option Value)}
    (ho : (MineH.KF b.w.params).lookup f = some ⟨oc, od, .func (fnOf name qual params body scope dV kV doc pm an cdv ct), osl⟩)
    (hcd : codeIn (MineH.KF b.w.params) cdv qual = true)
    (hb : ∀ (vs : List Value) (s : Shared), vs.length = ys.length → (∀ a o, b.h₀.get? a = some o → s.heap.get? a = some o) → BindsTo s (fnOf name qual params body scope dV kV doc pm an cdv ct) ⟨vs, []⟩ ((params.args.map (·.arg)).zip vs))
    (hn : (params.args.map (·.arg)).Nodup) (hl : (params.args.map (·.arg)).length = ys.length)
    (hk : ((params.args.map (·.arg)).all fun x => scope.names.lookup x == some .local || scope.names.lookup x == some .cell) = true)
    (hfr : (scope.names.all fun p => p.2 != .free) = true) (hnd : ((cellsFrom 0 scope.names []).map (·.1)).Nodup)
    (h : ∀ A s₁ env γ, Room n A → St b γ σ s₁ → FrR b scope γ σ ((params.args.map (·.arg)).zip ys) env s₁.heap → env.locals ≤ s₁.heap.objs.size → (∀ x c, env.cells.lookup x = some c → env.locals < c) →
      wpAny b.M A (execs body env) (RL b env.locals γ σ s₁ Q) NoE s₁)
    (hsp : ((params.args.map (·.arg)).zip ys).lookup ("#" : Str) = none := by rfl) (hcf : cdf scope = none ∨ cdv = .ref tabC := by first | exact .inl rfl | exact .inr rfl) (hco : scope.isCoroutine = false := by rfl) (hgen : scope.isGenerator = false := by rfl) (hkd : scope.kind = .function := by rfl) : FN b (n + 1) (.ref f) ys σ Q := by
  intro A s γ vs R S rs
  have hv : vs.length = ys.length := rs.length
  have X := b.X.keeps S.base
  have kinds : ((params.args.map (·.arg)).zip vs).all (fun y => scope.names.lookup y.1 == some .local || scope.names.lookup y.1 == some .cell) = true := by
    rw [List.all_eq_true] at hk ⊢
    intro x hx
    exact hk x.1 (by obtain ⟨a, v⟩ := x; exact (List.of_mem_zip hx).1)
  refine codeAny_call_function (fd := fnOf name qual params body scope dV kV doc pm an cdv ct) (body := body) R.lt (X _ _ ho) rfl hco hgen rfl (codeRec_of X hcd) (hb vs s hv S.base _ _ _ _ ?_)
  show wpAny _ _ (newFunctionEnv scope _ [] _ _ _ _ _ _) _ _ _
  refine wpAny_newFunctionEnv_cells hkd (kindsX kinds _) fun env' he s₁ I => ?_
  subst he
  refine ⟨(b.nolimit.keeps S.base).keeps I.toInCall.keep, codeAny_func ?_⟩
  let env := callEnvC (fnOf name qual params body scope dV kV doc pm an cdv ct) s.heap.objs.size f
  have hL : env.locals = s.heap.objs.size := rfl
  refine ex2_1 (I.toInCall.same) fun h₁ tk zz1 => ?_
  subst zz1
  have lt₁ : s.heap.objs.size < h₁.objs.size := I.toInCall.ns.lt
  have P₁ : Post b γ σ s γ σ { s with heap := h₁, toks := tk } := Post.ext tk S I.toInCall.keep (Nat.le_of_lt lt₁)
  have big : ∀ a, s.heap.objs.size ≤ a → ¬ γ.F a ∧ ¬ Tr γ σ a := fun a ha => ⟨fun q => absurd (S.lt a q) (Nat.not_lt.mpr ha), fun zy78 => ex3_2 zy78 fun k p o hk e => by
    have z := S.sep k p o hk
    rcases e with rfl | rfl
    · exact absurd z.2.2.1 (Nat.not_lt.mpr ha)
    · exact absurd z.2.2.2 (Nat.not_lt.mpr ha)⟩
  have inj : ∀ x y c, env.cells.lookup x = some c → env.cells.lookup y = some c → x = y := fun x y c h1 h2 => name_of_addr I.apart (mem_of_lookup h1) (mem_of_lookup h2)
  have F₁ : FrR b scope γ σ ((params.args.map (·.arg)).zip ys) env h₁ := by
    refine ⟨rfl, hkd, rfl, rfl, big _ (Nat.le_of_eq hL.symm), ⟨_, I.toInCall.ns, fun x y hx hxk => ?_⟩, fun x hx => ?_, inj, fun _ x c _ hc => (big c (Nat.le_trans (Nat.le_of_eq hL.symm) (Nat.le_of_lt (I.above x c (mem_of_lookup hc))))).1, fun c hc => ?_, fun hh => absurd hsp hh⟩
    · obtain ⟨v, r, e, _⟩ := bind_at env.kindOf ys vs (fun _ => none) (fun _ => none) hn rs hl x y hx
      exact ⟨v, e hxk, r.post S P₁⟩
    · have hx' : scope.names.lookup x = some .cell := by
        rcases hx with hx | hx
        · exact hx
        · have := List.all_eq_true.mp hfr (x, .free) (mem_of_lookup hx)
          cases this
      refine ex1_1 (Option.isSome_iff_exists.mp (cellsFrom_some scope.names (s.heap.objs.size + 1) [] (.inl hx'))) fun c hc => ?_
      refine ex1_2 (I.cell x c hc) fun o ho hd => ?_
      have ab := I.above x c (mem_of_lookup hc)
      have bg := big c (Nat.le_trans (Nat.le_of_eq hL.symm) (Nat.le_of_lt ab))
      refine ⟨c, o, _, hc, ho, hd, fun y hy => ?_, bg.2, Nat.ne_of_gt ab⟩
      obtain ⟨v, r, _, e⟩ := bind_at env.kindOf ys vs (fun _ => none) (fun _ => none) hn rs hl x y hy
      refine ⟨v, e ?_, r.post S P₁⟩
      show scope.names.lookup x ≠ some .local
      rw [hx']; exact fun q => nomatch q
    · rcases hcf with q | q
      · rw [q] at hc; cases hc
      · have : c = tabC := by unfold cdf at hc; split at hc <;> cases hc; rfl
        subst this; exact q
  refine wpAny_mono (h (A.deeper env) _ env γ (R.deeper env) P₁.st F₁ (Nat.le_of_lt (by show s.heap.objs.size < h₁.objs.size; exact lt₁)) (fun x c hc => I.above x c (mem_of_lookup hc))) (fun f s' zy79 => zy79.e fun fl σ' γ' q P e => ?_) fun _ _ z => z.elim
  have PP : Post b γ σ s γ' σ' s' := ⟨P.st, ⟨P.F, P.al, P.newF, P.newT⟩, fun a o e n => P.keep a o (I.toInCall.keep a o e) n (Heap.lt_size e), Nat.le_trans (Nat.le_of_lt lt₁) P.size⟩
  cases fl with
  | rt y => cases f with
    | ret v => exact ⟨y, σ', γ', q, PP, e⟩
    | _ => cases e
  | nx => cases f with
    | next => exact ⟨_, σ', γ', q, PP, .none⟩
    | _ => cases e
  | br => cases f with
    | brk => exact ⟨_, σ', γ', q, PP, .none⟩
    | _ => cases e
  | ct => cases f with
    | cont => exact ⟨_, σ', γ', q, PP, .none⟩
    | _ => cases e
theorem FN.core {f : Addr} {ys : List W} {Q : W → Store → Prop} {name qual : Str} {params : Arguments} {body : List Stmt} {scope : Scope} {dV kV doc pm cdv ct oc : Value} {an od : Option Addr} {osl : Array (Option Value)}
    (ho : (MineH.KF b.w.params).lookup f = some ⟨oc, od, .func (fnOf name qual params body scope dV kV doc pm an cdv ct), osl⟩)
    (hcd : codeIn (MineH.KF b.w.params) cdv qual = true)
    (hb : ∀ vs : List Value, vs.length = ys.length → bindArgs (fnOf name qual params body scope dV kV doc pm an cdv ct) ⟨vs, []⟩ = pure ((params.args.map (·.arg)).zip vs))
    (hn : (params.args.map (·.arg)).Nodup) (hl : (params.args.map (·.arg)).length = ys.length)
    (hk : ((params.args.map (·.arg)).all fun x => scope.names.lookup x == some .local || scope.names.lookup x == some .cell) = true)
    (hfr : (scope.names.all fun p => p.2 != .free) = true) (hnd : ((cellsFrom 0 scope.names []).map (·.1)).Nodup)
    (h : ∀ A s₁ env γ, Room n A → St b γ σ s₁ → FrR b scope γ σ ((params.args.map (·.arg)).zip ys) env s₁.heap → env.locals ≤ s₁.heap.objs.size → (∀ x c, env.cells.lookup x = some c → env.locals < c) →
      wpAny b.M A (execs body env) (RL b env.locals γ σ s₁ Q) NoE s₁)
    (hsp : ((params.args.map (·.arg)).zip ys).lookup ("#" : Str) = none := by rfl) (hcf : cdf scope = none ∨ cdv = .ref tabC := by first | exact .inl rfl | exact .inr rfl) (hco : scope.isCoroutine = false := by rfl) (hgen : scope.isGenerator = false := by rfl) (hkd : scope.kind = .function := by rfl) : FN b (n + 1) (.ref f) ys σ Q :=
  FN.coreD ho hcd (fun vs _ hv _ => BindsTo.of_eq (hb vs hv)) hn hl hk hfr hnd h hsp hcf hco hgen hkd
abbrev Kfn (Q : W → Store → Prop) : Fl → Loc → Store → Prop := fun fl _ σ => Q (flv fl) σ
theorem FN.intro {f : Addr} {ys : List W} {Q : W → Store → Prop} {name qual : Str} {params : Arguments} {body : List Stmt} {scope : Scope} {dV kV doc pm cdv ct oc : Value} {an od : Option Addr} {osl : Array (Option Value)}
    (ho : (MineH.KF b.w.params).lookup f = some ⟨oc, od, .func (fnOf name qual params body scope dV kV doc pm an cdv ct), osl⟩)
    (hcd : codeIn (MineH.KF b.w.params) cdv qual = true)
    (hb : ∀ vs : List Value, vs.length = ys.length → bindArgs (fnOf name qual params body scope dV kV doc pm an cdv ct) ⟨vs, []⟩ = pure ((params.args.map (·.arg)).zip vs))
    (hn : (params.args.map (·.arg)).Nodup) (hl : (params.args.map (·.arg)).length = ys.length)
    (hk : ((params.args.map (·.arg)).all fun x => scope.names.lookup x == some .local || scope.names.lookup x == some .cell) = true)
    (hfr : (scope.names.all fun p => p.2 != .free) = true) (hnd : ((cellsFrom 0 scope.names []).map (·.1)).Nodup)
    (h : ESs b n scope body ((params.args.map (·.arg)).zip ys) σ (Kfn Q))
    (hsp : ((params.args.map (·.arg)).zip ys).lookup ("#" : Str) = none := by rfl) (hcf : cdf scope = none ∨ cdv = .ref tabC := by first | exact .inl rfl | exact .inr rfl) (hco : scope.isCoroutine = false := by rfl) (hgen : scope.isGenerator = false := by rfl) (hkd : scope.kind = .function := by rfl) : FN b (n + 1) (.ref f) ys σ Q := by
  refine FN.core ho hcd hb hn hl hk hfr hnd (fun A s₁ env γ R S F hL hc => ?_) hsp hcf hco hgen hkd
  exact wpAny_mono (h A s₁ env γ R S F) (fun f s' zy15 => zy15.e fun fl ρ' σ' γ' q P _ e => ⟨fl, σ', γ', q, P.toL hL fun x c _ => hc x c, e⟩) fun _ _ z => z
theorem FN.introN {f : Addr} {ys : List W} {Q : W → Store → Prop} {name qual : Str} {params params' : Arguments} {body body' : List Stmt} {scope scope' : Scope} {dV kV doc pm cdv ct oc : Value} {an od : Option Addr} {osl : Array (Option Value)}
    (ho : (MineH.KF b.w.params).lookup f = some ⟨oc, od, .func (fnOf name qual params' body' scope' dV kV doc pm an cdv ct), osl⟩)
    (eP : params' = params) (eB : body' = body) (eS : scope' = scope) (hcd : codeIn (MineH.KF b.w.params) cdv qual = true)
    (hb : ∀ vs : List Value, vs.length = ys.length → bindArgs (fnOf name qual params body scope dV kV doc pm an cdv ct) ⟨vs, []⟩ = pure ((params.args.map (·.arg)).zip vs))
    (hn : (params.args.map (·.arg)).Nodup) (hl : (params.args.map (·.arg)).length = ys.length)
    (hk : ((params.args.map (·.arg)).all fun x => scope.names.lookup x == some .local || scope.names.lookup x == some .cell) = true)
    (hfr : (scope.names.all fun p => p.2 != .free) = true) (hnd : ((cellsFrom 0 scope.names []).map (·.1)).Nodup)
    (h : ESs b n scope body ((params.args.map (·.arg)).zip ys) σ (Kfn Q))
    (hsp : ((params.args.map (·.arg)).zip ys).lookup ("#" : Str) = none := by rfl) (hcf : cdf scope = none ∨ cdv = .ref tabC := by first | exact .inl rfl | exact .inr rfl) (hco : scope.isCoroutine = false := by rfl) (hgen : scope.isGenerator = false := by rfl) (hkd : scope.kind = .function := by rfl) : FN b (n + 1) (.ref f) ys σ Q := by
  subst eP; subst eB; subst eS
  exact FN.intro ho hcd hb hn hl hk hfr hnd h hsp hcf hco hgen hkd
end
end Mine
end
section
open PySem PySem.W PyProof.Rows PySem.Calls
namespace Mine
section
variable {b : Bas} {n : Nat} {σ : Store} {Q : W → Store → Prop}
theorem Op2.ii {f : Value → Value → Sem Value} {x y : Int} (k : ∀ A s γ t u, St b γ σ s → wpAny b.M A (f (.int x t) (.int y u)) (RV b γ σ s Q) NoE s) : Op2 b n f (.v (.int x)) (.v (.int y)) σ Q := fun A s γ _ _ _ S r₁ r₂ =>
  WR.c_int r₁ fun t => WR.c_int r₂ fun u => k A s γ t u S
theorem Op2.ss {f : Value → Value → Sem Value} {x y : Str} (k : ∀ A s γ t u, St b γ σ s → wpAny b.M A (f (.str x t) (.str y u)) (RV b γ σ s Q) NoE s) : Op2 b n f (.v (.str x)) (.v (.str y)) σ Q := fun A s γ _ _ _ S r₁ r₂ =>
  WR.c_str r₁ fun t => WR.c_str r₂ fun u => k A s γ t u S
theorem Op2.bb {f : Value → Value → Sem Value} {x y : Bool} (k : ∀ A s γ, St b γ σ s → wpAny b.M A (f (.bool x) (.bool y)) (RV b γ σ s Q) NoE s) : Op2 b n f (.v (.bool x)) (.v (.bool y)) σ Q := fun A s γ _ _ _ S r₁ r₂ =>
  WR.c_bool r₁ (WR.c_bool r₂ (k A s γ S))
theorem Op2.addI {x : Int} {y : Int} (q : Q (.v (.int (x + y))) σ) : Op2 b n (binaryOp .Add) (.v (.int x)) (.v (.int y)) σ Q :=
  Op2.ii fun _ _ _ _ _ S => add_int (RV.now S q _ (.int _ _))
theorem Op2.subI {x : Int} {y : Int} (q : Q (.v (.int (x - y))) σ) : Op2 b n (binaryOp .Sub) (.v (.int x)) (.v (.int y)) σ Q :=
  Op2.ii fun _ _ _ _ _ S => sub_int (RV.now S q _ (.int _ _))
theorem Op2.mulI {x : Int} {y : Int} (hm : IntMulOk x y) (q : Q (.v (.int (x * y))) σ) : Op2 b n (binaryOp .Mult) (.v (.int x)) (.v (.int y)) σ Q :=
  Op2.ii fun _ _ _ _ _ S => mul_int (RV.now S q _ (.int _ _)) (hm)
theorem Op2.modI {x : Int} {y : Int} (hy : y ≠ 0) (q : Q (.v (.int (x.fmod y))) σ) : Op2 b n (binaryOp .Mod) (.v (.int x)) (.v (.int y)) σ Q :=
  Op2.ii fun _ _ _ _ _ S => mod_int hy (RV.now S q _ (.int _ _))
theorem Op2.divI {x : Int} {y : Int} (hy : y ≠ 0) (hp : Builtin.divisionGoesByPylong x y = false) (q : Q (.v (.int (x.fdiv y))) σ) : Op2 b n (binaryOp .FloorDiv) (.v (.int x)) (.v (.int y)) σ Q :=
  Op2.ii fun _ _ _ _ _ S => floordiv_int hy (RV.now S q _ (.int _ _)) (.inl hp)
theorem Op2.shlI {x : Int} {y : Int} (h0 : 0 ≤ y) (h1 : y ≤ 1000000) (h2 : x.natAbs < 2 ^ 64) (q : Q (.v (.int (x * 2 ^ y.toNat))) σ) : Op2 b n (binaryOp .LShift) (.v (.int x)) (.v (.int y)) σ Q :=
  Op2.ii fun _ _ _ _ _ S => lshift_int_small h0 h1 h2 (RV.now S q _ (.int _ _))
theorem Op2.iaddI {x : Int} {y : Int} (q : Q (.v (.int (x + y))) σ) : Op2 b n (inplaceOp .Add) (.v (.int x)) (.v (.int y)) σ Q :=
  Op2.ii fun _ _ _ _ _ S => iadd_int (RV.now S q _ (.int _ _))
theorem Op2.eqI {x : Int} {y : Int} (q : Q (.v (.bool (x == y))) σ) : Op2 b n (compareOp .Eq) (.v (.int x)) (.v (.int y)) σ Q :=
  Op2.ii fun _ _ _ _ _ S => eq_int (RV.same S q (.bool _))
theorem Op2.neI {x : Int} {y : Int} (q : Q (.v (.bool (x != y))) σ) : Op2 b n (compareOp .NotEq) (.v (.int x)) (.v (.int y)) σ Q :=
  Op2.ii fun _ _ _ _ _ S => ne_int (RV.same S q (.bool _))
theorem Op2.ltI {x : Int} {y : Int} (q : Q (.v (.bool (decide (x < y)))) σ) : Op2 b n (compareOp .Lt) (.v (.int x)) (.v (.int y)) σ Q :=
  Op2.ii fun _ _ _ _ _ S => lt_int (RV.same S q (.bool _))
theorem Op2.leI {x : Int} {y : Int} (q : Q (.v (.bool (decide (x ≤ y)))) σ) : Op2 b n (compareOp .LtE) (.v (.int x)) (.v (.int y)) σ Q :=
  Op2.ii fun _ _ _ _ _ S => le_int (RV.same S q (.bool _))
theorem Op2.gtI {x : Int} {y : Int} (q : Q (.v (.bool (decide (y < x)))) σ) : Op2 b n (compareOp .Gt) (.v (.int x)) (.v (.int y)) σ Q :=
  Op2.ii fun _ _ _ _ _ S => gt_int (RV.same S q (.bool _))
theorem Op2.geI {x : Int} {y : Int} (q : Q (.v (.bool (decide (y ≤ x)))) σ) : Op2 b n (compareOp .GtE) (.v (.int x)) (.v (.int y)) σ Q :=
  Op2.ii fun _ _ _ _ _ S => ge_int (RV.same S q (.bool _))
theorem Op2.eqS {x : Str} {y : Str} (q : Q (.v (.bool (x == y))) σ) : Op2 b n (compareOp .Eq) (.v (.str x)) (.v (.str y)) σ Q :=
  Op2.ss fun _ _ _ _ _ S => eq_str (RV.same S q (.bool _))
theorem Op2.neS {x : Str} {y : Str} (q : Q (.v (.bool (x != y))) σ) : Op2 b n (compareOp .NotEq) (.v (.str x)) (.v (.str y)) σ Q :=
  Op2.ss fun _ _ _ _ _ S => ne_str (RV.same S q (.bool _))
theorem Op2.eqB {x : Bool} {y : Bool} (q : Q (.v (.bool (x == y))) σ) : Op2 b n (compareOp .Eq) (.v (.bool x)) (.v (.bool y)) σ Q :=
  Op2.bb fun _ _ _ S => eq_bool (RV.same S q (.bool _))
theorem Op2.neB {x : Bool} {y : Bool} (q : Q (.v (.bool (x != y))) σ) : Op2 b n (compareOp .NotEq) (.v (.bool x)) (.v (.bool y)) σ Q :=
  Op2.bb fun _ _ _ S => ne_bool (RV.same S q (.bool _))
theorem Op2.subB {x : Bool} {y : Bool} (q : Q (.v (.int (b2i x - b2i y))) σ) : Op2 b n (binaryOp .Sub) (.v (.bool x)) (.v (.bool y)) σ Q :=
  Op2.bb fun _ _ _ S => sub_bool (RV.now S q _ (.int _ _))
theorem Op1.negI {x : Int} (q : Q (.v (.int (-x))) σ) : Op1 b n (unaryOp .USub) (.v (.int x)) σ Q := by
  intro A s γ v _ S r
  refine WR.c_int r fun _ => ?_
  exact neg_int (RV.now S q _ (.int _ _))
abbrev KnotV (Q : W → Store → Prop) : Bool → Store → Prop := fun t σ => Q (.v (.bool (!t))) σ
theorem Op1.not {x : W} (h : OpT b n x σ (KnotV Q)) : Op1 b n (unaryOp .Not) x σ Q := by
  intro A s γ v R S r
  exact not_value (wpAny_mono (h A s γ v R S r) (fun t s₁ zy16 => zy16.e fun t' σ₁ γ₁ q P e => ⟨_, σ₁, γ₁, q, P, e ▸ .bool _⟩) fun _ _ z => z)
noncomputable def isNone : W → Option Bool
  | .v .none => some true
  | .v (.raw _) => Option.none
  | .unk => Option.none
  | .sem _ => Option.none
  | _ => some false
theorem isNone_at {γ : Gh} {h : Heap} {x : W} {t : Bool} {v : Value} (e : isNone x = some t) (r : WR γ σ h x v) : (v == Value.none) = t := by
  cases x with
  | v x => cases r <;> first | (cases e; rfl) | (cases e)
  | ref k p => cases e; rw [r.1]; rfl
  | meth f k p => cases e; obtain ⟨a, rfl, _⟩ := r; rfl
  | unk => cases e
  | rng lo hi st => cases e; obtain ⟨a, t, u, w, rfl, _⟩ := r; rfl
  | sem P => cases e
theorem Op2.isNone {x : W} {t : Bool} (e : isNone x = some t) (q : Q (.v (.bool t)) σ) : Op2 b n (compareOp .Is) x (.v .none) σ Q := by
  intro A s γ u v _ S r₁ r₂
  refine WR.c_none r₂ ?_
  have := isNone_at e r₁
  exact is_none (by rw [this]; exact RV.same S q (.bool _))
theorem Op2.isNotNone {x : W} {t : Bool} (e : Mine.isNone x = some t) (q : Q (.v (.bool (!t))) σ) : Op2 b n (compareOp .IsNot) x (.v .none) σ Q := by
  intro A s γ u v _ S r₁ r₂
  refine WR.c_none r₂ ?_
  have := isNone_at e r₁
  exact isNot_none (by rw [this]; exact RV.same S q (.bool _))
end
end Mine
end
section
open PySem PySem.W PyProof.Rows PySem.Calls
namespace Mine
theorem runs_size {M : Model} {Γ : Ctx} {p : Pos} {t : Sem Fin} {fs : List Frame} {s s' : Shared} {e : End} (h : Runs M Γ p t fs s e s') : s.heap.objs.size ≤ s'.heap.objs.size := by
  have up : ∀ (h : Heap) a f, (h.update a f).objs.size = h.objs.size := fun h a f => (Heap.SameBut.update h a f).1
  induction h <;> (try simp only [Shared.setGen, Heap.size_push, up] at *) <;> lia
theorem wakes_size {M : Model} {Γ : Ctx} {p : Pos} {g : Nat} {r : Resume} {s s' : Shared} {res : GenResult} (h : Wakes M Γ p g r s res s') : s.heap.objs.size ≤ s'.heap.objs.size := by
  unfold Wakes at h
  split at h
  · exact h.elim
  · split at h
    · refine ex2_4 (h) fun e₁ s₁ hr _ _ zz1 => ?_
      subst zz1
      exact (runs_size hr : (s.setGen g .running).heap.objs.size ≤ s₁.heap.objs.size)
    · rw [h.2]; exact Nat.le_refl _
    · rw [h.2]; exact Nat.le_refl _
  · refine ex2_4 (h) fun e₁ s₁ hr _ _ zz2 => ?_
    subst zz2
    exact (runs_size hr : (s.setGen g .running).heap.objs.size ≤ s₁.heap.objs.size)
  · rw [h.2]; exact Nat.le_refl _
  · rw [h.2]; exact Nat.le_refl _
theorem wp_size {α : Type} (M : Model) (Γ : Ctx) (n : Nat) (t : Sem α) : ∀ (Q : α → Pos → Shared → Prop) (E : Value → Pos → Shared → Prop) (p : Pos) (s : Shared), n ≤ s.heap.objs.size → Sem.wp M Γ t Q E p s →
    Sem.wp M Γ t (fun a p' s' => n ≤ s'.heap.objs.size ∧ Q a p' s') (fun e p' s' => n ≤ s'.heap.objs.size ∧ E e p' s') p s := by
  induction t with
  | pure a => intro Q E p s hn h; exact ⟨hn, h⟩
  | raise e => intro Q E p s hn h; exact ⟨hn, h⟩
  | unsupported _ => intro Q E p s _ h; exact h
  | finish _ => intro Q E p s _ h; exact h
  | rule _ k ih => intro Q E p s hn h; exact ih () Q E p s hn h
  | «at» p' k ih => intro Q E p s hn h; exact ih () Q E p' s hn h
  | load a _ k ih => intro Q E p s hn h; obtain ⟨o, ho, h⟩ := h; exact ⟨o, ho, ih o Q E p s hn h⟩
  | update a _ f k ih => intro Q E p s hn h; exact ⟨h.1, ih () Q E p _ (by show n ≤ (s.heap.update a f).objs.size; rw [(Heap.SameBut.update s.heap a f).1]; exact hn) h.2⟩
  | loadIfAlive a k ih => intro Q E p s hn h; exact ih _ Q E p s hn h
  | point _ k ih => intro Q E p s hn h; exact ih () Q E p s hn h
  | register _ _ => intro Q E p s _ h; exact h
  | alloc o k ih => intro Q E p s hn h; exact ih _ Q E p _ (by show n ≤ (s.heap.push o).objs.size; rw [Heap.size_push]; exact Nat.le_succ_of_le hn) h
  | fresh k ih => intro Q E p s hn h; exact ih _ Q E p { s with toks := s.toks + 1 } hn h
  | ask k ih => intro Q E p s hn h; exact ih _ Q E p s hn h
  | choose src m k ih => intro Q E p s hn h; exact ⟨h.1, ih _ Q E p _ hn h.2⟩
  | os q _ k ih => intro Q E p s hn h; exact ih _ Q E p _ hn h
  | call c hd _ _ k ih => intro Q E p s hn h; obtain ⟨r, s', hr, h⟩ := h; exact ⟨r, s', hr, ih r Q E p s' (Nat.le_trans hn (runs_size hr)) h⟩
  | handled own k ih => intro Q E p s hn h; exact ih _ Q E p s hn h
  | genState g k ih => intro Q E p s hn h; obtain ⟨st, hs, h⟩ := h; exact ⟨st, hs, ih _ Q E p s hn h⟩
  | newGen c k ih => intro Q E p s hn h; exact ih _ Q E p _ hn h
  | resume g r _ k ih => intro Q E p s hn h; obtain ⟨res, s', hw, h⟩ := h; exact ⟨res, s', hw, ih res Q E p s' (Nat.le_trans hn (wakes_size hw)) h⟩
  | yield _ _ _ _ => intro Q E p s _ h; exact h
  | stack k ih => intro Q E p s hn h; exact ih _ Q E p s hn h
  | fork _ _ => intro Q E p s _ h; exact h
  | thread k ih => intro Q E p s hn h; exact ih _ Q E p s hn h
  | await _ _ _ _ _ => intro Q E p s _ h; exact h
theorem with_size {α : Type} {M : Model} {A : Around} {s : Shared} {t : Sem α} {Q : α → Shared → Prop} {E : Value → Shared → Prop}
    (h : wpAny M A t (fun a s' => s.heap.objs.size ≤ s'.heap.objs.size → Q a s') E s) : wpAny M A t Q E s :=
  fun Γ p hΓ => Sem.wp_mono M Γ t (fun _ _ _ x => x.2 x.1) (fun _ _ _ x => x.2) p s (wp_size M Γ _ t _ _ p s (Nat.le_refl _) (h Γ p hΓ))
end Mine
end
section
open PySem PySem.W PyProof.Rows PySem.Calls
namespace Mine
structure Itr (b : Bas) (A : Around) (tg : Expr) (I : Value) (xs : List V) (src : Store → Prop) (own : Addr → Prop) (J : Nat → Gh → Store → Heap → Prop) : Prop where
  frame : ∀ i γ σ s γ' σ' s', St b γ σ s → St b γ' σ' s' → src σ → src σ' → (∀ a, γ.F a → γ'.F a) → AlKeep γ γ' σ σ' → FKeep γ.F s.heap s'.heap →
    (∀ a o, own a → s.heap.get? a = some o → s'.heap.get? a = some o) → J i γ σ s.heap → J i γ' σ' s'.heap
  item : ∀ i x γ σ s (T : Option Value → Shared → Prop), xs[i]? = some x → St b γ σ s → (∀ a, own a → ¬ γ.F a ∧ ¬ Tr γ σ a ∧ a < s.heap.objs.size) → src σ → J i γ σ s.heap →
    (∀ v s' γ', PostO b own γ σ s γ' σ s' → PV γ'.F s'.heap x v → J (i + 1) γ' σ s'.heap → T (some v) s') →
    wpAny b.M A (pyNext I) (fun r s₁ => match r with | none => T none s₁ | some v => wpAny b.M A (letOwnedTupleGo tg I v) (fun _ s₂ => T (some v) s₂) NoE s₁) NoE s
  done : ∀ γ σ s (T : Option Value → Shared → Prop), St b γ σ s → (∀ a, own a → ¬ γ.F a ∧ ¬ Tr γ σ a ∧ a < s.heap.objs.size) → src σ → J xs.length γ σ s.heap →
    (∀ s', PostO b own γ σ s γ σ s' → T none s') →
    wpAny b.M A (pyNext I) (fun r s₁ => match r with | none => T none s₁ | some v => wpAny b.M A (letOwnedTupleGo tg I v) (fun _ s₂ => T (some v) s₂) NoE s₁) NoE s
  self : ∀ i γ σ s (T : Value → Shared → Prop), J i γ σ s.heap → T I s → wpAny b.M A (pyIter I) T NoE s
inductive RI (b : Bas) (A : Around) (tg : Expr) (γ : Gh) (σ : Store) (s : Shared) (Q : List V → (Store → Prop) → Store → Prop) (I : Value) (s' : Shared) : Prop
  | mk (xs : List V) (src : Store → Prop) (σ' : Store) (γ' : Gh) (own : Addr → Prop) (J : Nat → Gh → Store → Heap → Prop) (q : Q xs src σ') (W : Itr b A tg I xs src own J) (P : Post b γ σ s γ' σ' s') (j : J 0 γ' σ' s'.heap) (o : ∀ a, own a → s.heap.objs.size ≤ a ∧ a < s'.heap.objs.size ∧ ¬ γ'.F a ∧ ¬ Tr γ' σ' a) : RI b A tg γ σ s Q I s'
theorem RI.e {b : Bas} {A : Around} {tg : Expr} {γ : Gh} {σ : Store} {s : Shared} {Q : List V → (Store → Prop) → Store → Prop} {I : Value} {s' : Shared} {T : Prop} (h : RI b A tg γ σ s Q I s')
    (k : ∀ xs src σ' γ' own J, Q xs src σ' → Itr b A tg I xs src own J → Post b γ σ s γ' σ' s' → J 0 γ' σ' s'.heap → (∀ a, own a → s.heap.objs.size ≤ a ∧ a < s'.heap.objs.size ∧ ¬ γ'.F a ∧ ¬ Tr γ' σ' a) → T) : T := by cases h with | mk xs src σ' γ' own J q W P j o => exact k xs src σ' γ' own J q W P j o
def EI (b : Bas) (n : Nat) (sc : Scope) (tg : Expr) (e : Expr) (ρ : Loc) (σ : Store) (Q : List V → (Store → Prop) → Store → Prop) : Prop :=
  ∀ A s env γ, Room n A → St b γ σ s → FrR b sc γ σ ρ env s.heap → wpAny b.M A (eval e env) (fun v s₁ => wpAny b.M A (pyIter v) (RI b A tg γ σ s Q) NoE s₁) NoE s
def IT (b : Bas) (n : Nat) (tg : Expr) (y : W) (σ : Store) (Q : List V → (Store → Prop) → Store → Prop) : Prop :=
  ∀ A s γ v, Room n A → St b γ σ s → WR γ σ s.heap y v → wpAny b.M A (pyIter v) (RI b A tg γ σ s Q) NoE s
theorem RI.trans {b : Bas} {A : Around} {tg : Expr} {γ γ₁ : Gh} {σ σ₁ : Store} {s s₁ : Shared} {Q : List V → (Store → Prop) → Store → Prop} (P : Post b γ σ s γ₁ σ₁ s₁) {I : Value} {s' : Shared} (h : RI b A tg γ₁ σ₁ s₁ Q I s') : RI b A tg γ σ s Q I s' := by
  refine (h).e fun xs src σ' γ' own J q W p j o => ?_
  exact ⟨xs, src, σ', γ', own, J, q, W, P.trans p, j, fun a ha => ⟨Nat.le_trans P.size (o a ha).1, (o a ha).2⟩⟩
abbrev Kit (b : Bas) (n : Nat) (tg : Expr) (Q : List V → (Store → Prop) → Store → Prop) : W → Store → Prop := fun y σ => IT b n tg y σ Q
theorem EI.of {b : Bas} {n : Nat} {sc : Scope} {tg e : Expr} {ρ : Loc} {σ : Store} {Q : List V → (Store → Prop) → Store → Prop} (h : EE b n sc e ρ σ (Kit b n tg Q)) : EI b n sc tg e ρ σ Q := by
  intro A s env γ R S F
  exact h.go R S F fun y σ₁ γ₁ v s₁ h₁ P₁ r₁ => wpAny_mono (h₁ A s₁ γ₁ v R P₁.st r₁) (fun _ _ z => z.trans P₁) fun _ _ z => z
noncomputable def FB (b : Bas) (n : Nat) (sc : Scope) (tg : Expr) (body : List Stmt) (src : Store → Prop) (Q : Fl → Loc → Store → Prop) : List V → Loc → Store → Prop
  | [], ρ, σ => src σ ∧ Q .nx ρ σ
  | x :: r, ρ, σ => src σ ∧ AS b n sc tg (.v x) ρ σ fun ρ₁ σ₁ => ESs b n sc body ρ₁ σ₁ fun fl ρ₂ σ₂ => match fl with
    | .nx => FB b n sc tg body src Q r ρ₂ σ₂
    | .ct => FB b n sc tg body src Q r ρ₂ σ₂
    | .br => Q .nx ρ₂ σ₂
    | .rt y => Q (.rt y) ρ₂ σ₂
theorem FrR.postO {b : Bas} {sc : Scope} {γ γ' : Gh} {σ σ' : Store} {ρ : Loc} {env : Env} {s s' : Shared} {own : Addr → Prop} (S : St b γ σ s) (P : PostO b own γ σ s γ' σ' s') (hf : ∀ a, own a → ¬ γ.F a)
    (R : FrR b sc γ σ ρ env s.heap) (h1 : ¬ own env.locals) (h2 : ∀ x c, (sc.names.lookup x = some .cell ∨ sc.names.lookup x = some .free) → env.cells.lookup x = some c → ¬ own c) : FrR b sc γ' σ' ρ env s'.heap := by
  have nf : ∀ a, a < s.heap.objs.size → ¬ γ.F a → ¬ γ'.F a := fun a hl hn h => (P.grow.newF a h).elim hn fun q => absurd hl (Nat.not_lt.mpr q)
  have nt : ∀ a, a < s.heap.objs.size → ¬ Tr γ σ a → ¬ Tr γ' σ' a := fun a hl hn h => (P.grow.newT a h).elim hn fun q => absurd hl (Nat.not_lt.mpr q)
  have fk := P.fkeepO S hf
  refine ex1_2 (R.loc) fun m hm hl => ?_
  refine ⟨R.scope, R.kind, R.glob, R.bltn, ⟨nf _ hm.lt R.own.1, nt _ hm.lt R.own.2⟩, ⟨m, ?_, fun x y h1 h2 => ?_⟩, fun x hx => ?_, R.inj, fun h x c hx hc => ?_, R.code, fun h x c hx hc => P.grow.F c (R.fz h x c hx hc)⟩
  · refine ex3_4 (hm) fun o es ep ho hd hk hf => ?_
    exact ⟨o, es, ep, P.keep _ _ ho R.own.2 (fun q => absurd q h1), hd, hk, hf⟩
  · refine ex1_2 (hl x y h1 h2) fun v h3 h4 => ?_
    exact ⟨v, h3, h4.mono P.grow.F fk P.grow.al⟩
  · refine (R.cel x hx).e fun c o vo e1 e2 e3 e4 e6 e7 => ?_
    have hlt := Heap.lt_size e2
    refine ⟨c, o, vo, e1, P.keep _ _ e2 e6 (fun q => absurd q (h2 x c hx e1)), e3, fun y hy => ?_, nt _ hlt e6, e7⟩
    refine ex1_2 (e4 y hy) fun v e z => ?_
    exact ⟨v, e, z.mono P.grow.F fk P.grow.al⟩
  · refine (R.cel x (.inl hx)).e fun c' o vo h1 h2 _ _ _ _ => ?_
    rw [hc] at h1; cases h1
    exact nf _ (Heap.lt_size h2) (R.wr h x c hx hc)
section
variable {b : Bas} {n : Nat} {sc : Scope} {ρ : Loc} {σ : Store}
theorem ES.while {t : Expr} {body : List Stmt} {pos : Pos} {Q : Fl → Loc → Store → Prop} (J : Nat → Loc → Store → Prop) (m : Nat) (h0 : J m ρ σ)
    (h : ∀ m ρ σ, J m ρ σ → ET b n sc t ρ σ fun c σ₁ => cond c (ESs b n sc body ρ σ₁ fun fl ρ₂ σ₂ => match fl with
      | .nx => ∃ m', m' < m ∧ J m' ρ₂ σ₂
      | .ct => ∃ m', m' < m ∧ J m' ρ₂ σ₂
      | .br => Q .nx ρ₂ σ₂
      | .rt y => Q (.rt y) ρ₂ σ₂) (Q .nx ρ σ₁)) : ES b n sc (.While t body [] pos) ρ σ Q := by
  intro A s env γ R S F
  refine wpAny_While ?_
  refine codeAny_mono (R := fun r s' => match r with | .ok f => RF b sc env γ σ s Q f s' | .error _ => False) ?_ (fun r s' z => by cases r with | ok f => exact z | error e => exact z.elim)
  refine codeAny_whileLoop (fun k s' => ∃ ρ₁ σ₁ γ₁, J k ρ₁ σ₁ ∧ PostF b sc env γ σ s γ₁ σ₁ s' ∧ FrR b sc γ₁ σ₁ ρ₁ env s'.heap) ?_ m ⟨ρ, σ, γ, h0, (Post.refl S).toF, F⟩
  rintro k s₁ ⟨ρ₁, σ₁, γ₁, hJ, P₁, F₁⟩
  refine wpAny_mono ((h k ρ₁ σ₁ hJ).go R P₁.st F₁ (T := fun c s₂ => if c = true then wpAny b.M A (execs body env) (fun f s₃ => match f with
            | .next | .cont => ∃ m, m < k ∧ ∃ ρ₁ σ₁ γ₁, J m ρ₁ σ₁ ∧ PostF b sc env γ σ s γ₁ σ₁ s₃ ∧ FrR b sc γ₁ σ₁ ρ₁ env s₃.heap
            | .brk => RF b sc env γ σ s Q .next s₃
            | .ret v => RF b sc env γ σ s Q (.ret v) s₃) NoE s₂
        else RF b sc env γ σ s Q .next s₂) fun c σ₂ γ₂ s₂ h₂ P₂ => ?_) (fun c s₂ h₂ => ?_) fun _ _ z => z.elim
  · have F₂ := F₁.post P₁.st P₂
    have P₁₂ : PostF b sc env γ σ s γ₂ σ₂ s₂ := P₁.trans P₂.toF
    cases c with
    | false => exact ⟨.nx, ρ₁, σ₂, γ₂, h₂, P₁₂, F₂, trivial⟩
    | true =>
      refine wpAny_mono (h₂ A s₂ env γ₂ R P₂.st F₂) (fun f s₃ zy17 => zy17.e fun fl ρ₃ σ₃ γ₃ h₃ P₃ F₃ e => ?_) fun _ _ z => z
      have P := P₁₂.trans P₃
      cases fl with
      | nx => cases f with
        | next => obtain ⟨m', hm, hJ'⟩ := h₃; exact ⟨m', hm, ρ₃, σ₃, γ₃, hJ', P, F₃⟩
        | _ => cases e
      | ct => cases f with
        | cont => obtain ⟨m', hm, hJ'⟩ := h₃; exact ⟨m', hm, ρ₃, σ₃, γ₃, hJ', P, F₃⟩
        | _ => cases e
      | br => cases f with
        | brk => exact ⟨.nx, ρ₃, σ₃, γ₃, h₃, P, F₃, trivial⟩
        | _ => cases e
      | rt y => cases f with
        | ret v => exact ⟨.rt y, ρ₃, σ₃, γ₃, h₃, P, F₃, e⟩
        | _ => cases e
  · cases c with
    | false => exact wpAny_pure h₂
    | true => exact wpAny_mono h₂ (fun f s₃ z => by cases f <;> exact z) fun _ _ z => z.elim
abbrev Kfor (b : Bas) (n : Nat) (sc : Scope) (tg : Expr) (body : List Stmt) (ρ : Loc) (Q : Fl → Loc → Store → Prop) : List V → (Store → Prop) → Store → Prop := fun xs src σ => FB b n sc tg body src Q xs ρ σ
theorem ES.for {tg iter : Expr} {body : List Stmt} {pos : Pos} {Q : Fl → Loc → Store → Prop} (h : EI b n sc tg iter ρ σ (Kfor b n sc tg body ρ Q))
    (hf : ∀ env x, foldedSetIterable iter env x = pure x := by intros; rfl) : ES b n sc (.For tg iter body [] pos) ρ σ Q := by
  intro A s env γ R S F
  show wpAny b.M A (do
    standAt pos
    let x ← foldedSetIterable iter env (← eval iter env)
    standAt iter.pos
    runOwn (.forLoop tg (← holding [x] (pyIter x)) body [] env) env) _ _ s
  refine wpAny_bind (wpAny_standAt (wpAny_bind (wpAny_mono (h A s env γ R S F) (fun v s₁ h₁ => ?_) fun _ _ z => z)))
  rw [hf]
  refine wpAny_bind (wpAny_pure (wpAny_bind (wpAny_standAt (wpAny_bind (wpAny_holding (wpAny_mono h₁ (fun I s₂ zy18 => zy18.e fun xs src σ₁ γ₂ own J hFB W P₂ hJ0 hown => ?_) fun _ _ z => z))))))
  clear h₁
  refine wpAny_runOwn ?_
  have P₀₂ : PostF b sc env γ σ s γ₂ σ₁ s₂ := P₂.toF
  have F₂ := F.post S P₂
  have locLt : env.locals < s.heap.objs.size := by obtain ⟨m, hm, _⟩ := F.loc; exact hm.lt
  have celLt : ∀ x c, sc.names.lookup x = some .cell ∨ sc.names.lookup x = some .free → env.cells.lookup x = some c → c < s.heap.objs.size := fun x c hx hc => by
    refine (F.cel x hx).e fun c' o vo e1 e2 _ _ _ _ => ?_
    rw [hc] at e1; cases e1
    exact Heap.lt_size e2
  refine codeAny_mono (R := fun r s' => match r with | .ok f => RF b sc env γ σ s Q f s' | .error _ => False) ?_ (fun r s' z => by cases r with | ok f => exact z | error e => exact z.elim)
  have celLt' := celLt
  let ow : Addr → Prop := fun a => Own sc env a ∨ own a
  let IV : Nat → Shared → Prop := fun k s' => ∃ j ρ₃ σ₃ γ₃, k + j = xs.length ∧ FB b n sc tg body src Q (xs.drop j) ρ₃ σ₃ ∧ PostO b ow γ σ s γ₃ σ₃ s' ∧ FrR b sc γ₃ σ₃ ρ₃ env s'.heap ∧ J j γ₃ σ₃ s'.heap ∧
    s₂.heap.objs.size ≤ s'.heap.objs.size ∧ ∀ a, own a → ¬ γ₃.F a ∧ ¬ Tr γ₃ σ₃ a
  have toF : ∀ {γ₃ σ₃ s'}, PostO b ow γ σ s γ₃ σ₃ s' → PostF b sc env γ σ s γ₃ σ₃ s' := fun P => ⟨P.st, P.grow, fun a o e n no => P.keep a o e n fun q => q.elim no fun q => absurd (Heap.lt_size e) (Nat.not_lt.mpr (hown a q).1), P.size⟩
  have nOwn : ∀ a, own a → ¬ Own sc env a := fun a ha q => by
    have := (hown a ha).1
    rcases q with rfl | ⟨x, hx, hc⟩
    · exact absurd locLt (Nat.not_lt.mpr this)
    · exact absurd (celLt x a (.inl hx) hc) (Nat.not_lt.mpr this)
  have nLoc : ¬ own env.locals := fun q => absurd locLt (Nat.not_lt.mpr (hown _ q).1)
  have nCel : ∀ x c, (sc.names.lookup x = some .cell ∨ sc.names.lookup x = some .free) → env.cells.lookup x = some c → ¬ own c := fun x c hx hc q => absurd (celLt x c hx hc) (Nat.not_lt.mpr (hown _ q).1)
  have nT : ∀ a, own a → ¬ Tr γ₂ σ₁ a := fun a ha => (hown a ha).2.2.2
  show codeAny b.M A _ _ s₂
  refine codeAny_forLoop_any IV ?_ xs.length ⟨0, ρ, σ₁, γ₂, rfl, hFB, P₀₂.mono fun _ => .inl, F₂, hJ0, Nat.le_refl _, fun a ha => ⟨(hown a ha).2.2.1, nT a ha⟩⟩
  rintro k s₃ ⟨j, ρ₃, σ₃, γ₃, hkj, hB, P₃, F₃, hJ, hsz, ho⟩
  have ho' : ∀ a, own a → ¬ γ₃.F a ∧ ¬ Tr γ₃ σ₃ a ∧ a < s₃.heap.objs.size := fun a ha => ⟨(ho a ha).1, (ho a ha).2, Nat.lt_of_lt_of_le (hown a ha).2.1 hsz⟩
  let T : Option Value → Shared → Prop := fun r s₄ => match r with
    | none => RF b sc env γ σ s Q .next s₄
    | some v => wpAny b.M A (assign tg env v) (fun _ s₅ => wpAny b.M A (execs body env) (fun f s₆ => match f with
        | .next | .cont => ∃ m, m < k ∧ IV m s₆
        | .brk => RF b sc env γ σ s Q .next s₆
        | .ret v => RF b sc env γ σ s Q (.ret v) s₆) NoE s₅) NoE s₄
  have main : wpAny b.M A (pyNext I) (fun r s₁ => match r with | none => T none s₁ | some v => wpAny b.M A (letOwnedTupleGo tg I v) (fun _ s₂ => T (some v) s₂) NoE s₁) NoE s₃ := by
    by_cases hlt : j < xs.length
    · have hx : xs[j]? = some xs[j] := List.getElem?_eq_getElem hlt
      have hd : xs.drop j = xs[j] :: xs.drop (j + 1) := List.drop_eq_getElem_cons hlt
      rw [hd] at hB
      refine ex0_2 (hB) fun hs hB => ?_
      refine W.item j xs[j] γ₃ σ₃ s₃ T hx P₃.st ho' hs hJ fun v s₄ γ₄ P₄ hv hJ₄ => ?_
      have F₄ := F₃.postO P₃.st P₄ (fun a ha => (ho a ha).1) nLoc nCel
      have P₀₄ := P₃.trans (P₄.mono (own' := ow) fun _ => .inr)
      have ho₄ : ∀ a, own a → ¬ γ₄.F a ∧ ¬ Tr γ₄ σ₃ a := fun a ha =>
        ⟨fun q => (P₄.grow.newF a q).elim (ho' a ha).1 fun z => absurd (ho' a ha).2.2 (Nat.not_lt.mpr z), fun q => (P₄.grow.newT a q).elim (ho' a ha).2.1 fun z => absurd (ho' a ha).2.2 (Nat.not_lt.mpr z)⟩
      refine wpAny_mono (hB A s₄ env γ₄ v R P₄.st F₄ hv) (fun _ s₅ zy19 => zy19.e fun fl₅ ρ₅ σ₅ γ₅ zy20 P₅ F₅ _ => ex0_2 zy20 fun _ hB₅ => ?_) fun _ _ z => z
      refine wpAny_mono (hB₅ A s₅ env γ₅ R P₅.st F₅) (fun f s₆ zy21 => zy21.e fun fl ρ₆ σ₆ γ₆ h₆ P₆ F₆ e => ?_) fun _ _ z => z
      have P₄₆ := P₅.trans P₆
      have P₀₆ := P₀₄.trans (P₄₆.mono (own' := ow) fun _ => .inl)
      have ho₆ : ∀ a, own a → ¬ γ₆.F a ∧ ¬ Tr γ₆ σ₆ a := fun a ha =>
        ⟨fun q => (P₄₆.grow.newF a q).elim (ho₄ a ha).1 fun z => absurd (Nat.lt_of_lt_of_le (ho' a ha).2.2 P₄.size) (Nat.not_lt.mpr z), fun q => (P₄₆.grow.newT a q).elim (ho₄ a ha).2 fun z => absurd (Nat.lt_of_lt_of_le (ho' a ha).2.2 P₄.size) (Nat.not_lt.mpr z)⟩
      have go : FB b n sc tg body src Q (xs.drop (j + 1)) ρ₆ σ₆ → ∃ m, m < k ∧ IV m s₆ := fun hB' => by
        have hs' : src σ₆ := by
          cases hq : xs.drop (j + 1) with
          | nil => rw [hq] at hB'; exact hB'.1
          | cons _ _ => rw [hq] at hB'; exact hB'.1
        refine ⟨k - 1, by lia, j + 1, ρ₆, σ₆, γ₆, by lia, hB', P₀₆, F₆, ?_, Nat.le_trans hsz (Nat.le_trans P₄.size P₄₆.size), ho₆⟩
        exact W.frame (j + 1) γ₄ σ₃ s₄ γ₆ σ₆ s₆ P₄.st P₆.st hs hs' P₄₆.grow.F P₄₆.grow.al (P₄₆.fkeep P₄.st F₄) (fun a o ha e => P₄₆.keep a o e (ho₄ a ha).2 fun q => absurd q (nOwn a ha)) hJ₄
      cases fl with
      | nx => cases f with
        | next => exact go h₆
        | _ => cases e
      | ct => cases f with
        | cont => exact go h₆
        | _ => cases e
      | br => cases f with
        | brk => exact ⟨.nx, ρ₆, σ₆, γ₆, h₆, toF P₀₆, F₆, trivial⟩
        | _ => cases e
      | rt y => cases f with
        | ret v => exact ⟨.rt y, ρ₆, σ₆, γ₆, h₆, toF P₀₆, F₆, e⟩
        | _ => cases e
    · have hj : j = xs.length := by lia
      subst hj
      rw [List.drop_length] at hB
      refine W.done γ₃ σ₃ s₃ T P₃.st ho' hB.1 hJ fun s₄ P₄ => ?_
      have F₄ := F₃.postO P₃.st P₄ (fun a ha => (ho a ha).1) nLoc nCel
      exact ⟨.nx, ρ₃, σ₃, γ₃, hB.2, toF (P₃.trans (P₄.mono (own' := ow) fun _ => .inr)), F₄, trivial⟩
  refine wpAny_mono main (fun r s₄ h₄ => ?_) fun _ _ z => z.elim
  cases r with
  | none => exact wpAny_execs_nil h₄
  | some v =>
    refine wpAny_mono h₄ (fun _ s₅ h₅ => ?_) fun _ _ z => z.elim
    refine wpAny_mono h₅ (fun _ s₆ h₆ => ?_) fun _ _ z => z.elim
    refine wpAny_mono h₆ (fun f s₇ h₇ => ?_) fun _ _ z => z.elim
    cases f <;> exact h₇
end
end Mine
end
section
open PySem PySem.W PyProof.Rows PySem.Calls
namespace Mine
noncomputable def nameOf : Expr → Option Str
  | .Name x _ => some x
  | _ => none
noncomputable def eltsOf : Expr → Option (List Expr)
  | .Tuple es _ _ => some es
  | _ => none
theorem nameOf_eq {e : Expr} {x : Str} (h : nameOf e = some x) : ∃ p, e = .Name x p := by
  unfold nameOf at h
  split at h
  · cases h; exact ⟨_, rfl⟩
  · cases h
theorem eltsOf_eq {e : Expr} {es : List Expr} (h : eltsOf e = some es) : ∃ k p, e = .Tuple es k p := by
  unfold eltsOf at h
  split at h
  · cases h; exact ⟨_, _, rfl⟩
  · cases h
noncomputable def tgOk (e : Expr) : Bool := (nameOf e).isSome || (eltsOf e).isSome
theorem tgOk_eq {e : Expr} (h : tgOk e = true) : (∃ x p, e = .Name x p) ∨ ∃ es k p, e = .Tuple es k p := by
  rcases Bool.or_eq_true_iff.mp h with h | h
  · exact ex1_1 (Option.isSome_iff_exists.mp h) fun x e => .inl ⟨x, nameOf_eq e⟩
  · exact ex1_1 (Option.isSome_iff_exists.mp h) fun es e => .inr ⟨es, eltsOf_eq e⟩
section
variable {b : Bas} {n : Nat} {σ : Store}
theorem let_list {prog : Program} {w : World} {A : Around} {E : Value → Shared → Prop} {s : Shared} {tg : Expr} {I l : Addr} {i : Nat} {v : Value} {T : Unit → Shared → Prop} (ht : tgOk tg = true) (hit : s.heap.IsListIter I l i) (q : T () s) : wpAny (model prog w) A (letOwnedTupleGo tg (.ref I) v) T E s := by
  rcases tgOk_eq ht with ⟨x, p, rfl⟩ | ⟨es, k, p, rfl⟩
  · exact wpAny_pure q
  · cases v with
    | ref a => exact wpAny_letOwnedTupleGo_listiter hit q
    | _ => exact wpAny_pure q
theorem PVs.get {F : Addr → Prop} {h : Heap} {xs : List V} : ∀ {vs : List Value}, PVs F h xs vs → ∀ {i : Nat} {x : V}, xs[i]? = some x → ∃ v, vs[i]? = some v ∧ PV F h x v := by
  induction xs with
  | nil => intro vs _ i x e; rw [List.getElem?_nil] at e; cases e
  | cons y r ih =>
    intro vs r i x e
    refine PVs.c r fun v vs a r => ?_
    cases i with
    | zero => cases e; exact ⟨v, rfl, a⟩
    | succ i => rw [List.getElem?_cons_succ] at e ⊢; exact ih r e
inductive IsSrc (xs : List V) (σ : Store) : W → (Store → Prop) → Prop
  | fz : IsSrc xs σ (.v (.lst xs)) (fun _ => True)
  | tr {k p : Nat} : σ.lookup k = some (p, .list xs) → IsSrc xs σ (.ref k p) (fun σ => σ.lookup k = some (p, .list xs))
theorem IT.list {tg : Expr} {y : W} {xs : List V} {src : Store → Prop} {Q : List V → (Store → Prop) → Store → Prop} (ht : tgOk tg = true) (hs : IsSrc xs σ y src) (q : Q xs src σ) : IT b n tg y σ Q := by
  intro A s γ v R S r
  have key : ∃ l, v = .ref l ∧ ∃ P : Gh → Store → Heap → Prop, P γ σ s.heap ∧
      (∀ γ σ s, St b γ σ s → src σ → P γ σ s.heap → ∃ its, s.heap.IsList l its ∧ PVs γ.F s.heap xs its.toList) ∧
      (∀ γ σ h γ' σ' h', (∀ a, γ.F a → γ'.F a) → AlKeep γ γ' σ σ' → FKeep γ.F h h' → src σ → P γ σ h → P γ' σ' h') := by
    cases hs with
    | fz =>
      cases r with
      | lst fa hl₀ hx =>
        have hl := isL_of hl₀
        rename_i a its
        refine ⟨a, rfl, fun γ _ h => γ.F a ∧ ∃ its, h.IsList a its ∧ PVs γ.F h xs its.toList, ⟨fa, its, hl, hx⟩, fun _ _ _ _ _ p => p.2, fun γ σ h γ' σ' h' hF _ hk _ p => ?_⟩
        obtain ⟨fa, its, zz1, hx⟩ := p
        refine ex1_2 (zz1) fun o ho r => ?_
        exact ⟨hF _ fa, its, ⟨o, hk _ _ fa ho, r⟩, hx.mono hF hk⟩
    | tr hk =>
      rename_i k p
      refine ex0_2 (r) fun zz2 lt => ?_
      subst zz2
      refine ⟨γ.al k p, rfl, fun γ' _ _ => γ'.al k p = γ.al k p ∧ p < γ'.nv k, ⟨rfl, lt⟩, fun γ' σ' s' S' hs e => ?_, fun γ' σ' h γ'' σ'' h' _ hal _ hs e => ?_⟩
      · refine ex2_2 (S'.obj k _ _ hs) fun its n h1 h2 => ?_
        rw [e.1] at h1
        exact ⟨its, ⟨_, h1, rfl, n, rfl⟩, h2⟩
      · exact ⟨(hal k p e.2).1.trans e.1, (hal k p e.2).2.2⟩
  obtain ⟨l, zz3, P, hP, hat, hfr⟩ := key
  subst zz3
  have hsrc : src σ := by cases hs with | fz => trivial | tr h => exact h
  refine ex1_2 (hat γ σ s S hsrc hP) fun its hl hx => ?_
  refine wpAny_pyIter_list hl ?_
  have pg := Post.garbage (ob := { cls := .type "list_iterator", data := .fields #[.ref l, .int 0 0] }) S
  have hne : l ≠ s.heap.objs.size := by obtain ⟨o, ho, _⟩ := hl; exact Nat.ne_of_lt (Heap.lt_size ho)
  refine ⟨xs, src, σ, γ, fun a => a = s.heap.objs.size, fun i γ σ h => h.IsListIter s.heap.objs.size l i ∧ P γ σ h, q, ?_, pg, ⟨⟨_, Heap.get?_push_size _ rfl, rfl, rfl⟩, hfr _ _ _ _ _ _ (fun _ h => h) pg.grow.al (pg.fkeep S) hsrc hP⟩, ?_⟩
  · refine ⟨fun i γ σ s γ' σ' s' _ _ h1 _ hF hal hk ho hJ => ?_, fun i x γ σ s' T hxi S' ho hs' hJ k => ?_, fun γ σ s' T S' ho hs' hJ k => ?_, fun i γ σ s' T hJ hT => wpAny_pyIter_listiter hJ.1 hT⟩
    · refine ex0_2 (hJ) fun zz4 hp => ?_
      refine ex1_2 (zz4) fun o e r => ?_
      exact ⟨⟨o, ho _ _ rfl e, r⟩, hfr _ _ _ _ _ _ hF hal hk h1 hp⟩
    · refine ex1_2 (hat γ σ s' S' hs' hJ.2) fun its hl hx => ?_
      refine ex1_2 (hx.get hxi) fun v hv hpv => ?_
      have no := ho _ rfl
      refine wpAny_pyNext_list_item hJ.1 hl (x := v) (by simpa using hv) fun h' hit hsb => ?_
      have S'' := Post.stray s'.toks S' hsb no.1 no.2.1
      have fk : FKeep γ.F s'.heap h' := fun a o fa e => (hsb.2 a fun z => no.1 (z ▸ fa)).trans e
      refine let_list ht hit ?_
      exact k v _ γ ⟨S'', (Post.refl S').grow, fun a o e _ no' => (hsb.2 a fun q => no.1 (q ▸ no' q)).trans e, by show _ ≤ h'.objs.size; rw [hsb.1]; exact Nat.le_refl _⟩ (hpv.mono (fun _ h => h) fk) ⟨hit, hfr _ _ _ _ _ _ (fun _ h => h) (Post.refl S').grow.al fk hs' hJ.2⟩
    · refine ex1_2 (hat γ σ s' S' hs' hJ.2) fun its hl hx => ?_
      have no := ho _ rfl
      have len : its.toList.length = xs.length := hx.length
      refine with_size (wpAny_pyNext_list_end R.2.2 hJ.1 hl (by rw [Array.getElem?_eq_none]; rw [← len]; simp) fun h' he hz => ?_)
      have S'' : St b γ σ { s' with heap := h' } := by
        have ne : ∀ x, γ.F x → x ≠ s.heap.objs.size := fun x h e => no.1 (e ▸ h)
        refine ⟨fun x o e => he x o (ne x (S'.stat' e)) (S'.base x o e), S'.gens, S'.os, S'.stat, fun x h => Nat.lt_of_lt_of_le (S'.lt x h) hz, S'.nv, fun k p o h => ?_, S'.dist, fun k p o h => ?_⟩
        · have z := S'.sep k p o h
          exact ⟨z.1, z.2.1, Nat.lt_of_lt_of_le z.2.2.1 hz, Nat.lt_of_lt_of_le z.2.2.2 hz⟩
        · exact (S'.obj k p o h).mono (fun _ h => h) (fun x o fx e => he x o (ne x fx) e) (Post.refl S').grow.al (S'.nv k p o h) fun x o hx e => he x o (fun q => no.2.1 ⟨k, p, _, h, q ▸ hx⟩) e
      exact k _ ⟨S'', (Post.refl S').grow, fun a o e _ no' => he a o (fun q => no.1 (q ▸ no' q)) e, hz⟩
  · rintro a rfl
    refine ⟨Nat.le_refl _, by rw [Heap.size_push]; exact Nat.lt_succ_self _, fun q => absurd (S.lt _ q) (Nat.lt_irrefl _), fun zy22 => ex3_2 zy22 fun k p o hk e => ?_⟩
    have z := S.sep k p o hk
    rcases e with e | e
    · rw [← e] at z; exact absurd z.2.2.1 (Nat.lt_irrefl _)
    · rw [← e] at z; exact absurd z.2.2.2 (Nat.lt_irrefl _)
end
end Mine
end
section
open PySem PySem.W PyProof.Rows PySem.Calls
namespace Mine
section
variable {b : Bas} {n : Nat} {σ : Store} {γ : Gh} {s : Shared}
theorem PostO.keepF {own : Addr → Prop} {h' : Heap} {T : Addr} (t : Nat) (S : St b γ σ s) (keep : ∀ x o, ¬ own x → s.heap.get? x = some o → h'.get? x = some o) (hz : s.heap.objs.size ≤ h'.objs.size)
    (ho : ∀ a, own a → ¬ γ.F a ∧ ¬ Tr γ σ a) (hT : s.heap.objs.size ≤ T) (hT' : T < h'.objs.size) : PostO b own γ σ s (γ.fz T) σ { s with heap := h', toks := t } := by
  have nf : ∀ x, γ.F x → ¬ own x := fun x h q => (ho x q).1 h
  have al : AlKeep γ (γ.fz T) σ σ := AlKeep.same rfl rfl rfl
  refine ⟨⟨fun x o e => keep x o (nf x (S.stat' e)) (S.base x o e), S.gens, S.os, fun a e ne => .inl (S.stat a e ne), fun x h => ?_, S.nv, fun k p o h => ?_, S.dist, fun k p o h => ?_⟩, ⟨fun _ h => .inl h, al, fun a h => ?_, fun _ h => .inl h⟩, fun a o e _ no => keep a o (fun q => (ho a q).1 (no q)) e, hz⟩
  · rcases h with h | h
    · exact Nat.lt_of_lt_of_le (S.lt x h) hz
    · rw [h]; exact hT'
  · have z := S.sep k p o h
    exact ⟨fun q => q.elim z.1 fun q => absurd (q ▸ z.2.2.1) (Nat.not_lt.mpr hT), fun q => q.elim z.2.1 fun q => absurd (q ▸ z.2.2.2) (Nat.not_lt.mpr hT), Nat.lt_of_lt_of_le z.2.2.1 hz, Nat.lt_of_lt_of_le z.2.2.2 hz⟩
  · exact ObjAt.mono (γ := γ) (γ' := γ.fz T) (σ := σ) (h := s.heap) (fun _ h => .inl h) (fun x o fx e => keep x o (nf x fx) e) al (S.nv k p o h) (fun x o hx e => keep x o (fun q => (ho x q).2 ⟨k, p, _, h, hx⟩) e) (S.obj k p o h)
  · rcases h with h | h
    · exact .inl h
    · exact .inr (h ▸ hT)
theorem PostO.keepO {own : Addr → Prop} {h' : Heap} (t : Nat) (S : St b γ σ s) (keep : ∀ x o, ¬ own x → s.heap.get? x = some o → h'.get? x = some o) (hz : s.heap.objs.size ≤ h'.objs.size)
    (ho : ∀ a, own a → ¬ γ.F a ∧ ¬ Tr γ σ a) : PostO b own γ σ s γ σ { s with heap := h', toks := t } := by
  have nf : ∀ x, γ.F x → ¬ own x := fun x h q => (ho x q).1 h
  have al : AlKeep γ γ σ σ := AlKeep.same rfl rfl rfl
  refine ⟨⟨fun x o e => keep x o (nf x (S.stat' e)) (S.base x o e), S.gens, S.os, S.stat, fun x h => Nat.lt_of_lt_of_le (S.lt x h) hz, S.nv, fun k p o h => ?_, S.dist, fun k p o h => ?_⟩, ⟨fun _ h => h, al, fun a h => .inl h, fun _ h => .inl h⟩, fun a o e _ no => keep a o (fun q => (ho a q).1 (no q)) e, hz⟩
  · have z := S.sep k p o h
    exact ⟨z.1, z.2.1, Nat.lt_of_lt_of_le z.2.2.1 hz, Nat.lt_of_lt_of_le z.2.2.2 hz⟩
  · exact (S.obj k p o h).mono (fun _ h => h) (fun x o fx e => keep x o (nf x fx) e) al (S.nv k p o h) (fun x o hx e => keep x o (fun q => (ho x q).2 ⟨k, p, _, h, hx⟩) e)
theorem St.fresh (S : St b γ σ s) {a : Addr} (h : s.heap.objs.size ≤ a) : ¬ γ.F a ∧ ¬ Tr γ σ a := ⟨fun q => absurd (S.lt a q) (Nat.not_lt.mpr h), fun zy23 => ex3_2 zy23 fun k p o hk e => by
  have z := S.sep k p o hk
  rcases e with rfl | rfl
  · exact absurd z.2.2.1 (Nat.not_lt.mpr h)
  · exact absurd z.2.2.2 (Nat.not_lt.mpr h)⟩
noncomputable abbrev rangeW (lo hi st : Int) : W := .rng lo hi st
theorem rangeW_at {σ' : Store} {h : Heap} {lo hi st : Int} {a : Addr} {t u w : Tok} (fa : γ.F a) (r : IsRange h a lo hi st t u w) : WR γ σ' h (rangeW lo hi st) (.ref a) :=
  ⟨a, t, u, w, rfl, fa, r⟩
theorem keep_type {T : String} {h : Heap} : ∃ k, (k = Keeper.frame ∨ k = Keeper.machine ∨ k = Keeper.boundFrame) ∧ Looks b.M h (keeperOf (.type T)) k := ⟨.machine, .inr (.inl rfl), Looks.of_pure rfl⟩
theorem keep_builtin {T : String} {h : Heap} : ∃ k, (k = Keeper.frame ∨ k = Keeper.machine ∨ k = Keeper.boundFrame) ∧ Looks b.M h (keeperOf (.builtin T)) k := ⟨.machine, .inr (.inl rfl), Looks.of_pure rfl⟩
theorem AP.range1 {x : Int} {Q : W → Store → Prop} (q : Q (rangeW 0 x 1) σ) : AP b n (.v (.raw (.type "range"))) [.v (.int x)] σ Q := by
  refine AP.r1 fun A s γ v R S r => ?_
  refine WR.c_int r fun _ => ?_
  exact ⟨keep_type, call_range_1 ⟨_, σ, _, q, (Post.allocF S).trans (Post.toks (Post.allocF S).st _), rangeW_at (.inr rfl) (Heap.get?_push_size _ rfl)⟩⟩
theorem AP.range2 {x y : Int} {Q : W → Store → Prop} (q : Q (rangeW x y 1) σ) : AP b n (.v (.raw (.type "range"))) [.v (.int x), .v (.int y)] σ Q := by
  refine AP.r2 fun A s γ v w R S r r' => ?_
  refine WR.c_int r fun _ => ?_
  refine WR.c_int r' fun _ => ?_
  exact ⟨keep_type, call_range_2 ⟨_, σ, _, q, (Post.allocF S).trans (Post.toks (Post.allocF S).st _), rangeW_at (.inr rfl) (Heap.get?_push_size _ rfl)⟩⟩
theorem AP.range3 {x y z : Int} {Q : W → Store → Prop} (hz : z ≠ 0) (hp : Builtin.divisionGoesByPylong (y - x) z = false) (q : Q (rangeW x y z) σ) : AP b n (.v (.raw (.type "range"))) [.v (.int x), .v (.int y), .v (.int z)] σ Q := by
  refine AP.r3 fun A s γ v w u R S r r' r'' => ?_
  refine WR.c_int r fun _ => ?_
  refine WR.c_int r' fun _ => ?_
  refine WR.c_int r'' fun _ => ?_
  exact ⟨keep_type, call_range_3 hz ⟨_, σ, _, q, (Post.allocF S).trans (Post.toks (Post.allocF S).st _), rangeW_at (.inr rfl) (Heap.get?_push_size _ rfl)⟩ (.inl hp)⟩
theorem let_name {M : Model} {A : Around} {E : Value → Shared → Prop} {s : Shared} {x : Str} {p : Pos} {I v : Value} {T : Unit → Shared → Prop} (q : T () s) : wpAny M A (letOwnedTupleGo (.Name x p) I v) T E s := wpAny_pure q
noncomputable def rangeV (lo st : Int) (m : Nat) : List V := (List.range m).map fun (i : Nat) => V.int (lo + (i : Int) * st)
theorem rangeV_get {lo st : Int} {m i : Nat} {x : V} (h : (rangeV lo st m)[i]? = some x) : i < m ∧ x = .int (lo + (i : Int) * st) := by
  unfold rangeV at h
  rw [List.getElem?_map] at h
  refine ex1_2 (Option.map_eq_some_iff.mp h) fun j hj zz1 => ?_
  subst zz1
  obtain ⟨hl, e⟩ := List.getElem?_eq_some_iff.mp hj
  rw [List.getElem_range] at e
  subst e
  exact ⟨by simpa using hl, rfl⟩
theorem rangeV_length {lo st : Int} {m : Nat} : (rangeV lo st m).length = m := by unfold rangeV; rw [List.length_map, List.length_range]
theorem IT.range {x : Str} {p : Pos} {lo hi st : Int} {m : Nat} {Q : List V → (Store → Prop) → Store → Prop} (hs : Builtin.Range.small lo hi st = true) (hm : Builtin.Range.rangeSize lo hi st = (m : Int))
    (q : Q (rangeV lo st m) (fun _ => True) σ) : IT b n (.Name x p) (rangeW lo hi st) σ Q := by
  intro A s γ v R S r
  refine ex4_3 (r) fun a t u w zz2 fa hr => ?_
  subst zz2
  refine wpAny_pyIter_range hr hs ?_
  have pg := Post.garbage (ob := { cls := .type "range_iterator", data := .fields #[rawInt lo, rawInt (Builtin.Range.rangeSize lo hi st), rawInt st] }) S
  refine ⟨_, _, σ, γ, fun a => a = s.heap.objs.size, fun i _ _ h => IsRangeIter h s.heap.objs.size (lo + (i : Nat) * st) ((m : Int) - (i : Nat)) st, q, ?_, pg, ?_, ?_⟩
  · have W := Walks.range (prog := b.prog) (w := b.w) R.2.2 s.heap.objs.size lo st m
    refine ⟨fun i γ σ s γ' σ' s' _ _ _ _ _ _ _ ho hJ => ho _ _ rfl hJ, fun i x γ σ s' T hxi S' ho _ hJ k => ?_, fun γ σ s' T S' ho _ hJ k => ?_, fun i γ σ s' T hJ hT => W.self i s' T _ hJ hT⟩
    · refine ex0_2 (rangeV_get hxi) fun hl zz3 => ?_
      subst zz3
      refine with_size (W.item i s' _ _ hl hJ fun v h' tk zy24 hJ' hk hz => ex1_1 zy24 fun t e => ?_)
      subst e
      exact let_name (k _ _ γ (PostO.keepO tk S' (fun x o no e => hk x o (by simpa using no) e) hz fun a ha => ⟨(ho a ha).1, (ho a ha).2.1⟩) (.int _ _) hJ')
    · rw [rangeV_length] at hJ
      refine with_size (W.done s' _ _ hJ fun h' tk hk hz => ?_)
      exact k _ (PostO.keepO tk S' (fun x o no e => hk x o (by simpa using no) e) hz fun a ha => ⟨(ho a ha).1, (ho a ha).2.1⟩)
  · show IsRangeIter _ _ _ _ _
    rw [show lo + ((0 : Nat) : Int) * st = lo by simp, show (m : Int) - ((0 : Nat) : Int) = (m : Int) by simp, ← hm]
    exact Heap.get?_push_size _ rfl
  · rintro a rfl
    have fr := S.fresh (Nat.le_refl _)
    exact ⟨Nat.le_refl _, by rw [Heap.size_push]; exact Nat.lt_succ_self _, fr.1, fr.2⟩
theorem IT.tup {x : Str} {p : Pos} {xs : List V} {Q : List V → (Store → Prop) → Store → Prop} (q : Q xs (fun _ => True) σ) : IT b n (.Name x p) (.v (.tup xs)) σ Q := by
  intro A s γ v R S r
  cases r with
  | tup fa ht hx =>
    rename_i ax its
    refine wpAny_pyIter_tuple ht ?_
    have pg := Post.garbage (ob := { cls := .type "tuple_iterator", data := .fields #[.ref ax, .int 0 0] }) S
    have hne : ax ≠ s.heap.objs.size := Nat.ne_of_lt (S.lt _ fa)
    refine ⟨_, _, σ, γ, fun a => a = s.heap.objs.size, fun i γ _ h => h.IsTupleIter s.heap.objs.size ax i ∧ γ.F ax ∧ h.IsTuple ax its ∧ PVs γ.F h xs its.toList, q, ?_, pg, ⟨⟨_, Heap.get?_push_size _ rfl, rfl, rfl⟩, fa, ?_, hx.mono (fun _ h => h) (pg.fkeep S)⟩, ?_⟩
    · have W := Walks.tuple (prog := b.prog) (w := b.w) R.2.2 s.heap.objs.size ax hne its
      refine ⟨fun i γ σ s γ' σ' s' _ _ _ _ hF _ hk ho hJ => ?_, fun i x γ σ s' T hxi S' ho _ hJ k => ?_, fun γ σ s' T S' ho _ hJ k => ?_, fun i γ σ s' T hJ hT => W.self i s' T _ ⟨hJ.1, hJ.2.2.1⟩ hT⟩
      · refine ex0_4 (hJ) fun zz4 f zz5 z => ?_
        refine ex1_2 (zz4) fun o e r => ?_
        refine ex1_2 (zz5) fun o' e' r' => ?_
        exact ⟨⟨o, ho _ _ rfl e, r⟩, hF _ f, ⟨o', hk _ _ f e', r'⟩, z.mono hF hk⟩
      · refine ex1_2 (hJ.2.2.2.get hxi) fun v hv hpv => ?_
        have hl : i < its.size := by
          obtain ⟨h1, _⟩ := List.getElem?_eq_some_iff.mp hv
          simpa using h1
        refine with_size (W.item i s' _ _ hl ⟨hJ.1, hJ.2.2.1⟩ fun v' h' tk e hJ' hk hz => ?_)
        have ev : v' = v := by
          have e2 : its[i]? = some v := by simpa using hv
          exact Option.some.inj (e.symm.trans e2)
        subst ev
        have P := PostO.keepO (own := fun a => a = s.heap.objs.size) tk S' (fun x o no e => hk x o (by simpa using no) e) hz fun a ha => ⟨(ho a ha).1, (ho a ha).2.1⟩
        have fk := P.fkeepO S' fun a ha => (ho a ha).1
        exact let_name (k _ _ γ P (hpv.mono (fun _ h => h) fk) ⟨hJ'.1, hJ.2.1, hJ'.2, hJ.2.2.2.mono (fun _ h => h) fk⟩)
      · have len : its.size = xs.length := by have := hJ.2.2.2.length; simpa using this
        refine with_size (W.done s' _ _ (by rw [len]; exact ⟨hJ.1, hJ.2.2.1⟩) fun h' tk hk hz => ?_)
        exact k _ (PostO.keepO tk S' (fun x o no e => hk x o (by simpa using no) e) hz fun a ha => ⟨(ho a ha).1, (ho a ha).2.1⟩)
    · refine ex1_2 (ht) fun o e r => ?_
      exact ⟨o, Heap.get?_push_of_some _ e, r⟩
    · rintro a rfl
      have fr := S.fresh (Nat.le_refl _)
      exact ⟨Nat.le_refl _, by rw [Heap.size_push]; exact Nat.lt_succ_self _, fr.1, fr.2⟩
end
end Mine
end
section
open PySem PySem.W PyProof.Rows PySem.Calls
namespace Mine
section
variable {b : Bas} {n : Nat} {σ : Store} {γ : Gh} {s : Shared}
theorem IsSrc.key {xs : List V} {y : W} {src : Store → Prop} {v : Value} (hs : IsSrc xs σ y src) (r : WR γ σ s.heap y v) : ∃ l, v = .ref l ∧ ∃ P : Gh → Store → Heap → Prop, P γ σ s.heap ∧
      (∀ γ σ s, St b γ σ s → src σ → P γ σ s.heap → ∃ its, s.heap.IsList l its ∧ PVs γ.F s.heap xs its.toList) ∧
      (∀ γ σ h γ' σ' h', (∀ a, γ.F a → γ'.F a) → AlKeep γ γ' σ σ' → FKeep γ.F h h' → src σ → P γ σ h → P γ' σ' h') ∧ src σ := by
  cases hs with
  | fz =>
    cases r with
    | lst fa hl₀ hx =>
      have hl := isL_of hl₀
      rename_i a its
      refine ⟨a, rfl, fun γ _ h => γ.F a ∧ ∃ its, h.IsList a its ∧ PVs γ.F h xs its.toList, ⟨fa, its, hl, hx⟩, fun _ _ _ _ _ p => p.2, fun γ σ h γ' σ' h' hF _ hk _ p => ?_, trivial⟩
      obtain ⟨fa, its, zz1, hx⟩ := p
      refine ex1_2 (zz1) fun o ho r => ?_
      exact ⟨hF _ fa, its, ⟨o, hk _ _ fa ho, r⟩, hx.mono hF hk⟩
  | tr hk =>
    rename_i k p
    refine ex0_2 (r) fun zz2 lt => ?_
    subst zz2
    refine ⟨γ.al k p, rfl, fun γ' _ _ => γ'.al k p = γ.al k p ∧ p < γ'.nv k, ⟨rfl, lt⟩, fun γ' σ' s' S' hs e => ?_, fun γ' σ' h γ'' σ'' h' _ hal _ hs e => ?_, hk⟩
    · refine ex2_2 (S'.obj k _ _ hs) fun its n h1 h2 => ?_
      rw [e.1] at h1
      exact ⟨its, ⟨_, h1, rfl, n, rfl⟩, h2⟩
    · exact ⟨(hal k p e.2).1.trans e.1, (hal k p e.2).2.2⟩
noncomputable def enumFrom (i : Nat) : List V → List V
  | [] => []
  | x :: r => .tup [.int (i : Int), x] :: enumFrom (i + 1) r
theorem enumFrom_get {xs : List V} : ∀ {i j : Nat} {x : V}, (enumFrom j xs)[i]? = some x → ∃ y, xs[i]? = some y ∧ x = .tup [.int ((j + i : Nat) : Int), y] := by
  induction xs with
  | nil => intro i j x e; exact nomatch (e : (none : Option V) = some x)
  | cons a r ih =>
    intro i j x e
    cases i with
    | zero => exact ⟨a, rfl, (Option.some.inj (e : some (V.tup [.int (j : Int), a]) = some x)).symm⟩
    | succ i =>
      refine ex1_2 (ih (i := i) (j := j + 1) e) fun y h1 h2 => ?_
      refine ⟨y, by simpa using h1, ?_⟩
      rw [h2, show j + 1 + i = j + (i + 1) by lia]
theorem enumFrom_length {xs : List V} : ∀ {j : Nat}, (enumFrom j xs).length = xs.length := by
  induction xs with
  | nil => intro j; rfl
  | cons a r ih => intro j; show (enumFrom (j + 1) r).length + 1 = _; rw [ih]; rfl
abbrev Kenum (Q : List V → (Store → Prop) → Store → Prop) : W → Store → Prop := fun y σ => ∃ xs src, IsSrc xs σ y src ∧ Q (enumFrom 0 xs) src σ
abbrev KenumA (b : Bas) (n : Nat) (sc : Scope) (arg : Expr) (ρ : Loc) (Q : List V → (Store → Prop) → Store → Prop) : W → Store → Prop := fun f σ => f = .v (.raw (.type "enumerate")) ∧ EE b n sc arg ρ σ (Kenum Q)
theorem EI.enum {sc : Scope} {ρ : Loc} {nm : Str} {p pos tp : Pos} {arg : Expr} {elts : List Expr} {k : Nat} {Q : List V → (Store → Prop) → Store → Prop}
    (h : EE b n sc (.Name nm p) ρ σ (KenumA b n sc arg ρ Q))
    (hs : ∀ env, starEach [arg] env = [(false, eval arg env)] := by intros; rfl) : EI b n sc (.Tuple elts k tp) (.Call (.Name nm p) [arg] [] pos) ρ σ Q := by
  intro A s env γ R S F
  show wpAny b.M A (do callWith pos (← eval (.Name nm p) env) [] (backTo pos (starEach [arg] env)) (backToKw pos (keywordEach [] env))) _ NoE s
  refine wpAny_bind (h.go R S F fun f σ₁ γ₁ fv s₁ zy25 P₁ r₁ => ex0_2 zy25 fun hf h₁ => ?_)
  subst hf
  refine WR.c_raw r₁ ?_
  refine callWith_of (P := fun h => ∃ k, (k = Keeper.frame ∨ k = Keeper.machine ∨ k = Keeper.boundFrame) ∧ Looks b.M h (keeperOf (.type "enumerate")) k) ?_ (fun h x => x) (evalArgs_go ?_ ?_)
  · show (((backTo pos (starEach [arg] env)).any (·.1)) || false) = false
    rw [hs env]; rfl
  · rw [hs env]; rfl
  have one : EEs b n sc pos [arg] ρ σ₁ fun ys σ₂ => ∃ y xs src, ys = [y] ∧ IsSrc xs σ₂ y src ∧ Q (enumFrom 0 xs) src σ₂ :=
    EEs.cons (fun A s env γ R S F => wpAny_mono (h₁ A s env γ R S F) (fun v s' zy26 => zy26.e fun y σ' γ' zy27 P r => ex2_2 zy27 fun xs src h1 h2 => ⟨y, σ', γ', EEs.nil ⟨y, xs, src, rfl, h1, h2⟩, P, r⟩) fun _ _ z => z) (fun env => hs env)
  refine one.go R P₁.st (F.post S P₁) fun ys σ₂ γ₂ vs s₂ zy28 P₂ r₂ => ex3_3 zy28 fun y xs src e hsrc q => ?_
  subst e
  refine WRs.c r₂ fun v vs r r₂ => WRs.c0 r₂ ?_
  obtain ⟨l, zz3, P, hP, hat, hfr, hsr⟩ := hsrc.key (b := b) (s := s₂) r
  subst zz3
  refine ex1_2 (hat γ₂ σ₂ s₂ P₂.st hsr hP) fun its hl hx => ?_
  refine ⟨keep_type, ?_⟩
  show wpAny b.M A (call (.type "enumerate") [.ref l]) _ NoE s₂
  refine call_enumerate_list hl fun h' he hit hz hk => ?_
  have S₂ := P₂.st
  have PE : Post b γ₂ σ₂ s₂ γ₂ σ₂ { s₂ with heap := h' } := Post.ext s₂.toks S₂ hk (by rw [hz]; lia)
  refine wpAny_pyIter_enum he ?_
  refine RI.trans (P₁.trans P₂) ?_
  have lne : l < s₂.heap.objs.size := by obtain ⟨o, ho, _⟩ := hl; exact Heap.lt_size ho
  let E := s₂.heap.objs.size + 1
  let I := s₂.heap.objs.size
  refine ⟨_, src, σ₂, γ₂, fun a => a = E ∨ a = I, fun i γ σ h => (∃ old, IsEnum h E I i old) ∧ h.IsListIter I l i ∧ P γ σ h, q, ?_, PE, ⟨⟨_, he⟩, hit, hfr _ _ _ _ _ _ (fun _ h => h) PE.grow.al (PE.fkeep S₂) hsr hP⟩, ?_⟩
  · refine ⟨fun i γ σ s γ' σ' s' _ _ h1 _ hF hal hk ho hJ => ?_, fun i x γ σ s' T hxi S' ho hs' hJ k => ?_, fun γ σ s' T S' ho hs' hJ k => ?_, fun i γ σ s' T hJ hT => by obtain ⟨⟨old, he⟩, _⟩ := hJ; exact wpAny_pyIter_enum he hT⟩
    · refine ex0_3 (hJ) fun zz4 zz5 p => ?_
      refine ex1_1 (zz4) fun old e1 => ?_
      refine ex1_2 (zz5) fun o e2 r2 => ?_
      exact ⟨⟨old, ho _ _ (.inl rfl) e1⟩, ⟨o, ho _ _ (.inr rfl) e2, r2⟩, hfr _ _ _ _ _ _ hF hal hk h1 p⟩
    · refine ex1_2 (enumFrom_get hxi) fun y hy zz6 => ?_
      subst zz6
      refine ex1_2 (hat γ σ s' S' hs' hJ.2.2) fun its hl hx => ?_
      refine ex1_2 (hx.get hy) fun v hv hpv => ?_
      have lne' : l ≠ E ∧ l ≠ I := ⟨Nat.ne_of_lt (Nat.lt_succ_of_lt lne), Nat.ne_of_lt lne⟩
      have W := WalksT.enumerate (prog := b.prog) (w := b.w) R.2.2 E I l (Nat.succ_ne_self _) lne'.1 lne'.2 its
      have hi : i < its.size := by
        obtain ⟨h1, _⟩ := List.getElem?_eq_some_iff.mp hv
        simpa using h1
      refine with_size (W.item i s' _ _ hi ⟨hJ.1, hJ.2.1, hl⟩ fun T' vals h₁ tk zy29 hT' htup hmid hk₁ hz₁ => ex2_2 zy29 fun t x ex ev => ?_)
      have ex' : x = v := by
        have e2 : its[i]? = some v := by simpa using hv
        exact Option.some.inj (ex.symm.trans e2)
      subst ex' ev
      refine with_size (W.go elts _ tp i T' _ _ _ hmid fun h₂ hst hk₂ hz₂ => ?_)
      have keep : ∀ x o, ¬ (x = E ∨ x = I) → s'.heap.get? x = some o → h₂.get? x = some o := fun x o no e => hk₂ x o (by simpa using no) (hk₁ x o (by simpa using no) e)
      have ow : ∀ a, (a = E ∨ a = I) → ¬ γ.F a ∧ ¬ Tr γ σ a := fun a ha => ⟨(ho a ha).1, (ho a ha).2.1⟩
      have nT : T' ≠ E ∧ T' ≠ I := ⟨fun e => absurd (ho E (.inl rfl)).2.2 (Nat.not_lt.mpr (e ▸ hT')), fun e => absurd (ho I (.inr rfl)).2.2 (Nat.not_lt.mpr (e ▸ hT'))⟩
      refine ex1_2 (htup) fun ot hot rt => ?_
      have hot₂ : h₂.get? T' = some ot := hk₂ T' ot (by simpa using nT) hot
      have PP := PostO.keepF tk S' keep (Nat.le_trans hz₁ hz₂) ow hT' (Heap.lt_size hot₂)
      have fk : FKeep γ.F s'.heap h₂ := fun a o fa e => keep a o (fun q => (ow a q).1 fa) e
      have e0 : ((0 + i : Nat) : Int) = (i : Int) := by lia
      rw [e0] at k
      refine k (.ref T') _ _ PP (.tup (.inr rfl) ⟨ot, hot₂, rt⟩ (.cons (.int _ _) (.cons (hpv.mono (fun _ h => .inl h) fk) .nil))) ⟨hst.1, hst.2.1, hfr _ _ _ _ _ _ (fun _ h => .inl h) PP.grow.al fk hs' hJ.2.2⟩
    · refine ex1_2 (hat γ σ s' S' hs' hJ.2.2) fun its hl hx => ?_
      have lne' : l ≠ E ∧ l ≠ I := ⟨Nat.ne_of_lt (Nat.lt_succ_of_lt lne), Nat.ne_of_lt lne⟩
      have W := WalksT.enumerate (prog := b.prog) (w := b.w) R.2.2 E I l (Nat.succ_ne_self _) lne'.1 lne'.2 its
      have len : its.size = xs.length := by have := hx.length; simpa using this
      rw [enumFrom_length, ← len] at hJ
      refine with_size (W.done s' _ _ ⟨hJ.1, hJ.2.1, hl⟩ fun h₁ tk hk₁ hz₁ => ?_)
      exact k _ (PostO.keepO tk S' (fun x o no e => hk₁ x o (by simpa using no) e) hz₁ fun a ha => ⟨(ho a ha).1, (ho a ha).2.1⟩)
  · rintro a (rfl | rfl)
    · have fr := S₂.fresh (Nat.le_succ _)
      exact ⟨Nat.le_succ _, by show s₂.heap.objs.size + 1 < h'.objs.size; rw [hz]; exact Nat.lt_succ_self _, fr.1, fr.2⟩
    · have fr := S₂.fresh (Nat.le_refl _)
      exact ⟨Nat.le_refl _, by show s₂.heap.objs.size < h'.objs.size; rw [hz]; exact Nat.lt_of_lt_of_le (Nat.lt_succ_self _) (Nat.le_succ _), fr.1, fr.2⟩
end
end Mine
end
section
open PySem PySem.W PyProof.Rows PySem.Calls
namespace Mine
noncomputable def ASL (b : Bas) (n : Nat) (sc : Scope) (Q : Loc → Store → Prop) : List Expr → List V → Loc → Store → Prop
  | [], [], ρ, σ => Q ρ σ
  | t :: ts, x :: xs, ρ, σ => AS b n sc t (.v x) ρ σ fun ρ₁ σ₁ => ASL b n sc Q ts xs ρ₁ σ₁
  | _, _, _, _ => False
section
variable {b : Bas} {n : Nat} {sc : Scope} {ρ : Loc} {σ : Store}
theorem PVs.monoF {sc : Scope} {env : Env} {γ γ' : Gh} {σ σ' : Store} {s s' : Shared} {ρ : Loc} (S : St b γ σ s) (F : FrR b sc γ σ ρ env s.heap) (P : PostF b sc env γ σ s γ' σ' s') {l : List V} {vs : List Value} (h : PVs γ.F s.heap l vs) : PVs γ'.F s'.heap l vs :=
  h.mono P.grow.F (P.fkeep S F)
theorem ASL.run {Q : Loc → Store → Prop} {ts : List Expr} : ∀ {xs : List V} {ρ : Loc} {σ : Store}, ASL b n sc Q ts xs ρ σ → ∀ {A : Around} {s : Shared} {env : Env} {γ : Gh} {vs : List Value}, Room n A → St b γ σ s → FrR b sc γ σ ρ env s.heap → PVs γ.F s.heap xs vs →
    wpAny b.M A (assignInOrder (ts.map fun e => assign e env) vs) (fun _ s' => RF b sc env γ σ s (fun fl ρ' σ' => fl = .nx ∧ Q ρ' σ') .next s') NoE s := by
  induction ts with
  | nil =>
    intro xs ρ σ h A s env γ vs _ S F r
    cases xs with
    | nil => exact PVs.c0 r (assignInOrder_nil ⟨.nx, ρ, σ, γ, ⟨rfl, h⟩, (Post.refl S).toF, F, trivial⟩)
    | cons => exact h.elim
  | cons t ts ih =>
    intro xs ρ σ h A s env γ vs R S F r
    cases xs with
    | nil => exact h.elim
    | cons x xs =>
      refine PVs.c r fun v vs r rs => ?_
      refine assignInOrder_cons (wpAny_mono (h A s env γ _ R S F r) (fun _ s₁ zy30 => zy30.e fun fl ρ₁ σ₁ γ₁ zy31 P₁ F₁ _ => ex0_2 zy31 fun _ h₁ => ?_) fun _ _ z => z)
      exact wpAny_mono (ih h₁ R P₁.st F₁ (rs.monoF S F P₁)) (fun _ _ z => z.trans P₁) fun _ _ z => z
theorem Post.extBut {γ : Gh} {s : Shared} {h' : Heap} (S : St b γ σ s) (hx : Heap.ExtBut s.heap.objs.size s.heap h') (hz : s.heap.objs.size ≤ h'.objs.size) : Post b γ σ s γ σ { s with heap := h' } :=
  Post.ext s.toks S (fun a o e => hx a o (Nat.ne_of_lt (Heap.lt_size e)) e) hz
theorem map_starred {elts : List Expr} {env : Env} (he : assignEach elts env = elts.map fun e => (false, assign e env)) : (assignEach elts env).length = elts.length ∧ (assignEach elts env).findIdx? (·.1) = none ∧ (assignEach elts env).map (·.2) = elts.map fun e => assign e env := by
  rw [he]
  refine ⟨List.length_map _, ?_, ?_⟩
  · rw [List.findIdx?_eq_none_iff]
    intro x hx
    refine ex1_2 (List.mem_map.mp hx) fun e _ zz1 => ?_
    subst zz1
    rfl
  · rw [List.map_map]; rfl
noncomputable def isSeqV : V → Option (List V)
  | .tup l => some l
  | .lst l => some l
  | _ => none
theorem unpackV {A : Around} {s : Shared} {γ : Gh} {x : V} {xs : List V} {m : Nat} {v : Value} (R : Room n A) (S : St b γ σ s) (hv : isSeqV x = some xs) (hm : m = xs.length) (r : PV γ.F s.heap x v) {T : List Value → Shared → Prop}
    (k : ∀ vs s', Post b γ σ s γ σ s' → PVs γ.F s'.heap xs vs → T vs s') : wpAny b.M A (unpackItems v m none) T NoE s := by
  cases r with
  | tup fa ht hx =>
    cases hv
    rename_i a its
    have len : its.size = m := by have := hx.length; rw [hm]; simpa using this
    subst len
    refine with_size (wpAny_unpackItems_tuple R.2.2 ht fun h' he hz => ?_)
    have P := Post.extBut S he hz
    exact k _ _ P (hx.mono (fun _ h => h) (P.fkeep S))
  | lst fa ht₀ hx =>
    have ht := isL_of ht₀
    cases hv
    rename_i a its
    have len : its.size = m := by have := hx.length; rw [hm]; simpa using this
    subst len
    refine with_size (kun_itemsOf R.2.2 ht fun h' he hz => ?_)
    have P := Post.extBut S he hz
    exact k _ _ P (hx.mono (fun _ h => h) (P.fkeep S))
  | _ => cases hv
theorem AS.tup {elts : List Expr} {k : Nat} {pos : Pos} {x : V} {xs : List V} {Q : Loc → Store → Prop} (hv : isSeqV x = some xs) (h : ASL b n sc Q elts xs ρ σ) (hl : elts.length = xs.length := by rfl)
    (he : ∀ env, assignEach elts env = elts.map fun e => (false, assign e env) := by intros; rfl) : AS b n sc (.Tuple elts k pos) (.v x) ρ σ Q := by
  intro A s env γ v R S F r
  refine ex0_3 (map_starred (he env)) fun h1 h2 h3 => ?_
  rw [arm_assign_Tuple]
  refine wpAny_bind (wpAny_standAt ?_)
  unfold unpack
  rw [h1, h2]
  refine wpAny_bind (wpAny_holding (unpackV R S hv hl r fun vs s' P hx => ?_))
  rw [h3]
  exact wpAny_mono (ASL.run h R P.st (F.post S P) hx) (fun _ _ z => z.trans P.toF) fun _ _ z => z
abbrev Kasg (b : Bas) (n : Nat) (sc : Scope) (t : Expr) (ρ : Loc) (Q : Fl → Loc → Store → Prop) : W → Store → Prop := fun y σ => AS b n sc t y ρ σ (Q .nx)
theorem ES.asg {t e : Expr} {pos : Pos} {Q : Fl → Loc → Store → Prop} (h : EE b n sc e ρ σ (Kasg b n sc t ρ Q))
    (hs : ∀ env, swapsWithSole [t] e pos.line env = pure false := by intros; rfl) (hw : swappedStores [t] e (envS sc) = pure none := by rfl)
    (he : ∀ env, (assignEach [t] env).map (·.2) = [assign t env] := by intros; rfl) : ES b n sc (.Assign [t] e pos) ρ σ Q := by
  intro A s env γ R S F
  refine wpAny_Assign_stores (h.go R S F fun y σ₁ γ₁ v s₁ q P r => ?_) (hs env) (swSt hw F.scope)
  rw [he env]
  refine wpAny_mono (q A s₁ env γ₁ v R P.st (F.post S P) r) (fun _ s' zy32 => zy32.e fun fl ρ' σ' γ' zy33 P' F' _ => ex0_2 zy33 fun e' q' => ?_) fun _ _ z => z
  exact ⟨.nx, ρ', σ', γ', q', P.toF.trans P', F', trivial⟩
theorem ES.aug {x : Str} {pos' : Pos} {op : Operator} {e : Expr} {pos : Pos} {Q : Fl → Loc → Store → Prop} {y : W} (hv : ρ.lookup x = some y) (hk : sc.names.lookup x = some .local) (hsp : (("#" : Str) != x) = true)
    (h : EE b n sc e ρ σ (Kop2 b n (inplaceOp op) (Kset Q x ρ) y)) : ES b n sc (.AugAssign (.Name x pos') op e pos) ρ σ Q := by
  intro A s env γ R S F
  refine wpAny_AugAssign_Name ?_
  refine ex1_2 (F.loc) fun m hm hl => ?_
  refine ex1_2 (hl x y hv hk) fun v h1 h2 => ?_
  refine wpAny_loadName_local (by rw [F.scope]; exact F.kind) (by show env.scope.names.lookup x = _; rw [F.scope]; exact hk) hm h1 ?_
  refine h.go R S F fun z σ₁ γ₁ u s₁ q P r => ?_
  refine wpAny_mono (q A s₁ γ₁ v u R P.st (h2.post S P) r) (fun w s₂ zy34 => zy34.e fun y' σ₂ γ₂ q' P₂ r' => ?_) fun _ _ z => z
  exact bind_any P₂.st ((F.post S P).post P.st P₂) r' (by unfold bindK; rw [hk, hsp]; rfl) fun s' P' F' => ⟨.nx, _, _, _, q', (P.trans P₂).toF.trans P', F', trivial⟩
end
end Mine
end
section
open PySem PySem.W PyProof.Rows PySem.Calls Builtin Builtin.ObjectAttr
namespace Mine
structure ClsOk (w : World) (C : Addr) : Prop where
  get1 : findIn (MineH.KF w.params) (.ref C) "__getattribute__" = some (some (.builtin "object.__getattribute__"))
  get2 : findIn (MineH.KF w.params) (.ref C) "__getattr__" = some none
  set : findIn (MineH.KF w.params) (.ref C) "__setattr__" = some (some (.builtin "object.__setattr__"))
  over : plainOver (MineH.KF w.params) C = true
  dict : hasDictIn (MineH.KF w.params) C = true
theorem FEs.strs {w : World} {γ : Gh} {σ : Store} {h : Heap} {fs : List (Str × W)} {es : List DictEntry} (r : FEs w γ σ h fs es) : es.any (·.refKey) = false := by
  induction r with
  | nil => rfl
  | @cons n x e t l es a b c _ ih =>
    rw [List.any_cons, ih]
    have k : e.refKey = false := by
      unfold DictEntry.refKey
      rw [a]
    rw [k]; rfl
theorem FEs.get {w : World} {γ : Gh} {σ : Store} {h : Heap} {n : Str} {y : W} {fs : List (Str × W)} {es : List DictEntry} (r : FEs w γ σ h fs es) : fs.lookup n = some y → ∃ v, getL n es = some (some v) ∧ WR γ σ h y v := by
  induction r with
  | nil => intro e; cases e
  | @cons m x en t l es a b c r ih =>
    intro e
    have k : en.key.isStr n = (m == n) := by rw [a]; rfl
    rw [lookupS] at e
    unfold getL
    rw [List.find?_cons, k]
    by_cases q : n = m
    · subst q
      rw [if_pos rfl] at e
      cases e
      simp only [beq_self_eq_true]
      exact ⟨_, rfl, c⟩
    · rw [if_neg q] at e
      simp only [beq_false_of_ne (fun z => q z.symm : m ≠ n)]
      refine ex1_2 (ih e) fun v h1 h2 => ?_
      refine ⟨v, ?_, h2⟩
      unfold getL at h1
      split at h1
      · rename_i h3; rw [h3]; exact h1
      · rename_i h3; split at h1 <;> cases h1
theorem FEs.some {w : World} {γ : Gh} {σ : Store} {h : Heap} {n : Str} {fs : List (Str × W)} {es : List DictEntry} (r : FEs w γ σ h fs es) : (getL n es).isSome = true := by
  unfold getL
  split
  · rfl
  · rw [r.strs]; rfl
theorem FEs.none {w : World} {γ : Gh} {σ : Store} {h : Heap} {n : Str} {fs : List (Str × W)} {es : List DictEntry} (r : FEs w γ σ h fs es) : fs.lookup n = Option.none → getL n es = Option.some Option.none := by
  induction r with
  | nil => exact fun _ => rfl
  | @cons m x en t l es a b c r ih =>
    intro e
    have k : en.key.isStr n = (m == n) := by rw [a]; rfl
    have k2 : en.refKey = false := by
      unfold DictEntry.refKey
      rw [a]
    rw [lookupS] at e
    by_cases q : n = m
    · rw [if_pos q] at e; cases e
    · rw [if_neg q] at e
      have ih := ih e
      unfold getL at ih ⊢
      rw [List.find?_cons, k, beq_false_of_ne (fun z => q z.symm : m ≠ n), List.any_cons, k2]
      exact ih
theorem FEs.put {w : World} {γ : Gh} {σ : Store} {h : Heap} {n : Str} {y : W} {v : Value} {t : Tok} {fs : List (Str × W)} {es : List DictEntry} (rs : FEs w γ σ h fs es) (r : WR γ σ h y v) : FEs w γ σ h (setL n y fs) (putL n (PyData.keyHash w.params n) (.str n t) v es) := by
  induction rs with
  | nil => exact .cons rfl rfl r .nil
  | @cons m x en t' l es a b c rs ih =>
    have k : en.key.isStr n = (m == n) := by rw [a]; rfl
    unfold setL putL
    rw [k]
    by_cases q : m = n
    · subst q
      simp only [beq_self_eq_true, if_true]
      exact .cons a b r rs
    · simp only [beq_false_of_ne q, if_neg q]
      exact .cons a b c ih
theorem FEs.length {w : World} {γ : Gh} {σ : Store} {h : Heap} {fs : List (Str × W)} {es : List DictEntry} (r : FEs w γ σ h fs es) : es.length = fs.length := by
  induction r with
  | nil => rfl
  | cons _ _ _ _ ih => exact congrArg (· + 1) ih
section
variable {b : Bas} {n : Nat} {sc : Scope} {ρ : Loc} {σ : Store}
noncomputable def handW : W → Bool
  | .v (.raw v) => handedIn v
  | .v _ => true
  | .ref _ _ => true
  | .meth _ _ _ => true
  | .rng _ _ _ => true
  | .sem _ => true
  | .unk => false
theorem handW_at {γ : Gh} {h : Heap} {y : W} {v : Value} (e : handW y = true) (r : WR γ σ h y v) : handedIn v = true := by
  cases y with
  | v x => cases r <;> first | rfl | exact e
  | ref k p => rw [r.1]; rfl
  | meth f k p => obtain ⟨a, rfl, _⟩ := r; rfl
  | unk => cases e
  | rng lo hi st => obtain ⟨a, t, u, w, rfl, _⟩ := r; rfl
  | sem P => obtain ⟨⟨a, rfl⟩, _⟩ := r; rfl
theorem St.inst {γ : Gh} {s : Shared} (S : St b γ σ s) {k p : Nat} {C : Addr} {fs : List (Str × W)} (h : σ.lookup k = some (p, .inst C fs)) :
    ∃ es m, InstAt s.heap (γ.al k p) (instObj C (γ.dx k p)) C (some (dictOf es m)) ∧ FEs b.w γ σ s.heap fs es ∧ s.heap.get? (γ.dx k p) = some (dictOf es m) ∧ s.heap.get? (γ.al k p) = some (instObj C (γ.dx k p)) ∧ γ.al k p ≠ γ.dx k p := by
  obtain ⟨h1, h2, es, m, h3, h4⟩ := S.obj k _ _ h
  exact ⟨es, m, ⟨h1, rfl, rfl, h3⟩, h4, h3, h1, h2⟩
abbrev Kattr (b : Bas) (name : Str) (Q : W → Store → Prop) : W → Store → Prop := fun ov σ₁ => ∃ k p C fs y, ov = .ref k p ∧ σ₁.lookup k = some (p, .inst C fs) ∧ fs.lookup name = some y ∧ ClsOk b.w C ∧ findIn (MineH.KF b.w.params) (.ref C) name = some none ∧ handW y = true ∧ Q y σ₁
theorem Kattr.mk {name : Str} {Q : W → Store → Prop} {k p : Nat} {C : Addr} {fs : List (Str × W)} {y : W} (h1 : σ.lookup k = some (p, .inst C fs)) (h2 : fs.lookup name = some y) (h3 : ClsOk b.w C) (h4 : findIn (MineH.KF b.w.params) (.ref C) name = some none) (h5 : handW y = true) (q : Q y σ) : Kattr b name Q (.ref k p) σ := ⟨_, _, _, _, _, rfl, h1, h2, h3, h4, h5, q⟩
theorem EE.attr {o : Expr} {name : Str} {pos : Pos} {Q : W → Store → Prop}
    (h : EE b n sc o ρ σ (Kattr b name Q))
    (he : ∀ env, attributeBase o name env (eval o env) = eval o env := by intros; rfl) : EE b n sc (.Attribute o name pos) ρ σ Q := by
  intro A s env γ R S F
  rw [arm_eval_Attribute, he env]
  refine wpAny_bind (h.go R S F fun ov σ₁ γ₁ v s₁ zy35 P r => ex5_7 zy35 fun k p C fs y ho hk hf ok hn hw q => ?_)
  subst ho
  refine ex0_2 (r) fun zz1 _ => ?_
  subst zz1
  refine ex2_3 (P.st.inst hk) fun es m I hfs _ => ?_
  refine ex1_2 (hfs.get hf) fun v hg r => ?_
  refine wpAny_bind (wpAny_standAt (wpAny_bind (wpAny_holding ?_)))
  refine get_value (b.X.keeps P.st.base) I ok.get1 (findObj_own ok.dict hn rfl hg) (handW_at hw r) ?_
  refine wpAny_bind (wpAny_letTemporaryGo (wpAny_pure ?_))
  exact ⟨y, σ₁, γ₁, q, P.trans (Post.toks P.st _), r⟩
theorem GM.inst {k p : Nat} {C : Addr} {fs : List (Str × W)} {name : Str} {f : Addr} {Q : W → List W → Store → Prop} (hk : σ.lookup k = some (p, .inst C fs)) (hf : fs.lookup name = none) (ok : ClsOk b.w C)
    (hn : findIn (MineH.KF b.w.params) (.ref C) name = some (some (.ref f))) (ht : isFn (MineH.KF b.w.params) (.ref f) = true) (q : Q (.v (.raw (.ref f))) [.ref k p] σ) : GM b n (.ref k p) name σ Q := by
  intro A s γ v pl R S r
  refine ex0_2 (r) fun zz2 z => ?_
  subst zz2
  refine ex2_3 (S.inst hk) fun es m I hfs _ => ?_
  refine method_fn (b.X.keeps S.base) I ok.get1 ok.get2 hn (beq_iff_eq.mp ht) ?_ ?_
  · show (lookIn name (dictOf es m)).map _ = _
    rw [lookIn_dict, hfs.none hf]; rfl
  · exact ⟨_, _, σ, γ, q, Post.refl S, .raw _, ⟨rfl, z⟩, trivial⟩
theorem setAttr_at {A : Around} {s : Shared} {x dx C : Addr} {name : Str} {v : Value} {es : List DictEntry} {m : Nat} {Q : Unit → Shared → Prop} (X : (MineH.KF b.w.params).In s.heap) (I : InstAt s.heap x (instObj C dx) C (some (dictOf es m)))
    (D : s.heap.get? dx = some (dictOf es m)) (ok : ClsOk b.w C) (ht : takerIn (MineH.KF b.w.params) C name = some none) (hl : (getL name es).isSome = true) (hz : (putL name (PyData.keyHash b.w.params name) (.str name (s.toks + 1)) v es).length ≤ 1000)
    (h : ∀ h', Heap.SameBut dx s.heap h' → h'.get? dx = some (dictOf (putL name (PyData.keyHash b.w.params name) (.str name (s.toks + 1)) v es) (putN name es m)) → Q () { s with heap := h', toks := s.toks + 2 }) :
    wpAny b.M A (setAttr (.ref x) name v) Q NoE s := by
  refine set_plain X I ok.set (osa_open (s := { s with toks := s.toks + 1 }) X I ok.over ht fun bb => ?_)
  refine ex1_2 (any_some ok.dict) fun cd hc hd' => ?_
  obtain ⟨hx, _, _, _⟩ := I
  have D' : (s.heap.update dx (Obj.putName name (PyData.keyHash b.w.params name) (.str name (s.toks + 1)) v)).get? dx = some (dictOf (putL name (PyData.keyHash b.w.params name) (.str name (s.toks + 1)) v es) (putN name es m)) := by
    rw [Heap.get?_update_self _ D (by rw [putName_dict]; rfl), putName_dict]
  refine wpAny_bind (wpAny_pure (wpAny_bind (wpAny_bind (wpAny_loadPart hx (wpAny_bind (looks_clsIn X hc A.in1 _ _ _ (fun _ _ e => e) ?_))))))
  rw [hd']
  refine wpAny_pure (a := some dx) (wpAny_bind (wpAny_pure (wpAny_bind ?_)))
  unfold nsSet
  refine wpAny_bind (wpAny_bind (wpAny_askSetting (wpAny_pure (wpAny_bind (wpAny_mkText (wpAny_bind (wpAny_loadPart D ?_)))))))
  dsimp only
  have c : (!es.toArray.any (·.key.isStr name) && es.toArray.any (·.refKey)) = false := by
    rw [← Array.any_toList, ← Array.any_toList]
    unfold getL at hl
    split at hl
    · rename_i en he
      rw [List.any_eq_true.mpr ⟨en, List.mem_of_find?_eq_some he, List.find?_some he⟩]; rfl
    · split at hl
      · cases hl
      · rename_i z; rw [Bool.not_eq_true] at z; rw [z, Bool.and_false]
  rw [aRefKeyMayBeTheName_at, c]
  refine wpAny_updatePart D ?_
  refine wpAny_bind (wpAny_lookBehind D' (pastItsLine_dict (by rw [List.size_toArray, sizeLine_eq]; lia)) ?_)
  exact wpAny_pure (h _ (Heap.SameBut.update ..) D')
abbrev KasAttr (b : Bas) (name : Str) (y : W) (ρ : Loc) (Q : Loc → Store → Prop) : W → Store → Prop := fun ov σ₁ => ∃ k p C fs, ov = .ref k p ∧ σ₁.lookup k = some (p, .inst C fs) ∧ ClsOk b.w C ∧ takerIn (MineH.KF b.w.params) C name = some none ∧ (setL name y fs).length ≤ 1000 ∧ Q ρ (put k (.inst C (setL name y fs)) σ₁)
theorem KasAttr.mk {name : Str} {y : W} {Q : Loc → Store → Prop} {k p : Nat} {C : Addr} {fs : List (Str × W)} (h1 : σ.lookup k = some (p, .inst C fs)) (h2 : ClsOk b.w C) (h3 : takerIn (MineH.KF b.w.params) C name = some none) (h4 : (setL name y fs).length ≤ 1000) (q : Q ρ (put k (.inst C (setL name y fs)) σ)) : KasAttr b name y ρ Q (.ref k p) σ := ⟨_, _, _, _, rfl, h1, h2, h3, h4, q⟩
theorem AS.attr {o : Expr} {name : Str} {pos : Pos} {y : W} {Q : Loc → Store → Prop}
    (h : EE b n sc o ρ σ (KasAttr b name y ρ Q)) :
    AS b n sc (.Attribute o name pos) y ρ σ Q := by
  intro A s env γ v R S F r
  rw [arm_assign_Attribute]
  refine wpAny_bind (wpAny_holding (h.go R S F fun ov σ₁ γ₁ u s₁ zy36 P r₁ => ex4_6 zy36 fun k p C fs ho hk ok ht hz q => ?_))
  subst ho
  refine ex0_2 (r₁) fun zz3 _ => ?_
  subst zz3
  refine ex2_5 (P.st.inst hk) fun es m I hfs D hI hne => ?_
  have rv := r.post S P
  have len := (hfs.put (n := name) (y := y) (t := s₁.toks + 1) rv).length
  refine wpAny_bind (wpAny_standAt (wpAny_bind (wpAny_holding (setAttr_at (b.X.keeps P.st.base) I D ok ht hfs.some (by rw [len]; exact hz) fun h' hs hD => ?_))))
  refine wpAny_release ?_
  have z := P.st.sep k _ _ hk
  have fk : FKeep γ₁.F s₁.heap h' := fun a o fa e => (hs.2 a fun q => z.2.1 (q ▸ fa)).trans e
  have P₂ : Post b γ₁ σ₁ s₁ γ₁ (put k (.inst C (setL name y fs)) σ₁) { s₁ with heap := h', toks := s₁.toks + 2 } := by
    refine Post.set (s₁.toks + 2) P.st hk (.inr rfl) hs ⟨(hs.2 _ hne).trans hI, hne, _, _, hD, ?_⟩
    exact (hfs.put (n := name) (y := y) (t := s₁.toks + 1) rv).mono (fun _ h => h) fk AlKeep.put
  exact ⟨.nx, ρ, _, γ₁, ⟨rfl, q⟩, (P.trans P₂).toF, (F.post S P).post P.st P₂, trivial⟩
end
end Mine
end
section
open PySem PySem.W PyProof.Rows PySem.Calls
namespace Mine
def GI (b : Bas) (n : Nat) (x y : W) (σ : Store) (Q : W → Store → Prop) : Prop :=
  ∀ A s γ o i, Room n A → St b γ σ s → WR γ σ s.heap x o → WR γ σ s.heap y i → (∃ T id, s.TypeIs o T ∧ typeLookup (.type T) "__getitem__" = pure (some (.builtin id))) ∧ wpAny b.M A (getItem o i) (RV b γ σ s Q) NoE s
def SI (b : Bas) (n : Nat) (x y z : W) (σ : Store) (Q : Store → Prop) : Prop :=
  ∀ A s γ o i v, Room n A → St b γ σ s → WR γ σ s.heap x o → WR γ σ s.heap y i → WR γ σ s.heap z v → wpAny b.M A (setItem o i v) (fun _ s' => ∃ σ' γ', Q σ' ∧ Post b γ σ s γ' σ' s') NoE s
theorem PVs.append {F : Addr → Prop} {h : Heap} {l l' : List V} {u' : List Value} : ∀ {u : List Value}, PVs F h l u → PVs F h l' u' → PVs F h (l ++ l') (u ++ u') := by
  induction l with
  | nil => exact fun r z => PVs.c0 r z
  | cons x l ih => exact fun r z => PVs.c r fun v vs a r => .cons a (ih r z)
theorem PVs.reverse {F : Addr → Prop} {h : Heap} {l : List V} : ∀ {u : List Value}, PVs F h l u → PVs F h l.reverse u.reverse := by
  induction l with
  | nil => exact fun r => PVs.c0 r .nil
  | cons x l ih => exact fun r => PVs.c r fun v vs a r => by rw [List.reverse_cons, List.reverse_cons]; exact (ih r).append (.cons a .nil)
theorem PVs.take {F : Addr → Prop} {h : Heap} {l : List V} : ∀ {u : List Value}, PVs F h l u → ∀ n, PVs F h (l.take n) (u.take n) := by
  induction l with
  | nil => exact fun r n => PVs.c0 r (by rw [List.take_nil, List.take_nil]; exact .nil)
  | cons x l ih =>
    exact fun r n => PVs.c r fun v vs a r => by
      cases n with
      | zero => exact .nil
      | succ n => exact .cons a (ih r n)
theorem PVs.drop {F : Addr → Prop} {h : Heap} {l : List V} : ∀ {u : List Value}, PVs F h l u → ∀ n, PVs F h (l.drop n) (u.drop n) := by
  induction l with
  | nil => exact fun r n => PVs.c0 r (by rw [List.drop_nil, List.drop_nil]; exact .nil)
  | cons x l ih =>
    exact fun r n => PVs.c r fun v vs a r => by
      cases n with
      | zero => exact .cons a r
      | succ n => exact ih r n
theorem PVs.set {F : Addr → Prop} {h : Heap} {x : V} {v : Value} (p : PV F h x v) {l : List V} : ∀ {u : List Value}, PVs F h l u → ∀ n, PVs F h (l.set n x) (u.set n v) := by
  induction l with
  | nil => exact fun r n => PVs.c0 r .nil
  | cons y l ih =>
    exact fun r n => PVs.c r fun w vs a r => by
      cases n with
      | zero => exact .cons p r
      | succ n => exact .cons a (ih r n)
noncomputable def ListW (σ : Store) : W → Option (List V)
  | .v (.lst l) => some l
  | .ref k p => match σ.lookup k with
    | some (q, .list l) => if p = q then some l else none
    | _ => none
  | _ => none
section
variable {b : Bas} {n : Nat} {sc : Scope} {ρ : Loc} {σ : Store}
theorem ListW.ref {k p : Nat} {l : List V} (e : ListW σ (.ref k p) = some l) : σ.lookup k = some (p, .list l) := by
  change (match σ.lookup k with | some (q, .list l) => if p = q then some l else none | _ => none) = some l at e
  cases q : σ.lookup k with
  | none => rw [q] at e; cases e
  | some o =>
    rw [q] at e
    obtain ⟨p', o⟩ := o
    cases o with
    | list l' =>
      by_cases h : p = p'
      · subst h
        simp only [if_true] at e
        cases e; rfl
      · simp only [if_neg h] at e; cases e
    | _ => cases e
theorem ListW.of {k p : Nat} {l : List V} (h : σ.lookup k = some (p, .list l)) : ListW σ (.ref k p) = some l := by
  show (match σ.lookup k with | some (q, .list l) => if p = q then some l else none | _ => none) = some l
  rw [h]; simp
theorem ListW.exact {γ : Gh} {s : Shared} {x : W} {l : List V} {v : Value} (S : St b γ σ s) (e : ListW σ x = some l) (r : WR γ σ s.heap x v) : ∃ a its m, v = .ref a ∧ s.heap.get? a = some (listOf its m) ∧ PVs γ.F s.heap l its.toList := by
  cases x with
  | v x =>
    cases r with
    | lst fa hl hx => cases e; obtain ⟨m, hl⟩ := hl; exact ⟨_, _, m, rfl, hl, hx⟩
    | _ => cases e
  | ref k p =>
    have hk := ListW.ref e
    refine ex0_2 (r) fun zz1 _ => ?_
    subst zz1
    refine ex2_2 (S.obj _ _ _ hk) fun its m h1 h2 => ?_
    exact ⟨_, its, m, rfl, h1, h2⟩
  | _ => cases e
theorem ListW.at {γ : Gh} {s : Shared} {x : W} {l : List V} {v : Value} (S : St b γ σ s) (e : ListW σ x = some l) (r : WR γ σ s.heap x v) : ∃ a its, v = .ref a ∧ s.heap.IsList a its ∧ PVs γ.F s.heap l its.toList := by
  refine ex3_3 (ListW.exact S e r) fun a its m h1 h2 h3 => ?_
  exact ⟨a, its, h1, isL_of ⟨m, h2⟩, h3⟩
abbrev Kgi (b : Bas) (n : Nat) (Q : W → Store → Prop) (x : W) : W → Store → Prop := fun y σ => GI b n x y σ Q
abbrev Kidx (b : Bas) (n : Nat) (sc : Scope) (i : Expr) (ρ : Loc) (Q : W → Store → Prop) : W → Store → Prop := fun x σ => EE b n sc i ρ σ (Kgi b n Q x)
theorem EE.idx {o i : Expr} {pos : Pos} {Q : W → Store → Prop} (h : EE b n sc o ρ σ (Kidx b n sc i ρ Q))
    (hs : ∀ u v, subscripted i false u v = operate [u, v] (getItem u v) := by intros; rfl) : EE b n sc (.Subscript o i pos) ρ σ Q := by
  intro A s env γ R S F
  rw [arm_eval_Subscript]
  refine wpAny_bind (h.go R S F fun x σ₁ γ₁ ov s₁ h₁ P₁ r₁ => wpAny_bind (wpAny_holding (h₁.go R P₁.st (F.post S P₁) fun y σ₂ γ₂ iv s₂ h₂ P₂ r₂ => wpAny_bind (wpAny_standAt ?_))))
  refine ex0_2 (h₂ A s₂ γ₂ ov iv R P₂.st (r₁.post P₁.st P₂) r₂) fun zz2 hg => ?_
  refine ex2_2 (zz2) fun T id hT hl => ?_
  refine tail_any hT hl ?_ (hs ov iv)
  exact wpAny_mono hg (fun _ _ z => z.trans (P₁.trans P₂)) fun _ _ z => z
abbrev Ksi (b : Bas) (n : Nat) (y : W) (ρ : Loc) (Q : Loc → Store → Prop) (x : W) : W → Store → Prop := fun z σ => SI b n x z y σ (Q ρ)
abbrev Ksub (b : Bas) (n : Nat) (sc : Scope) (i : Expr) (y : W) (ρ : Loc) (Q : Loc → Store → Prop) : W → Store → Prop := fun x σ => EE b n sc i ρ σ (Ksi b n y ρ Q x)
theorem AS.sub {o i : Expr} {pos : Pos} {y : W} {Q : Loc → Store → Prop} (h : EE b n sc o ρ σ (Ksub b n sc i y ρ Q)) : AS b n sc (.Subscript o i pos) y ρ σ Q := by
  intro A s env γ v R S F r
  rw [arm_assign_Subscript]
  refine wpAny_bind (wpAny_holding (h.go R S F fun x σ₁ γ₁ ov s₁ h₁ P₁ r₁ => wpAny_bind (wpAny_holding (h₁.go R P₁.st (F.post S P₁) fun z σ₂ γ₂ iv s₂ h₂ P₂ r₂ => wpAny_bind (wpAny_standAt (wpAny_bind (wpAny_holding ?_)))))))
  refine wpAny_mono (h₂ A s₂ γ₂ ov iv v R P₂.st (r₁.post P₁.st P₂) r₂ ((r.post S P₁).post P₁.st P₂)) (fun _ s₃ zy37 => ex2_2 zy37 fun σ₃ γ₃ q P₃ => wpAny_release ?_) fun _ _ z => z
  exact ⟨.nx, ρ, σ₃, γ₃, ⟨rfl, q⟩, (P₁.trans (P₂.trans P₃)).toF, ((F.post S P₁).post P₁.st P₂).post P₂.st P₃, trivial⟩
theorem GI.tup {l : List V} {k : Int} {j : Nat} {x : V} {Q : W → Store → Prop} (hk : seqIndex? k l.length = some j) (hx : l[j]? = some x) (q : Q (.v x) σ) (hlo : -(2 ^ 63) ≤ k := by decide) (hhi : k < 2 ^ 63 := by decide) : GI b n (.v (.tup l)) (.v (.int k)) σ Q := by
  intro A s γ o i R S r r'
  cases r with
  | tup fa ht hl =>
    refine WR.c_int r' fun _ => ?_
    rename_i a its t
    refine ex1_2 (hl.get hx) fun v hv hp => ?_
    have len : its.size = l.length := by have := hl.length; simpa using this
    refine ⟨⟨"tuple", _, ⟨_, ht.choose_spec.1, ht.choose_spec.2.1⟩, slot_tuple_getitem.lookup⟩, PyProof.Rows.getItem_tuple ht hlo hhi (by rw [len]; exact hk) (by simpa using hv) ?_⟩
    exact RV.same S q hp
theorem GI.list {x : W} {l : List V} {k : Int} {y : V} {Q : W → Store → Prop} (e : ListW σ x = some l) (h0 : 0 ≤ k) (hx : l[k.toNat]? = some y) (q : Q (.v y) σ) (hhi : k < 2 ^ 63) : GI b n x (.v (.int k)) σ Q := by
  intro A s γ o i R S r r'
  refine ex2_3 (ListW.at S e r) fun a its zz3 hl hp => ?_
  subst zz3
  refine WR.c_int r' fun _ => ?_
  refine ex1_2 (hp.get hx) fun v hv hq => ?_
  refine ⟨⟨"list", _, hl.typeIs, slot_list_getitem.lookup⟩, wpAny_getItem_list hl h0 hhi (by simpa using hv) (RV.same S q hq)⟩
theorem Post.setList {γ : Gh} {s : Shared} {k p : Nat} {l l' : List V} {h' : Heap} {its : Array Value} {m t : Nat} (S : St b γ σ s) (hk : σ.lookup k = some (p, .list l)) (hs : Heap.SameBut (γ.al k p) s.heap h') (ho : h'.get? (γ.al k p) = some (listOf its m)) (hp : PVs γ.F s.heap l' its.toList) :
    Post b γ σ s γ (put k (.list l') σ) { s with heap := h', toks := t } := by
  have z := S.sep k _ _ hk
  exact Post.set t S hk (.inl rfl) hs ⟨its, m, ho, hp.mono (fun _ h => h) fun a o fa e => (hs.2 a fun q => z.1 (q ▸ fa)).trans e⟩
theorem IsL.exact {h : Heap} {a : Addr} {its : Array Value} {m : Nat} (ho : h.get? a = some (listOf its m)) (f : Array Value → Array Value) : ∃ m', (h.update a (Obj.mapSeq f)).get? a = some (listOf (f its) m') := by
  have q := PySem.IsL.update ho f
  split at q
  · exact ⟨_, q⟩
  · exact ⟨_, q⟩
theorem SI.list {k p : Nat} {l : List V} {i : Int} {x : V} {Q : Store → Prop} (hk : σ.lookup k = some (p, .list l)) (h0 : 0 ≤ i) (h1 : i < l.length) (hhi : i < 2 ^ 63) (q : Q (put k (.list (l.set i.toNat x)) σ)) : SI b n (.ref k p) (.v (.int i)) (.v x) σ Q := by
  intro A s γ o iv v R S r r' r''
  refine ex0_2 (r) fun zz4 _ => ?_
  subst zz4
  refine WR.c_int r' fun _ => ?_
  refine ex2_2 (S.obj k _ _ hk) fun its m ho hp => ?_
  have len : its.size = l.length := by have := hp.length; simpa using this
  refine ki_setAt ho h0 hhi (by rw [len]; exact h1) ?_
  refine ex1_1 (IsL.exact ho (·.setIfInBounds i.toNat v)) fun m' hm => ?_
  refine ⟨_, γ, q, Post.setList (t := s.toks) S hk (Heap.SameBut.update ..) hm ?_⟩
  rw [Array.toList_setIfInBounds]
  exact hp.set r'' _
theorem GM.list {x : W} {l : List V} {name : Str} {id : String} {Q : W → List W → Store → Prop} (e : ListW σ x = some l) (slot : Slot "list" name id) (hty : typeOf (.builtin id) = pure (.type "method_descriptor")) (q : Q (.v (.raw (.builtin id))) [x] σ) (hx : ∃ k p, x = .ref k p) : GM b n x name σ Q := by
  intro A s γ v pl R S r
  refine ex2_1 (hx) fun k p zz5 => ?_
  subst zz5
  have r₀ := r
  refine ex3_3 (ListW.exact S e r) fun a its m zz6 ho hp => ?_
  subst zz6
  refine getMethod_builtin ⟨_, ho, rfl⟩ PySem.F.plainAttrs_list slot hty (fun a e => by cases e; exact ⟨_, ho, rfl⟩) ?_
  exact ⟨_, _, σ, γ, q, Post.refl S, .raw _, r₀, trivial⟩
theorem AP.append {k p : Nat} {l : List V} {x : V} {Q : W → Store → Prop} (hk : σ.lookup k = some (p, .list l)) (q : Q (.v .none) (put k (.list (l ++ [x])) σ)) (hz : l.length ≤ 16777216) : AP b n (.v (.raw (.builtin "list.append"))) [.ref k p, .v x] σ Q := by
  refine AP.r2 fun A s γ u v R S rr0 r => ?_
  refine ex0_2 rr0 fun e _ => ?_
  subst e
  refine ex2_2 (S.obj k _ _ hk) fun its m ho hp => ?_
  have len : its.size = l.length := by have := hp.length; simpa using this
  refine ⟨keep_builtin, append_at (hsz := by rw [len, sizeLine_eq]; exact hz) ho fun h' hs ho' => ?_⟩
  refine ⟨_, _, γ, q, Post.setList (t := s.toks) S hk hs ho' ?_, .none⟩
  rw [Array.toList_push]
  exact hp.append (.cons r .nil)
theorem AP.pop {k p : Nat} {l : List V} {x : V} {Q : W → Store → Prop} (hk : σ.lookup k = some (p, .list (l ++ [x]))) (q : Q (.v x) (put k (.list l) σ)) (hz : l.length < 16777216) : AP b n (.v (.raw (.builtin "list.pop"))) [.ref k p] σ Q := by
  refine AP.r1 fun A s γ u R S rr0 => ?_
  refine ex0_2 rr0 fun e _ => ?_
  subst e
  refine ex2_2 (S.obj k _ _ hk) fun its m ho hp => ?_
  have len : its.size = l.length + 1 := by have := hp.length; simpa using this
  have hl : (l ++ [x])[l.length]? = some x := by simp
  refine ex1_2 (hp.get hl) fun v hv hpv => ?_
  have hy : its[its.size - 1]? = some v := by rw [len]; simpa using hv
  refine ⟨keep_builtin, call_meets PySem.F.slot_list_pop ⟨_, ho, rfl⟩ PySem.F.entry_list_pop (PySem.F.args_list_pop_1 _) (PySem.MeetsSeq.list_pop_last (γ.al k p) its m v hy (by rw [len, sizeLine_eq]; lia)) ⟨ho, ?_⟩⟩
  obtain ⟨m', hm⟩ := IsL.exact ho (fun xs => xs.eraseIdxIfInBounds (its.size - 1))
  have P : Post b γ σ s γ (put k (.list l) σ) { s with heap := _, toks := s.toks } := Post.setList (t := s.toks) S hk (Heap.SameBut.update ..) hm ?_
  · exact ⟨_, _, γ, q, P, hpv.mono (fun _ h => h) (P.fkeep S)⟩
  · have h2 : (its.eraseIdxIfInBounds (its.size - 1)).toList = its.toList.take l.length := by
      rw [show its.size - 1 = l.length by lia]
      have : l.length < its.size := by lia
      unfold Array.eraseIdxIfInBounds
      rw [dif_pos this, Array.toList_eraseIdx, List.eraseIdx_eq_take_drop_succ]
      rw [List.drop_eq_nil_of_le (by simp; lia), List.append_nil]
    rw [h2]
    have := hp.take l.length
    rwa [List.take_left'] at this
    rfl
theorem AP.reverse {k p : Nat} {l : List V} {Q : W → Store → Prop} (hk : σ.lookup k = some (p, .list l)) (q : Q (.v .none) (put k (.list l.reverse) σ)) (hz : l.length ≤ 16777216) : AP b n (.v (.raw (.builtin "list.reverse"))) [.ref k p] σ Q := by
  refine AP.r1 fun A s γ u R S rr0 => ?_
  refine ex0_2 rr0 fun e _ => ?_
  subst e
  refine ex2_2 (S.obj k _ _ hk) fun its m ho hp => ?_
  have len : its.size = l.length := by have := hp.length; simpa using this
  refine ⟨keep_builtin, call_meets PySem.F.slot_list_reverse ⟨_, ho, rfl⟩ PySem.F.entry_list_reverse (PySem.F.args_list_reverse_1 _) (PySem.AutoSeq1.list_reverse_list_0 (γ.al k p) its m (by rw [len, sizeLine_eq]; exact hz)) ⟨ho, ?_⟩⟩
  obtain ⟨m', hm⟩ := IsL.exact ho (fun xs => xs.reverse)
  refine ⟨_, _, γ, q, Post.setList (t := s.toks) S hk (Heap.SameBut.update ..) hm ?_, .none⟩
  rw [Array.toList_reverse]
  exact hp.reverse
end
end Mine
end
section
open PySem PySem.W PyProof.Rows PySem.Calls
namespace Mine
mutual
noncomputable def pd : V → PyData
  | .none => .none
  | .bool b => .bool b
  | .int i => .int i
  | .str s => .str s
  | .tup l => .tuple (pds l)
  | .lst l => .list (pds l)
  | .raw _ => .none
noncomputable def pds : List V → List PyData
  | [] => []
  | x :: r => pd x :: pds r
end
mutual
noncomputable def okV : V → Bool
  | .raw _ => false
  | .tup l => okVs l
  | .lst l => okVs l
  | _ => true
noncomputable def okVs : List V → Bool
  | [] => true
  | x :: r => okV x && okVs r
end
theorem PV.reads {F : Addr → Prop} {h : Heap} {x : V} {v : Value} (e : okV x = true) (r : PV F h x v) : ∃ as, Reads h v (pd x) as := by
  refine PV.rec (F := F) (h := h) (motive_1 := fun x v _ => okV x = true → ∃ as, Reads h v (pd x) as) (motive_2 := fun l vs _ => okVs l = true → ∃ as, ReadsAll h vs (pds l) as)
    (fun _ => ⟨_, .none⟩) (fun b _ => ⟨_, .bool b⟩) (fun i t _ => ⟨_, .int i t⟩) (fun s t _ => ⟨_, .str s t⟩) (fun _ e => by cases e) (fun _ ht _ ih e => ?_) (fun _ hl _ ih e => ?_) (fun _ => ⟨_, .nil⟩) (fun _ _ ih1 ih2 e => ?_) r e
  · refine ex1_3 ht fun o ho hc hd => ex1_1 hd fun m hd => ex1_1 (ih e) fun as z => ⟨_, Reads.tuple ho hc hd z⟩
  · refine ex1_1 hl fun m ho => ex1_1 (ih e) fun as z => ⟨_, Reads.list ho rfl rfl z⟩
  · refine ex0_2 (Bool.and_eq_true_iff.mp e) fun e1 e2 => ex1_1 (ih1 e1) fun as z => ex1_1 (ih2 e2) fun bs z' => ⟨_, ReadsAll.cons z z'⟩
theorem PVs.reads {F : Addr → Prop} {h : Heap} {l : List V} : ∀ {vs : List Value}, okVs l = true → PVs F h l vs → ∃ as, ReadsAll h vs (pds l) as := by
  induction l with
  | nil => exact fun _ r => PVs.c0 r ⟨_, .nil⟩
  | cons x l ih =>
    exact fun e r => PVs.c r fun v vs a r => by
      refine ex0_2 (Bool.and_eq_true_iff.mp e) fun e1 e2 => ex1_1 (a.reads e1) fun as z => ex1_1 (ih e2 r) fun bs z' => ⟨_, ReadsAll.cons z z'⟩
section
variable {b : Bas} {n : Nat} {sc : Scope} {ρ : Loc} {σ : Store} {Q : W → Store → Prop}
noncomputable def shV (x : V) : Bool := okV x && PySem.SeqAt.shaped (pd x)
theorem shV.at {x : V} (h : shV x = true) : okV x = true ∧ PySem.SeqAt.shaped (pd x) = true := Bool.and_eq_true_iff.mp h
theorem Room.lay {A : Around} (R : Room n A) : A.units + 64 < cLine := by
  have := R.2.1
  show A.units + 64 < 9900
  lia
def CmpW (σ : Store) (x : W) (y : V) : Prop := x = .v y ∨ ∃ l, ListW σ x = some l ∧ y = .lst l
theorem CmpW.reads {γ : Gh} {s : Shared} {x : W} {y : V} {v : Value} (S : St b γ σ s) (e : CmpW σ x y) (h : okV y = true) (r : WR γ σ s.heap x v) : ∃ as, Reads s.heap v (pd y) as := by
  rcases e with rfl | ⟨l, e, rfl⟩
  · exact PV.reads h r
  · refine ex3_3 (ListW.exact S e r) fun a its m zz1 ho hp => ?_
    subst zz1
    refine ex1_1 (PVs.reads h hp) fun as z => ?_
    exact ⟨_, Reads.list ho rfl rfl z⟩
theorem Op2.eqD {x y : W} {u v : V} (hx : CmpW σ x u) (hy : CmpW σ y v) (h1 : shV u = true) (h2 : shV v = true) (q : Q (.v (.bool (PyData.eqv (pd u) (pd v)))) σ) : Op2 b n (compareOp .Eq) x y σ Q := by
  intro A s γ a c R S r r'
  refine ex1_1 (hx.reads S (shV.at h1).1 r) fun as z => ?_
  refine ex1_1 (hy.reads S (shV.at h2).1 r') fun bs z' => ?_
  exact eq_dataH z z' (shV.at h1).2 (shV.at h2).2 R.lay (RV.same S q (.bool _))
theorem Op2.neD {x y : W} {u v : V} (hx : CmpW σ x u) (hy : CmpW σ y v) (h1 : shV u = true) (h2 : shV v = true) (q : Q (.v (.bool (!PyData.eqv (pd u) (pd v)))) σ) : Op2 b n (compareOp .NotEq) x y σ Q := by
  intro A s γ a c R S r r'
  refine ex1_1 (hx.reads S (shV.at h1).1 r) fun as z => ?_
  refine ex1_1 (hy.reads S (shV.at h2).1 r') fun bs z' => ?_
  exact ne_dataH z z' (shV.at h1).2 (shV.at h2).2 R.lay (RV.same S q (.bool _))
theorem shV.room {A : Around} (R : Room n A) {u : V} (xs : List PyData) (h : shV u = true) : (pd u).canLay0 = true ∧ A.units + 1 + min (PyData.depthAll xs) (pd u).depth < cLine := by
  have h1 := PySem.SeqAt.canLay_of_shaped (shV.at h).2
  have h2 := PySem.SeqAt.depth_of_shaped (shV.at h).2
  have h3 : min (PyData.depthAll xs) (pd u).depth ≤ (pd u).depth := Nat.min_le_right _ _
  have := R.2.1
  refine ⟨h1, ?_⟩
  show _ < 9900
  lia
theorem Op2.inL {x y : W} {u : V} {l : List V} (hx : CmpW σ x u) (hy : ListW σ y = some l) (h1 : shV u = true) (h2 : okVs l = true) (h3 : PyData.canLayAll0 (pds l) = true) (q : Q (.v (.bool ((pds l).any fun y => PyData.eqv y (pd u)))) σ) : Op2 b n (compareOp .In) x y σ Q := by
  intro A s γ a c R S r r'
  refine ex1_1 (hx.reads S (shV.at h1).1 r) fun as z => ?_
  refine ex1_1 (CmpW.reads (y := .lst l) S (.inr ⟨l, hy, rfl⟩) h2 r') fun bs z' => ?_
  exact PySem.SeqAt.in_list_reads z' z h3 (shV.room R [] h1).1 (shV.room R _ h1).2 (RV.same S q (.bool _))
theorem Op2.notInL {x y : W} {u : V} {l : List V} (hx : CmpW σ x u) (hy : ListW σ y = some l) (h1 : shV u = true) (h2 : okVs l = true) (h3 : PyData.canLayAll0 (pds l) = true) (q : Q (.v (.bool (!(pds l).any fun y => PyData.eqv y (pd u)))) σ) : Op2 b n (compareOp .NotIn) x y σ Q := by
  intro A s γ a c R S r r'
  refine ex1_1 (hx.reads S (shV.at h1).1 r) fun as z => ?_
  refine ex1_1 (CmpW.reads (y := .lst l) S (.inr ⟨l, hy, rfl⟩) h2 r') fun bs z' => ?_
  exact PySem.SeqAt.notIn_list_reads z' z h3 (shV.room R [] h1).1 (shV.room R _ h1).2 (RV.same S q (.bool _))
theorem Op2.inT {x : W} {u : V} {l : List V} (hx : CmpW σ x u) (h1 : shV u = true) (h2 : okVs l = true) (h3 : PyData.canLayAll0 (pds l) = true) (q : Q (.v (.bool ((pds l).any fun y => PyData.eqv y (pd u)))) σ) : Op2 b n (compareOp .In) x (.v (.tup l)) σ Q := by
  intro A s γ a c R S r r'
  refine ex1_1 (hx.reads S (shV.at h1).1 r) fun as z => ?_
  refine ex1_1 (PV.reads (x := .tup l) h2 r') fun bs z' => ?_
  exact PySem.SeqAt.in_tuple_reads z' z h3 (shV.room R [] h1).1 (shV.room R _ h1).2 (RV.same S q (.bool _))
noncomputable def strOf : Value → Option Str
  | .str x _ => some x
  | _ => none
theorem strOf_eq {v : Value} {x : Str} (h : strOf v = some x) : ∃ t, v = .str x t := by
  unfold strOf at h
  split at h
  · cases h; exact ⟨_, rfl⟩
  · cases h
noncomputable def strsV : List Value → Option (List V)
  | [] => some []
  | v :: r => (strOf v).bind fun x => (strsV r).map (.str x :: ·)
theorem strsV_at {F : Addr → Prop} {h : Heap} {vs : List Value} : ∀ {l : List V}, strsV vs = some l → PVs F h l vs := by
  induction vs with
  | nil => intro l e; cases e; exact .nil
  | cons v r ih =>
    intro l e
    refine ex1_2 (Option.bind_eq_some_iff.mp (show (strOf v).bind _ = some l from e)) fun x hx e => ex1_2 (Option.map_eq_some_iff.mp e) fun l' hl e => ?_
    subst e
    refine ex1_1 (strOf_eq hx) fun t e => ?_
    subst e
    exact .cons (.str x t) (ih hl)
theorem EE.globT {x : Str} {pos : Pos} {a : Addr} {its : Array Value} {m : Nat} {od : Option Addr} {osl : Array (Option Value)} {l : List V} (e : nsIn (MineH.KF b.w.params) mainGlobals x = some (some (.ref a))) (hk : sc.names.lookup x = some .globalImplicit)
    (ho : (MineH.KF b.w.params).lookup a = some ⟨.type "tuple", od, .seq its m, osl⟩) (hl : strsV its.toList = some l) (q : Q (.v (.tup l)) σ) (hd : (x == ("__debug__" : Str)) = false := by decide) : EE b n sc (.Name x pos) ρ σ Q := by
  intro A s env γ _ S F
  refine Calls.Name_function_global (by rw [F.scope]; exact F.kind) (by show env.scope.names.lookup x = _; rw [F.scope]; exact hk) (loadGlobal_K S F.glob e (RV.same S q ?_)) hd
  have h0 := b.X _ _ ho
  exact .tup (S.stat' h0) ⟨_, S.base a _ h0, rfl, m, rfl⟩ (strsV_at hl)
theorem AP.lenL {x : W} {l : List V} (e : ListW σ x = some l) (q : Q (.v (.int l.length)) σ) (hz : l.length < 2 ^ 62) : AP b n (.v (.raw (.builtin "len"))) [x] σ Q := by
  refine AP.r1 fun A s γ u R S r => ?_
  refine ex2_3 (ListW.at S e r) fun a its zz3 hl hx => ?_
  subst zz3
  have len : its.size = l.length := by have := hx.length; simpa using this
  refine ⟨keep_builtin, call_len_list hl (by rw [len]; lia) ?_⟩
  rw [len]
  exact RV.now S q _ (.int _ _)
theorem Op2.addL {x y : W} {l l' : List V} (hx : ListW σ x = some l) (hy : ListW σ y = some l') (q : Q (.v (.lst (l ++ l'))) σ) (hz : l.length + l'.length ≤ 16777216) : Op2 b n (binaryOp .Add) x y σ Q := by
  intro A s γ a c R S r r'
  refine ex3_3 (ListW.exact S hx r) fun a its m zz4 ho hp => ?_
  subst zz4
  refine ex3_3 (ListW.exact S hy r') fun a' its' m' zz5 ho' hp' => ?_
  subst zz5
  have len : its.size = l.length := by have := hp.length; simpa using this
  have len' : its'.size = l'.length := by have := hp'.length; simpa using this
  refine PySem.P.add_list ho ho' ?_ (by rw [len, len', sizeLine_eq]; exact hz)
  have P := Post.allocF (ob := { cls := .type "list", data := .seq (its ++ its') }) S
  refine ⟨_, σ, _, q, P, .lst (.inr rfl) ⟨0, Heap.get?_push_size _ rfl⟩ ?_⟩
  rw [Array.toList_append]
  exact (hp.append hp').mono (fun _ h => .inl h) (P.fkeep S)
theorem AP.extend {k p : Nat} {l : List V} {y : W} {l' : List V} (hk : σ.lookup k = some (p, .list l)) (hy : ListW σ y = some l') (q : Q (.v .none) (put k (.list (l ++ l')) σ)) (hz : l.length + l'.length ≤ 1000000) : AP b n (.v (.raw (.builtin "list.extend"))) [.ref k p, y] σ Q := by
  refine AP.r2 fun A s γ u v R S rr0 r => ?_
  refine ex0_2 rr0 fun e _ => ?_
  subst e
  refine ex2_2 (S.obj k _ _ hk) fun its m ho hp => ?_
  refine ex3_3 (ListW.exact S hy r) fun a' its' m' zz6 ho' hp' => ?_
  subst zz6
  have len : its.size = l.length := by have := hp.length; simpa using this
  have len' : its'.size = l'.length := by have := hp'.length; simpa using this
  have big : Builtin.List.listTooLong (its.size + its'.size) = false := by
    rw [len, len']
    unfold Builtin.List.listTooLong
    exact decide_eq_false (by rw [sizeLine_eq]; lia)
  refine ⟨keep_builtin, call_meets PySem.F.slot_list_extend ⟨_, ho, rfl⟩ PySem.F.entry_list_extend (PySem.F.args_list_extend_2 _ _) (PySem.AutoSeq1.list_extend_list_list_0 (γ.al k p) its m a' its' m' (by rw [big, Bool.and_false]; exact Bool.false_ne_true) (by rw [len, sizeLine_eq]; lia) (by rw [len, len', sizeLine_eq]; lia)) ⟨ho, ho', ?_⟩⟩
  obtain ⟨m₂, hm⟩ := IsL.exact ho (fun xs => xs ++ its')
  refine ⟨_, _, γ, q, Post.setList (t := s.toks) S hk (Heap.SameBut.update ..) hm ?_, .none⟩
  rw [Array.toList_append]
  exact hp.append hp'
end
end Mine
end
section
open PySem PySem.W PyProof.Rows PySem.Calls
namespace Mine
noncomputable def dget {K : Type} [DecidableEq K] (k : K) (l : List (K × V)) : Option V := (l.find? fun kv => kv.1 = k).map (·.2)
noncomputable def dset {K : Type} [DecidableEq K] (k : K) (x : V) (l : List (K × V)) : List (K × V) :=
  if l.any (fun kv => kv.1 = k) then l.map (fun kv => if kv.1 = k then (kv.1, x) else kv) else l ++ [(k, x)]
theorem KVs.nil {K : Type} {F : Addr → Prop} {h : Heap} : KVs (K := K) F h [] [] := ⟨rfl, .nil⟩
theorem KVs.cons {K : Type} {F : Addr → Prop} {h : Heap} {k : K} {x : V} {v : Value} {l : List (K × V)} {kvs : List (K × Value)} (p : PV F h x v) (r : KVs F h l kvs) : KVs F h ((k, x) :: l) ((k, v) :: kvs) := ⟨by simp [r.1], .cons p r.2⟩
theorem KVs.ind {K : Type} {F : Addr → Prop} {h : Heap} {P : List (K × V) → List (K × Value) → Prop} (h0 : P [] []) (h1 : ∀ k x v l kvs, PV F h x v → KVs F h l kvs → P l kvs → P ((k, x) :: l) ((k, v) :: kvs)) {l : List (K × V)} : ∀ {kvs : List (K × Value)}, KVs F h l kvs → P l kvs := by
  induction l with
  | nil =>
    intro kvs r
    obtain rfl := List.map_eq_nil_iff.mp r.1
    exact h0
  | cons p l ih =>
    intro kvs r
    refine ex0_2 r fun e r => ?_
    cases kvs with
    | nil => cases e
    | cons q kvs =>
      obtain ⟨k, x⟩ := p
      obtain ⟨k', v⟩ := q
      refine ex0_2 (List.cons.inj e) fun (e1 : k' = k) e2 => ?_
      subst e1
      cases r with
      | cons a r => exact h1 k' x v l kvs a ⟨e2, r⟩ (ih ⟨e2, r⟩)
theorem KVs.get {K : Type} [DecidableEq K] {F : Addr → Prop} {h : Heap} {k : K} {l : List (K × V)} {kvs : List (K × Value)} (r : KVs F h l kvs) : (dget k l = none ∧ valueAt kvs k = none) ∨ ∃ x v, dget k l = some x ∧ valueAt kvs k = some v ∧ PV F h x v := by
  refine KVs.ind (P := fun l kvs => (dget k l = none ∧ valueAt kvs k = none) ∨ ∃ x v, dget k l = some x ∧ valueAt kvs k = some v ∧ PV F h x v) (.inl ⟨rfl, rfl⟩) (fun k' x v l kvs p _ ih => ?_) r
  unfold dget valueAt at ih ⊢
  rw [List.find?_cons, List.find?_cons]
  by_cases e : k' = k
  · simp only [e, decide_true]
    exact .inr ⟨x, v, rfl, rfl, p⟩
  · simp only [e, decide_false]
    exact ih
theorem KVs.any {K : Type} [DecidableEq K] {F : Addr → Prop} {h : Heap} {k : K} {l : List (K × V)} {kvs : List (K × Value)} (r : KVs F h l kvs) : l.any (fun kv => decide (kv.1 = k)) = kvs.any (fun kv => decide (kv.1 = k)) := by
  refine KVs.ind (P := fun l kvs => l.any (fun kv => decide (kv.1 = k)) = kvs.any (fun kv => decide (kv.1 = k))) rfl (fun k' x v l kvs p _ ih => ?_) r
  rw [List.any_cons, List.any_cons, ih]
theorem KVs.set {K : Type} [DecidableEq K] {F : Addr → Prop} {h : Heap} {k : K} {x : V} {v : Value} (p : PV F h x v) {l : List (K × V)} {kvs : List (K × Value)} (r : KVs F h l kvs) : KVs F h (dset k x l) (stored kvs k v) := by
  unfold dset stored
  rw [r.any]
  split
  · refine KVs.ind (P := fun l kvs => KVs F h (l.map (fun kv => if kv.1 = k then (kv.1, x) else kv)) (kvs.map (fun kv => if kv.1 = k then (kv.1, v) else kv))) .nil (fun k' x' v' l kvs p' _ ih => ?_) r
    rw [List.map_cons, List.map_cons]
    by_cases e : k' = k
    · simp only [if_pos e]; exact .cons p ih
    · simp only [if_neg e]; exact .cons p' ih
  · refine KVs.ind (P := fun l kvs => KVs F h (l ++ [(k, x)]) (kvs ++ [(k, v)])) (.cons p .nil) (fun k' x' v' l kvs p' _ ih => .cons p' ih) r
theorem KVs.length {K : Type} {F : Addr → Prop} {h : Heap} {l : List (K × V)} {kvs : List (K × Value)} (r : KVs F h l kvs) : kvs.length = l.length := by
  have := congrArg List.length r.1
  simpa using this
section
variable {b : Bas} {n : Nat} {sc : Scope} {ρ : Loc} {σ : Store} {Q : W → Store → Prop}
theorem St.noMod {γ : Gh} {s : Shared} (S : St b γ σ s) {k p : Nat} {o : O} (h : σ.lookup k = some (p, o)) : (γ.al k p == sysModules) = false := by
  refine beq_eq_false_iff_ne.mpr fun e => (S.sep k p o h).1 ?_
  rw [e]
  exact S.stat _ (modules_low b.nolimit) (by decide)
theorem key_str {γ : Gh} {h : Heap} {s : Str} {v : Value} (r : WR γ σ h (.v (.str s)) v) : (strKind b.prog b.w).is s v = true := by
  cases r; simp [PySem.strKind, Value.isStrOf]
theorem key_int {γ : Gh} {h : Heap} {s : Int} {v : Value} (r : WR γ σ h (.v (.int s)) v) : (intKind b.prog b.w).is s v = true := by
  cases r; simp [PySem.intKind, Value.isInt]
theorem Post.setD {γ : Gh} {s : Shared} {k p : Nat} {o o' : O} {h' : Heap} {t : Nat} (S : St b γ σ s) (hk : σ.lookup k = some (p, o)) (hs : Heap.SameBut (γ.al k p) s.heap h') (ho : ObjAt b.prog b.w γ (put k o' σ) h' k p o') : Post b γ σ s γ (put k o' σ) { s with heap := h', toks := t } :=
  Post.set t S hk (.inl rfl) hs ho
theorem fk_of {γ : Gh} {s : Shared} {k p : Nat} {o : O} {h' : Heap} (S : St b γ σ s) (hk : σ.lookup k = some (p, o)) (hs : Heap.SameBut (γ.al k p) s.heap h') : FKeep γ.F s.heap h' := fun a o fa e => (hs.2 a fun q => (S.sep k p _ hk).1 (q ▸ fa)).trans e
theorem GI.dI {k p : Nat} {l : List (Int × V)} {i : Int} {x : V} (hk : σ.lookup k = some (p, .dI l)) (hx : dget i l = some x) (q : Q (.v x) σ) : GI b n (.ref k p) (.v (.int i)) σ Q := by
  intro A s γ o iv R S r r'
  refine ex0_2 (r) fun zz1 _ => ?_
  subst zz1
  refine ex1_2 (S.obj k _ _ hk) fun kvs hd hp => ?_
  rcases hp.get (k := i) with ⟨e, _⟩ | ⟨x', v, e, hv, hpv⟩
  · rw [e] at hx; cases hx
  · rw [e] at hx; cases hx
    exact ⟨⟨"dict", _, hd.typeIs, slot_dict_getitem.lookup⟩, wpAny_getItem_of (key_int (b := b) r') hd.mapOf hv (RV.now S q _ hpv)⟩
theorem SI.dI {k p : Nat} {l : List (Int × V)} {i : Int} {x : V} {Q : Store → Prop} (hk : σ.lookup k = some (p, .dI l)) (hz : l.length ≤ 16777216) (q : Q (put k (.dI (dset i x l)) σ)) : SI b n (.ref k p) (.v (.int i)) (.v x) σ Q := by
  intro A s γ o iv v R S r r' r''
  refine ex0_2 (r) fun zz2 _ => ?_
  subst zz2
  refine ex1_2 (S.obj k _ _ hk) fun kvs hd hp => ?_
  refine wpAny_setItem_pairs (key_int (b := b) r') hd (fun h' hd' hs => ?_) (by rw [hp.length, sizeLine_eq]; exact hz)
  exact ⟨_, γ, q, Post.setD (t := s.toks + 1) S hk hs ⟨_, hd', (hp.set r'').mono (fun _ h => h) (fk_of S hk hs)⟩⟩
theorem SI.dS {k p : Nat} {l : List (Str × V)} {i : Str} {x : V} {Q : Store → Prop} (hk : σ.lookup k = some (p, .dS l)) (hz : l.length ≤ 16777216) (q : Q (put k (.dS (dset i x l)) σ)) : SI b n (.ref k p) (.v (.str i)) (.v x) σ Q := by
  intro A s γ o iv v R S r r' r''
  refine ex0_2 (r) fun zz3 _ => ?_
  subst zz3
  refine ex1_2 (S.obj k _ _ hk) fun kvs hd hp => ?_
  refine wpAny_setItem_pairs (key_str (b := b) r') hd (fun h' hd' hs => ?_) (by rw [hp.length, sizeLine_eq]; exact hz)
  exact ⟨_, γ, q, Post.setD (t := s.toks + 1) S hk hs ⟨_, hd', (hp.set r'').mono (fun _ h => h) (fk_of S hk hs)⟩⟩
theorem Op2.notInDI {k p : Nat} {l : List (Int × V)} {i : Int} (hk : σ.lookup k = some (p, .dI l)) (q : Q (.v (.bool (!(dget i l).isSome))) σ) : Op2 b n (compareOp .NotIn) (.v (.int i)) (.ref k p) σ Q := by
  intro A s γ iv o R S r' r
  refine ex0_2 (r) fun zz4 _ => ?_
  subst zz4
  refine ex1_2 (S.obj k _ _ hk) fun kvs hd hp => ?_
  refine wpAny_notIn_of (key_int (b := b) r') (S.noMod hk) hd.mapOf ?_
  have e : (valueAt kvs i).isSome = (dget i l).isSome := by rcases hp.get (k := i) with ⟨e, e'⟩ | ⟨x', v, e, e', _⟩ <;> rw [e, e'] <;> rfl
  rw [e]
  exact RV.now S q _ (.bool _)
theorem GM.dict {k p : Nat} {o : O} {name : Str} {id : String} {Q : W → List W → Store → Prop} (hk : σ.lookup k = some (p, o)) (ho : (∃ l, o = .dI l) ∨ ∃ l, o = .dS l) (slot : Slot "dict" name id) (hty : typeOf (.builtin id) = pure (.type "method_descriptor")) (q : Q (.v (.raw (.builtin id))) [.ref k p] σ) : GM b n (.ref k p) name σ Q := by
  intro A s γ v pl R S r
  have r₀ := r
  refine ex0_2 (r) fun zz5 _ => ?_
  subst zz5
  have key : ∃ o', s.heap.get? (γ.al k p) = some o' ∧ o'.ExactDict := by
    rcases ho with ⟨l, rfl⟩ | ⟨l, rfl⟩ <;> obtain ⟨kvs, ⟨o', es, ep, ho', hx, _⟩, _⟩ := S.obj k _ _ hk <;> exact ⟨o', ho', hx⟩
  refine ex1_2 (key) fun o' ho' hx => ?_
  refine getMethod_builtin ⟨_, ho', hx.1⟩ PySem.F.plainAttrs_dict slot hty (fun a e => by cases e; exact ⟨_, ho', hx.2.1⟩) ?_
  exact ⟨_, _, σ, γ, q, Post.refl S, .raw _, r₀, trivial⟩
theorem AP.dictGetS {k p : Nat} {l : List (Str × V)} {i : Str} {y : V} (hk : σ.lookup k = some (p, .dS l)) (q : Q (.v ((dget i l).getD y)) σ) : AP b n (.v (.raw (.builtin "dict.get"))) [.ref k p, .v (.str i), .v y] σ Q := by
  refine AP.r3 fun A s γ u iv dv R S rr0 r' r'' => ?_
  refine ex0_2 rr0 fun e _ => ?_
  subst e
  refine ex1_2 (S.obj k _ _ hk) fun kvs hd hp => ?_
  refine ⟨keep_builtin, call_meetsIn PySem.F.slot_dict_get hd.typeIs PySem.F.entry_dict_get (PySem.F.args_dict_get_3 _ _ _) (meets_dict_get_default (strKind b.prog b.w) (γ.al k p) (key_str (b := b) r') (S.noMod hk) dv) ⟨_, hd.mapOf, ?_⟩⟩
  rcases hp.get (k := i) with ⟨e, e'⟩ | ⟨x', v, e, e', hpv⟩
  · rw [e] at q; rw [e']; exact RV.now S q _ r''
  · rw [e] at q; rw [e']; exact RV.now S q _ hpv
end
end Mine
end
section
open PySem PySem.W PyProof.Rows PySem.Calls
namespace Mine
noncomputable def rel (scope sc : Scope) : Scope :=
  { scope with names := scope.names.map fun (n, k) => if (k == .free && sc.kind == .function && sc.names.lookup n == some .cell) then (n, .cell) else (n, k) }
theorem rel_eq {scope sc : Scope} {env : Env} (h : env.scope = sc) : relabel scope env = rel scope sc := by
  subst h; rfl
noncomputable def capt (sc : Scope) (ρ : Loc) : Loc := ρ.filter fun p => sc.names.lookup p.1 != some .local
theorem capt_lookup {sc : Scope} {x : Str} : ∀ {ρ : Loc}, sc.names.lookup x ≠ some .local → (capt sc ρ).lookup x = ρ.lookup x
  | [], _ => rfl
  | (a, y) :: r, h => by
    have ih := capt_lookup (sc := sc) (x := x) (ρ := r) h
    unfold capt at ih ⊢
    rw [List.filter_cons]
    by_cases e : x = a
    · subst e
      have : (sc.names.lookup x != some .local) = true := by simpa using h
      simp [this]
    · have e' : (x == a) = false := by simpa using e
      split
      · rw [List.lookup_cons, List.lookup_cons, e', ih]
      · rw [List.lookup_cons, e', ih]
theorem capt_local {sc : Scope} {x : Str} (h : sc.names.lookup x = some .local) : ∀ {ρ : Loc}, (capt sc ρ).lookup x = none
  | [] => rfl
  | (a, y) :: r => by
    have ih := capt_local h (ρ := r)
    unfold capt at ih ⊢
    rw [List.filter_cons]
    split
    · rename_i q
      have e : x ≠ a := fun e => by subst e; simp [h] at q
      have e' : (x == a) = false := by simpa using e
      rw [List.lookup_cons, e', ih]
    · exact ih
noncomputable def bindTs : List Expr → List V → Loc → Option Loc
  | [], [], ρ => some ρ
  | e :: es, v :: vs, ρ => (nameOf e).bind fun x => bindTs es vs (setL x (.v v) ρ)
  | _, _, _ => none
noncomputable def bindT (e : Expr) (v : V) (ρ : Loc) : Option Loc := match nameOf e with
  | some x => some (setL x (.v v) ρ)
  | none => (eltsOf e).bind fun elts => (isSeqV v).bind fun l => bindTs elts l ρ
noncomputable def tg1 (sc : Scope) (e : Expr) : Bool := match nameOf e with
  | some x => (("#" : Str) != x) && sc.names.lookup x == some .local
  | none => false
noncomputable def tgLoc (sc : Scope) (e : Expr) : Bool := match nameOf e with
  | some _ => tg1 sc e
  | none => match eltsOf e with
    | some es => es.all (tg1 sc)
    | none => false
theorem tg1_at {sc : Scope} {x : Str} {p : Pos} (h : tg1 sc (.Name x p) = true) : ¬ (("#" : Str) = x) ∧ sc.names.lookup x = some .local := by
  refine ex0_2 (Bool.and_eq_true_iff.mp h) fun h1 h2 => ?_
  exact ⟨by simpa using h1, by simpa using h2⟩
theorem bindT_eq {e : Expr} {v : V} {ρ ρ₁ : Loc} (h : bindT e v ρ = some ρ₁) : (∃ x p, e = .Name x p ∧ ρ₁ = setL x (.v v) ρ) ∨ ∃ es k p l, e = .Tuple es k p ∧ isSeqV v = some l ∧ bindTs es l ρ = some ρ₁ := by
  unfold bindT at h
  split at h
  · rename_i x q
    cases h
    exact ex1_1 (nameOf_eq q) fun p e => .inl ⟨x, p, e, rfl⟩
  · refine ex1_2 (Option.bind_eq_some_iff.mp h) fun es q h => ex1_2 (Option.bind_eq_some_iff.mp h) fun l hl h => ?_
    exact ex2_1 (eltsOf_eq q) fun k p e => .inr ⟨es, k, p, l, e, hl, h⟩
theorem bindTs_eq {a : Expr} {es : List Expr} {l : List V} {ρ ρ₁ : Loc} (h : bindTs (a :: es) l ρ = some ρ₁) : ∃ x p v r, a = .Name x p ∧ l = v :: r ∧ bindTs es r (setL x (.v v) ρ) = some ρ₁ := by
  cases l with
  | nil => cases h
  | cons v r =>
    refine ex1_2 (Option.bind_eq_some_iff.mp (show (nameOf a).bind _ = some ρ₁ from h)) fun x q h => ?_
    exact ex1_1 (nameOf_eq q) fun p e => ⟨x, p, v, r, e, rfl, h⟩
theorem bindTs_nil {l : List V} {ρ ρ₁ : Loc} (h : bindTs [] l ρ = some ρ₁) : l = [] ∧ ρ₁ = ρ := by
  cases l with
  | nil => cases h; exact ⟨rfl, rfl⟩
  | cons => cases h
section
variable {b : Bas} {n : Nat} {sc : Scope} {ρ : Loc} {σ : Store}
theorem bindTs_syn {env : Env} {es : List Expr} : ∀ {l : List V} {ρ ρ₁ : Loc}, bindTs es l ρ = some ρ₁ → assignEach es env = es.map (fun e => (false, assign e env)) ∧ es.length = l.length := by
  induction es with
  | nil => intro l ρ ρ₁ e; exact ex0_2 (bindTs_nil e) fun e1 _ => by subst e1; exact ⟨rfl, rfl⟩
  | cons a es ih =>
    intro l ρ ρ₁ e
    refine ex4_3 (bindTs_eq e) fun x p v r e1 e2 e' => ?_
    subst e1; subst e2
    refine ex0_2 (ih e') fun h1 h2 => ?_
    exact ⟨by show (false, assign (.Name x p) env) :: assignEach es env = _; rw [h1]; rfl, congrArg (· + 1) h2⟩
theorem bindTs_run {A : Around} {env : Env} {γ : Gh} {es : List Expr} : ∀ (l : List V) (ρ ρ₁ : Loc) (s : Shared) (vs : List Value), bindTs es l ρ = some ρ₁ → (es.all (tg1 sc)) = true → St b γ σ s → FrR b sc γ σ ρ env s.heap → PVs γ.F s.heap l vs →
    wpAny b.M A (assignInOrder (es.map fun e => assign e env) vs) (fun _ s' => PostO b (· = env.locals) γ σ s γ σ s' ∧ FrR b sc γ σ ρ₁ env s'.heap) NoE s := by
  induction es with
  | nil =>
    intro l ρ ρ₁ s vs e _ S F r
    refine ex0_2 (bindTs_nil e) fun e1 e2 => ?_
    subst e1; subst e2
    cases r; exact assignInOrder_nil ⟨(Post.refl S).toO, F⟩
  | cons a es ih =>
    intro l ρ ρ₁ s vs e ht S F r
    refine ex4_3 (bindTs_eq e) fun y p x l e1 e2 e' => ?_
    subst e1; subst e2
    cases r with
    | cons r rs =>
      refine ex0_2 (Bool.and_eq_true_iff.mp (List.all_cons ▸ ht)) fun hx ht => ?_
      refine ex0_2 (tg1_at hx) fun hsp hx => ?_
      refine assignInOrder_cons (assign_Name (bind_loc₀ (y := .v x) S F r hx hsp fun s' P F' => ?_))
      exact wpAny_mono (ih l (setL y (.v x) ρ) ρ₁ s' _ e' ht P.st F' (rs.mono (fun _ h => h) (P.fkeepO S fun a (q : a = env.locals) => q ▸ F.own.1))) (fun _ _ z => ⟨P.trans z.1, z.2⟩) fun _ _ z => z
theorem bindT_run {tg : Expr} {x : V} {ρ₁ : Loc} (e : bindT tg x ρ = some ρ₁) (ht : tgLoc sc tg = true) {A : Around} {s : Shared} {env : Env} {γ : Gh} {v : Value} (R : Room n A) (S : St b γ σ s) (F : FrR b sc γ σ ρ env s.heap) (r : PV γ.F s.heap x v) :
    wpAny b.M A (assign tg env v) (fun _ s' => PostO b (· = env.locals) γ σ s γ σ s' ∧ FrR b sc γ σ ρ₁ env s'.heap) NoE s := by
  rcases bindT_eq e with h | h
  · refine ex2_2 h fun y p e1 e2 => ?_
    subst e1; subst e2
    refine ex0_2 (tg1_at (p := p) ht) fun hsp hx => ?_
    exact assign_Name (bind_loc₀ (y := .v x) S F r hx hsp fun s' P F' => ⟨P, F'⟩)
  · refine ex4_3 h fun elts k p l e1 hl e' => ?_
    subst e1
    refine ex0_2 (bindTs_syn (env := env) e') fun h0 h1 => ?_
    refine ex0_3 (map_starred h0) fun h2 h3 h4 => ?_
    rw [arm_assign_Tuple]
    refine wpAny_bind (wpAny_standAt ?_)
    unfold unpack
    rw [h2, h3]
    refine wpAny_bind (wpAny_holding (unpackV R S hl h1 r fun vs s' P hx => ?_))
    rw [h4]
    exact wpAny_mono (bindTs_run l _ _ s' vs e' ht P.st (F.post S P) hx) (fun _ _ z => ⟨P.toO.trans z.1, z.2⟩) fun _ _ z => z
end
end Mine
end
section
open PySem PySem.W PyProof.Rows PySem.Calls
namespace Mine
theorem closure_of {env : Env} (hc : ∀ x c, env.cells.lookup x = some c → True) : ∀ (names : List (Str × NameKind)) (acc : List (Str × Addr)), (∀ p ∈ names, p.2 = .free → ∃ c, env.cells.lookup p.1 = some c) → (∀ x c, acc.lookup x = some c → env.cells.lookup x = some c) →
    ∃ cl, (forIn names acc fun (x : Str × NameKind) cs => (if (x.2 == NameKind.free) = true then do let c ← cellOf env x.1; pure (ForInStep.yield ((x.1, c) :: cs)) else pure (ForInStep.yield cs) : Sem (ForInStep (List (Str × Addr))))) = pure cl ∧
      (∀ x c, cl.lookup x = some c → env.cells.lookup x = some c) ∧ (∀ x, (acc.lookup x).isSome = true ∨ (x, .free) ∈ names → (cl.lookup x).isSome = true)
  | [], acc, _, h => ⟨acc, rfl, h, fun x hx => hx.elim id fun q => nomatch q⟩
  | (y, k) :: r, acc, hf, h => by
    rw [List.forIn_cons]
    by_cases e : k = .free
    · subst e
      refine ex1_1 (hf (y, .free) List.mem_cons_self rfl) fun c hcy => ?_
      have e1 : cellOf env y = pure c := by unfold cellOf; rw [hcy]
      obtain ⟨cl, h1, h2, h3⟩ := closure_of hc r ((y, c) :: acc) (fun p hp => hf p (List.mem_cons_of_mem _ hp)) (fun x c' hx => by
        rw [List.lookup_cons] at hx
        by_cases q : x = y
        · subst q; simp at hx; rw [← hx]; exact hcy
        · have q' : (x == y) = false := by simpa using q
          rw [q'] at hx; exact h x c' hx)
      refine ⟨cl, ?_, h2, fun x hx => h3 x ?_⟩
      · simp only [beq_self_eq_true, if_true, e1, pure_bind]
        exact h1
      · rw [List.lookup_cons]
        rcases hx with hx | hx
        · by_cases q : x = y
          · subst q; simp
          · have q' : (x == y) = false := by simpa using q
            rw [q']; exact .inl hx
        · rcases List.mem_cons.mp hx with hx | hx
          · cases hx; simp
          · exact .inr hx
    · have e' : (k == NameKind.free) = false := by simpa using e
      obtain ⟨cl, h1, h2, h3⟩ := closure_of hc r acc (fun p hp => hf p (List.mem_cons_of_mem _ hp)) h
      refine ⟨cl, ?_, h2, fun x hx => h3 x ?_⟩
      · simp only [e', Bool.false_eq_true, if_false, pure_bind]
        exact h1
      · rcases hx with hx | hx
        · exact .inl hx
        · rcases List.mem_cons.mp hx with hx | hx
          · cases hx; exact absurd rfl e
          · exact .inr hx
theorem closureFor_of {scope : Scope} {env : Env} (hf : ∀ p ∈ scope.names, p.2 = .free → ∃ c, env.cells.lookup p.1 = some c) :
    ∃ cl, closureFor scope env = pure cl ∧ (∀ x c, cl.lookup x = some c → env.cells.lookup x = some c) ∧ (∀ x, (x, .free) ∈ scope.names → (cl.lookup x).isSome = true) := by
  obtain ⟨cl, h1, h2, h3⟩ := closure_of (env := env) (fun _ _ _ => trivial) scope.names [] hf (fun x c h => by cases h)
  refine ⟨cl, ?_, h2, fun x hx => h3 x (.inr hx)⟩
  unfold closureFor
  rw [← bind_pure (pure cl), ← h1]
theorem compLoopG {prog : Program} {w : World} {A : Around} {R : Result → Shared → Prop} {s : Shared} {elt target iter : Expr} {ifs : List Expr} {scope : Scope} {pos : Pos} {it acc : Value} {env : Env} (I : Nat → Shared → Prop)
    (turn : ∀ n s, I n s → wpAny (model prog w) A (pyNext it) (fun r s₁ => match r with
      | none => R (.ok .next) s₁
      | some v => wpAny (model prog w) A (letOwnedTupleGo target it v) (fun _ s₁ => wpAny (model prog w) A (assign target env v) (fun _ s₂ =>
          wpAny (model prog w) A (forIn ifs true fun c r => if r = true then do let ok ← isTrue c env (eval c env); pure (ForInStep.yield ok) else pure (ForInStep.yield r)) (fun ok s₃ =>
            if ok = true then wpAny (model prog w) A (eval elt env) (fun x s₄ =>
              wpAny (model prog w) A (call (.builtin "list.append") [acc, x]) (fun _ s₅ => ∃ m, m < n ∧ I m s₅) NoE s₄) NoE s₃
            else ∃ m, m < n ∧ I m s₃) NoE s₂) NoE s₁) NoE s₁) NoE s)
    (n : Nat) (h : I n s) :
    codeAny (model prog w) A (.compLoop (.ListComp elt [⟨target, iter, ifs, 0⟩] scope pos) 0 it acc env) R s := by
  refine codeAny_loop rfl I (fun n s hI => ?_) n h
  show wpAny _ A ((compTurn (.ListComp elt [⟨target, iter, ifs, 0⟩] scope pos) 0 it acc env).onRaise (fun x => do noteFrame x env; theTreesLotGoes x)) _ _ s
  refine wpAny_noted ?_
  rw [compTurn_list]
  refine wpAny_mono (E := NoE) (Q := _) ?_ (fun _ _ z => z) fun _ _ z => z.elim
  refine wpAny_bind (wpAny_standAt (wpAny_bind (wpAny_mono (turn n s hI) (fun r s₁ h₁ => ?_) fun _ _ h' => h')))
  cases r with
  | none => exact wpAny_pure h₁
  | some v =>
    refine wpAny_bind (wpAny_mono h₁ (fun _ s₁' h₁ => ?_) fun _ _ h' => h')
    refine wpAny_bind (wpAny_mono h₁ (fun _ s₂ h₂ => wpAny_bind (wpAny_mono h₂ (fun ok s₃ h₃ => ?_) fun _ _ h' => h')) fun _ _ h' => h')
    cases ok with
    | false => exact wpAny_pure ⟨rfl, h₃⟩
    | true =>
      exact wpAny_bind (wpAny_bind (wpAny_mono h₃ (fun x s₄ h₄ => wpAny_bind (wpAny_mono h₄ (fun _ s₅ h₅ => wpAny_pure (wpAny_pure ⟨rfl, h₅⟩)) fun _ _ h' => h')) fun _ _ h' => h'))
section
variable {b : Bas} {n : Nat} {sc : Scope} {ρ : Loc} {σ : Store}
def CT (b : Bas) (n : Nat) (sc : Scope) (ifs : List Expr) (ρ : Loc) (σ : Store) (Q : Bool → Store → Prop) : Prop := match ifs with
  | [] => Q true σ
  | [c] => ET b n sc c ρ σ Q
  | _ => False
theorem CT.run {ifs : List Expr} {Q : Bool → Store → Prop} (h : CT b n sc ifs ρ σ Q) {A : Around} {s : Shared} {env : Env} {γ : Gh} (R : Room n A) (S : St b γ σ s) (F : FrR b sc γ σ ρ env s.heap) :
    wpAny b.M A (forIn ifs true fun c r => if r = true then do let ok ← isTrue c env (eval c env); pure (ForInStep.yield ok) else pure (ForInStep.yield r)) (RB b γ σ s Q) NoE s := by
  match ifs, h with
  | [], h => exact wpAny_tests_nil (RB.same S h)
  | [c], h => exact wpAny_tests_one (h A s env γ R S F)
noncomputable def CB (b : Bas) (n : Nat) (sc : Scope) (tg : Expr) (ifs : List Expr) (elt : Expr) (ρ : Loc) (src : Store → Prop) (Q : List V → Store → Prop) : List V → List V → Store → Prop
  | [], acc, σ => src σ ∧ acc.length ≤ 16777216 ∧ Q acc σ
  | x :: r, acc, σ => src σ ∧ acc.length ≤ 16777216 ∧ ∃ ρ₁, bindT tg x ρ = some ρ₁ ∧ CT b n sc ifs ρ₁ σ fun ok σ₁ => cond ok
      (EE b n sc elt ρ₁ σ₁ fun y σ₂ => ∃ z, y = .v z ∧ CB b n sc tg ifs elt ρ src Q r (acc ++ [z]) σ₂)
      (CB b n sc tg ifs elt ρ src Q r acc σ₁)
theorem FrR.weak {γ : Gh} {env : Env} {h : Heap} {ρ ρ' : Loc} (F : FrR b sc γ σ ρ env h) (hw : ∀ x y, ρ'.lookup x = some y → ρ.lookup x = some y) (hh : ρ'.lookup ("#" : Str) = none ↔ ρ.lookup ("#" : Str) = none) : FrR b sc γ σ ρ' env h := by
  refine ex1_2 (F.loc) fun m hm hl => ?_
  refine ⟨F.scope, F.kind, F.glob, F.bltn, F.own, ⟨m, hm, fun x y hx hk => hl x y (hw x y hx) hk⟩, fun x hx => ?_, F.inj, fun q => F.wr (hh.mp q), F.code, fun q => F.fz fun z => q (hh.mpr z)⟩
  refine (F.cel x hx).e fun c o vo h1 h2 h3 h4 h5 h6 => ?_
  exact ⟨c, o, vo, h1, h2, h3, fun y hy => h4 y (hw x y hy), h5, h6⟩
theorem St.freeze {γ : Gh} {s : Shared} {D : Addr} (S : St b γ σ s) (hT : ¬ Tr γ σ D) (hD : D < s.heap.objs.size) : St b (γ.fz D) σ s := by
  refine ⟨S.base, S.gens, S.os, fun a h ne => .inl (S.stat a h ne), fun a h => h.elim (S.lt a) fun q => q ▸ hD, S.nv, fun k p o h => ?_, S.dist, fun k p o h => ?_⟩
  · have z := S.sep k p o h
    exact ⟨fun q => q.elim z.1 fun q => hT ⟨k, p, o, h, .inl q.symm⟩, fun q => q.elim z.2.1 fun q => hT ⟨k, p, o, h, .inr q.symm⟩, z.2.2⟩
  · exact ObjAt.mono (γ := γ) (γ' := γ.fz D) (σ := σ) (h := s.heap) (fun _ h => .inl h) (fun _ _ _ e => e) (AlKeep.same rfl rfl rfl) (S.nv k p o h) (fun _ _ _ e => e) (S.obj k p o h)
theorem bindTs_keep {es : List Expr} : ∀ {l : List V} {ρ ρ₁ : Loc}, bindTs es l ρ = some ρ₁ → (es.all (tg1 sc)) = true → ∀ x, sc.names.lookup x ≠ some .local → ρ₁.lookup x = ρ.lookup x := by
  induction es with
  | nil => intro l ρ ρ₁ e _ x _; rw [(bindTs_nil e).2]
  | cons a es ih =>
    intro l ρ ρ₁ e ht x hx
    refine ex4_3 (bindTs_eq e) fun y p v r e1 e2 e' => ?_
    subst e1; subst e2
    refine ex0_2 (Bool.and_eq_true_iff.mp (List.all_cons ▸ ht)) fun hy ht => ?_
    rw [ih e' ht x hx, setL_lookup, if_neg (show ¬ x = y from fun q => hx (by rw [q]; exact (tg1_at hy).2))]
theorem bindT_keep {tg : Expr} {v : V} {ρ ρ₁ : Loc} (e : bindT tg v ρ = some ρ₁) (ht : tgLoc sc tg = true) (x : Str) (hx : sc.names.lookup x ≠ some .local) : ρ₁.lookup x = ρ.lookup x := by
  rcases bindT_eq e with h | h
  · refine ex2_2 h fun y p e1 e2 => ?_
    subst e1; subst e2
    rw [setL_lookup, if_neg (show ¬ x = y from fun q => hx (by rw [q]; exact (tg1_at (p := p) ht).2))]
  · refine ex4_3 h fun elts k p l e1 _ e' => ?_
    subst e1
    exact bindTs_keep e' ht x hx
end
end Mine
end
section
open PySem PySem.W PyProof.Rows PySem.Calls
namespace Mine
section
variable {b : Bas} {n : Nat} {sc : Scope} {ρ : Loc} {σ : Store}
theorem rel_free {scope : Scope} (hcell : ∀ y ∈ scope.names, y.2 ≠ .cell) {x : Str} (hx : (rel scope sc).names.lookup x = some .cell ∨ (rel scope sc).names.lookup x = some .free) : (x, .free) ∈ scope.names := by
  have key : ∀ k', (x, k') ∈ (rel scope sc).names → k' = .cell ∨ k' = .free → (x, .free) ∈ scope.names := by
    intro k' hm hk
    refine ex1_2 (List.mem_map.mp hm) fun zz1 hy e => ?_
    obtain ⟨y, k⟩ := zz1
    have nc := hcell _ hy
    dsimp only at e nc
    split at e
    · rename_i q
      cases e
      have : k = .free := by
        have := (Bool.and_eq_true_iff.mp (Bool.and_eq_true_iff.mp q).1).1
        simpa using this
      rw [this] at hy; exact hy
    · cases e
      rcases hk with rfl | rfl
      · exact absurd rfl nc
      · exact hy
  rcases hx with hx | hx
  · exact key _ (mem_of_lookup hx) (.inl rfl)
  · exact key _ (mem_of_lookup hx) (.inr rfl)
theorem rel_cell {scope : Scope} (hcell : ∀ y ∈ scope.names, y.2 ≠ .cell) {x : Str} (hx : (rel scope sc).names.lookup x = some .cell) : sc.names.lookup x = some .cell := by
  refine ex1_2 (List.mem_map.mp (mem_of_lookup hx)) fun zz2 hy e => ?_
  obtain ⟨y, k⟩ := zz2
  have nc := hcell _ hy
  dsimp only at e nc
  split at e
  · rename_i q
    cases e
    simpa using (Bool.and_eq_true_iff.mp q).2
  · cases e
    exact absurd rfl nc
abbrev Kcb (b : Bas) (n : Nat) (sc scope : Scope) (tg : Expr) (ifs : List Expr) (elt : Expr) (ρ : Loc) (Q : List V → Store → Prop) : List V → (Store → Prop) → Store → Prop := fun xs src σ => CB b n (rel scope sc) tg ifs elt (capt (rel scope sc) ρ) src Q xs [] σ
theorem comp_core {elt tg iter : Expr} {ifs : List Expr} {scope : Scope} {pos : Pos} {Q : List V → Store → Prop} {A : Around} {env : Env} {γ : Gh} {s : Shared} {use : Option (Value → Sem Unit)} {T : Value → Shared → Prop}
    (h : EI b n sc tg iter ρ σ (Kcb b n sc scope tg ifs elt ρ Q))
    (hk : scope.kind = .function) (hcell : ∀ y ∈ scope.names, y.2 ≠ .cell) (hnames : ∀ y ∈ scope.names, y.2 = .local → scope.names.lookup y.1 = some .local) (hfree : (scope.names.all fun p => p.2 != .free || sc.names.lookup p.1 == some .cell || sc.names.lookup p.1 == some .free) = true)
    (hcf : cdf (rel scope sc) = none) (hsh : (rel scope sc).names.lookup ("#" : Str) ≠ some .local) (htg : tgLoc (rel scope sc) tg = true) (hs : ∀ x, foldedSetIterable iter env x = pure x) (R : Room n A) (S : St b γ σ s) (F : FrR b sc γ σ ρ env s.heap)
    (k : ∀ acc σ' γ' s' D C, Q acc σ' → Post b γ σ s γ' σ' s' → PV γ'.F s'.heap (.lst acc) (.ref D) → (∃ m, s'.heap.Ns C m) → ¬ γ'.F C → ¬ Tr γ' σ' C → s.heap.objs.size ≤ C → compPost b.M A NoE use T (.ref D) C (.ok .next) s') :
    wpAny b.M A (comprehension (.ListComp elt [⟨tg, iter, ifs, 0⟩] scope pos) scope env (firstIterPos [⟨tg, iter, ifs, 0⟩] pos) (newList []) false (firstIter [⟨tg, iter, ifs, 0⟩] env) use) T NoE s := by
  have frees : ∀ p ∈ scope.names, p.2 = .free → ∃ c, env.cells.lookup p.1 = some c := fun p hp hf => by
    have := List.all_eq_true.mp hfree p hp
    have hx : sc.names.lookup p.1 = some .cell ∨ sc.names.lookup p.1 = some .free := by
      rw [hf] at this
      simpa using this
    refine (F.cel p.1 hx).e fun c o vo h1 _ _ _ _ _ => ?_
    exact ⟨c, h1⟩
  refine ex1_3 (closureFor_of frees) fun cl hcl clE clS => ?_
  refine wpAny_comprehension_free (cl := cl) rfl hs hcl hk hnames ?_
  refine wpAny_mono (h A s env γ R S F) (fun v s₁ h₁ => wpAny_mono h₁ (fun I s₂ zy38 => zy38.e fun xs src σ₁ γ₂ own J hCB W P₂ hJ0 hown => ?_) fun _ _ z => z) fun _ _ z => z
  clear h₁
  refine wpAny_newObj_type (wpAny_newFunctionEnv hcell (by intro y hy; simp at hy) (fun h₁ hns₁ hsb₁ => ?_) hk)
  dsimp only at hns₁ hsb₁ ⊢
  generalize hH2 : s₂.heap.push { cls := .type "list", dict := none, data := .seq ([] : List Value).toArray } = H2 at hns₁ hsb₁ ⊢
  have hC : H2.objs.size = s₂.heap.objs.size + 1 := by rw [← hH2, Heap.size_push]
  let D := s₂.heap.objs.size
  let C := H2.objs.size
  have hDC : D ≠ C := by show s₂.heap.objs.size ≠ H2.objs.size; rw [hC]; exact Nat.ne_of_lt (Nat.lt_succ_self _)
  have sz₁ : h₁.objs.size = s₂.heap.objs.size + 2 := by rw [hsb₁.1, Heap.size_push, hC]
  have old : ∀ a o, s₂.heap.get? a = some o → h₁.get? a = some o := fun a o e => by
    have lt := Heap.lt_size e
    exact hsb₁.extBut a o (by rw [hC]; exact Nat.ne_of_lt (Nat.lt_succ_of_lt lt)) (Heap.get?_push_of_some _ (hH2 ▸ Heap.get?_push_of_some _ e))
  have hD : h₁.get? D = some (listOf #[] 0) := hsb₁.extBut _ _ hDC (Heap.get?_push_of_some _ (hH2 ▸ Heap.get?_push_size _ rfl))
  let cenv := compEnvC scope cl C env
  let rs := rel scope sc
  let ρc := capt rs ρ
  have hscope : cenv.scope = rs := rel_eq F.scope
  let s₃ : Shared := { s₂ with heap := h₁, toks := s₂.toks + ([] : List (Str × Value)).length }
  have P₃ : Post b γ₂ σ₁ s₂ γ₂ σ₁ s₃ := Post.ext _ P₂.st old (by rw [sz₁]; lia)
  have F₂ := F.post S P₂
  have bigC : s₂.heap.objs.size ≤ C := by show _ ≤ H2.objs.size; rw [hC]; exact Nat.le_succ _
  have frC := P₂.st.fresh bigC
  have frD := P₂.st.fresh (Nat.le_refl D)
  have F₃ : FrR b rs γ₂ σ₁ ρc cenv s₃.heap := by
    refine ⟨hscope, hk, F.glob, F.bltn, frC, ⟨_, hns₁, fun x y hx hkx => ?_⟩, fun x hx => ?_, fun x y c hx hy => F.inj x y c (clE x c hx) (clE y c hy), fun hh x c hx hc => ?_, fun c hc => (by rw [hcf] at hc; cases hc), fun hh x c hx hc => ?_⟩
    · rw [capt_local hkx] at hx; cases hx
    · have hm := rel_free hcell hx
      refine ex1_1 (Option.isSome_iff_exists.mp (clS x hm)) fun c hc => ?_
      have hsc : sc.names.lookup x = some .cell ∨ sc.names.lookup x = some .free := by
        have := List.all_eq_true.mp hfree _ hm
        simpa using this
      refine (F₂.cel x hsc).e fun c' o vo e1 e2 e3 e4 e6 e7 => ?_
      rw [clE x c hc] at e1; cases e1
      refine ⟨c, o, vo, hc, old _ _ e2, e3, fun y hy => ?_, e6, Nat.ne_of_lt (Nat.lt_of_lt_of_le (Heap.lt_size e2) bigC)⟩
      have nl : rs.names.lookup x ≠ some .local := by rcases hx with hx | hx <;> rw [hx] <;> exact fun q => nomatch q
      rw [capt_lookup nl] at hy
      refine ex1_2 (e4 y hy) fun v e z => ?_
      exact ⟨v, e, z.post P₂.st P₃⟩
    · have hx' : sc.names.lookup x = some .cell := rel_cell hcell hx
      refine F₂.wr ?_ x c hx' (clE x c hc)
      cases q : ρ.lookup ("#" : Str) with
      | none => rfl
      | some y => exact absurd (hh.symm.trans ((capt_lookup hsh).trans q)) (by simp)
    · have hx' : sc.names.lookup x = some .cell := rel_cell hcell hx
      exact F₂.fz (fun q => hh ((capt_lookup hsh).trans q)) x c hx' (clE x c hc)
  let ow : Addr → Prop := fun a => a = C ∨ a = D ∨ own a
  have owBig : ∀ a, ow a → s.heap.objs.size ≤ a ∧ a < s₃.heap.objs.size := fun a ha => by
    show _ ∧ a < h₁.objs.size
    rw [sz₁]
    rcases ha with rfl | rfl | ha
    · exact ⟨Nat.le_trans P₂.size bigC, by show H2.objs.size < _; rw [hC]; lia⟩
    · exact ⟨P₂.size, by show s₂.heap.objs.size < _; lia⟩
    · exact ⟨(hown a ha).1, Nat.lt_of_lt_of_le (hown a ha).2.1 (by lia)⟩
  have owFresh : ∀ a, ow a → ¬ γ₂.F a ∧ ¬ Tr γ₂ σ₁ a := fun a ha => by
    rcases ha with rfl | rfl | ha
    · exact frC
    · exact frD
    · exact (hown a ha).2.2
  have ownNC : ∀ a, own a → a ≠ C ∧ a ≠ D := fun a ha => ⟨Nat.ne_of_lt (Nat.lt_of_lt_of_le (hown a ha).2.1 bigC), Nat.ne_of_lt (hown a ha).2.1⟩
  have nCel : ∀ x c, (rs.names.lookup x = some .cell ∨ rs.names.lookup x = some .free) → cenv.cells.lookup x = some c → ¬ ow c := fun x c hx hc q => by
    refine (F₃.cel x hx).e fun c' o vo e1 e2 _ _ _ e7 => ?_
    rw [hc] at e1; cases e1
    have hm := rel_free hcell hx
    have hsc : sc.names.lookup x = some .cell ∨ sc.names.lookup x = some .free := by
      have := List.all_eq_true.mp hfree _ hm
      simpa using this
    refine (F.cel x hsc).e fun c' o' vo' e1 e2' _ _ _ _ => ?_
    rw [clE x c hc] at e1; cases e1
    exact absurd (Heap.lt_size e2') (Nat.not_lt.mpr (owBig c q).1)
  let IV : Nat → Shared → Prop := fun k s' => ∃ j acc σ₃ γ₃ its m, k + j = xs.length ∧ CB b n rs tg ifs elt ρc src Q (xs.drop j) acc σ₃ ∧ PostO b ow γ σ s γ₃ σ₃ s' ∧ FrR b rs γ₃ σ₃ ρc cenv s'.heap ∧ J j γ₃ σ₃ s'.heap ∧
    s'.heap.get? D = some (listOf its m) ∧ PVs γ₃.F s'.heap acc its.toList ∧ s₃.heap.objs.size ≤ s'.heap.objs.size ∧ ∀ a, ow a → ¬ γ₃.F a ∧ ¬ Tr γ₃ σ₃ a
  have J₃ : J 0 γ₂ σ₁ h₁ := W.frame 0 γ₂ σ₁ s₂ γ₂ σ₁ s₃ P₂.st P₃.st (by cases hq : xs with | nil => rw [hq] at hCB; exact hCB.1 | cons _ _ => rw [hq] at hCB; exact hCB.1) (by cases hq : xs with | nil => rw [hq] at hCB; exact hCB.1 | cons _ _ => rw [hq] at hCB; exact hCB.1) (fun _ h => h) P₃.grow.al (P₃.fkeep P₂.st) (fun a o _ e => old a o e) hJ0
  have loop : codeAny b.M A (.compLoop (.ListComp elt [⟨tg, iter, ifs, 0⟩] scope pos) 0 I (.ref D) cenv) (compPost b.M A NoE use T (.ref D) C) s₃ := by
    refine compLoopG IV ?_ xs.length ⟨0, [], σ₁, γ₂, #[], 0, rfl, hCB, (P₂.trans P₃).toO, F₃, J₃, hD, .nil, Nat.le_refl _, owFresh⟩
    rintro kk s₄ ⟨j, acc, σ₄, γ₄, its, m, hkj, hB, P₄, F₄, hJ, hDat, hacc, hsz, ho⟩
    have ho' : ∀ a, own a → ¬ γ₄.F a ∧ ¬ Tr γ₄ σ₄ a ∧ a < s₄.heap.objs.size := fun a ha => ⟨(ho a (.inr (.inr ha))).1, (ho a (.inr (.inr ha))).2, Nat.lt_of_lt_of_le (owBig a (.inr (.inr ha))).2 hsz⟩
    have locOwn : ∀ a, a = cenv.locals → ow a := fun a q => .inl q
    let TT : Option Value → Shared → Prop := fun r s₁ => match r with
      | none => compPost b.M A NoE use T (.ref D) C (.ok .next) s₁
      | some v => wpAny b.M A (assign tg cenv v) (fun _ s₂ =>
          wpAny b.M A (forIn ifs true fun c r => if r = true then do let ok ← isTrue c cenv (eval c cenv); pure (ForInStep.yield ok) else pure (ForInStep.yield r)) (fun ok s₃ =>
            if ok = true then wpAny b.M A (eval elt cenv) (fun x s₄ =>
              wpAny b.M A (call (.builtin "list.append") [.ref D, x]) (fun _ s₅ => ∃ m, m < kk ∧ IV m s₅) NoE s₄) NoE s₃
            else ∃ m, m < kk ∧ IV m s₃) NoE s₂) NoE s₁
    have main : wpAny b.M A (pyNext I) (fun r s₁ => match r with | none => TT none s₁ | some v => wpAny b.M A (letOwnedTupleGo tg I v) (fun _ s₂ => TT (some v) s₂) NoE s₁) NoE s₄ := by
      by_cases hlt : j < xs.length
      · have hx : xs[j]? = some xs[j] := List.getElem?_eq_getElem hlt
        have hd : xs.drop j = xs[j] :: xs.drop (j + 1) := List.drop_eq_getElem_cons hlt
        rw [hd] at hB
        obtain ⟨hsrc, hlen, ρ₁, hbind, hB⟩ := hB
        refine W.item j xs[j] γ₄ σ₄ s₄ TT hx P₄.st ho' hsrc hJ fun v s₅ γ₅ P₅ hv hJ₅ => ?_
        have F₅ := F₄.postO P₄.st P₅ (fun a ha => (ho' a ha).1) (fun q => (ownNC _ q).1 rfl) (fun x c hx hc q => nCel x c hx hc (.inr (.inr q)))
        have P₀₅ := P₄.trans (P₅.mono (own' := ow) fun _ q => .inr (.inr q))
        have lt₅ : ∀ a, ow a → a < s₄.heap.objs.size := fun a ha => Nat.lt_of_lt_of_le (owBig a ha).2 hsz
        have ho₅ : ∀ a, ow a → ¬ γ₅.F a ∧ ¬ Tr γ₅ σ₄ a := fun a ha =>
          ⟨fun q => (P₅.grow.newF a q).elim (ho a ha).1 fun z => absurd (lt₅ a ha) (Nat.not_lt.mpr z), fun q => (P₅.grow.newT a q).elim (ho a ha).2 fun z => absurd (lt₅ a ha) (Nat.not_lt.mpr z)⟩
        have hD₅ : s₅.heap.get? D = some (listOf its m) := P₅.keep _ _ hDat (ho D (.inr (.inl rfl))).2 fun q => absurd rfl (ownNC _ q).2
        have fk₄₅ := P₅.fkeepO P₄.st fun a ha => (ho' a ha).1
        refine wpAny_mono (bindT_run hbind htg R P₅.st F₅ hv) (fun _ s₆ zy39 => ex0_2 zy39 fun P₆ F₆ => ?_) fun _ _ z => z
        have own₆ : ∀ a, a = cenv.locals → ¬ γ₅.F a := fun a q => (ho₅ a (locOwn a q)).1
        have hD₆ : s₆.heap.get? D = some (listOf its m) := P₆.keep _ _ hD₅ (ho₅ D (.inr (.inl rfl))).2 fun q => absurd q hDC
        refine wpAny_mono (CT.run hB R P₆.st F₆) (fun ok s₇ zy40 => zy40.e fun ok' σ₇ γ₇ hB₇ P₇ eok => ?_) fun _ _ z => z
        subst eok
        have F₇ := F₆.post P₆.st P₇
        have lt₇ : ∀ a, ow a → a < s₆.heap.objs.size := fun a ha => Nat.lt_of_lt_of_le (lt₅ a ha) (Nat.le_trans P₅.size P₆.size)
        have ho₇ : ∀ a, ow a → ¬ γ₇.F a ∧ ¬ Tr γ₇ σ₇ a := fun a ha =>
          ⟨fun q => (P₇.grow.newF a q).elim (ho₅ a ha).1 fun z => absurd (lt₇ a ha) (Nat.not_lt.mpr z), fun q => (P₇.grow.newT a q).elim (ho₅ a ha).2 fun z => absurd (lt₇ a ha) (Nat.not_lt.mpr z)⟩
        have hD₇ : s₇.heap.get? D = some (listOf its m) := P₇.keep _ _ hD₆ (ho₅ D (.inr (.inl rfl))).2
        have hacc₇ : PVs γ₇.F s₇.heap acc its.toList := ((hacc.mono P₅.grow.F fk₄₅).mono (fun _ h => h) (P₆.fkeepO P₅.st own₆)).mono P₇.grow.F (P₇.fkeep P₆.st)
        have P₀₇ := (P₀₅.trans (P₆.mono (own' := ow) locOwn)).trans P₇.toO
        have srcOf : ∀ acc' σ', CB b n rs tg ifs elt ρc src Q (xs.drop (j + 1)) acc' σ' → src σ' := fun acc' σ' h => by
          cases hq : xs.drop (j + 1) with
          | nil => rw [hq] at h; exact h.1
          | cons _ _ => rw [hq] at h; exact h.1
        have weak : ∀ {γ' σ' s'}, FrR b rs γ' σ' ρ₁ cenv s' → FrR b rs γ' σ' ρc cenv s' := fun F => F.weak (fun x y hxy => by
          have nl : rs.names.lookup x ≠ some .local := fun q => by rw [capt_local q] at hxy; cases hxy
          rw [bindT_keep hbind htg x nl]; exact hxy) (by rw [bindT_keep hbind htg _ hsh])
        cases ok' with
        | false =>
          refine ⟨kk - 1, by lia, j + 1, acc, σ₇, γ₇, its, m, by lia, hB₇, P₀₇, weak F₇, ?_, hD₇, hacc₇, Nat.le_trans hsz (Nat.le_trans P₅.size (Nat.le_trans P₆.size P₇.size)), ho₇⟩
          have J₆ : J (j + 1) γ₅ σ₄ s₆.heap := W.frame (j + 1) γ₅ σ₄ s₅ γ₅ σ₄ s₆ P₅.st P₆.st hsrc hsrc P₆.grow.F P₆.grow.al (P₆.fkeepO P₅.st own₆) (fun a o ha e => P₆.keep a o e (ho₅ a (.inr (.inr ha))).2 fun q => absurd q (ownNC a ha).1) hJ₅
          exact W.frame (j + 1) γ₅ σ₄ s₆ γ₇ σ₇ s₇ P₆.st P₇.st hsrc (srcOf _ _ hB₇) P₇.grow.F P₇.grow.al (P₇.fkeep P₆.st) (fun a o ha e => P₇.keep a o e (ho₅ a (.inr (.inr ha))).2) J₆
        | true =>
          refine wpAny_mono (hB₇ A s₇ cenv γ₇ R P₇.st F₇) (fun y s₈ zy41 => zy41.e fun z σ₈ γ₈ zy42 P₈ r₈ => ex1_2 zy42 fun x ez hB₈ => ?_) fun _ _ z => z
          subst ez
          have F₈ := F₇.post P₇.st P₈
          have lt₈ : ∀ a, ow a → a < s₇.heap.objs.size := fun a ha => Nat.lt_of_lt_of_le (lt₇ a ha) P₇.size
          have ho₈ : ∀ a, ow a → ¬ γ₈.F a ∧ ¬ Tr γ₈ σ₈ a := fun a ha =>
            ⟨fun q => (P₈.grow.newF a q).elim (ho₇ a ha).1 fun z => absurd (lt₈ a ha) (Nat.not_lt.mpr z), fun q => (P₈.grow.newT a q).elim (ho₇ a ha).2 fun z => absurd (lt₈ a ha) (Nat.not_lt.mpr z)⟩
          have hD₈ : s₈.heap.get? D = some (listOf its m) := P₈.keep _ _ hD₇ (ho₇ D (.inr (.inl rfl))).2
          have hacc₈ := hacc₇.mono P₈.grow.F (P₈.fkeep P₇.st)
          have len : its.size = acc.length := by have := hacc₈.length; simpa using this
          refine append_at (hsz := by rw [len, sizeLine_eq]; exact hlen) hD₈ fun h₉ hs₉ hD₉ => ?_
          have hoD := ho₈ D (.inr (.inl rfl))
          have S₉ : St b γ₈ σ₈ { s₈ with heap := h₉ } := Post.stray s₈.toks P₈.st hs₉ hoD.1 hoD.2
          have P₉ : PostO b (· = D) γ₈ σ₈ s₈ γ₈ σ₈ { s₈ with heap := h₉ } := ⟨S₉, (Post.refl P₈.st).grow, fun a o e _ no => (hs₉.2 a fun q => hoD.1 (q ▸ no q)).trans e, by show _ ≤ h₉.objs.size; rw [hs₉.1]; exact Nat.le_refl _⟩
          have fk₉ := P₉.fkeepO P₈.st fun a q => by rw [show a = D from q]; exact hoD.1
          have F₉ : FrR b rs γ₈ σ₈ ρ₁ cenv h₉ := F₈.postO P₈.st P₉ (fun a q => by rw [show a = D from q]; exact hoD.1) (fun q => hDC q.symm) (fun x c hx hc q => nCel x c hx hc (.inr (.inl q)))
          have P₀₉ := (P₀₇.trans P₈.toO).trans (P₉.mono (own' := ow) fun _ q => .inr (.inl q))
          refine ⟨kk - 1, by lia, j + 1, acc ++ [x], σ₈, γ₈, _, _, by lia, hB₈, P₀₉, weak F₉, ?_, hD₉, ?_, Nat.le_trans hsz (Nat.le_trans P₅.size (Nat.le_trans P₆.size (Nat.le_trans P₇.size (Nat.le_trans P₈.size P₉.size)))), ho₈⟩
          · have J₆ : J (j + 1) γ₅ σ₄ s₆.heap := W.frame (j + 1) γ₅ σ₄ s₅ γ₅ σ₄ s₆ P₅.st P₆.st hsrc hsrc P₆.grow.F P₆.grow.al (P₆.fkeepO P₅.st own₆) (fun a o ha e => P₆.keep a o e (ho₅ a (.inr (.inr ha))).2 fun q => absurd q (ownNC a ha).1) hJ₅
            have P₆₈ := P₇.trans P₈
            have J₈ : J (j + 1) γ₈ σ₈ s₈.heap := W.frame (j + 1) γ₅ σ₄ s₆ γ₈ σ₈ s₈ P₆.st P₈.st hsrc (srcOf _ _ hB₈) P₆₈.grow.F P₆₈.grow.al (P₆₈.fkeep P₆.st) (fun a o ha e => P₆₈.keep a o e (ho₅ a (.inr (.inr ha))).2) J₆
            exact W.frame (j + 1) γ₈ σ₈ s₈ γ₈ σ₈ { s₈ with heap := h₉ } P₈.st S₉ (srcOf _ _ hB₈) (srcOf _ _ hB₈) (fun _ h => h) P₉.grow.al fk₉ (fun a o ha e => P₉.keep a o e (ho₈ a (.inr (.inr ha))).2 fun q => absurd q (ownNC a ha).2) J₈
          · rw [Array.toList_push]
            exact (hacc₈.append (.cons r₈ .nil)).mono (fun _ h => h) fk₉
      · have hj : j = xs.length := by lia
        subst hj
        rw [List.drop_length] at hB
        refine W.done γ₄ σ₄ s₄ TT P₄.st ho' hB.1 hJ fun s₅ P₅ => ?_
        have F₅ := F₄.postO P₄.st P₅ (fun a ha => (ho' a ha).1) (fun q => (ownNC _ q).1 rfl) (fun x c hx hc q => nCel x c hx hc (.inr (.inr q)))
        have hD₅ : s₅.heap.get? D = some (listOf its m) := P₅.keep _ _ hDat (ho D (.inr (.inl rfl))).2 fun q => absurd rfl (ownNC _ q).2
        have fk₄₅ := P₅.fkeepO P₄.st fun a ha => (ho' a ha).1
        have P₀₅ := P₄.trans (P₅.mono (own' := ow) fun _ q => .inr (.inr q))
        have S₅ : St b (γ₄.fz D) σ₄ s₅ := St.freeze P₅.st (ho D (.inr (.inl rfl))).2 (Heap.lt_size hD₅)
        have PP : Post b γ σ s (γ₄.fz D) σ₄ s₅ := by
          refine ⟨S₅, ⟨fun a h => .inl (P₀₅.grow.F a h), P₀₅.grow.al, fun a h => h.elim (P₀₅.grow.newF a) fun q => .inr (q ▸ (owBig D (.inr (.inl rfl))).1), P₀₅.grow.newT⟩, fun a o e nt => P₀₅.keep a o e nt fun q => absurd (Heap.lt_size e) (Nat.not_lt.mpr (owBig a q).1), P₀₅.size⟩
        refine ex1_2 (F₅.loc) fun mC hmC _ => ?_
        exact k acc σ₄ (γ₄.fz D) s₅ D C hB.2.2 PP (.lst (.inr rfl) ⟨m, hD₅⟩ (hacc.mono (fun a h => .inl (P₅.grow.F a h)) fk₄₅)) ⟨mC, hmC⟩ (fun q => q.elim F₅.own.1 fun q => hDC q.symm) F₅.own.2 (owBig C (.inl rfl)).1
    refine wpAny_mono main (fun r s₅ h₅ => ?_) fun _ _ z => z
    cases r with
    | none => exact h₅
    | some v => exact h₅
  exact codeAny_compStart_list loop (wpAny_mono (W.self 0 γ₂ σ₁ s₃ (fun it' s' => codeAny b.M A (.compLoop (.ListComp elt [⟨tg, iter, ifs, 0⟩] scope pos) 0 it' (.ref D) cenv) (compPost b.M A NoE use T (.ref D) C) s') J₃ loop) (fun _ _ z => z) fun _ _ z => z.elim)
end
end Mine
end
section
open PySem PySem.W PyProof.Rows PySem.Calls
namespace Mine
section
variable {b : Bas} {n : Nat} {sc : Scope} {ρ : Loc} {σ : Store}
theorem PostO.one {C : Addr} {γ : Gh} {s : Shared} {h' : Heap} (S : St b γ σ s) (hs : Heap.SameBut C s.heap h') (h1 : ¬ γ.F C) (h2 : ¬ Tr γ σ C) : PostO b (· = C) γ σ s γ σ { s with heap := h' } :=
  ⟨Post.stray s.toks S hs h1 h2, (Post.refl S).grow, fun a o e _ no => (hs.2 a fun q => h1 (q ▸ no q)).trans e, by show _ ≤ h'.objs.size; rw [hs.1]; exact Nat.le_refl _⟩
abbrev KlstQ (Q : W → Store → Prop) : List V → Store → Prop := fun acc σ => Q (.v (.lst acc)) σ
theorem EE.comp {elt tg iter : Expr} {ifs : List Expr} {scope : Scope} {pos : Pos} {Q : W → Store → Prop}
    (h : EI b n sc tg iter ρ σ (Kcb b n sc scope tg ifs elt ρ (KlstQ Q)))
    (hk : scope.kind = .function := by rfl) (hcell : (scope.names.all fun y => y.2 != .cell) = true := by rfl) (hnames : (scope.names.all fun y => y.2 != .local || scope.names.lookup y.1 == some .local) = true := by rfl) (hfree : (scope.names.all fun p => p.2 != .free || sc.names.lookup p.1 == some .cell || sc.names.lookup p.1 == some .free) = true := by rfl)
    (hcf : cdf (rel scope sc) = none := by rfl) (hsh : ((rel scope sc).names.lookup ("#" : Str) != some .local) = true := by rfl) (htg : tgLoc (rel scope sc) tg = true := by rfl) (hs : ∀ env x, foldedSetIterable iter env x = pure x := by intros; rfl) : EE b n sc (.ListComp elt [⟨tg, iter, ifs, 0⟩] scope pos) ρ σ Q := by
  intro A s env γ R S F
  rw [eval_ListComp]
  refine comp_core (use := none) h hk (fun y hy => by simpa using List.all_eq_true.mp hcell y hy) (fun y hy e => by have := List.all_eq_true.mp hnames y hy; rw [e] at this; simpa using this) hfree hcf (by simpa using hsh) htg (hs env) R S F ?_
  intro acc σ' γ' s' D C q P r hn h1 h2 hC
  refine ex1_1 (hn) fun m hn => ?_
  refine ⟨m, hn, fun h' hs' => ?_⟩
  have PO := PostO.one P.st hs' h1 h2
  have fk := PO.fkeepO P.st fun a q => by rw [show a = C from q]; exact h1
  refine ⟨_, σ', γ', q, ⟨PO.st, P.grow, fun a o e nt => (hs'.2 a fun q => ?_).trans (P.keep a o e nt), Nat.le_trans P.size PO.size⟩, r.mono (fun _ h => h) fk⟩
  exact absurd (Heap.lt_size e) (Nat.not_lt.mpr (q ▸ hC))
abbrev KsetQ (Q : Fl → Loc → Store → Prop) (x : Str) (ρ : Loc) : List V → Store → Prop := fun acc σ => Q .nx (setL x (.v (.lst acc)) ρ) σ
theorem ES.setComp {x : Str} {py : Pos} {elt tg iter : Expr} {ifs : List Expr} {scope : Scope} {pos spos : Pos} {Q : Fl → Loc → Store → Prop}
    (h : EI b n sc tg iter ρ σ (Kcb b n sc scope tg ifs elt ρ (KsetQ Q x ρ)))
    (hb : sc.names.lookup x = some .local := by rfl) (hsp : (("#" : Str) != x) = true := by rfl)
    (hk : scope.kind = .function := by rfl) (hcell : (scope.names.all fun y => y.2 != .cell) = true := by rfl) (hnames : (scope.names.all fun y => y.2 != .local || scope.names.lookup y.1 == some .local) = true := by rfl) (hfree : (scope.names.all fun p => p.2 != .free || sc.names.lookup p.1 == some .cell || sc.names.lookup p.1 == some .free) = true := by rfl)
    (hcf : cdf (rel scope sc) = none := by rfl) (hsh : ((rel scope sc).names.lookup ("#" : Str) != some .local) = true := by rfl) (htg : tgLoc (rel scope sc) tg = true := by rfl) (hs : ∀ env x, foldedSetIterable iter env x = pure x := by intros; rfl)
    (hsw : swapsWith (.ListComp elt [⟨tg, iter, ifs, 0⟩] scope pos) (some (.Name x py)) spos.line (envS sc) = pure true := by rfl) :
    ES b n sc (.Assign [.Name x py] (.ListComp elt [⟨tg, iter, ifs, 0⟩] scope pos) spos) ρ σ Q := by
  intro A s env γ R S F
  rw [exec_Assign_Name_used _ _ _ _ (swWi hsw F.scope)]
  refine wpAny_bind (wpAny_standAt (wpAny_bind ?_))
  show wpAny b.M A (do let _ ← comprehension (.ListComp elt [⟨tg, iter, ifs, 0⟩] scope pos) scope env (firstIterPos [⟨tg, iter, ifs, 0⟩] pos) (newList []) false (firstIter [⟨tg, iter, ifs, 0⟩] env) (some (assign (.Name x py) env))) _ NoE s
  refine wpAny_bind (wpAny_mono (comp_core (use := some (assign (.Name x py) env)) (T := fun _ s' => RF b sc env γ σ s Q .next s') h hk (fun y hy => by simpa using List.all_eq_true.mp hcell y hy) (fun y hy e => by have := List.all_eq_true.mp hnames y hy; rw [e] at this; simpa using this) hfree hcf (by simpa using hsh) htg (hs env) R S F ?_) (fun _ s' hq => wpAny_pure (wpAny_pure hq)) fun _ _ e => e)
  intro acc σ' γ' s' D C q P r hn h1 h2 hC
  refine ex1_1 (hn) fun m hn => ?_
  show wpAny b.M A (assign (.Name x py) env (.ref D)) _ _ s'
  have F' := F.post S P
  refine assign_Name (bind_loc₀ (y := .v (.lst acc)) P.st F' r hb (by simpa using hsp) fun s₂ P₂ F₂ => ?_)
  have locLt : env.locals < s.heap.objs.size := by obtain ⟨m, hm, _⟩ := F.loc; exact hm.lt
  have nC : C ≠ env.locals := Nat.ne_of_gt (Nat.lt_of_lt_of_le locLt hC)
  refine ex3_2 (hn) fun o es ep ho rest => ?_
  refine ⟨m, ⟨o, es, ep, P₂.keep _ _ ho h2 (fun q => absurd q nC), rest⟩, fun h' hs' => ?_⟩
  have h1' : ¬ γ'.F C := h1
  have PO := PostO.one P₂.st hs' h1 h2
  have celLt : ∀ x c, (sc.names.lookup x = some .cell ∨ sc.names.lookup x = some .free) → env.cells.lookup x = some c → ¬ (c = C) := fun x c hx hc q => by
    refine (F.cel x hx).e fun c' o vo e1 e2 _ _ _ _ => ?_
    rw [hc] at e1; cases e1
    exact absurd (Heap.lt_size e2) (Nat.not_lt.mpr (q ▸ hC))
  have F₃ := F₂.postO P₂.st PO (fun a q => by rw [show a = C from q]; exact h1) (fun q => nC q.symm) celLt
  refine ⟨.nx, _, σ', γ', q, ⟨PO.st, P.grow, fun a o e nt no => (hs'.2 a fun q => ?_).trans (P₂.keep a o (P.keep a o e nt) (fun t => ?_) fun q => P.grow.F a (no (.inl q))), Nat.le_trans P.size (Nat.le_trans P₂.size PO.size)⟩, F₃, trivial⟩
  · exact absurd (Heap.lt_size e) (Nat.not_lt.mpr (q ▸ hC))
  · exact (P.grow.newT a t).elim nt fun q => absurd (Heap.lt_size e) (Nat.not_lt.mpr q)
end
end Mine
end
section
open PySem PySem.W PyProof.Rows PySem.Calls
namespace Mine
theorem make_w (C : Addr) (r : List Value) (kw : List (Str × Value)) : Code.weight (.builtin "type.__call__" ⟨.ref C :: r, kw⟩) = 1 := rfl
theorem make_u (C : Addr) (r : List Value) (kw : List (Str × Value)) : Code.cUnits (.builtin "type.__call__" ⟨.ref C :: r, kw⟩) = 1 := rfl
theorem Room.make {n : Nat} {A : Around} (R : Room (n + 1) A) (C : Addr) (r : List Value) (kw : List (Str × Value)) : Room n (A.under (.builtin "type.__call__" ⟨.ref C :: r, kw⟩)) := by
  refine ex0_3 (R) fun r1 r2 r3 => ?_
  have hw := make_w C r kw
  have hu := make_u C r kw
  refine ⟨?_, ?_, r3⟩
  · show A.depth + Code.weight (.builtin "type.__call__" ⟨.ref C :: r, kw⟩) + 4 * n ≤ 900
    rw [hw]; lia
  · show A.units + Code.cUnits (.builtin "type.__call__" ⟨.ref C :: r, kw⟩) + 40 * n ≤ 9000
    rw [hu]; lia
section
variable {b : Bas} {n : Nat} {sc : Scope} {ρ : Loc} {σ : Store}
abbrev Knew (Q : W → Store → Prop) (k p : Nat) : W → Store → Prop := fun y σ => y = .v .none ∧ Q (.ref k p) σ
theorem AP.new (k : Nat) {C fI : Addr} {ys : List W} {Q : W → Store → Prop} (hm : makesIn (MineH.KF b.w.params) C = true) (hi : findIn (MineH.KF b.w.params) (.ref C) "__init__" = some (some (.ref fI)))
    (hf : typeIn (MineH.KF b.w.params) (.ref fI) = some (.type "function")) (hk : keepIn (MineH.KF b.w.params) (.ref C) = true)
    (h : ∀ p, FN b n (.ref fI) (.ref k p :: ys) ((k, p, .inst C []) :: σ) (Knew Q k p)) : AP b (n + 1) (.v (.raw (.ref C))) ys σ Q := by
  intro A s γ fv vs R S r rs
  refine WR.c_raw r ?_
  refine ⟨keeps_K hk _ (b.X.keeps S.base), wpAny_call ?_⟩
  obtain ⟨hh, g, d, t, os⟩ := s
  refine make_core (makes_of (b.X.keeps S.base) hm) (looks_findIn (b.X.keeps S.base) hi) (fun self => bind_fn (b.X.keeps S.base) self hf) (.inl rfl) ?_
  let s₁ : Shared := ⟨(hh.push emptyDict).push (instObj C hh.objs.size), g, d, t, os⟩
  have keep : ∀ a o, hh.get? a = some o → s₁.heap.get? a = some o := fun a o e => Heap.get?_push_of_some _ (Heap.get?_push_of_some _ e)
  have sz : s₁.heap.objs.size = hh.objs.size + 2 := by show ((hh.push emptyDict).push _).objs.size = _; rw [Heap.size_push, Heap.size_push]
  have P : Post b γ σ ⟨hh, g, d, t, os⟩ (γ.tr k (hh.objs.size + 1) hh.objs.size) ((k, γ.nv k, .inst C []) :: σ) s₁ := by
    refine Post.allocT S keep (Nat.le_succ _) (Nat.le_refl _) (by rw [sz]; exact Nat.lt_succ_self _) (by rw [sz]; exact Nat.lt_succ_of_lt (Nat.lt_succ_self _)) (by rw [sz]; exact Nat.le_add_right _ 2) ?_
    have e := Gh.tr_at (γ := γ) (k := k) (a := hh.objs.size + 1) (d := hh.objs.size)
    refine ⟨?_, ?_, [], 0, ?_, .nil⟩
    · rw [e.1, e.2.1]
      have := Heap.get?_push_size (h := hh.push emptyDict) (o := instObj C hh.objs.size) rfl
      rwa [Heap.size_push] at this
    · rw [e.1, e.2.1]; exact Nat.succ_ne_self _
    · rw [e.2.1]; exact Heap.get?_push_of_some _ (Heap.get?_push_size _ rfl)
  have rn : WR (γ.tr k (hh.objs.size + 1) hh.objs.size) ((k, γ.nv k, .inst C []) :: σ) s₁.heap (.ref k (γ.nv k)) (.ref (hh.objs.size + 1)) := WR.new
  refine codeAny_mono (h _ _ s₁ _ (.ref (hh.objs.size + 1) :: vs) (R.make C vs []) P.st ⟨rn, rs.post S P⟩) fun r s' z => ?_
  rcases r with e | (v | _ | _ | _) <;> first | exact z.elim | skip
  refine (z).e fun y σ' γ' zz1 P' r' => ?_
  refine ex0_2 (zz1) fun hy q => ?_
  subst hy
  refine WR.c_none r' ?_
  exact ⟨rfl, _, σ', γ', q, P.trans P', rn.post P.st P'⟩
abbrev Kbound (b : Bas) (name : Str) (Q : W → Store → Prop) : W → Store → Prop := fun ov σ₁ => ∃ k p C fs f, ov = .ref k p ∧ σ₁.lookup k = some (p, .inst C fs) ∧ fs.lookup name = none ∧ ClsOk b.w C ∧ findIn (MineH.KF b.w.params) (.ref C) name = some (some (.ref f)) ∧ isFn (MineH.KF b.w.params) (.ref f) = true ∧
      specialIn (MineH.KF b.w.params) (.ref f) "__get__" = some (some (.builtin "function.__get__")) ∧ takesIn (MineH.KF b.w.params) (.ref f) = some false ∧ copiedNames.contains name = false ∧ Q (.meth f k p) σ₁
theorem EE.bound {o : Expr} {name : Str} {pos : Pos} {Q : W → Store → Prop}
    (h : EE b n sc o ρ σ (Kbound b name Q))
    (he : ∀ env, attributeBase o name env (eval o env) = eval o env := by intros; rfl) : EE b n sc (.Attribute o name pos) ρ σ Q := by
  intro A s env γ R S F
  rw [arm_eval_Attribute, he env]
  refine wpAny_bind (h.go R S F fun ov σ₁ γ₁ v s₁ zy43 P r => ex5_10 zy43 fun k p C fs f ho hk hf ok hn hfn hg ht hc q => ?_)
  subst ho
  refine ex0_2 (r) fun zz2 lt => ?_
  subst zz2
  refine ex2_3 (P.st.inst hk) fun es m I hfs _ => ?_
  refine wpAny_bind (wpAny_standAt (wpAny_bind (wpAny_holding ?_)))
  have X := b.X.keeps P.st.base
  refine get_bind X I ok.get1 (findObj_fn ok.dict hn hg ht hc (by show lookIn name (dictOf es m) = _; rw [lookIn_dict, hfs.none hf])) ok.get2 ?_
  refine wpAny_call (fn_get (s := { s₁ with toks := s₁.toks + 1 }) X (beq_iff_eq.mp hfn) (handed_on rfl ?_))
  refine wpAny_bind (wpAny_letTemporaryGo (wpAny_pure ?_))
  have Pt := Post.toks P.st (s₁.toks + 1)
  have Pa := Post.allocF (ob := methodObj (.ref f) (.ref (γ₁.al k p))) Pt.st
  exact ⟨_, σ₁, _, q, P.trans (Pt.trans Pa), ⟨_, rfl, .inr rfl, Heap.get?_push_size _ rfl, lt⟩⟩
theorem AP.meth {f : Addr} {k p : Nat} {ys : List W} {Q : W → Store → Prop} (hf : fnIn (MineH.KF b.w.params) f = true) (h : FN b n (.ref f) (.ref k p :: ys) σ Q) : AP b n (.meth f k p) ys σ Q := by
  intro A s γ fv vs R S r rs
  refine ex1_4 (r) fun a zz3 fa ha lt => ?_
  subst zz3
  refine ⟨keeps_M hf _ ⟨ha, b.X.keeps S.base⟩, wpAny_call (method_call ha ?_)⟩
  refine codeAny_mono (h A s γ (.ref (γ.al k p) :: vs) R S ⟨⟨rfl, lt⟩, rs⟩) fun r s' z => ?_
  rcases r with e | (v | _ | _ | _) <;> first | exact z | exact z.elim
theorem ES.try {body : List Stmt} {h₀ : ExceptHandler} {hs : List ExceptHandler} {pos : Pos} {Q : Fl → Loc → Store → Prop} (h : ESs b n sc body ρ σ Q) : ES b n sc (.Try body (h₀ :: hs) [] [] pos) ρ σ Q := by
  intro A s env γ R S F
  refine wpAny_Try_except (wpAny_mono (h A s env γ R S F) (fun f s₁ z => ?_) fun _ _ z => z.elim)
  cases f <;> first | exact wpAny_execs_nil z | exact z
end
end Mine
end
section
open PySem PySem.W PyProof.Rows PySem.Calls
namespace Mine
def CloP (name : Str) (params : Arguments) (body : List Stmt) (scope : Scope) (caps : Loc) (γ : Gh) (h : Heap) (v : Value) : Prop :=
  ∃ a qual cl c' ctv doc pm, v = .ref a ∧ γ.F a ∧ h.get? a = some (fnMade name qual params body scope cl doc pm c' ctv) ∧ (∃ oc vs t, γ.F c' ∧ h.get? c' = some oc ∧ oc.data = .fields vs ∧ vs[1]? = some (.str qual t)) ∧
    (∀ x, (x, .free) ∈ scope.names → ∃ cx o vx y, cl.lookup x = some cx ∧ γ.F cx ∧ h.get? cx = some o ∧ o.data = .cell (some vx) ∧ caps.lookup x = some y ∧ WR γ [] h y vx) ∧ (∀ x y c, cl.lookup x = some c → cl.lookup y = some c → x = y)
noncomputable def cloW (name : Str) (params : Arguments) (body : List Stmt) (scope : Scope) (caps : Loc) : W := .sem (CloP name params body scope caps)
theorem CloP.keep {name : Str} {params : Arguments} {body : List Stmt} {scope : Scope} {caps : Loc} {γ γ' : Gh} {h h' : Heap} {v : Value} (hF : ∀ a, γ.F a → γ'.F a) (hal : AlKeep γ γ' [] []) (hk : FKeep γ.F h h') (p : CloP name params body scope caps γ h v) : CloP name params body scope caps γ' h' v := by
  refine ex7_6 (p) fun a qual cl c' ctv doc pm e fa ha zz1 h3 h4 => ?_
  refine ex3_4 (zz1) fun oc vs t fc hc h1 h2 => ?_
  refine ⟨a, qual, cl, c', ctv, doc, pm, e, hF _ fa, hk _ _ fa ha, ⟨oc, vs, t, hF _ fc, hk _ _ fc hc, h1, h2⟩, fun x hx => ?_, h4⟩
  refine ex4_6 (h3 x hx) fun cx o vx y e1 e2 e3 e4 e5 e6 => ?_
  exact ⟨cx, o, vx, y, e1, hF _ e2, hk _ _ e2 e3, e4, e5, e6.mono hF hk hal⟩
theorem cloW_at {name : Str} {params : Arguments} {body : List Stmt} {scope : Scope} {caps : Loc} {γ : Gh} {σ : Store} {h : Heap} {v : Value} (p : CloP name params body scope caps γ h v) : WR γ σ h (cloW name params body scope caps) v :=
  ⟨ex7_2 p fun a _ _ _ _ _ _ e _ => ⟨a, e⟩, p, fun _ _ hF hal hk => p.keep hF hal hk⟩
theorem lookup_none_of {x : Str} {l : List (Str × Value)} : x ∉ l.map (·.1) → l.lookup x = none := by
  induction l with
  | nil => exact fun _ => rfl
  | cons p r ih => intro h; rw [lookupS (x := p.2), if_neg (fun q => h (by rw [q]; exact List.mem_cons_self))]; exact ih fun q => h (List.mem_cons_of_mem _ q)
theorem lookup_app {x : Str} {α : Type} {l l' : List (Str × α)} : (l ++ l').lookup x = (l.lookup x).or (l'.lookup x) := by
  induction l with
  | nil => rfl
  | cons p r ih =>
    rw [List.cons_append, lookupS (x := p.2), lookupS (x := p.2)]
    split
    · rfl
    · exact ih
theorem bind_rev {γ : Gh} {σ : Store} {h : Heap} {xs : List Str} : ∀ (ys : List W) (vs : List Value), xs.Nodup → WRs γ σ h ys vs → xs.length = ys.length → ∀ x y, List.lookup x (xs.zip ys) = some y → ∃ v, (xs.zip vs).reverse.lookup x = some v ∧ WR γ σ h y v := by
  induction xs with
  | nil => intro ys vs _ _ _ x y e; cases e
  | cons a xs ih =>
    intro ys vs hn hw hl x y e
    cases ys with
    | nil => cases hl
    | cons z ys =>
      have hv := hw.length
      cases vs with
      | nil => cases hv
      | cons v vs =>
        refine ex0_2 (List.nodup_cons.mp hn) fun ha hn => ?_
        have hl' : xs.length = ys.length := Nat.succ.inj hl
        have hv : vs.length = ys.length := Nat.succ.inj hv
        rw [List.zip_cons_cons, lookupS] at e
        rw [List.zip_cons_cons, List.reverse_cons, lookup_app]
        by_cases q : x = a
        · subst q
          rw [if_pos rfl] at e
          cases e
          have out : x ∉ ((xs.zip vs).reverse).map (·.1) := fun hm => ha (by rw [List.map_reverse, List.mem_reverse, List.map_fst_zip (by lia)] at hm; exact hm)
          rw [lookup_none_of out]
          exact ⟨v, by rw [lookupS, if_pos rfl]; rfl, hw.1⟩
        · rw [if_neg q] at e
          refine ex1_2 (ih ys vs hn hw.2 hl' x y e) fun u h1 h2 => ?_
          exact ⟨u, by rw [h1]; rfl, h2⟩
section
variable {b : Bas} {n : Nat} {σ : Store}
theorem AP.clo {name : Str} {params : Arguments} {body : List Stmt} {scope : Scope} {caps : Loc} {ys : List W} {Q : W → Store → Prop}
    (hb : ∀ qual cl doc pm c' ctv (vs : List Value), vs.length = ys.length → bindArgs (fnX name qual params body scope cl .none .none doc pm none (.ref c') ctv) ⟨vs, []⟩ = pure ((params.args.map (·.arg)).zip vs))
    (hn : (params.args.map (·.arg)).Nodup) (hl : (params.args.map (·.arg)).length = ys.length) (hk : ((params.args.map (·.arg)).all fun x => scope.names.lookup x == some .local) = true)
    (hcell : (scope.names.all fun p => p.2 != .cell) = true) (hcf : cdf scope = none) (hsp : ((params.args.map (·.arg)).zip ys ++ (caps.filter fun p => scope.names.lookup p.1 == some .free)).lookup ("#" : Str) = none)
    (h : ESs b n scope body ((params.args.map (·.arg)).zip ys ++ (caps.filter fun p => scope.names.lookup p.1 == some .free)) σ (Kfn Q))
    (hco : scope.isCoroutine = false := by rfl) (hgen : scope.isGenerator = false := by rfl) (hkd : scope.kind = .function := by rfl) : AP b (n + 1) (cloW name params body scope caps) ys σ Q := by
  intro A s γ fv vs R S r rs
  refine ex0_3 (r) fun _ zz2 _ => ?_
  refine ex7_6 (zz2) fun a qual cl c' ctv doc pm zz3 fa ha zz4 h3 h4 => ?_
  subst zz3
  refine ex3_4 (zz4) fun oc ws t fc hc h1 h2 => ?_
  refine ⟨keeps_F _ ⟨_, _, _, _, ha⟩, wpAny_call ?_⟩
  have hv : vs.length = ys.length := rs.length
  have hcell' : ∀ x ∈ scope.names, x.2 ≠ .cell := fun x hx => by simpa using List.all_eq_true.mp hcell x hx
  refine codeAny_mono (R := RC b γ σ s Q) ?_ (fun r s' z => by rcases r with e | (v | _ | _ | _) <;> first | exact z | exact z.elim)
  refine codeAny_call_function (fd := fnX name qual params body scope cl .none .none doc pm none (.ref c') ctv) (body := body) R.lt ha rfl hco hgen rfl ⟨c', oc, ws, t, rfl, hc, h1, h2⟩ ?_
  rw [hb qual cl doc pm c' ctv vs hv]
  refine wpAny_pure (wpAny_newFunctionEnv hcell' (fun x hx => ?_) (fun h' hns hsb => ?_) hkd)
  · obtain ⟨x, v⟩ := x
    simpa using List.all_eq_true.mp hk x (List.of_mem_zip hx).1
  let L := s.heap.objs.size
  let env : Env := newEnv scope L mainGlobals cl (qual ++ ".<locals>.") (some a) (.ref c') none builtinsNs
  have sz : h'.objs.size = s.heap.objs.size + 1 := by rw [hsb.1, Heap.size_push]
  have keep : ∀ x o, s.heap.get? x = some o → h'.get? x = some o := fun x o e => (hsb.2 x (Nat.ne_of_lt (Heap.lt_size e))).trans (Heap.get?_push_of_some _ e)
  have P₁ : Post b γ σ s γ σ { s with heap := h', toks := s.toks + ((params.args.map (·.arg)).zip vs).length } := Post.ext _ S keep (by rw [sz]; exact Nat.le_succ _)
  refine ⟨(b.nolimit.keeps S.base).keeps keep, codeAny_func ?_⟩
  have big : ∀ a, L ≤ a → ¬ γ.F a ∧ ¬ Tr γ σ a := fun a ha => S.fresh ha
  have F₁ : FrR b scope γ σ ((params.args.map (·.arg)).zip ys ++ (caps.filter fun p => scope.names.lookup p.1 == some .free)) env h' := by
    refine ⟨rfl, hkd, rfl, rfl, big _ (Nat.le_refl _), ⟨_, hns, fun x y hx hxk => ?_⟩, fun x hx => ?_, h4, fun _ x c hx _ => absurd rfl (hcell' _ (mem_of_lookup hx)), fun c hc => (by rw [hcf] at hc; cases hc), fun hh => absurd hsp hh⟩
    · rw [lookup_app] at hx
      cases q : List.lookup x ((params.args.map (·.arg)).zip ys) with
      | some z =>
        rw [q] at hx; cases hx
        refine ex1_2 (bind_rev ys vs hn rs hl x y q) fun v e r => ?_
        exact ⟨v, e, r.post S P₁⟩
      | none =>
        rw [q] at hx
        have hm := mem_of_lookup (show List.lookup x (caps.filter fun p => scope.names.lookup p.1 == some .free) = some y from hx)
        have := (List.mem_filter.mp hm).2
        rw [hxk] at this
        cases this
    · have hx' : scope.names.lookup x = some .free := by
        rcases hx with hx | hx
        · exact absurd rfl (hcell' _ (mem_of_lookup hx))
        · exact hx
      refine ex4_6 (h3 x (mem_of_lookup hx')) fun cx o vx y e1 e2 e3 e4 e5 e6 => ?_
      refine ⟨cx, o, some vx, e1, keep _ _ e3, e4, fun z hz => ?_, S.notTr e2, Nat.ne_of_lt (S.lt _ e2)⟩
      rw [lookup_app] at hz
      have nz : List.lookup x ((params.args.map (·.arg)).zip ys) = none := by
        cases q : List.lookup x ((params.args.map (·.arg)).zip ys) with
        | none => rfl
        | some w =>
          have hm := (List.of_mem_zip (mem_of_lookup q)).1
          have := List.all_eq_true.mp hk x hm
          rw [hx'] at this; cases this
      rw [nz] at hz
      have hc2 : caps.lookup x = some z := by
        have gen : ∀ l : Loc, List.lookup x (l.filter fun p => scope.names.lookup p.1 == some .free) = l.lookup x := by
          intro l
          induction l with
          | nil => rfl
          | cons p r ih =>
            obtain ⟨k, w⟩ := p
            rw [List.filter_cons]
            by_cases q : x = k
            · subst q
              simp [hx']
            · have q' : (x == k) = false := by simpa using q
              split
              · rw [List.lookup_cons, List.lookup_cons, q', ih]
              · rw [List.lookup_cons, q', ih]
        exact (gen caps).symm.trans hz
      rw [e5] at hc2; cases hc2
      exact ⟨vx, rfl, e6.mono (fun _ h => h) (P₁.fkeep S) P₁.grow.al⟩
  refine wpAny_mono (h (A.deeper env) _ env γ (R.deeper env) P₁.st F₁) (fun f s' zy44 => zy44.e fun fl ρ' σ' γ' q P F' e => ?_) fun _ _ z => z.elim
  have notOwn : ∀ a, a < s.heap.objs.size → ¬ Own scope env a := fun a ha q => by
    rcases q with rfl | ⟨x, hx, hc⟩
    · exact Nat.lt_irrefl _ ha
    · exact absurd rfl (hcell' _ (mem_of_lookup hx))
  have PP : Post b γ σ s γ' σ' s' := by
    refine ⟨P.st, ⟨P.grow.F, P.grow.al, fun a h => ?_, fun a h => ?_⟩, fun a o e n => P.keep a o (keep a o e) n fun q => absurd q (notOwn a (Heap.lt_size e)), Nat.le_trans P₁.size P.size⟩
    · exact (P.grow.newF a h).imp id fun q => Nat.le_trans P₁.size q
    · exact (P.grow.newT a h).imp id fun q => Nat.le_trans P₁.size q
  cases fl with
  | rt y => cases f with
    | ret v => exact ⟨y, σ', γ', q, PP, e⟩
    | _ => cases e
  | nx => cases f with
    | next => exact ⟨_, σ', γ', q, PP, .none⟩
    | _ => cases e
  | br => cases f with
    | brk => exact ⟨_, σ', γ', q, PP, .none⟩
    | _ => cases e
  | ct => cases f with
    | cont => exact ⟨_, σ', γ', q, PP, .none⟩
    | _ => cases e
end
end Mine
end
section
open PySem PySem.W PyProof.Rows PySem.Calls
namespace Mine
section
variable {b : Bas} {n : Nat} {sc : Scope} {ρ : Loc} {σ : Store} {γ : Gh} {s : Shared}
theorem Post.setX {k p : Nat} {o o' : O} {a : Addr} {h' : Heap} {F' : Addr → Prop} (t : Nat) (S : St b γ σ s) (hk : σ.lookup k = some (p, o)) (ha : a = γ.al k p ∨ a = γ.dx k p) (keep : ∀ x ob, x ≠ a → s.heap.get? x = some ob → h'.get? x = some ob)
    (hz : s.heap.objs.size ≤ h'.objs.size) (hF : ∀ x, γ.F x → F' x) (hn : ∀ x, F' x → γ.F x ∨ s.heap.objs.size ≤ x) (hl : ∀ x, F' x → x < h'.objs.size)
    (ho : ObjAt b.prog b.w { γ with F := F' } (put k o' σ) h' k p o') : Post b γ σ s { γ with F := F' } (put k o' σ) { s with heap := h', toks := t } := by
  have z := S.sep k p o hk
  have nf : ¬ γ.F a := ha.elim (fun e => by rw [e]; exact z.1) (fun e => by rw [e]; exact z.2.1)
  have ne : ∀ x, γ.F x → x ≠ a := fun x h e => nf (e ▸ h)
  have nF' : ∀ x, x < s.heap.objs.size → ¬ γ.F x → ¬ F' x := fun x hl hn' h => (hn x h).elim hn' fun q => absurd hl (Nat.not_lt.mpr q)
  have al : AlKeep γ { γ with F := F' } σ (put k o' σ) := AlKeep.same rfl rfl rfl
  have sep : ∀ j q x, (put k o' σ).lookup j = some (q, x) → ∃ y, σ.lookup j = some (q, y) ∧ (j ≠ k → y = x) := fun j q x h => by
    by_cases e : j = k
    · subst e; rw [put_self hk] at h; cases h; exact ⟨o, hk, fun q => absurd rfl q⟩
    · rw [put_ne e] at h; exact ⟨x, h, fun _ => rfl⟩
  refine ⟨⟨fun x ob e => keep x ob (ne x (S.stat' e)) (S.base x ob e), S.gens, S.os, fun x h n => hF x (S.stat x h n), hl, fun j q x h => ?_, fun j q x h => ?_, fun j j' q q' x x' h h' n => ?_, fun j q x h => ?_⟩, ⟨hF, al, hn, fun x h => ?_⟩, fun x ob e nt => ?_, hz⟩
  · refine ex1_2 (sep j q x h) fun y hy _ => ?_
    exact S.nv j q y hy
  · refine ex1_2 (sep j q x h) fun y hy _ => ?_
    have z := S.sep j q y hy
    exact ⟨nF' _ z.2.2.1 z.1, nF' _ z.2.2.2 z.2.1, Nat.lt_of_lt_of_le z.2.2.1 hz, Nat.lt_of_lt_of_le z.2.2.2 hz⟩
  · refine ex1_2 (sep j q x h) fun y hy _ => ?_
    refine ex1_2 (sep j' q' x' h') fun y' hy' _ => ?_
    exact S.dist j j' q q' y y' hy hy' n
  · by_cases e : j = k
    · subst e; rw [put_self hk] at h; cases h; exact ho
    · rw [put_ne e] at h
      refine ObjAt.mono (γ := γ) (γ' := { γ with F := F' }) (σ := σ) (h := s.heap) hF (fun x ob fx e => keep x ob (ne x fx) e) al (S.nv j q x h) (fun x' ob hx q' => keep x' ob (fun e' => ?_) q') (S.obj j q x h)
      have d := S.dist j k q p x o h hk e
      subst e'
      rcases ha with rfl | rfl <;> rcases hx with hx | hx
      · exact d.1 hx.symm
      · exact d.2.2.1 hx.symm
      · exact d.2.1 hx.symm
      · exact d.2.2.2 hx.symm
  · refine ex3_2 (h) fun j q y h hx => ?_
    refine ex1_2 (sep j q y h) fun y' hy' _ => ?_
    exact .inl ⟨j, q, y', hy', hx⟩
  · exact keep x ob (fun e' => nt ⟨k, p, o, hk, e' ▸ ha⟩) e
theorem Bas.builtinsAt (b : Bas) {h : Heap} (k : ∀ a o, b.h₀.get? a = some o → h.get? a = some o) : h.BuiltinsAt b.mg tabP := by
  refine ex2_6 (b.bmain) fun bm ob b1 b2 b3 b4 b5 b6 => ?_
  have hbP : bm ≠ tabP := fun q => by rw [q, b.hid] at b3; cases b3
  have hbG : bm ≠ mainGlobals := fun q => by
    refine ex3_3 (b.g) fun o es ep e hd _ => ?_
    rw [q, e] at b3; cases b3; rw [hd] at b6; cases b6
  exact ⟨bm, ob, b1, b2, hbG, hbP, k _ _ b3, b4, b5, b6⟩
theorem ES.def (k : Nat) {p : Nat} {ps : Array Value} {name : Str} {params : Arguments} {body : List Stmt} {scope : Scope} {pos : Pos} {Q : Fl → Loc → Store → Prop} (hcd : cdf sc = some tabC) (hz : ρ.lookup ("#" : Str) ≠ none) (hk : σ.lookup k = some (p, .tab ps))
    (hnf : codeAmong pos ps.toList = none) (hcap : (scope.names.all fun p => p.2 != .free || (sc.names.lookup p.1 == some .cell && (ρ.lookup p.1).isSome)) = true) (hd0 : params.defaults = []) (hk0 : params.kw_defaults = []) (ha : ∀ env, annTrees params none env = []) (hb : bindK sc ρ name = true)
    (q : ∀ c', Q .nx (setL name (cloW name params body scope ρ) ρ) (put k (.tab (ps ++ #[rawInt pos.line, rawInt pos.col, .ref c'])) σ)) : ES b n sc (.FunctionDef name params body [] none [] scope none name pos) ρ σ Q := by
  intro A s env γ R S F
  have caps : ∀ x, (x, .free) ∈ scope.names → sc.names.lookup x = some .cell ∧ ∃ y, ρ.lookup x = some y := fun x hx => by
    have := List.all_eq_true.mp hcap _ hx
    simp only [bne_self_eq_false, Bool.false_or, Bool.and_eq_true, beq_iff_eq] at this
    exact ⟨this.1, Option.isSome_iff_exists.mp this.2⟩
  obtain ⟨cl, hcl, clE, clS⟩ := closureFor_of (scope := scope) (env := env) fun p hp hf => by
    obtain ⟨x, kd⟩ := p
    cases hf
    refine (F.cel x (.inl (caps x hp).1)).e fun c o vo h1 _ _ _ _ _ => ?_
    exact ⟨c, h1⟩
  refine ex0_3 (S.obj k _ _ hk) fun eP hP ht => ?_
  rw [eP] at hP
  have z := S.sep k p _ hk
  refine nestDef_K hd0 hk0 (ha env) (makeFunction_K hcl F.glob (b.g.keeps S.base) (F.code tabC hcd) (b.cdh.keeps S.base) hP ht hnf (by decide) (b.builtinsAt S.base) fun c' ctv doc h' tk hx hge hlt hrec htb => ?_)
  refine ex4_4 (hrec) fun c₂ oc vs t e2 hoc hd hv => ?_
  cases e2
  let fo := fnMade name (qualnameIn env name name) params body scope cl doc ((b.mg "__name__").getD .none) c' ctv
  let hf := h'.push fo
  let F' : Addr → Prop := fun x => γ.F x ∨ x = c' ∨ x = h'.objs.size
  have sz : hf.objs.size = h'.objs.size + 1 := Heap.size_push ..
  have ge : s.heap.objs.size ≤ h'.objs.size := Nat.le_of_lt (Nat.lt_of_le_of_lt hge hlt)
  have keep : ∀ x ob, x ≠ tabP → s.heap.get? x = some ob → hf.get? x = some ob := fun x ob hne e => Heap.get?_push_of_some _ (hx x ob hne e)
  have P : Post b γ σ s { γ with F := F' } (put k (.tab (ps ++ #[rawInt pos.line, rawInt pos.col, .ref c'])) σ) { s with heap := hf, toks := tk } := by
    refine Post.setX tk S hk (.inl rfl) (fun x ob hne e => keep x ob (by rw [← eP]; exact hne) e) (by rw [sz]; lia) (fun x h => .inl h) (fun x h => ?_) (fun x h => ?_) ⟨eP, ?_, ?_⟩
    · rcases h with h | h | h
      · exact .inl h
      · exact .inr (h ▸ hge)
      · exact .inr (h ▸ ge)
    · rw [sz]
      rcases h with h | h | h
      · exact Nat.lt_succ_of_lt (Nat.lt_of_lt_of_le (S.lt x h) ge)
      · rw [h]; exact Nat.lt_succ_of_lt hlt
      · rw [h]; exact Nat.lt_succ_self _
    · show hf.get? (γ.al k p) = _
      rw [eP]
      exact Heap.get?_push_of_some _ htb
    · rw [Array.toList_append]; exact TriplesOk_snoc _ _ _ _ ht
  have r : WR { γ with F := F' } (put k (.tab (ps ++ #[rawInt pos.line, rawInt pos.col, .ref c'])) σ) hf (cloW name params body scope ρ) (.ref h'.objs.size) := by
    refine cloW_at ⟨h'.objs.size, _, cl, c', ctv, doc, _, rfl, .inr (.inr rfl), Heap.get?_push_size _ rfl, ⟨oc, vs, t, .inr (.inl rfl), Heap.get?_push_of_some _ hoc, hd, hv⟩, fun x hx' => ?_, fun x y c h1 h2 => F.inj x y c (clE x c h1) (clE y c h2)⟩
    obtain ⟨hcell, y, hy⟩ := caps x hx'
    refine (F.cel x (.inl hcell)).e fun c o vo e1 e2 e3 e4 e5 e6 => ?_
    refine ex1_1 (Option.isSome_iff_exists.mp (clS x hx')) fun cx hcx => ?_
    have := clE x cx hcx
    rw [e1] at this; cases this
    refine ex1_2 (e4 y hy) fun vx hvx rx => ?_
    subst hvx
    have fc := F.fz hz x c hcell e1
    have ncP : c ≠ tabP := fun q => z.1 (by rw [eP, ← q]; exact fc)
    exact ⟨c, o, vx, y, hcx, .inl fc, keep _ _ ncP e2, e3, hy, rx.mono (γ' := { γ with F := F' }) (fun _ h => Or.inl h) (P.fkeep S) P.grow.al⟩
  exact bind_any P.st (F.post S P) r hb fun s' P' F' => ⟨.nx, _, _, _, q c', P.toF.trans P', F', trivial⟩
theorem execs_append {env : Env} : ∀ (xs ys : List Stmt), execs (xs ++ ys) env = (execs xs env >>= fun f => match f with | .next => execs ys env | f => pure f)
  | [], ys => by
    show execs ys env = (execs [] env >>= _)
    rw [show execs [] env = (pure .next : Sem Flow) from rfl, pure_bind]
  | x :: xs, ys => by
    rw [List.cons_append, execs_cons, execs_cons, bind_assoc]
    congr 1
    funext f
    cases f <;> first | exact execs_append xs ys | exact (pure_bind ..).symm
end
section
variable {b : Bas} {n : Nat} {σ : Store}
theorem St.freezes {γ : Gh} {s : Shared} {G : Addr → Prop} (S : St b γ σ s) (hT : ∀ a, G a → ¬ Tr γ σ a) (hD : ∀ a, G a → a < s.heap.objs.size) : St b { γ with F := fun a => γ.F a ∨ G a } σ s := by
  refine ⟨S.base, S.gens, S.os, fun a h ne => .inl (S.stat a h ne), fun a h => h.elim (S.lt a) (hD a), S.nv, fun k p o h => ?_, S.dist, fun k p o h => ?_⟩
  · have z := S.sep k p o h
    exact ⟨fun q => q.elim z.1 fun q => hT _ q ⟨k, p, o, h, .inl rfl⟩, fun q => q.elim z.2.1 fun q => hT _ q ⟨k, p, o, h, .inr rfl⟩, z.2.2⟩
  · exact ObjAt.mono (γ := γ) (γ' := { γ with F := fun a => γ.F a ∨ G a }) (σ := σ) (h := s.heap) (fun _ h => .inl h) (fun _ _ _ e => e) (AlKeep.same rfl rfl rfl) (S.nv k p o h) (fun _ _ _ e => e) (S.obj k p o h)
abbrev Kpost (b : Bas) (n : Nat) (scope : Scope) (post : List Stmt) (Q : W → Store → Prop) : Fl → Loc → Store → Prop := fun fl ρ₁ σ₁ => fl = .nx ∧ ESs b n scope post (("#", .unk) :: ρ₁) σ₁ (Kfn Q)
theorem FN.intro2 {f : Addr} {ys : List W} {Q : W → Store → Prop} {name qual : Str} {params : Arguments} {pre post : List Stmt} {scope : Scope} {dV kV doc pm cdv ct oc : Value} {an od : Option Addr} {osl : Array (Option Value)}
    (ho : (MineH.KF b.w.params).lookup f = some ⟨oc, od, .func (fnOf name qual params (pre ++ post) scope dV kV doc pm an cdv ct), osl⟩)
    (hcd : codeIn (MineH.KF b.w.params) cdv qual = true)
    (hb : ∀ vs : List Value, vs.length = ys.length → bindArgs (fnOf name qual params (pre ++ post) scope dV kV doc pm an cdv ct) ⟨vs, []⟩ = pure ((params.args.map (·.arg)).zip vs))
    (hn : (params.args.map (·.arg)).Nodup) (hl : (params.args.map (·.arg)).length = ys.length)
    (hk : ((params.args.map (·.arg)).all fun x => scope.names.lookup x == some .local || scope.names.lookup x == some .cell) = true)
    (hfr : (scope.names.all fun p => p.2 != .free) = true) (hnd : ((cellsFrom 0 scope.names []).map (·.1)).Nodup)
    (h : ESs b n scope pre ((params.args.map (·.arg)).zip ys) σ (Kpost b n scope post Q))
    (hsn : scope.names.lookup ("#" : Str) = none := by rfl) (hsp : ((params.args.map (·.arg)).zip ys).lookup ("#" : Str) = none := by rfl) (hcf : cdf scope = none ∨ cdv = .ref tabC := by first | exact .inl rfl | exact .inr rfl) (hco : scope.isCoroutine = false := by rfl) (hgen : scope.isGenerator = false := by rfl) (hkd : scope.kind = .function := by rfl) : FN b (n + 1) (.ref f) ys σ Q := by
  refine FN.core ho hcd hb hn hl hk hfr hnd (fun A s₁ env γ R S F hL hc => ?_) hsp hcf hco hgen hkd
  rw [execs_append]
  refine wpAny_bind (wpAny_mono (h A s₁ env γ R S F) (fun f s₂ zy45 => zy45.e fun fl ρ₁ σ₁ γ₁ zy46 P₁ F₁ e => ex0_2 zy46 fun hfl h₁ => ?_) fun _ _ z => z)
  subst hfl
  cases f with
  | next =>
    let G : Addr → Prop := fun a => ∃ x, scope.names.lookup x = some .cell ∧ env.cells.lookup x = some a
    have S₂ : St b { γ₁ with F := fun a => γ₁.F a ∨ G a } σ₁ s₂ := by
      refine P₁.st.freezes (fun a zy47 => ex1_2 zy47 fun x hx hy => ?_) fun a zy48 => ex1_2 zy48 fun x hx hy => ?_
      · refine (F₁.cel x (.inl hx)).e fun c o vo e1 e2 e3 e4 e5 e6 => ?_
        rw [hy] at e1; cases e1; exact e5
      · refine (F₁.cel x (.inl hx)).e fun c o vo e1 e2 _ _ _ _ => ?_
        rw [hy] at e1; cases e1; exact Heap.lt_size e2
    have up : ∀ {y : W} {v : Value}, WR γ₁ σ₁ s₂.heap y v → WR { γ₁ with F := fun a => γ₁.F a ∨ G a } σ₁ s₂.heap y v := fun r =>
      WR.mono (γ := γ₁) (γ' := { γ₁ with F := fun a => γ₁.F a ∨ G a }) (σ := σ₁) (h := s₂.heap) (fun _ h => Or.inl h) (fun _ _ _ e => e) (AlKeep.same rfl rfl rfl) r
    have lk : ∀ x y, List.lookup x (("#", .unk) :: ρ₁ : Loc) = some y → x = ("#" : Str) ∨ ρ₁.lookup x = some y := fun x y hx => by
      rw [List.lookup_cons] at hx
      by_cases q : x = ("#" : Str)
      · exact .inl q
      · have q' : (x == ("#" : Str)) = false := by simpa using q
        rw [q'] at hx; exact .inr hx
    have F₂ : FrR b scope { γ₁ with F := fun a => γ₁.F a ∨ G a } σ₁ (("#", .unk) :: ρ₁) env s₂.heap := by
      refine ex1_2 (F₁.loc) fun m hm hlo => ?_
      refine ⟨F₁.scope, F₁.kind, F₁.glob, F₁.bltn, ⟨fun q => q.elim F₁.own.1 fun zy49 => ex1_2 zy49 fun x hx hy => ?_, F₁.own.2⟩, ⟨m, hm, fun x y hx hkx => ?_⟩, fun x hx => ?_, F₁.inj, fun hh => ?_, F₁.code, fun _ x c hx hy => .inr ⟨x, hx, hy⟩⟩
      · refine (F₁.cel x (.inl hx)).e fun c o vo e1 e2 e3 e4 e5 e6 => ?_
        rw [hy] at e1; cases e1; exact e6 rfl
      · rcases lk x y hx with rfl | hx
        · rw [hsn] at hkx; cases hkx
        · refine ex1_2 (hlo x y hx hkx) fun v e1 e2 => ?_
          exact ⟨v, e1, up e2⟩
      · refine (F₁.cel x hx).e fun c o vo e1 e2 e3 e4 e5 e6 => ?_
        refine ⟨c, o, vo, e1, e2, e3, fun y hy => ?_, e5, e6⟩
        rcases lk x y hy with rfl | hy
        · rcases hx with hx | hx <;> rw [hsn] at hx <;> cases hx
        · refine ex1_2 (e4 y hy) fun v e7 e8 => ?_
          exact ⟨v, e7, up e8⟩
      · rw [List.lookup_cons] at hh; simp at hh
    have L₁ := P₁.toL hL fun x c _ => hc x c
    have hL₂ : env.locals ≤ s₂.heap.objs.size := Nat.le_trans hL P₁.size
    refine wpAny_mono (h₁ A s₂ env _ R S₂ F₂) (fun f s₃ zy50 => zy50.e fun fl ρ' σ' γ' q P₂ _ e => ?_) fun _ _ z => z
    have L₂ := P₂.toL hL₂ fun x c _ => hc x c
    refine ⟨fl, σ', γ', q, ⟨L₂.st, fun a h => L₂.F a (.inl (L₁.F a h)), fun k p h => ?_, fun a h => ?_, fun a h => ?_, fun a o e nt lt => ?_, Nat.le_trans L₁.size L₂.size⟩, e⟩
    · have z := L₁.al k p h
      have z' := L₂.al k p z.2.2
      exact ⟨z'.1.trans z.1, z'.2.1.trans z.2.1, z'.2.2⟩
    · rcases L₂.newF a h with (h | ⟨x, _, hy⟩) | h
      · exact L₁.newF a h
      · exact .inr (Nat.le_of_lt (hc x a hy))
      · exact .inr h
    · rcases L₂.newT a h with h | h
      · exact L₁.newT a h
      · exact .inr h
    · refine L₂.keep a o (L₁.keep a o e nt lt) (fun t => ?_) lt
      exact (L₁.newT a t).elim nt fun q => absurd lt (Nat.not_lt.mpr q)
  | _ => cases e
theorem FN.intro2N {f : Addr} {ys : List W} {Q : W → Store → Prop} {name qual : Str} {params params' : Arguments} {pre post body' : List Stmt} {scope scope' : Scope} {dV kV doc pm cdv ct oc : Value} {an od : Option Addr} {osl : Array (Option Value)}
    (ho : (MineH.KF b.w.params).lookup f = some ⟨oc, od, .func (fnOf name qual params' body' scope' dV kV doc pm an cdv ct), osl⟩)
    (eP : params' = params) (eB : body' = pre ++ post) (eS : scope' = scope) (hcd : codeIn (MineH.KF b.w.params) cdv qual = true)
    (hb : ∀ vs : List Value, vs.length = ys.length → bindArgs (fnOf name qual params (pre ++ post) scope dV kV doc pm an cdv ct) ⟨vs, []⟩ = pure ((params.args.map (·.arg)).zip vs))
    (hn : (params.args.map (·.arg)).Nodup) (hl : (params.args.map (·.arg)).length = ys.length)
    (hk : ((params.args.map (·.arg)).all fun x => scope.names.lookup x == some .local || scope.names.lookup x == some .cell) = true)
    (hfr : (scope.names.all fun p => p.2 != .free) = true) (hnd : ((cellsFrom 0 scope.names []).map (·.1)).Nodup)
    (h : ESs b n scope pre ((params.args.map (·.arg)).zip ys) σ (Kpost b n scope post Q))
    (hsn : scope.names.lookup ("#" : Str) = none := by rfl) (hsp : ((params.args.map (·.arg)).zip ys).lookup ("#" : Str) = none := by rfl) (hcf : cdf scope = none ∨ cdv = .ref tabC := by first | exact .inl rfl | exact .inr rfl) (hco : scope.isCoroutine = false := by rfl) (hgen : scope.isGenerator = false := by rfl) (hkd : scope.kind = .function := by rfl) : FN b (n + 1) (.ref f) ys σ Q := by
  subst eP; subst eB; subst eS
  exact FN.intro2 ho hcd hb hn hl hk hfr hnd h hsn hsp hcf hco hgen hkd
end
end Mine
end
section
open PySem PySem.W PyProof.Rows PySem.Calls
namespace Mine
section
variable {b : Bas} {n : Nat} {sc : Scope} {ρ : Loc} {σ : Store} {Q : W → Store → Prop}
theorem AP.isiStr {i : Int} (q : Q (.v (.bool false)) σ) : AP b n (.v (.raw (.builtin "isinstance"))) [.v (.int i), .v (.raw (.type "str"))] σ Q := by
  refine AP.r2 fun A s γ u v R S r r' => ?_
  refine WR.c_int r fun _ => ?_
  refine WR.c_raw r' ?_
  exact ⟨keep_builtin, IsiPair.int_str (RV.now S q _ (.bool _))⟩
theorem AP.isiTup {i : Int} (q : Q (.v (.bool false)) σ) : AP b n (.v (.raw (.builtin "isinstance"))) [.v (.int i), .v (.raw (.type "tuple"))] σ Q := by
  refine AP.r2 fun A s γ u v R S r r' => ?_
  refine WR.c_int r fun _ => ?_
  refine WR.c_raw r' ?_
  exact ⟨keep_builtin, IsiPair.int_tuple (RV.now S q _ (.bool _))⟩
theorem AP.absI {i : Int} (q : Q (.v (.int (if i < 0 then -i else i))) σ) : AP b n (.v (.raw (.builtin "abs"))) [.v (.int i)] σ Q := by
  refine AP.r1 fun A s γ u R S r => ?_
  refine WR.c_int r fun _ => ?_
  exact ⟨keep_builtin, call_abs_int fun u tk => RV.now S q _ (.int _ _)⟩
theorem AP.intI {i : Int} (q : Q (.v (.int i)) σ) : AP b n (.v (.raw (.type "int"))) [.v (.int i)] σ Q := by
  refine AP.r1 fun A s γ u R S r => ?_
  refine WR.c_int r fun _ => ?_
  exact ⟨keep_type, call_int_int (RV.same S q (.int _ _))⟩
theorem AP.intB {i : Bool} (q : Q (.v (.int (if i then 1 else 0))) σ) : AP b n (.v (.raw (.type "int"))) [.v (.bool i)] σ Q := by
  refine AP.r1 fun A s γ u R S r => ?_
  refine WR.c_bool r ?_
  exact ⟨keep_type, call_int_bool (RV.now S q _ (.int _ _))⟩
theorem AP.strI {i : Int} (hi : i.natAbs.log2 < 1920) (q : Q (.v (.str (toString i))) σ) : AP b n (.v (.raw (.type "str"))) [.v (.int i)] σ Q := by
  refine AP.r1 fun A s γ u R S r => ?_
  refine WR.c_int r fun _ => ?_
  exact ⟨keep_type, PySem.P.str_of_int hi (RV.now S q _ (.str _ _))⟩
theorem AP.max2 {i j : Int} (q : Q (.v (.int (if j > i then j else i))) σ) : AP b n (.v (.raw (.builtin "max"))) [.v (.int i), .v (.int j)] σ Q := by
  refine AP.r2 fun A s γ u v R S r r' => ?_
  refine WR.c_int r fun _ => ?_
  refine WR.c_int r' fun _ => ?_
  refine ⟨keep_builtin, with_size (max_two_ints R.2.2 fun h' tk hk hz => ?_)⟩
  have P := Post.ext (h' := h') tk S hk hz
  by_cases hc : j > i
  · rw [if_pos hc] at q ⊢
    exact ⟨_, σ, γ, q, P, .int _ _⟩
  · rw [if_neg hc] at q ⊢
    exact ⟨_, σ, γ, q, P, .int _ _⟩
abbrev KcmpC (b : Bas) (n : Nat) (sc : Scope) (o₂ : CmpOp) (r₂ : Expr) (ρ : Loc) (Q : W → Store → Prop) (y c : W) : Bool → Store → Prop := fun t σ₄ => cond t (EE b n sc r₂ ρ σ₄ (Kop2 b n (compareOp o₂) Q y)) (Q c σ₄)
abbrev KcmpT (b : Bas) (n : Nat) (sc : Scope) (o₂ : CmpOp) (r₂ : Expr) (ρ : Loc) (Q : W → Store → Prop) (y : W) : W → Store → Prop := fun c σ₃ => OpT b n c σ₃ (KcmpC b n sc o₂ r₂ ρ Q y c)
abbrev KcmpB (b : Bas) (n : Nat) (sc : Scope) (o₁ o₂ : CmpOp) (r₂ : Expr) (ρ : Loc) (Q : W → Store → Prop) (x : W) : W → Store → Prop := fun y σ₂ => Op2 b n (compareOp o₁) x y σ₂ (KcmpT b n sc o₂ r₂ ρ Q y)
abbrev KcmpA (b : Bas) (n : Nat) (sc : Scope) (o₁ o₂ : CmpOp) (r₁ r₂ : Expr) (ρ : Loc) (Q : W → Store → Prop) : W → Store → Prop := fun x σ₁ => EE b n sc r₁ ρ σ₁ (KcmpB b n sc o₁ o₂ r₂ ρ Q x)
theorem EE.cmp2 {l r₁ r₂ : Expr} {o₁ o₂ : CmpOp} {pos : Pos}
    (h : EE b n sc l ρ σ (KcmpA b n sc o₁ o₂ r₁ r₂ ρ Q))
    (hm : ∀ t₁ t₂ : Sem Value, markedEach [o₁, o₂] [r₁, r₂] [t₁, t₂] = [t₁, t₂] := by intros; rfl) : EE b n sc (.Compare l [o₁, o₂] [r₁, r₂] pos) ρ σ Q := by
  intro A s env γ R S F
  show wpAny b.M A (do compareChain pos (← eval l env) [o₁, o₂] (markedEach [o₁, o₂] [r₁, r₂] [eval r₁ env, eval r₂ env])) _ NoE s
  rw [hm]
  refine wpAny_bind (h.go R S F fun x σ₁ γ₁ v s₁ h₁ P₁ q₁ => ?_)
  have F₁ := F.post S P₁
  show wpAny b.M A (do
    let rv ← holding [v] (eval r₁ env)
    standAt pos
    let c ← holding [v, rv] (compareOp o₁ v rv)
    release [v, rv] [c]
    if ← holding [c, rv] (truthy c) then compareChain pos rv [o₂] [eval r₂ env] else pure c) _ NoE s₁
  refine wpAny_bind (wpAny_holding (h₁.go R P₁.st F₁ fun y σ₂ γ₂ u s₂ h₂ P₂ q₂ => ?_))
  have F₂ := F₁.post P₁.st P₂
  refine wpAny_bind (wpAny_standAt (wpAny_bind (wpAny_holding (wpAny_mono (h₂ A s₂ γ₂ v u R P₂.st (q₁.post P₁.st P₂) q₂) (fun c s₃ zy51 => zy51.e fun z σ₃ γ₃ h₃ P₃ q₃ => ?_) fun _ _ z => z))))
  have F₃ := F₂.post P₂.st P₃
  refine wpAny_bind (wpAny_release (wpAny_bind (wpAny_holding (wpAny_mono (h₃ A s₃ γ₃ c R P₃.st q₃) (fun t s₄ zy52 => zy52.e fun t' σ₄ γ₄ h₄ P₄ e => ?_) fun _ _ z => z))))
  subst e
  have F₄ := F₃.post P₃.st P₄
  have PP := P₁.trans (P₂.trans (P₃.trans P₄))
  cases t' with
  | false => exact wpAny_pure ⟨z, σ₄, γ₄, h₄, PP, q₃.post P₃.st P₄⟩
  | true =>
    show wpAny b.M A (do
      let rv ← holding [u] (eval r₂ env)
      standAt pos
      operate [u, rv] (compareOp o₂ u rv)) _ NoE s₄
    refine wpAny_bind (wpAny_holding (EE.go h₄ R P₄.st F₄ fun z₂ σ₅ γ₅ w₅ s₅ h₅ P₅ q₅ => ?_))
    refine wpAny_bind (wpAny_standAt (wpAny_operating (wpAny_mono (h₅ A s₅ γ₅ u w₅ R P₅.st (((q₂.post P₂.st P₃).post P₃.st P₄).post P₄.st P₅) q₅) (fun _ _ z => z.trans (PP.trans P₅)) fun _ _ z => z)))
theorem slicePick_to (items : Array Value) (b : Nat) : slicePick items none (some (b : Int)) none = (items.toList.take b).toArray := by
  by_cases hb : b ≤ items.size
  · exact slicePick_upto items b hb
  · have e : sliceBounds none (some (b : Int)) none items.size = sliceBounds none (some ((items.size : Nat) : Int)) none items.size := by
      simp only [sliceBounds, Option.getD_none]
      have h2 : ¬ ((b : Int) < 0) := by lia
      have h3 : ¬ ((items.size : Int) < 0) := by lia
      simp only [h2, h3, if_false, show (1 : Int) > 0 by decide, if_true]
      congr 1
      congr 1; lia
    have z := slicePick_upto items items.size (Nat.le_refl _)
    unfold slicePick at z ⊢
    rw [e, z]
    rw [List.take_of_length_le (by simp), List.take_of_length_le (by simp; lia)]
theorem evalPart_some {e : Expr} {env : Env} : evalPart (some e) env = eval e env := rfl
theorem slice_fz {γ : Gh} {s : Shared} {ob : Obj} {l : List V} {its : Array Value} (S : St b γ σ s) (hp : PVs γ.F s.heap l its.toList) (q : Q (.v (.lst l)) σ) : RV b γ σ s Q (.ref (s.heap.objs.size + 1)) { s with heap := (s.heap.push ob).push { cls := .type "list", data := .seq its } } := by
  have P₁ := Post.garbage (ob := ob) S
  have P₂ := Post.allocF (ob := { cls := .type "list", data := .seq its }) P₁.st
  have e : (s.heap.push ob).objs.size = s.heap.objs.size + 1 := Heap.size_push ..
  refine ⟨_, σ, _, q, P₁.trans P₂, .lst (.inr (by show _ = (s.heap.push ob).objs.size; rw [e])) ⟨0, ?_⟩ ((hp.mono (fun _ h => h) (P₁.fkeep S)).mono (fun _ h => .inl h) (P₂.fkeep P₁.st))⟩
  rw [← e]
  exact Heap.get?_push_size _ rfl
theorem slice_tr {k : Nat} {γ : Gh} {s : Shared} {ob : Obj} {l : List V} {its : Array Value} (S : St b γ σ s) (hp : PVs γ.F s.heap l its.toList) (q : ∀ p, Q (.ref k p) ((k, p, .list l) :: σ)) : RV b γ σ s Q (.ref (s.heap.objs.size + 1)) { s with heap := (s.heap.push ob).push { cls := .type "list", data := .seq its } } := by
  have P₁ := Post.garbage (ob := ob) S
  have P₂ := Post.newList (k := k) (vs := its) P₁.st (hp.mono (fun _ h => h) (P₁.fkeep S))
  have e : (s.heap.push ob).objs.size = s.heap.objs.size + 1 := Heap.size_push ..
  refine ⟨_, _, _, q _, P₁.trans P₂, ?_⟩
  rw [← e]
  exact WR.new
abbrev KslTo (Q : W → Store → Prop) (x : W) : W → Store → Prop := fun y σ₂ => ∃ l j, ListW σ₂ x = some l ∧ y = .v (.int ((j : Nat) : Int)) ∧ l.length ≤ 16777216 ∧ Q (.v (.lst (l.take j))) σ₂
abbrev KslT (b : Bas) (n : Nat) (sc : Scope) (hi : Expr) (ρ : Loc) (Q : W → Store → Prop) : W → Store → Prop := fun x σ₁ => EE b n sc hi ρ σ₁ (KslTo Q x)
abbrev KslToT (k : Nat) (Q : W → Store → Prop) (x : W) : W → Store → Prop := fun y σ₂ => ∃ l j, ListW σ₂ x = some l ∧ y = .v (.int ((j : Nat) : Int)) ∧ l.length ≤ 16777216 ∧ ∀ p, Q (.ref k p) ((k, p, .list (l.take j)) :: σ₂)
abbrev KslTT (b : Bas) (n : Nat) (sc : Scope) (k : Nat) (hi : Expr) (ρ : Loc) (Q : W → Store → Prop) : W → Store → Prop := fun x σ₁ => EE b n sc hi ρ σ₁ (KslToT k Q x)
abbrev KslFr (Q : W → Store → Prop) (x : W) : W → Store → Prop := fun y σ₂ => ∃ l j, ListW σ₂ x = some l ∧ y = .v (.int ((j : Nat) : Int)) ∧ j ≤ l.length ∧ l.length ≤ 16777216 ∧ Q (.v (.lst (l.drop j))) σ₂
abbrev KslF (b : Bas) (n : Nat) (sc : Scope) (lo : Expr) (ρ : Loc) (Q : W → Store → Prop) : W → Store → Prop := fun x σ₁ => EE b n sc lo ρ σ₁ (KslFr Q x)
end
end Mine
end
section
open PySem PySem.W PyProof.Rows PySem.Calls
namespace Mine
noncomputable def namesOf : List Expr → Option (List Str)
  | [] => some []
  | e :: r => (nameOf e).bind fun x => (namesOf r).map (x :: ·)
theorem namesOf_eq {a : Expr} {r : List Expr} {xs : List Str} (h : namesOf (a :: r) = some xs) : ∃ x p ys, a = .Name x p ∧ xs = x :: ys ∧ namesOf r = some ys := by
  refine ex1_2 (Option.bind_eq_some_iff.mp (show (nameOf a).bind _ = some xs from h)) fun x q h => ?_
  refine ex1_2 (Option.map_eq_some_iff.mp h) fun ys hy e => ?_
  exact ex1_1 (nameOf_eq q) fun p e' => ⟨x, p, ys, e', e.symm, hy⟩
noncomputable def bindW : List Str → List W → Loc → Loc
  | x :: xs, y :: ys, ρ => bindW xs ys (setL x y ρ)
  | _, _, ρ => ρ
section
variable {b : Bas} {n : Nat} {sc : Scope} {ρ : Loc} {σ : Store}
theorem bindK_setL {x : Str} {y : W} (hx : bindK sc ρ x = true) (z : Str) : bindK sc (setL x y ρ) z = bindK sc ρ z := by
  unfold bindK at hx ⊢
  have hsp : ¬ (("#" : Str) = x) := by simpa using (Bool.and_eq_true_iff.mp hx).1
  rw [setL_lookup, if_neg hsp]
theorem WRs.postF {γ γ' : Gh} {σ' : Store} {s s' : Shared} {env : Env} (S : St b γ σ s) (F : FrR b sc γ σ ρ env s.heap) (P : PostF b sc env γ σ s γ' σ' s') {ys : List W} : ∀ {vs : List Value}, WRs γ σ s.heap ys vs → WRs γ' σ' s'.heap ys vs := by
  induction ys with
  | nil => intro vs h; exact WRs.c0 h trivial
  | cons y ys ih => intro vs h; exact WRs.c h fun v vs r rs => ⟨r.postF S F P, ih rs⟩
theorem bindW_run {A : Around} {env : Env} {γ : Gh} (g : Str → Value → Sem Unit) (hg : ∀ x v (s : Shared) (T : Unit → Shared → Prop), wpAny b.M A (storeName env x v) T NoE s → wpAny b.M A (g x v) T NoE s) {xs : List Str} : ∀ (ys : List W) (vs : List Value) (ρ : Loc) (s : Shared), xs.length = ys.length → (xs.all (bindK sc ρ)) = true → St b γ σ s → FrR b sc γ σ ρ env s.heap → WRs γ σ s.heap ys vs →
    wpAny b.M A (assignInOrder (xs.map g) vs) (fun _ s' => PostF b sc env γ σ s γ σ s' ∧ FrR b sc γ σ (bindW xs ys ρ) env s'.heap) NoE s := by
  induction xs with
  | nil =>
    intro ys vs ρ s hl _ S F r
    obtain rfl := List.length_eq_zero_iff.mp hl.symm
    exact WRs.c0 r (assignInOrder_nil ⟨(Post.refl S).toF, F⟩)
  | cons x xs ih =>
    intro ys vs ρ s hl hk S F r
    cases ys with
    | nil => cases hl
    | cons y ys =>
      refine WRs.c r fun v vs r rs => ?_
      refine ex0_2 (Bool.and_eq_true_iff.mp (List.all_cons ▸ hk)) fun hx hxs => ?_
      refine assignInOrder_cons (hg _ _ _ _ (bind_any S F r hx fun s' P F' => ?_))
      have hk' : (xs.all (bindK sc (setL x y ρ))) = true := by
        rw [List.all_eq_true] at hxs ⊢
        intro z hz
        rw [bindK_setL hx]; exact hxs z hz
      exact wpAny_mono (ih ys vs (setL x y ρ) s' (Nat.succ.inj hl) hk' P.st F' (rs.postF S F P)) (fun _ _ z => ⟨P.trans z.1, z.2⟩) fun _ _ z => z
theorem WRs.reverse {γ : Gh} {h : Heap} {ys : List W} : ∀ {vs : List Value}, WRs γ σ h ys vs → WRs γ σ h ys.reverse vs.reverse := by
  induction ys with
  | nil => intro vs r; exact WRs.c0 r trivial
  | cons y ys ih =>
    intro vs r
    refine WRs.c r fun v vs r rs => ?_
    rw [List.reverse_cons, List.reverse_cons]
    exact (ih rs).append ⟨r, trivial⟩
theorem tupW {es : List Expr} {k : Nat} {pos : Pos} {A : Around} {s : Shared} {env : Env} {γ : Gh} {Q : List W → Store → Prop} {m : Nat} {T : Value → Shared → Prop} (h : EEs b n sc pos es ρ σ Q) (R : Room n A) (S : St b γ σ s) (F : FrR b sc γ σ ρ env s.heap)
    (k' : ∀ ys σ₁ γ₁ a s₁, Q ys σ₁ → ys.length ≤ 1000 ∧ (Post b γ σ s γ₁ σ₁ s₁ → (∀ (T' : List Value → Shared → Prop), m = ys.length → (∀ vs s₂, Post b γ σ s γ₁ σ₁ s₂ → WRs γ₁ σ₁ s₂.heap ys vs → T' vs s₂) → wpAny b.M A (unpackItems (.ref a) m none) T' NoE s₁) → T (.ref a) s₁)) : wpAny b.M A (eval (.Tuple es k pos) env) T NoE s := by
  refine wpAny_Tuple (h.go R S F fun ys σ₁ γ₁ vs s₁ q P₁ r₁ => ?_)
  have z := k' ys σ₁ (γ₁.fz s₁.heap.objs.size) s₁.heap.objs.size { s₁ with heap := s₁.heap.push { cls := .type "tuple", data := .seq vs.toArray } } q
  refine ⟨by rw [r₁.length, sizeLine_eq]; lia, z.2 (P₁.trans (Post.allocF P₁.st)) fun T' hm kk => ?_⟩
  have Pa := Post.allocF (ob := { cls := .type "tuple", data := .seq vs.toArray }) P₁.st
  have ht : (s₁.heap.push { cls := .type "tuple", data := .seq vs.toArray }).IsTuple s₁.heap.objs.size vs.toArray := ⟨_, Heap.get?_push_size _ rfl, rfl, 0, rfl⟩
  have hsz : m = vs.toArray.size := by rw [hm, List.size_toArray, r₁.length]
  subst hsz
  refine with_size (wpAny_unpackItems_tuple R.2.2 ht fun h' he hz => ?_)
  have Px := Post.extBut Pa.st he hz
  exact kk _ _ ((P₁.trans Pa).trans Px) ((r₁.post P₁.st Pa).post Pa.st Px)
theorem ES.parS {es : List Expr} {k : Nat} {epos : Pos} {elts : List Expr} {k' : Nat} {tpos : Pos} {pos : Pos} {names : List Str} {Q : Fl → Loc → Store → Prop}
    (h : EEs b n sc epos es ρ σ fun ys σ₁ => names.length = ys.length ∧ ys.length ≤ 1000 ∧ Q .nx (bindW names.reverse ys.reverse ρ) σ₁)
    (_ : namesOf elts = some names) (hw : swappedStores [.Tuple elts k' tpos] (.Tuple es k epos) (envS sc) = pure (some names)) (hk : (names.all (bindK sc ρ)) = true)
    (hs : ∀ env, swapsWithSole [.Tuple elts k' tpos] (.Tuple es k epos) pos.line env = pure false) :
    ES b n sc (.Assign [.Tuple elts k' tpos] (.Tuple es k epos) pos) ρ σ Q := by
  intro A s env γ R S F
  refine Assign_Tuple_swapped (tupW (m := names.length) h R S F fun ys σ₁ γ₁ a s₁ zy53 => ex0_3 zy53 fun hl hz q => ⟨hz, fun P₁ ku => ?_⟩) (hs env) (swSt hw F.scope)
  refine ku _ hl fun vs s₂ P₂ r₂ => ?_
  have hk' : (names.reverse.all (bindK sc ρ)) = true := by rw [List.all_reverse]; exact hk
  refine wpAny_mono (bindW_run (fun x v => bindName env x v) (fun x v s T h => bindName_ h) ys.reverse vs.reverse ρ s₂ (by simpa using hl) hk' P₂.st (F.post S P₂) r₂.reverse) (fun _ s' zy54 => ex0_2 zy54 fun P' F' => ?_) fun _ _ z => z
  exact ⟨.nx, _, σ₁, γ₁, q, P₂.toF.trans P', F', trivial⟩
theorem namesOf_each {env : Env} {es : List Expr} : ∀ {xs : List Str}, namesOf es = some xs → assignEach es env = es.map (fun e => (false, assign e env)) ∧ es.length = xs.length := by
  induction es with
  | nil => intro xs e; cases e; exact ⟨rfl, rfl⟩
  | cons a r ih =>
    intro xs e
    refine ex3_3 (namesOf_eq e) fun x p ys e1 e2 hy => ?_
    subst e1; subst e2
    refine ex0_2 (ih hy) fun h1 h2 => ?_
    exact ⟨by show (false, assign (.Name x p) env) :: assignEach r env = _; rw [h1]; rfl, congrArg (· + 1) h2⟩
theorem bindN_run {A : Around} {env : Env} {γ : Gh} {es : List Expr} : ∀ (xs : List Str) (ys : List W) (vs : List Value) (ρ : Loc) (s : Shared), namesOf es = some xs → xs.length = ys.length → (xs.all (bindK sc ρ)) = true → St b γ σ s → FrR b sc γ σ ρ env s.heap → WRs γ σ s.heap ys vs →
    wpAny b.M A (assignInOrder (es.map fun e => assign e env) vs) (fun _ s' => PostF b sc env γ σ s γ σ s' ∧ FrR b sc γ σ (bindW xs ys ρ) env s'.heap) NoE s := by
  induction es with
  | nil =>
    intro xs ys vs ρ s e hl _ S F r
    cases e
    obtain rfl := List.length_eq_zero_iff.mp hl.symm
    exact WRs.c0 r (assignInOrder_nil ⟨(Post.refl S).toF, F⟩)
  | cons a es ih =>
    intro xs ys vs ρ s e hl hk S F r
    refine ex3_3 (namesOf_eq e) fun x p xs e1 e2 hx => ?_
    subst e1; subst e2
    cases ys with
    | nil => cases hl
    | cons y ys =>
      refine WRs.c r fun v vs r rs => ?_
      refine ex0_2 (Bool.and_eq_true_iff.mp (List.all_cons ▸ hk)) fun hx' hxs => ?_
      refine assignInOrder_cons (assign_Name (bind_any S F r hx' fun s' P F' => ?_))
      have hk' : (xs.all (bindK sc (setL x y ρ))) = true := by
        rw [List.all_eq_true] at hxs ⊢
        intro z hz
        rw [bindK_setL hx']; exact hxs z hz
      exact wpAny_mono (ih xs ys vs (setL x y ρ) s' hx (Nat.succ.inj hl) hk' P.st F' (rs.postF S F P)) (fun _ _ z => ⟨P.trans z.1, z.2⟩) fun _ _ z => z
abbrev KparN (Q : Fl → Loc → Store → Prop) (names : List Str) (ρ : Loc) : List W → Store → Prop := fun ys σ => names.length = ys.length ∧ ys.length ≤ 1000 ∧ Q .nx (bindW names ys ρ) σ
theorem KparN.mk {Q : Fl → Loc → Store → Prop} {names : List Str} {ys : List W} (h1 : names.length = ys.length) (h2 : ys.length ≤ 1000) (q : Q .nx (bindW names ys ρ) σ) : KparN Q names ρ ys σ := ⟨h1, h2, q⟩
theorem ES.parN {es : List Expr} {k : Nat} {epos : Pos} {elts : List Expr} {k' : Nat} {tpos : Pos} {pos : Pos} {names : List Str} {Q : Fl → Loc → Store → Prop}
    (h : EEs b n sc epos es ρ σ (KparN Q names ρ))
    (hn : namesOf elts = some names) (hw : swappedStores [.Tuple elts k' tpos] (.Tuple es k epos) (envS sc) = pure none) (hk : (names.all (bindK sc ρ)) = true)
    (hs : ∀ env, swapsWithSole [.Tuple elts k' tpos] (.Tuple es k epos) pos.line env = pure false) :
    ES b n sc (.Assign [.Tuple elts k' tpos] (.Tuple es k epos) pos) ρ σ Q := by
  intro A s env γ R S F
  refine ex0_2 (namesOf_each (env := env) hn) fun h1 h1' => ?_
  refine ex0_3 (map_starred h1) fun h2 h3 h4 => ?_
  refine wpAny_Assign_stores (tupW (m := names.length) h R S F fun ys σ₁ γ₁ a s₁ zy55 => ex0_3 zy55 fun hl hz q => ⟨hz, fun P₁ ku => ?_⟩) (hs env) (swSt hw F.scope)
  show wpAny b.M A (assign (.Tuple elts k' tpos) env (.ref a)) _ NoE s₁
  rw [arm_assign_Tuple]
  refine wpAny_bind (wpAny_standAt ?_)
  unfold unpack
  rw [h2, h3]
  refine wpAny_bind (wpAny_holding ?_)
  rw [show elts.length = names.length from h1']
  refine ku _ hl fun vs s₂ P₂ r₂ => ?_
  rw [h4]
  refine wpAny_mono (bindN_run names ys vs ρ s₂ hn hl hk P₂.st (F.post S P₂) r₂) (fun _ s' zy56 => ex0_2 zy56 fun P' F' => ?_) fun _ _ z => z
  exact ⟨.nx, _, σ₁, γ₁, q, P₂.toF.trans P', F', trivial⟩
theorem CB.nil {tg : Expr} {ifs : List Expr} {elt : Expr} {src : Store → Prop} {Q : List V → Store → Prop} {acc : List V} (h1 : src σ) (q : Q acc σ) (h2 : acc.length ≤ 16777216 := by decide) : CB b n sc tg ifs elt ρ src Q [] acc σ := ⟨h1, h2, q⟩
abbrev Kcbe (b : Bas) (n : Nat) (sc : Scope) (tg : Expr) (ifs : List Expr) (elt : Expr) (ρ : Loc) (src : Store → Prop) (Q : List V → Store → Prop) (r acc : List V) : W → Store → Prop := fun y σ => ∃ z, y = .v z ∧ CB b n sc tg ifs elt ρ src Q r (acc ++ [z]) σ
theorem Kcbe.mk {tg : Expr} {ifs : List Expr} {elt : Expr} {src : Store → Prop} {Q : List V → Store → Prop} {r acc : List V} {z : V} (q : CB b n sc tg ifs elt ρ src Q r (acc ++ [z]) σ) : Kcbe b n sc tg ifs elt ρ src Q r acc (.v z) σ := ⟨z, rfl, q⟩
abbrev Kcbt (b : Bas) (n : Nat) (sc : Scope) (tg c elt : Expr) (ρ ρ₁ : Loc) (src : Store → Prop) (Q : List V → Store → Prop) (r acc : List V) : Bool → Store → Prop := fun ok σ₁ => cond ok (EE b n sc elt ρ₁ σ₁ (Kcbe b n sc tg [c] elt ρ src Q r acc)) (CB b n sc tg [c] elt ρ src Q r acc σ₁)
theorem CB.plain {tg elt : Expr} {src : Store → Prop} {Q : List V → Store → Prop} {x : V} {r acc : List V} {ρ₁ : Loc} (h1 : src σ) (hb : bindT tg x ρ = some ρ₁) (h : EE b n sc elt ρ₁ σ (Kcbe b n sc tg [] elt ρ src Q r acc)) (h2 : acc.length ≤ 16777216 := by decide) : CB b n sc tg [] elt ρ src Q (x :: r) acc σ :=
  ⟨h1, h2, ρ₁, hb, h⟩
theorem CB.test {tg elt c : Expr} {src : Store → Prop} {Q : List V → Store → Prop} {x : V} {r acc : List V} {ρ₁ : Loc} (h1 : src σ) (hb : bindT tg x ρ = some ρ₁) (h : ET b n sc c ρ₁ σ (Kcbt b n sc tg c elt ρ ρ₁ src Q r acc)) (h2 : acc.length ≤ 16777216 := by decide) : CB b n sc tg [c] elt ρ src Q (x :: r) acc σ :=
  ⟨h1, h2, ρ₁, hb, h⟩
theorem ASL.nil {Q : Loc → Store → Prop} (q : Q ρ σ) : ASL b n sc Q [] [] ρ σ := q
abbrev Kasl (b : Bas) (n : Nat) (sc : Scope) (ts : List Expr) (xs : List V) (Q : Loc → Store → Prop) : Loc → Store → Prop := fun ρ σ => ASL b n sc Q ts xs ρ σ
theorem ASL.cons {t : Expr} {ts : List Expr} {x : V} {xs : List V} {Q : Loc → Store → Prop} (h : AS b n sc t (.v x) ρ σ (Kasl b n sc ts xs Q)) : ASL b n sc Q (t :: ts) (x :: xs) ρ σ := h
end
end Mine
end
section
open PySem PySem.W PyProof.Rows PySem.Calls
namespace Mine
section
variable {b : Bas} {n : Nat} {sc : Scope} {ρ : Loc} {σ : Store}
noncomputable def WB (b : Bas) (n : Nat) (sc : Scope) (t : Expr) (body : List Stmt) (Q : Fl → Loc → Store → Prop) : Nat → Loc → Store → Prop
  | 0, _, _ => False
  | k + 1, ρ, σ => ET b n sc t ρ σ fun c σ₁ => cond c (ESs b n sc body ρ σ₁ fun fl ρ₂ σ₂ => match fl with
      | .nx => WB b n sc t body Q k ρ₂ σ₂
      | .ct => WB b n sc t body Q k ρ₂ σ₂
      | .br => Q .nx ρ₂ σ₂
      | .rt y => Q (.rt y) ρ₂ σ₂) (Q .nx ρ σ₁)
abbrev Kloop (N : Loc → Store → Prop) (Q : Fl → Loc → Store → Prop) : Fl → Loc → Store → Prop := fun fl ρ₂ σ₂ => match fl with | .nx => N ρ₂ σ₂ | .ct => N ρ₂ σ₂ | .br => Q .nx ρ₂ σ₂ | .rt y => Q (.rt y) ρ₂ σ₂
abbrev Kwb (b : Bas) (n : Nat) (sc : Scope) (t : Expr) (body : List Stmt) (k : Nat) (ρ : Loc) (Q : Fl → Loc → Store → Prop) : Bool → Store → Prop := fun c σ₁ => cond c (ESs b n sc body ρ σ₁ (Kloop (WB b n sc t body Q k) Q)) (Q .nx ρ σ₁)
abbrev Kbody (b : Bas) (n : Nat) (sc : Scope) (body : List Stmt) (Q : Fl → Loc → Store → Prop) : Loc → Store → Prop := fun ρ₁ σ₁ => ESs b n sc body ρ₁ σ₁ Q
theorem WB.turn {t : Expr} {body : List Stmt} {Q : Fl → Loc → Store → Prop} {k : Nat} (h : ET b n sc t ρ σ (Kwb b n sc t body k ρ Q)) : WB b n sc t body Q (k + 1) ρ σ := h
theorem ES.whileU (k : Nat) {t : Expr} {body : List Stmt} {pos : Pos} {Q : Fl → Loc → Store → Prop} (h : WB b n sc t body Q k ρ σ) : ES b n sc (.While t body [] pos) ρ σ Q := by
  refine ES.while (fun m ρ σ => WB b n sc t body Q m ρ σ) k h fun m ρ σ hJ A s env γ R S F => ?_
  cases m with
  | zero => exact hJ.elim
  | succ m =>
    refine wpAny_mono (hJ A s env γ R S F) (fun c s' zy57 => zy57.e fun c' σ' γ' q P e => ⟨c', σ', γ', ?_, P, e⟩) fun _ _ z => z
    cases c' with
    | false => exact q
    | true =>
      intro A s env γ R S F
      refine wpAny_mono (q A s env γ R S F) (fun f s' zy58 => zy58.e fun fl ρ' σ' γ' q P F' e => ⟨fl, ρ', σ', γ', ?_, P, F', e⟩) fun _ _ z => z
      cases fl with
      | nx => exact ⟨m, Nat.lt_succ_self m, q⟩
      | ct => exact ⟨m, Nat.lt_succ_self m, q⟩
      | br => exact q
      | rt y => exact q
theorem FB.nil {tg : Expr} {body : List Stmt} {src : Store → Prop} {Q : Fl → Loc → Store → Prop} (h : src σ) (q : Q .nx ρ σ) : FB b n sc tg body src Q [] ρ σ := ⟨h, q⟩
theorem FB.cons {tg : Expr} {body : List Stmt} {src : Store → Prop} {Q : Fl → Loc → Store → Prop} {x : V} {r : List V} (h : src σ) (q : AS b n sc tg (.v x) ρ σ (Kbody b n sc body (Kloop (FB b n sc tg body src Q r) Q))) : FB b n sc tg body src Q (x :: r) ρ σ := ⟨h, q⟩
noncomputable def popL : List V → Option (List V × V)
  | [] => none
  | [x] => some ([], x)
  | x :: r => (popL r).map fun p => (x :: p.1, p.2)
theorem popL_spec : ∀ {L l : List V} {x : V}, popL L = some (l, x) → L = l ++ [x]
  | [], _, _, e => by cases e
  | [y], _, _, e => by cases e; rfl
  | y :: z :: r, l, x, e => by
    have e : (popL (z :: r)).map (fun p => (y :: p.1, p.2)) = some (l, x) := e
    refine ex1_2 (Option.map_eq_some_iff.mp e) fun p h e => ?_
    cases e
    rw [popL_spec h]; rfl
theorem AP.popC {k p : Nat} {L l : List V} {x : V} {Q : W → Store → Prop} (hk : σ.lookup k = some (p, .list L)) (hx : popL L = some (l, x)) (q : Q (.v x) (put k (.list l) σ)) (hz : L.length ≤ 16777216) : AP b n (.v (.raw (.builtin "list.pop"))) [.ref k p] σ Q := by
  have e := popL_spec hx
  subst e
  exact AP.pop hk q (by rw [List.length_append, List.length_singleton] at hz; lia)
abbrev KfnS (Q : W → Store → Prop) : W → Store → Prop := fun y σ' => ∃ σ'', Sub σ'' σ' ∧ Q y σ''
theorem FN.sub {f : Value} {ys : List W} {Q : W → Store → Prop} (h : FN b n f ys σ (KfnS Q)) : FN b n f ys σ Q := by
  intro A s γ vs R S rs
  refine codeAny_mono (h A s γ vs R S rs) fun r s' z => ?_
  rcases r with e | (v | _ | _ | _) <;> first | exact z.elim | skip
  refine (z).e fun y σ' γ' zz1 P r => ?_
  refine ex1_2 (zz1) fun σ'' hs q => ?_
  exact ⟨y, σ'', γ', q, P.trans (Post.sub P.st hs), r⟩
theorem ESs.sub {st : List Stmt} {σ' : Store} {Q : Fl → Loc → Store → Prop} (hs : Sub σ' σ) (h : ESs b n sc st ρ σ' Q) : ESs b n sc st ρ σ Q := by
  intro A s env γ R S F
  have P := Post.sub S hs
  exact wpAny_mono (h A s env γ R P.st (F.post S P)) (fun _ _ z => z.trans P.toF) fun _ _ z => z
theorem Sub.refl {σ : Store} : Sub σ σ := fun _ _ h => h
theorem Sub.trans {σ₁ σ₂ σ₃ : Store} (h : Sub σ₁ σ₂) (h' : Sub σ₂ σ₃) : Sub σ₁ σ₃ := fun k e q => h' k e (h k e q)
theorem Sub.skip {σ σ' : Store} {k : Nat} {e : Nat × O} (h : Sub σ σ') (hk : σ.lookup k = none) : Sub σ ((k, e) :: σ') := fun j x q => by
  have ne : j ≠ k := fun z => by subst z; rw [hk] at q; cases q
  rw [lookup_cons_ne ne]; exact h j x q
theorem Sub.cons {σ σ' : Store} {k : Nat} {e : Nat × O} (h : Sub σ σ') : Sub ((k, e) :: σ) ((k, e) :: σ') := fun j x q => by
  by_cases z : j = k
  · subst z; rw [lookup_cons_eq] at q ⊢; exact q
  · rw [lookup_cons_ne z] at q ⊢; exact h j x q
def Temps (σ : Store) : Prop := ∀ k, 60 ≤ k → σ.lookup k = none
theorem Temps.cons {σ : Store} {k : Nat} {e : Nat × O} (h : Temps σ) (hk : k < 60) : Temps ((k, e) :: σ) := fun j hj => by
  rw [lookup_cons_ne (by lia)]; exact h j hj
theorem GM.append {k p : Nat} {l : List V} {Q : W → List W → Store → Prop} (hk : σ.lookup k = some (p, .list l)) (q : Q (.v (.raw (.builtin "list.append"))) [.ref k p] σ) : GM b n (.ref k p) "append" σ Q :=
  GM.list (ListW.of hk) PySem.F.slot_list_append PySem.F.type_list_append q ⟨_, _, rfl⟩
theorem GM.pop {k p : Nat} {l : List V} {Q : W → List W → Store → Prop} (hk : σ.lookup k = some (p, .list l)) (q : Q (.v (.raw (.builtin "list.pop"))) [.ref k p] σ) : GM b n (.ref k p) "pop" σ Q :=
  GM.list (ListW.of hk) PySem.F.slot_list_pop PySem.F.type_list_pop q ⟨_, _, rfl⟩
theorem GM.extend {k p : Nat} {l : List V} {Q : W → List W → Store → Prop} (hk : σ.lookup k = some (p, .list l)) (q : Q (.v (.raw (.builtin "list.extend"))) [.ref k p] σ) : GM b n (.ref k p) "extend" σ Q :=
  GM.list (ListW.of hk) PySem.F.slot_list_extend PySem.F.type_list_extend q ⟨_, _, rfl⟩
theorem GM.reverse {k p : Nat} {l : List V} {Q : W → List W → Store → Prop} (hk : σ.lookup k = some (p, .list l)) (q : Q (.v (.raw (.builtin "list.reverse"))) [.ref k p] σ) : GM b n (.ref k p) "reverse" σ Q :=
  GM.list (ListW.of hk) PySem.F.slot_list_reverse PySem.F.type_list_reverse q ⟨_, _, rfl⟩
end
end Mine
end
section
open PySem PySem.W PyProof.Rows PySem.Calls
namespace Mine
section
variable {b : Bas} {n : Nat} {sc : Scope} {ρ : Loc} {σ : Store}
theorem FB.inv {tg : Expr} {body : List Stmt} {src : Store → Prop} {Q : Fl → Loc → Store → Prop} (I : Nat → Loc → Store → Prop) (xs : List V)
    (h : ∀ i x ρ σ, xs[i]? = some x → I i ρ σ → src σ ∧ AS b n sc tg (.v x) ρ σ (Kbody b n sc body (Kloop (I (i + 1)) Q)))
    (hend : ∀ ρ σ, I xs.length ρ σ → src σ ∧ Q .nx ρ σ) (h0 : I 0 ρ σ) : FB b n sc tg body src Q xs ρ σ := by
  have key : ∀ (r : List V) (i : Nat) (ρ : Loc) (σ : Store), xs.drop i = r → i ≤ xs.length → I i ρ σ → FB b n sc tg body src Q r ρ σ := by
    intro r
    induction r with
    | nil =>
      intro i ρ σ hd hi hI
      have : i = xs.length := by
        have := congrArg List.length hd
        rw [List.length_drop] at this
        simp at this
        lia
      subst this
      exact hend ρ σ hI
    | cons x r ih =>
      intro i ρ σ hd hi hI
      have hx : xs[i]? = some x := by
        have := congrArg (·[0]?) hd
        simpa using this
      have hr : xs.drop (i + 1) = r := by
        have := congrArg List.tail hd
        simpa using this
      have hi' : i + 1 ≤ xs.length := by
        have := (List.getElem?_eq_some_iff.mp hx).1
        lia
      refine ex0_2 (h i x ρ σ hx hI) fun h1 h2 => ?_
      refine ⟨h1, fun A s env γ v R S F r' => wpAny_mono (h2 A s env γ v R S F r') (fun _ s' zy59 => zy59.e fun fl ρ' σ' γ' zy60 P F' e' => ex0_2 zy60 fun e q => ⟨fl, ρ', σ', γ', ⟨e, ?_⟩, P, F', e'⟩) fun _ _ z => z⟩
      intro A s env γ R S F
      refine wpAny_mono (q A s env γ R S F) (fun f s' zy61 => zy61.e fun fl ρ' σ' γ' q P F' e => ⟨fl, ρ', σ', γ', ?_, P, F', e⟩) fun _ _ z => z
      cases fl with
      | nx => exact ih (i + 1) ρ' σ' hr hi' q
      | ct => exact ih (i + 1) ρ' σ' hr hi' q
      | br => exact q
      | rt y => exact q
  exact key xs 0 ρ σ rfl (Nat.zero_le _) h0
theorem CB.map {tg elt : Expr} {src : Store → Prop} {Q : List V → Store → Prop} (f : V → V) (hs : src σ) : ∀ (xs acc : List V), acc.length + xs.length ≤ 16777216 →
    (∀ x ∈ xs, ∃ ρ₁, bindT tg x ρ = some ρ₁ ∧ EE b n sc elt ρ₁ σ fun y σ₂ => y = .v (f x) ∧ σ₂ = σ) → Q (acc ++ xs.map f) σ → CB b n sc tg [] elt ρ src Q xs acc σ
  | [], acc, hl, _, q => ⟨hs, by simpa using hl, by simpa using q⟩
  | x :: r, acc, hl, h, q => by
    refine ex1_2 (h x List.mem_cons_self) fun ρ₁ hb he => ?_
    have hl' : (acc ++ [f x]).length + r.length ≤ 16777216 := by
      rw [List.length_append, List.length_singleton]
      rw [List.length_cons] at hl
      lia
    refine ⟨hs, by rw [List.length_cons] at hl; lia, ρ₁, hb, fun A s env γ R S F => wpAny_mono (he A s env γ R S F) (fun v s' zy62 => zy62.e fun y σ' γ' zy63 P r' => ex0_2 zy63 fun e1 e2 => ⟨y, σ', γ', ⟨f x, e1, ?_⟩, P, r'⟩) fun _ _ z => z⟩
    rw [e2]
    exact CB.map f hs r (acc ++ [f x]) hl' (fun y hy => h y (List.mem_cons_of_mem _ hy)) (by rw [List.append_assoc]; exact q)
theorem CB.filter {tg elt c : Expr} {src : Store → Prop} {Q : List V → Store → Prop} (p : V → Bool) (f : V → V) (hs : src σ) : ∀ (xs acc : List V), acc.length + xs.length ≤ 16777216 →
    (∀ x ∈ xs, ∃ ρ₁, bindT tg x ρ = some ρ₁ ∧ ET b n sc c ρ₁ σ fun t σ₁ => t = p x ∧ σ₁ = σ ∧ (p x = true → EE b n sc elt ρ₁ σ fun y σ₂ => y = .v (f x) ∧ σ₂ = σ)) → Q (acc ++ (xs.filter p).map f) σ → CB b n sc tg [c] elt ρ src Q xs acc σ
  | [], acc, hl, _, q => ⟨hs, by simpa using hl, by simpa using q⟩
  | x :: r, acc, hl, h, q => by
    refine ex1_2 (h x List.mem_cons_self) fun ρ₁ hb he => ?_
    rw [List.length_cons] at hl
    refine ⟨hs, by lia, ρ₁, hb, fun A s env γ R S F => wpAny_mono (he A s env γ R S F) (fun v s' zy64 => zy64.e fun t σ' γ' zy65 P r' => ex0_3 zy65 fun e1 e2 e3 => ⟨t, σ', γ', ?_, P, r'⟩) fun _ _ z => z⟩
    rw [e1, e2]
    cases hp : p x with
    | false =>
      rw [List.filter_cons, if_neg (by rw [hp]; exact Bool.false_ne_true)] at q
      exact CB.filter p f hs r acc (by lia) (fun y hy => h y (List.mem_cons_of_mem _ hy)) q
    | true =>
      rw [List.filter_cons, if_pos hp] at q
      have hl' : (acc ++ [f x]).length + r.length ≤ 16777216 := by
        rw [List.length_append, List.length_singleton]; lia
      intro A s env γ R S F
      refine wpAny_mono (e3 hp A s env γ R S F) (fun v s' zy66 => zy66.e fun y σ' γ' zy67 P r' => ex0_2 zy67 fun e1 e2 => ⟨y, σ', γ', ⟨f x, e1, ?_⟩, P, r'⟩) fun _ _ z => z
      rw [e2]
      exact CB.filter p f hs r (acc ++ [f x]) hl' (fun y hy => h y (List.mem_cons_of_mem _ hy)) (by rw [List.append_assoc]; exact q)
end
end Mine
end
section
open PySem PySem.W PyProof.Rows PySem.Calls
namespace Mine
structure FzAt (b : Bas) (l : List (Int × V)) (γ : Gh) (h : Heap) (a : Addr) (kvs : List (Int × Value)) (ep : Nat) : Prop where
  F : γ.F a
  no : (a == sysModules) = false
  at' : h.DictAt (intKind b.prog b.w) a kvs ep
  kv : KVs γ.F h l kvs
def FzD (b : Bas) (l : List (Int × V)) : Gh → Heap → Value → Prop := fun γ h v => ∃ a kvs ep, v = .ref a ∧ FzAt b l γ h a kvs ep
noncomputable abbrev fzD (b : Bas) (l : List (Int × V)) : W := .sem (FzD b l)
def FzU (b : Bas) (l : List (Int × V)) : Gh → Heap → Value → Prop := fun γ h v => ∃ u a kvs ep, v = .ref u ∧ γ.F u ∧ h.IsValuesView u a ∧ FzAt b l γ h a kvs ep
noncomputable abbrev fzU (b : Bas) (l : List (Int × V)) : W := .sem (FzU b l)
section
variable {b : Bas} {n : Nat} {sc : Scope} {ρ : Loc} {σ : Store} {l : List (Int × V)}
theorem FzAt.keep {γ γ' : Gh} {h h' : Heap} {a : Addr} {kvs : List (Int × Value)} {ep : Nat} (x : FzAt b l γ h a kvs ep) (hF : ∀ a, γ.F a → γ'.F a) (hk : FKeep γ.F h h') : FzAt b l γ' h' a kvs ep :=
  ⟨hF _ x.F, x.no, x.at'.at' fun o e => hk _ _ x.F e, x.kv.mono hF hk⟩
theorem WR.fzD {γ : Gh} {h : Heap} {a : Addr} {kvs : List (Int × Value)} {ep : Nat} (x : FzAt b l γ h a kvs ep) : WR γ σ h (fzD b l) (.ref a) :=
  ⟨⟨a, rfl⟩, ⟨a, kvs, ep, rfl, x⟩, fun _ _ hF _ hk => ⟨a, kvs, ep, rfl, x.keep hF hk⟩⟩
theorem GI.fz {i : Int} {x : V} {Q : W → Store → Prop} (hx : dget i l = some x) (q : Q (.v x) σ) : GI b n (fzD b l) (.v (.int i)) σ Q := by
  intro A s γ o iv R S r r'
  refine ex0_3 (r) fun _ zz1 _ => ?_
  refine ex3_2 (zz1) fun a kvs ep zz2 z => ?_
  subst zz2
  have hd := z.at'.dictOf
  rcases z.kv.get (k := i) with ⟨e, _⟩ | ⟨x', v, e, hv, hpv⟩
  · rw [e] at hx; cases hx
  · rw [e] at hx; cases hx
    exact ⟨⟨"dict", _, hd.typeIs, slot_dict_getitem.lookup⟩, wpAny_getItem_of (key_int (b := b) r') hd.mapOf hv (RV.now S q _ hpv)⟩
theorem Op2.inFz {i : Int} {Q : W → Store → Prop} (q : Q (.v (.bool (dget i l).isSome)) σ) : Op2 b n (compareOp .In) (.v (.int i)) (fzD b l) σ Q := by
  intro A s γ iv o R S r' r
  refine ex0_3 (r) fun _ zz3 _ => ?_
  refine ex3_2 (zz3) fun a kvs ep zz4 z => ?_
  subst zz4
  refine wpAny_in_of (key_int (b := b) r') z.no z.at'.dictOf.mapOf ?_
  have e : (valueAt kvs i).isSome = (dget i l).isSome := by rcases z.kv.get (k := i) with ⟨e, e'⟩ | ⟨x', v, e, e', _⟩ <;> rw [e, e'] <;> rfl
  rw [e]
  exact RV.now S q _ (.bool _)
theorem Op2.notInFz {i : Int} {Q : W → Store → Prop} (q : Q (.v (.bool (!(dget i l).isSome))) σ) : Op2 b n (compareOp .NotIn) (.v (.int i)) (fzD b l) σ Q := by
  intro A s γ iv o R S r' r
  refine ex0_3 (r) fun _ zz5 _ => ?_
  refine ex3_2 (zz5) fun a kvs ep zz6 z => ?_
  subst zz6
  refine wpAny_notIn_of (key_int (b := b) r') z.no z.at'.dictOf.mapOf ?_
  have e : (valueAt kvs i).isSome = (dget i l).isSome := by rcases z.kv.get (k := i) with ⟨e, e'⟩ | ⟨x', v, e, e', _⟩ <;> rw [e, e'] <;> rfl
  rw [e]
  exact RV.now S q _ (.bool _)
theorem KVs.at {F : Addr → Prop} {h : Heap} {l : List (Int × V)} {kvs : List (Int × Value)} (r : KVs F h l kvs) {i : Nat} {k : Int} {v : Value} (hx : kvs[i]? = some (k, v)) : ∃ x, l[i]? = some (k, x) ∧ PV F h x v := by
  suffices key : ∀ i : Nat, kvs[i]? = some (k, v) → ∃ x, l[i]? = some (k, x) ∧ PV F h x v from key i hx
  refine KVs.ind (P := fun l kvs => ∀ i : Nat, kvs[i]? = some (k, v) → ∃ x, l[i]? = some (k, x) ∧ PV F h x v) (fun i e => by simp at e) (fun k' x' v' l kvs p _ ih => ?_) r
  intro i e
  cases i with
  | zero => simp at e; obtain ⟨rfl, rfl⟩ := e; exact ⟨x', rfl, p⟩
  | succ i => simp at e; simpa using ih i e
theorem IT.fz {x : Str} {p : Pos} {Q : List V → (Store → Prop) → Store → Prop} (q : Q (l.map fun e => .int e.1) (fun _ => True) σ) : IT b n (.Name x p) (fzD b l) σ Q := by
  intro A s γ v R S r
  refine ex0_3 (r) fun _ zz7 _ => ?_
  refine ex3_2 (zz7) fun d kvs ep zz8 z => ?_
  subst zz8
  refine wpAny_pyIter_dict z.no z.at' ?_
  have pg := Post.garbage (ob := { cls := .type "dict_keyiterator", data := .fields #[.ref d, .int 0 0, .int kvs.length 0, .int ep 0] }) S
  have hne : d ≠ s.heap.objs.size := Nat.ne_of_lt (S.lt _ z.F)
  have len : kvs.length = l.length := z.kv.length
  refine ⟨_, _, σ, γ, fun a => a = s.heap.objs.size, fun i γ _ h => h.IsKeyIter s.heap.objs.size d i kvs.length ep ∧ FzAt b l γ h d kvs ep, q, ?_, pg, ⟨⟨_, Heap.get?_push_size _ rfl, rfl, rfl⟩, z.keep (fun _ h => h) (pg.fkeep S)⟩, ?_⟩
  · have W := Walks.dictKeys (knd := intKind b.prog b.w) (prog := b.prog) (w := b.w) R.2.2 s.heap.objs.size d hne kvs ep
    refine ⟨fun i γ σ s γ' σ' s' _ _ _ _ hF _ hk ho hJ => ⟨hJ.1.at fun o e => ho _ _ rfl e, hJ.2.keep hF hk⟩, fun i x γ σ s' T hxi S' ho _ hJ k => ?_, fun γ σ s' T S' ho _ hJ k => ?_, fun i γ σ s' T hJ hT => W.self i s' T _ ⟨hJ.1, hJ.2.at'⟩ hT⟩
    · have hl : i < kvs.length := by
        have := (List.getElem?_eq_some_iff.mp hxi).1
        rw [List.length_map] at this; lia
      refine with_size (W.item i s' _ _ hl ⟨hJ.1, hJ.2.at'⟩ fun v' h' tk e hJ' hk hz => ?_)
      refine ex2_2 (e) fun k' x' e1 e2 => ?_
      refine ex1_2 (hJ.2.kv.at e1) fun y e3 e4 => ?_
      refine ex1_1 (Value.isInt_shape e2) fun t zz9 => ?_
      subst zz9
      rw [List.getElem?_map, e3] at hxi
      cases hxi
      have P := PostO.keepO (own := fun a => a = s.heap.objs.size) tk S' (fun x o no e => hk x o (by simpa using no) e) hz fun a ha => ⟨(ho a ha).1, (ho a ha).2.1⟩
      exact let_name (k _ _ γ P (.int _ _) ⟨hJ'.1, hJ.2.keep (fun _ h => h) fun a o fa e => hk a o (fun q => (ho _ rfl).1 ((by simpa using q : a = s.heap.objs.size) ▸ fa)) e⟩)
    · rw [List.length_map, ← len] at hJ
      refine with_size (W.done s' _ _ ⟨hJ.1, hJ.2.at'⟩ fun h' tk hk hz => ?_)
      exact k _ (PostO.keepO tk S' (fun x o no e => hk x o (by simpa using no) e) hz fun a ha => ⟨(ho a ha).1, (ho a ha).2.1⟩)
  · rintro a rfl
    have fr := S.fresh (Nat.le_refl _)
    exact ⟨Nat.le_refl _, by rw [Heap.size_push]; exact Nat.lt_succ_self _, fr.1, fr.2⟩
theorem IT.fzU {x : Str} {p : Pos} {Q : List V → (Store → Prop) → Store → Prop} (q : Q (l.map (·.2)) (fun _ => True) σ) : IT b n (.Name x p) (fzU b l) σ Q := by
  intro A s γ v R S r
  refine ex0_3 (r) fun _ zz10 _ => ?_
  refine ex4_4 (zz10) fun u d kvs ep zz11 fu hv z => ?_
  subst zz11
  refine wpAny_pyIter_values hv z.at' ?_
  have pg := Post.garbage (ob := { cls := .type "dict_valueiterator", data := .fields #[.ref d, .int 0 0, .int kvs.length 0, .int ep 0] }) S
  have hne : d ≠ s.heap.objs.size := Nat.ne_of_lt (S.lt _ z.F)
  have len : kvs.length = l.length := z.kv.length
  refine ⟨_, _, σ, γ, fun a => a = s.heap.objs.size, fun i γ _ h => h.IsValIter s.heap.objs.size d i kvs.length ep ∧ FzAt b l γ h d kvs ep, q, ?_, pg, ⟨⟨_, Heap.get?_push_size _ rfl, rfl, rfl⟩, z.keep (fun _ h => h) (pg.fkeep S)⟩, ?_⟩
  · have W := Walks.dictValues (knd := intKind b.prog b.w) (prog := b.prog) (w := b.w) R.2.2 s.heap.objs.size d hne kvs ep
    refine ⟨fun i γ σ s γ' σ' s' _ _ _ _ hF _ hk ho hJ => ⟨hJ.1.at fun o e => ho _ _ rfl e, hJ.2.keep hF hk⟩, fun i x γ σ s' T hxi S' ho _ hJ k => ?_, fun γ σ s' T S' ho _ hJ k => ?_, fun i γ σ s' T hJ hT => W.self i s' T _ ⟨hJ.1, hJ.2.at'⟩ hT⟩
    · have hl : i < kvs.length := by
        have := (List.getElem?_eq_some_iff.mp hxi).1
        rw [List.length_map] at this; lia
      refine with_size (W.item i s' _ _ hl ⟨hJ.1, hJ.2.at'⟩ fun v' h' tk e hJ' hk hz => ?_)
      refine ex1_1 (e) fun k' e1 => ?_
      refine ex1_2 (hJ.2.kv.at e1) fun y e3 e4 => ?_
      rw [List.getElem?_map, e3] at hxi
      cases hxi
      have fk : FKeep γ.F s'.heap h' := fun a o fa e => hk a o (fun q => (ho _ rfl).1 ((by simpa using q : a = s.heap.objs.size) ▸ fa)) e
      have P := PostO.keepO (own := fun a => a = s.heap.objs.size) tk S' (fun x o no e => hk x o (by simpa using no) e) hz fun a ha => ⟨(ho a ha).1, (ho a ha).2.1⟩
      exact let_name (k _ _ γ P (e4.mono (fun _ h => h) fk) ⟨hJ'.1, hJ.2.keep (fun _ h => h) fk⟩)
    · rw [List.length_map, ← len] at hJ
      refine with_size (W.done s' _ _ ⟨hJ.1, hJ.2.at'⟩ fun h' tk hk hz => ?_)
      exact k _ (PostO.keepO tk S' (fun x o no e => hk x o (by simpa using no) e) hz fun a ha => ⟨(ho a ha).1, (ho a ha).2.1⟩)
  · rintro a rfl
    have fr := S.fresh (Nat.le_refl _)
    exact ⟨Nat.le_refl _, by rw [Heap.size_push]; exact Nat.lt_succ_self _, fr.1, fr.2⟩
theorem GM.fzValues {Q : W → List W → Store → Prop} (q : Q (.v (.raw (.builtin "dict.values"))) [fzD b l] σ) : GM b n (fzD b l) "values" σ Q := by
  intro A s γ v pl R S r
  have r₀ := r
  refine ex0_3 (r) fun _ zz12 _ => ?_
  refine ex3_2 (zz12) fun a kvs ep zz13 z => ?_
  subst zz13
  refine ex2_3 (id z.at') fun o' es ho' hx _ => ?_
  refine getMethod_builtin ⟨_, ho', hx.1⟩ PySem.F.plainAttrs_dict PySem.F.slot_dict_values PySem.F.type_dict_values (fun a e => by cases e; exact ⟨_, ho', hx.2.1⟩) ?_
  exact ⟨_, _, σ, γ, q, Post.refl S, .raw _, r₀, trivial⟩
theorem AP.fzValues {Q : W → Store → Prop} (q : Q (fzU b l) σ) : AP b n (.v (.raw (.builtin "dict.values"))) [fzD b l] σ Q := by
  intro A s γ fv vs R S r rs
  refine WR.c_raw r ?_
  · refine WRs.c rs fun u vs r rs => WRs.c0 rs ?_
    refine ex0_3 (r) fun _ zz15 _ => ?_
    refine ex3_2 (zz15) fun a kvs ep zz16 z => ?_
    subst zz16
    have hd := z.at'.dictOf
    refine ⟨keep_builtin, call_meetsIn PySem.F.slot_dict_values hd.typeIs PySem.F.entry_dict_values (PySem.F.args_dict_values_1 _) (meets_dict_values (intKind b.prog b.w) a z.no) ⟨⟨kvs, hd⟩, ?_⟩⟩
    have P := Post.allocF (ob := { cls := .type "dict_values", data := .fields #[.ref a] }) S
    have zz := z.keep P.grow.F (P.fkeep S)
    have fu : (γ.fz s.heap.objs.size).F s.heap.objs.size := .inr rfl
    have iv : (s.heap.push { cls := .type "dict_values", data := .fields #[.ref a] }).IsValuesView s.heap.objs.size a := ⟨_, Heap.get?_push_size _ rfl, rfl, rfl⟩
    refine ⟨fzU b l, σ, _, q, P, ⟨⟨_, rfl⟩, ⟨_, _, _, _, rfl, fu, iv, zz⟩, fun γ' h' hF _ hk => ?_⟩⟩
    refine ⟨_, _, _, _, rfl, hF _ fu, ?_, zz.keep hF hk⟩
    refine ex1_2 (iv) fun o ho r => ?_
    exact ⟨o, hk _ _ fu ho, r⟩
theorem AP.listFz {Q : W → Store → Prop} (q : Q (.v (.lst (l.map fun e => .int e.1))) σ) (hz : l.length ≤ 16777216) : AP b n (.v (.raw (.type "list"))) [fzD b l] σ Q := by
  intro A s γ fv vs R S r rs
  refine WR.c_raw r ?_
  · refine WRs.c rs fun u vs r rs => WRs.c0 rs ?_
    refine ex0_3 (r) fun _ zz18 _ => ?_
    refine ex3_2 (zz18) fun a kvs ep zz19 z => ?_
    subst zz19
    refine ⟨keep_type, with_size (kdl_call (kdl_dict (knd := intKind b.prog b.w) (kvs := kvs) (ep := ep) z.no) R.2.2 z.at' (by rw [z.kv.length, sizeLine_eq]; exact hz) fun h' tk acc' c' hk hD hacc hsz => ?_)⟩
    have P := Post.same (F' := fun x => γ.F x ∨ x = s.heap.objs.size) (t := tk) S hk hsz (fun _ h => .inl h) (fun a h => h.imp id fun e => by rw [e]; exact Nat.le_refl _) (fun a h => h.elim (fun h => Nat.lt_of_lt_of_le (S.lt a h) hsz) fun e => by rw [e]; exact Heap.lt_size hD)
    refine ⟨_, σ, _, q, P, PV.lst (its := acc') (.inr rfl) ⟨c', hD⟩ ?_⟩
    have key : ∀ (m : List (Int × V)) (vs : List Value), vs.length = m.length → (∀ (j : Nat) (v : Value), vs[j]? = some v → ∃ (k : Int) (x : V), m[j]? = some (k, x) ∧ (intKind b.prog b.w).is k v = true) → PVs (fun x => γ.F x ∨ x = s.heap.objs.size) h' (m.map fun e => .int e.1) vs := by
      intro m
      induction m with
      | nil => intro vs hl _; cases vs with | nil => exact .nil | cons => simp at hl
      | cons e m ih =>
        intro vs hl hv
        cases vs with
        | nil => simp at hl
        | cons v vs =>
          refine ex2_2 (hv 0 v rfl) fun k x e1 e2 => ?_
          simp at e1; subst e1
          refine ex1_1 (Value.isInt_shape e2) fun t zz20 => ?_
          subst zz20
          exact .cons (.int _ _) (ih vs (by simpa using hl) fun j u hu => by simpa using hv (j + 1) u (by simpa using hu))
    refine key l acc'.toList (by rw [Array.length_toList, hacc.1, z.kv.length]) fun j v hv => ?_
    obtain ⟨k, x, e1, e2⟩ := hacc.2 j v (by rw [← Array.getElem?_toList]; exact hv)
    refine ex1_2 (z.kv.at e1) fun y e3 _ => ?_
    exact ⟨k, y, e3, e2⟩
theorem EE.newDI (k : Nat) {pos : Pos} {Q : W → Store → Prop} (q : ∀ p, Q (.ref k p) ((k, p, .dI []) :: σ)) : EE b n sc (.Dict [] [] pos) ρ σ Q := by
  intro A s env γ R S F
  refine wpAny_Dict_empty ?_
  refine ⟨_, _, γ.tr k s.heap.objs.size s.heap.objs.size, q _, ?_, WR.new⟩
  refine Post.allocT S (fun x ob e => Heap.get?_push_of_some _ e) (Nat.le_refl _) (Nat.le_refl _) (by rw [Heap.size_push]; exact Nat.lt_succ_self _) (by rw [Heap.size_push]; exact Nat.lt_succ_self _) (by rw [Heap.size_push]; exact Nat.le_succ _) ?_
  refine ⟨[], ?_, KVs.nil⟩
  rw [Gh.tr_at.1]
  exact Heap.DictOf.new _
end
end Mine
end
section
open PySem PySem.W PyProof.Rows PySem.Calls
namespace Mine
section
variable {b : Bas} {n : Nat} {sc : Scope} {ρ : Loc} {σ : Store}
theorem EE.newDS2 (k : Nat) {x y : Str} {i j : Int} {k1 k2 k3 k4 : Nat} {p1 p2 p3 p4 pos : Pos} {Q : W → Store → Prop} (hne : ¬ x = y) (q : ∀ p, Q (.ref k p) ((k, p, .dS [(x, .int i), (y, .int j)]) :: σ)) :
    EE b n sc (.Dict [some (.Constant (.str x) k1 p1), some (.Constant (.str y) k2 p2)] [.Constant (.int i) k3 p3, .Constant (.int j) k4 p4] pos) ρ σ Q := by
  intro A s env γ R S F
  refine wpAny_Dict_walk (knd := strKind b.prog b.w) rfl rfl (by simp) (Nat.le_of_ble_eq_true rfl) ?_
  refine pairTrees_cons_walk (wpAny_Constant_str (wpAny_Constant_int ?_))
  refine pairTrees_cons_walk (wpAny_Constant_str (wpAny_Constant_int (evalPairs_nil ?_)))
  refine ⟨[(x, _), (y, _)], ⟨by simp [PySem.strKind, Value.isStrOf], rfl, by simp [PySem.strKind, Value.isStrOf], rfl, trivial⟩, Heap.DictOf.new _, fun h' hd hs => ?_⟩
  have keep : ∀ a o, s.heap.get? a = some o → h'.get? a = some o := fun a o e => by
    have ne : a ≠ s.heap.objs.size := Nat.ne_of_lt (Heap.lt_size e)
    exact (hs.2 a ne).trans (Heap.get?_push_of_some _ e)
  have sz : s.heap.objs.size < h'.objs.size := by rw [hs.1, Heap.size_push]; exact Nat.lt_succ_self _
  refine ⟨_, _, γ.tr k s.heap.objs.size s.heap.objs.size, q _, ?_, WR.new⟩
  have P := Post.allocT (k := k) (o := .dS [(x, .int i), (y, .int j)]) (a := s.heap.objs.size) (d := s.heap.objs.size) (h' := h') S keep (Nat.le_refl _) (Nat.le_refl _) sz sz (Nat.le_of_lt sz) ?_
  · exact P.trans (Post.toks P.st _)
  · refine ⟨_, by rw [Gh.tr_at.1]; exact hd, ?_⟩
    have e : merged ([] : List (Str × Value)) [(x, Value.int i (s.toks + 1)), (y, Value.int j (s.toks + 1 + 1 + 1))] = [(x, Value.int i (s.toks + 1)), (y, Value.int j (s.toks + 1 + 1 + 1))] := by
      simp [merged, stored, hne]
    show KVs _ _ _ (merged ([] : List (Str × Value)) [(x, Value.int i (s.toks + 1)), (y, Value.int j (s.toks + 1 + 1 + 1))])
    rw [e]
    exact .cons (.int _ _) (.cons (.int _ _) .nil)
noncomputable def fzW (b : Bas) (σ σ' : Store) : W → W
  | .v x => .v x
  | .ref k p => match σ.lookup k with
    | some _ => .ref k p
    | none => match σ'.lookup k with
      | some (p', .list l) => if p = p' then .v (.lst l) else .unk
      | some (p', .dI l) => if p = p' then fzD b l else .unk
      | _ => .unk
  | _ => .unk
noncomputable def isLD : O → Bool
  | .list _ => true
  | .dI _ => true
  | _ => false
theorem FEs.map {w : World} {γ γ' : Gh} {σ σ' : Store} {h : Heap} {g : W → W} (hg : ∀ x v, WR γ σ h x v → WR γ' σ' h (g x) v) {fs : List (Str × W)} {es : List DictEntry} (r : FEs w γ σ h fs es) : FEs w γ' σ' h (fs.map fun x => (x.1, g x.2)) es := by
  induction r with
  | nil => exact .nil
  | cons hk hh hw _ ih => exact .cons hk hh (hg _ _ hw) ih
abbrev Kfz (b : Bas) (k0 : Nat) (σ : Store) (Q : W → Store → Prop) : W → Store → Prop := fun y σ' => ∃ p0 C fs, y = .ref k0 p0 ∧ σ'.lookup k0 = some (p0, .inst C fs) ∧ (∀ k e, σ.lookup k = some e → σ'.lookup k = some e) ∧
      Q (.ref k0 p0) ((k0, p0, .inst C (fs.map fun x => (x.1, fzW b σ σ' x.2))) :: σ)
theorem FN.fz {k0 : Nat} {f : Value} {ys : List W} {Q : W → Store → Prop} (h0 : σ.lookup k0 = none)
    (h : FN b n f ys σ (Kfz b k0 σ Q)) : FN b n f ys σ Q := by
  intro A s γ vs R S rs
  refine codeAny_mono (h A s γ vs R S rs) fun r s' z => ?_
  rcases r with e | (v | _ | _ | _) <;> first | exact z.elim | skip
  refine (z).e fun y σ' γ' zz1 P r => ?_
  refine ex3_4 (zz1) fun p0 C fs zz2 hk0 hold q => ?_
  subst zz2
  have S' := P.st
  let G : Addr → Prop := fun a => ∃ k p o, σ'.lookup k = some (p, o) ∧ σ.lookup k = none ∧ isLD o = true ∧ a = γ'.al k p
  let γ'' : Gh := { γ' with F := fun a => γ'.F a ∨ G a }
  have kOld : ∀ k e, σ.lookup k = some e → k ≠ k0 := fun k e he q => by rw [q, h0] at he; cases he
  have hF : ∀ a, γ'.F a → γ''.F a := fun _ h => .inl h
  have look : ∀ j p o, List.lookup j ((k0, p0, O.inst C (fs.map fun x => (x.1, fzW b σ σ' x.2))) :: σ) = some (p, o) →
      (∃ o', σ'.lookup j = some (p, o')) ∧ (j = k0 ∨ σ.lookup j = some (p, o)) := fun j p o e => by
    by_cases ne : j = k0
    · subst ne
      rw [lookup_cons_eq] at e; cases e
      exact ⟨⟨_, hk0⟩, .inl rfl⟩
    · rw [lookup_cons_ne ne] at e
      exact ⟨⟨o, hold _ _ e⟩, .inr e⟩
  have notG : ∀ j p o o', List.lookup j ((k0, p0, O.inst C (fs.map fun x => (x.1, fzW b σ σ' x.2))) :: σ) = some (p, o) → σ'.lookup j = some (p, o') → ¬ G (γ'.al j p) ∧ ¬ G (γ'.dx j p) := fun j p o o' e e' => by
    have key : ∀ k q ob, σ'.lookup k = some (q, ob) → σ.lookup k = none → isLD ob = true → k ≠ j := fun k q ob h1 h2 h3 hkj => by
      subst hkj
      rcases (look _ _ _ e).2 with h | h
      · subst h; rw [hk0] at h1; cases h1; cases h3
      · rw [h2] at h; cases h
    constructor
    · rintro ⟨k, q, ob, h1, h2, h3, h4⟩
      exact (S'.dist k j q p ob o' h1 e' (key k q ob h1 h2 h3)).1 h4.symm
    · rintro ⟨k, q, ob, h1, h2, h3, h4⟩
      exact (S'.dist k j q p ob o' h1 e' (key k q ob h1 h2 h3)).2.1 h4.symm
  have alo : ∀ k p o, σ.lookup k = some (p, o) → γ'.al k p = γ.al k p ∧ γ'.dx k p = γ.dx k p := fun k p o e => by
    have z := P.grow.al k p (S.nv k p o e)
    exact ⟨z.1, z.2.1⟩
  have wfz : ∀ x v, WR γ' σ' s'.heap x v → WR γ'' ((k0, p0, O.inst C (fs.map fun x => (x.1, fzW b σ σ' x.2))) :: σ) s'.heap (fzW b σ σ' x) v := fun x v hr => by
    cases x with
    | v x => exact PV.mono hF (fun _ _ _ h => h) hr
    | ref k p =>
      refine ex0_2 (hr) fun zz3 hp => ?_
      subst zz3
      cases e : σ.lookup k with
      | some _ =>
        have e1 : fzW b σ σ' (.ref k p) = .ref k p := by simp only [fzW, e]
        rw [e1]
        exact ⟨rfl, hp⟩
      | none =>
        have unk : fzW b σ σ' (.ref k p) = .unk → WR γ'' ((k0, p0, O.inst C (fs.map fun x => (x.1, fzW b σ σ' x.2))) :: σ) s'.heap (fzW b σ σ' (.ref k p)) (.ref (γ'.al k p)) := fun q => by rw [q]; trivial
        cases e' : σ'.lookup k with
        | none => exact unk (by simp only [fzW, e, e'])
        | some z =>
          obtain ⟨p', o⟩ := z
          cases o with
          | list l =>
            by_cases hpp : p = p'
            · subst hpp
              have e1 : fzW b σ σ' (.ref k p) = .v (.lst l) := by simp only [fzW, e, e', if_true]
              rw [e1]
              refine ex2_2 (S'.obj k p _ e') fun its m h1 h2 => ?_
              have fa : γ''.F (γ'.al k p) := Or.inr ⟨k, p, _, e', e, rfl, rfl⟩
              exact PV.lst fa ⟨m, h1⟩ (h2.mono hF fun _ _ _ h => h)
            · exact unk (by simp only [fzW, e, e', if_neg hpp])
          | dI l =>
            by_cases hpp : p = p'
            · subst hpp
              have e1 : fzW b σ σ' (.ref k p) = fzD b l := by simp only [fzW, e, e', if_true]
              rw [e1]
              refine ex1_2 (S'.obj k p _ e') fun kvs h1 h2 => ?_
              refine ex1_1 (h1.dictAt) fun ep h3 => ?_
              have fa : γ''.F (γ'.al k p) := Or.inr ⟨k, p, _, e', e, rfl, rfl⟩
              exact WR.fzD ⟨fa, S'.noMod e', h3, h2.mono hF fun _ _ _ h => h⟩
            · exact unk (by simp only [fzW, e, e', if_neg hpp])
          | _ => exact unk (by simp only [fzW, e, e'])
    | _ => trivial
  refine ⟨_, _, γ'', q, ⟨⟨S'.base, S'.gens, S'.os, fun a h1 h2 => .inl (S'.stat a h1 h2), ?_, ?_, ?_, ?_, ?_⟩, ⟨fun a h => .inl (P.grow.F a h), fun k p h => P.grow.al k p h, ?_, ?_⟩, P.keep, P.size⟩, ?_⟩
  · rintro a (h | ⟨k, p, o, h1, _, _, rfl⟩)
    · exact S'.lt a h
    · exact (S'.sep k p o h1).2.2.1
  · intro k p o e
    refine ex0_2 (look k p o e) fun zz4 _ => ?_
    refine ex1_1 (zz4) fun o' e' => ?_
    exact S'.nv k p o' e'
  · intro k p o e
    refine ex0_2 (look k p o e) fun zz5 _ => ?_
    refine ex1_1 (zz5) fun o' e' => ?_
    have z := S'.sep k p o' e'
    have g := notG k p o o' e e'
    exact ⟨fun h => h.elim z.1 g.1, fun h => h.elim z.2.1 g.2, z.2.2⟩
  · intro k k' p p' o o' e e' ne
    refine ex0_2 (look k p o e) fun zz6 _ => ?_
    refine ex1_1 (zz6) fun o1 e1 => ?_
    refine ex0_2 (look k' p' o' e') fun zz7 _ => ?_
    refine ex1_1 (zz7) fun o2 e2 => ?_
    exact S'.dist k k' p p' o1 o2 e1 e2 ne
  · intro k p o e
    by_cases ne : k = k0
    · subst ne
      rw [lookup_cons_eq] at e; cases e
      obtain ⟨h1, h2, es, m, h3, h4⟩ := S'.obj k p0 _ hk0
      exact ⟨h1, h2, es, m, h3, h4.map wfz⟩
    · rw [lookup_cons_ne ne] at e
      exact ObjAt.mono (γ := γ') (σ := σ') (h := s'.heap) hF (fun _ _ _ h => h) (fun k p h => ⟨rfl, rfl, h⟩) (S'.nv k p o (hold _ _ e)) (fun _ _ _ h => h) (S'.obj k p o (hold _ _ e))
  · rintro a (h | ⟨k, p, o, h1, h2, h3, rfl⟩)
    · exact P.grow.newF a h
    · rcases P.grow.newT (γ'.al k p) ⟨k, p, o, h1, .inl rfl⟩ with ⟨k1, p1, o1, g1, g2⟩ | h
      · exfalso
        have ne : k ≠ k1 := fun q => by rw [q, g1] at h2; cases h2
        have d := S'.dist k k1 p p1 o o1 h1 (hold _ _ g1) ne
        have z := alo k1 p1 o1 g1
        rcases g2 with g2 | g2
        · exact d.1 (g2.trans z.1.symm)
        · exact d.2.1 (g2.trans z.2.symm)
      · exact .inr h
  · rintro a ⟨k, p, o, e, ha⟩
    refine ex0_2 (look k p o e) fun zz8 _ => ?_
    refine ex1_1 (zz8) fun o' e' => ?_
    exact P.grow.newT a ⟨k, p, o', e', ha⟩
  · exact r
end
end Mine
end
section
open PySem PySem.W PyProof.Rows PySem.Calls
namespace Mine
def LSub (ρ' ρ : Loc) : Prop := (∀ x y, ρ'.lookup x = some y → ρ.lookup x = some y) ∧ (ρ'.lookup ("#" : Str) = none ↔ ρ.lookup ("#" : Str) = none)
theorem LSub.refl {ρ : Loc} : LSub ρ ρ := ⟨fun _ _ h => h, Iff.rfl⟩
theorem LSub.set {ρ' ρ : Loc} {x : Str} {y : W} (r : LSub ρ' ρ) (h : ρ'.lookup x = none := by rfl) (hx : ¬ (("#" : Str) = x) := by decide) : LSub ρ' (setL x y ρ) := by
  refine ⟨fun z w e => ?_, ?_⟩
  · rw [setL_lookup]
    by_cases q : z = x
    · subst q; rw [h] at e; cases e
    · rw [if_neg q]; exact r.1 z w e
  · rw [setL_lookup, if_neg hx]; exact r.2
section
variable {b : Bas} {n : Nat} {sc : Scope} {ρ ρ' : Loc} {σ : Store}
theorem ESs.pre {st : List Stmt} {Q : Fl → Loc → Store → Prop} (l : LSub ρ' ρ) (h : ESs b n sc st ρ' σ Q) : ESs b n sc st ρ σ Q := fun A s env γ R S F => h A s env γ R S (F.weak l.1 l.2)
theorem ES.pre {st : Stmt} {Q : Fl → Loc → Store → Prop} (l : LSub ρ' ρ) (h : ES b n sc st ρ' σ Q) : ES b n sc st ρ σ Q := fun A s env γ R S F => h A s env γ R S (F.weak l.1 l.2)
abbrev KpostL (Q : Fl → Loc → Store → Prop) : Fl → Loc → Store → Prop := fun fl ρ₂ σ₂ => ∃ ρ₃, LSub ρ₃ ρ₂ ∧ Q fl ρ₃ σ₂
theorem ESs.post {st : List Stmt} {Q : Fl → Loc → Store → Prop} (h : ESs b n sc st ρ σ (KpostL Q)) : ESs b n sc st ρ σ Q := fun A s env γ R S F =>
  wpAny_mono (h A s env γ R S F) (fun _ _ zy68 => zy68.e fun fl ρ₂ σ₂ γ₂ zy69 P F' e => ex1_2 zy69 fun ρ₃ l q => ⟨fl, ρ₃, σ₂, γ₂, q, P, F'.weak l.1 l.2, e⟩) fun _ _ z => z
theorem ESs.imp {st : List Stmt} {Q Q' : Fl → Loc → Store → Prop} (h : ESs b n sc st ρ σ Q) (k : ∀ fl ρ₂ σ₂, Q fl ρ₂ σ₂ → Q' fl ρ₂ σ₂) : ESs b n sc st ρ σ Q' := fun A s env γ R S F =>
  wpAny_mono (h A s env γ R S F) (fun _ _ zy70 => zy70.e fun fl ρ₂ σ₂ γ₂ q P F' e => ⟨fl, ρ₂, σ₂, γ₂, k _ _ _ q, P, F', e⟩) fun _ _ z => z
theorem AS.imp {t : Expr} {y : W} {Q Q' : Loc → Store → Prop} (h : AS b n sc t y ρ σ Q) (k : ∀ ρ₂ σ₂, Q ρ₂ σ₂ → Q' ρ₂ σ₂) : AS b n sc t y ρ σ Q' := fun A s env γ v R S F r =>
  wpAny_mono (h A s env γ v R S F r) (fun _ _ zy71 => zy71.e fun fl ρ₂ σ₂ γ₂ zy72 P F' e' => ex0_2 zy72 fun e q => ⟨fl, ρ₂, σ₂, γ₂, ⟨e, k _ _ q⟩, P, F', e'⟩) fun _ _ z => z
theorem GI.tup0 {x : V} {r : List V} {Q : W → Store → Prop} (q : Q (.v x) σ) : GI b n (.v (.tup (x :: r))) (.v (.int 0)) σ Q :=
  GI.tup (j := 0) (by simp [seqIndex?]) rfl q
abbrev Kinv (ρ' : Loc) (I : Store → Prop) : Loc → Store → Prop := fun ρ₂ σ₂ => LSub ρ' ρ₂ ∧ I σ₂
abbrev Kmore {α : Type} (base : α → Loc) (I : α → Store → Prop) (m : α → Nat) (a : α) : Loc → Store → Prop := fun ρ₂ σ₂ => ∃ a', m a' < m a ∧ LSub (base a') ρ₂ ∧ I a' σ₂
abbrev Kwl (b : Bas) (n : Nat) (sc : Scope) (body : List Stmt) (ρ : Loc) (N : Loc → Store → Prop) (Q : Fl → Loc → Store → Prop) : Bool → Store → Prop := fun c σ₁ => cond c (ESs b n sc body ρ σ₁ (Kloop N Q)) (Q .nx ρ σ₁)
theorem FB.invL {tg : Expr} {body : List Stmt} {src : Store → Prop} {Q : Fl → Loc → Store → Prop} (base : Nat → Loc) (I : Nat → Store → Prop) (xs : List V)
    (h : ∀ i x σ, xs[i]? = some x → I i σ → src σ ∧ AS b n sc tg (.v x) (base i) σ (Kbody b n sc body (Kloop (Kinv (base (i + 1)) (I (i + 1))) Q)))
    (hend : ∀ σ, I xs.length σ → src σ ∧ Q .nx (base xs.length) σ) (h0 : I 0 σ) : FB b n sc tg body src Q xs (base 0) σ := by
  refine FB.inv (fun i ρ σ => ρ = base i ∧ I i σ) xs (fun i x ρ σ hx hI => ?_) (fun ρ σ hI => by rw [hI.1]; exact hend σ hI.2) ⟨rfl, h0⟩
  obtain ⟨rfl, hI⟩ := hI
  refine ex0_2 (h i x σ hx hI) fun h1 h2 => ?_
  refine ⟨h1, h2.imp fun ρ₁ σ₁ h3 => ESs.post (h3.imp fun fl ρ₂ σ₂ h4 => ?_)⟩
  cases fl with
  | nx => exact ⟨_, h4.1, rfl, h4.2⟩
  | ct => exact ⟨_, h4.1, rfl, h4.2⟩
  | br => exact ⟨_, LSub.refl, h4⟩
  | rt y => exact ⟨_, LSub.refl, h4⟩
theorem ES.whileL {α : Type} {t : Expr} {body : List Stmt} {pos : Pos} {Q : Fl → Loc → Store → Prop} (base : α → Loc) (I : α → Store → Prop) (m : α → Nat) (a₀ : α) (h0 : LSub (base a₀) ρ) (hI0 : I a₀ σ)
    (h : ∀ a σ, I a σ → ET b n sc t (base a) σ (Kwl b n sc body (base a) (Kmore base I m a) Q)) : ES b n sc (.While t body [] pos) ρ σ Q := by
  refine ES.pre h0 (ES.while (fun k ρ σ => ∃ a, k = m a ∧ ρ = base a ∧ I a σ) (m a₀) ⟨a₀, rfl, rfl, hI0⟩ ?_)
  rintro k ρ σ ⟨a, rfl, rfl, hI⟩
  intro A s env γ R S F
  refine wpAny_mono (h a σ hI A s env γ R S F) (fun c s₁ zy73 => zy73.e fun c' σ₁ γ₁ q P r => ⟨c', σ₁, γ₁, ?_, P, r⟩) fun _ _ z => z
  cases c' with
  | false => exact q
  | true =>
    refine ESs.post (ESs.imp q fun fl ρ₂ σ₂ h4 => ?_)
    cases fl with
    | nx => obtain ⟨a', h5, h6, h7⟩ := h4; exact ⟨_, h6, _, h5, a', rfl, rfl, h7⟩
    | ct => obtain ⟨a', h5, h6, h7⟩ := h4; exact ⟨_, h6, _, h5, a', rfl, rfl, h7⟩
    | br => exact ⟨_, LSub.refl, h4⟩
    | rt y => exact ⟨_, LSub.refl, h4⟩
end
end Mine
end
section
open PySem PySem.W PyProof.Rows PySem.Calls
namespace Mine
theorem fzW_list {b : Bas} {σ σ' : Store} {k p : Nat} {l : List V} (h : σ.lookup k = none) (h' : σ'.lookup k = some (p, .list l)) : fzW b σ σ' (.ref k p) = .v (.lst l) := by simp only [fzW, h, h', if_true]
theorem fzW_dI {b : Bas} {σ σ' : Store} {k p : Nat} {l : List (Int × V)} (h : σ.lookup k = none) (h' : σ'.lookup k = some (p, .dI l)) : fzW b σ σ' (.ref k p) = fzD b l := by simp only [fzW, h, h', if_true]
theorem fzW_v {b : Bas} {σ σ' : Store} {x : V} : fzW b σ σ' (.v x) = .v x := rfl
theorem put_cons {k j : Nat} {o : O} {e : Nat × O} {σ : Store} (h : j ≠ k) : put k o ((j, e) :: σ) = (j, e) :: put k o σ := by
  show (if j = k then _ else _) = _
  rw [if_neg h]
theorem put_put {k : Nat} {o o' : O} : ∀ {σ : Store}, put k o (put k o' σ) = put k o σ
  | [] => rfl
  | (j, q, x) :: r => by
    by_cases h : j = k
    · subst h; exact (congrArg (put j o) (if_pos rfl : put j o' ((j, q, x) :: r) = (j, q, o') :: r)).trans ((if_pos rfl : put j o ((j, q, o') :: r) = (j, q, o) :: r).trans (if_pos rfl : put j o ((j, q, x) :: r) = (j, q, o) :: r).symm)
    · rw [put_cons h, put_cons h, put_cons h, put_put]
def Ext (σ σ' : Store) : Prop := ∀ k e, σ.lookup k = some e → σ'.lookup k = some e
theorem Ext.refl {σ : Store} : Ext σ σ := fun _ _ h => h
theorem Ext.cons {σ σ' : Store} {k : Nat} {e : Nat × O} (h : Ext σ σ') (hk : σ.lookup k = none) : Ext σ ((k, e) :: σ') := fun j x q => by
  by_cases ne : j = k
  · subst ne; rw [hk] at q; cases q
  · rw [lookup_cons_ne ne]; exact h j x q
end Mine
end
section
open PySem PySem.W PyProof.Rows PySem.Calls
namespace Mine
section
variable {b : Bas} {n : Nat} {sc : Scope} {ρ : Loc} {σ : Store} {Q : W → Store → Prop}
theorem sub_slice {A : Around} {E : Value → Shared → Prop} {s : Shared} {env : Env} {value : Expr} {lower upper : Option Expr} {p pos : Pos} {Q : Value → Shared → Prop}
    (h : wpAny b.M A (eval value env) (fun o s₁ => wpAny b.M A (evalPart lower env) (fun vl s₂ => wpAny b.M A (evalPart upper env) (fun vu s₃ =>
      ∃ l items lo hi, o = .ref l ∧ s₃.heap.IsList l items ∧ items.size ≤ sizeLine ∧ IsPart vl lo ∧ IsPart vu hi ∧
        Q (.ref (s₃.heap.objs.size + 1)) { s₃ with heap := (s₃.heap.push { cls := .type "slice", data := .fields #[vl, vu, .none] }).push { cls := .type "list", data := .seq (slicePick items lo hi none) } }) E s₂) E s₁) E s) :
    wpAny b.M A (eval (.Subscript value (.Slice lower upper none p) pos) env) Q E s := by
  rw [eval_Subscript]
  refine wpAny_bind (wpAny_mono h (fun o s₁ h₁ => wpAny_bind (wpAny_holding (wpAny_Slice (wpAny_mono h₁ (fun vl s₂ h₂ => wpAny_mono h₂ (fun vu s₃ h₃ => ?_) fun _ _ x => x) fun _ _ x => x)))) fun _ _ x => x)
  refine ex4_6 (h₃) fun l items lo hi zz1 hl hsz pl pu hQ => ?_
  subst zz1
  rw [evalPart_none]
  refine wpAny_pure (wpAny_bind (wpAny_standAt ?_))
  have hT := (hl.push { cls := .type "slice", data := .fields #[vl, vu, .none] }).typeIs (s := { s₃ with heap := s₃.heap.push { cls := .type "slice", data := .fields #[vl, vu, .none] } })
  have fin : wpAny b.M A (operate [.ref s₃.heap.objs.size, .ref l] (getItem (.ref l) (.ref s₃.heap.objs.size))) (fun r s₄ => wpAny b.M A (letTemporaryGo value (.ref l) r >>= fun _ => pure r) Q E s₄) E { s₃ with heap := s₃.heap.push { cls := .type "slice", data := .fields #[vl, vu, .none] } } := by
    refine wpAny_operating (wpAny_getItem_list_slice (hl.push _) (Heap.IsSliceOf.new ..) pl pu .none (by simp) ?_ hsz)
    rw [Heap.size_push]
    exact wpAny_bind (wpAny_letTemporaryGo (wpAny_pure hQ))
  first
    | (refine wpAny_bind ?_
       rw [getitemInPython_of_ne hT.not_modules]
       refine wpAny_bind (wpAny_specialOf hT list_getitem_lookup ?_)
       first
         | exact wpAny_pure (wpAny_bind fin)
         | exact wpAny_bind (wpAny_pure (wpAny_bind fin))
         | exact wpAny_bind fin)
    | (refine wpAny_bind (wpAny_specialOf hT list_getitem_lookup ?_)
       first
         | exact wpAny_bind (wpAny_pure (wpAny_bind fin))
         | exact wpAny_bind fin)
theorem slice_coreA {o : Expr} {lo hi : Option Expr} {p pos : Pos} {A : Around} {env : Env} {s : Shared} {T : Value → Shared → Prop}
    (h : wpAny b.M A (eval o env) (fun ov s₁ => wpAny b.M A (evalPart lo env) (fun vl s₂ => wpAny b.M A (evalPart hi env) (fun vu s₃ => ∃ x σ' γ' l lo' hi', ListW σ' x = some l ∧ WR γ' σ' s₃.heap x ov ∧ St b γ' σ' s₃ ∧ l.length ≤ 16777216 ∧ IsPart vl lo' ∧ IsPart vu hi' ∧
      ∀ (a : Addr) (its : Array Value × Nat), s₃.heap.get? a = some (listOf its.1 its.2) → PVs γ'.F s₃.heap l its.1.toList → T (.ref (s₃.heap.objs.size + 1)) { s₃ with heap := (s₃.heap.push { cls := .type "slice", data := .fields #[vl, vu, .none] }).push { cls := .type "list", data := .seq (slicePick its.1 lo' hi' none) } }) NoE s₂) NoE s₁) NoE s) : wpAny b.M A (eval (.Subscript o (.Slice lo hi none p) pos) env) T NoE s := by
  refine sub_slice (wpAny_mono h (fun ov s₁ h₁ => wpAny_mono h₁ (fun vl s₂ h₂ => wpAny_mono h₂ (fun vu s₃ zy74 => ex6_7 zy74 fun x σ' γ' l lo' hi' hx r S hz pl pu k => ?_) fun _ _ z => z) fun _ _ z => z) fun _ _ z => z)
  refine ex3_3 (ListW.exact S hx r) fun a its m zz2 ho hp => ?_
  subst zz2
  have len : its.size = l.length := by have := hp.length; simpa using this
  exact ⟨a, its, lo', hi', rfl, isL_of ⟨m, ho⟩, by rw [len, sizeLine_eq]; exact hz, pl, pu, k a (its, m) ho hp⟩
theorem EE.sliceToA {o hi : Expr} {p pos : Pos} (h : EE b n sc o ρ σ (KslT b n sc hi ρ Q)) : EE b n sc (.Subscript o (.Slice none (some hi) none p) pos) ρ σ Q := by
  intro A s env γ R S F
  refine slice_coreA (h.go R S F fun x σ₁ γ₁ ov s₁ h₁ P₁ r₁ => ?_)
  rw [evalPart_none, evalPart_some]
  refine wpAny_pure (h₁.go R P₁.st (F.post S P₁) fun y σ₂ γ₂ iv s₂ zy75 P₂ r₂ => ex2_4 zy75 fun l j hx hy hz q => ?_)
  subst hy
  refine WR.c_int r₂ fun _ => ?_
  refine ⟨x, σ₂, γ₂, l, none, some (j : Int), hx, r₁.post P₁.st P₂, P₂.st, hz, .none, .int _ _, fun a its ho hp => ?_⟩
  rw [slicePick_to]
  exact (slice_fz P₂.st (by simpa using hp.take j) q).trans (P₁.trans P₂)
theorem EE.sliceToTA (k : Nat) {o hi : Expr} {p pos : Pos} (h : EE b n sc o ρ σ (KslTT b n sc k hi ρ Q)) : EE b n sc (.Subscript o (.Slice none (some hi) none p) pos) ρ σ Q := by
  intro A s env γ R S F
  refine slice_coreA (h.go R S F fun x σ₁ γ₁ ov s₁ h₁ P₁ r₁ => ?_)
  rw [evalPart_none, evalPart_some]
  refine wpAny_pure (h₁.go R P₁.st (F.post S P₁) fun y σ₂ γ₂ iv s₂ zy76 P₂ r₂ => ex2_4 zy76 fun l j hx hy hz q => ?_)
  subst hy
  refine WR.c_int r₂ fun _ => ?_
  refine ⟨x, σ₂, γ₂, l, none, some (j : Int), hx, r₁.post P₁.st P₂, P₂.st, hz, .none, .int _ _, fun a its ho hp => ?_⟩
  rw [slicePick_to]
  exact (slice_tr P₂.st (by simpa using hp.take j) q).trans (P₁.trans P₂)
theorem EE.sliceFromA {o lo : Expr} {p pos : Pos} (h : EE b n sc o ρ σ (KslF b n sc lo ρ Q)) : EE b n sc (.Subscript o (.Slice (some lo) none none p) pos) ρ σ Q := by
  intro A s env γ R S F
  refine slice_coreA (h.go R S F fun x σ₁ γ₁ ov s₁ h₁ P₁ r₁ => ?_)
  rw [evalPart_some, evalPart_none]
  refine h₁.go R P₁.st (F.post S P₁) fun y σ₂ γ₂ iv s₂ zy77 P₂ r₂ => ex2_5 zy77 fun l j hx hy hj hz q => wpAny_pure ?_
  subst hy
  refine WR.c_int r₂ fun _ => ?_
  refine ⟨x, σ₂, γ₂, l, some (j : Int), none, hx, r₁.post P₁.st P₂, P₂.st, hz, .int _ _, .none, fun a its ho hp => ?_⟩
  have len : its.1.size = l.length := by have := hp.length; simpa using this
  rw [slicePick_from its.1 j (by rw [len]; exact hj)]
  exact (slice_fz P₂.st (by simpa using hp.drop j) q).trans (P₁.trans P₂)
end
end Mine
end
section
open PySem PySem.W PyProof.Rows PySem.Calls
namespace Mine
section
variable {b : Bas} {n : Nat} {sc : Scope} {ρ : Loc} {σ : Store}
theorem ES.exprA {e : Expr} {pos : Pos} {Q : Fl → Loc → Store → Prop} (h : EE b n sc e ρ σ (KexprA Q ρ)) (hs : ∀ env, swapsWith e none pos.line env = pure false := by intros; rfl) : ES b n sc (.Expr e pos) ρ σ Q := by
  intro A s env γ R S F
  exact wpAny_Expr_any (h.go R S F fun y σ₁ γ₁ v s₁ q P r => ⟨.nx, ρ, σ₁, γ₁, q, P.toF, F.post S P, trivial⟩) F.interactive (hs env)
end
end Mine
end
section
open PySem PySem.W PyProof.Rows PySem.Calls
namespace Mine
section
variable {b : Bas} {n : Nat} {σ : Store}
theorem FN.introD {f : Addr} {ys : List W} {Q : W → Store → Prop} {name qual : Str} {params params' : Arguments} {body body' : List Stmt} {scope scope' : Scope} {dV kV doc pm cdv ct oc : Value} {an od : Option Addr} {osl : Array (Option Value)}
    (ho : (MineH.KF b.w.params).lookup f = some ⟨oc, od, .func (fnOf name qual params' body' scope' dV kV doc pm an cdv ct), osl⟩)
    (eP : params' = params) (eB : body' = body) (eS : scope' = scope) (hcd : codeIn (MineH.KF b.w.params) cdv qual = true)
    (hb : ∀ (vs : List Value) (s : Shared), vs.length = ys.length → (∀ a o, b.h₀.get? a = some o → s.heap.get? a = some o) → BindsTo s (fnOf name qual params body scope dV kV doc pm an cdv ct) ⟨vs, []⟩ ((params.args.map (·.arg)).zip vs))
    (hn : (params.args.map (·.arg)).Nodup) (hl : (params.args.map (·.arg)).length = ys.length)
    (hk : ((params.args.map (·.arg)).all fun x => scope.names.lookup x == some .local || scope.names.lookup x == some .cell) = true)
    (hfr : (scope.names.all fun p => p.2 != .free) = true) (hnd : ((cellsFrom 0 scope.names []).map (·.1)).Nodup)
    (h : ESs b n scope body ((params.args.map (·.arg)).zip ys) σ (Kfn Q))
    (hsp : ((params.args.map (·.arg)).zip ys).lookup ("#" : Str) = none := by rfl) (hcf : cdf scope = none ∨ cdv = .ref tabC := by first | exact .inl rfl | exact .inr rfl) (hco : scope.isCoroutine = false := by rfl) (hgen : scope.isGenerator = false := by rfl) (hkd : scope.kind = .function := by rfl) : FN b (n + 1) (.ref f) ys σ Q := by
  subst eP; subst eB; subst eS
  refine FN.coreD ho hcd hb hn hl hk hfr hnd (fun A s₁ env γ R S F hL hc => ?_) hsp hcf hco hgen hkd
  exact wpAny_mono (h A s₁ env γ R S F) (fun f s' zy80 => zy80.e fun fl ρ' σ' γ' q P _ e => ⟨fl, σ', γ', q, P.toL hL fun x c _ => hc x c, e⟩) fun _ _ z => z
end
end Mine
end
section
open PySem PySem.W PyProof.Rows PySem.Calls
namespace Mine
section
variable {b : Bas} {n : Nat} {σ : Store}
theorem GM.getS {k p : Nat} {l : List (Str × V)} {Q : W → List W → Store → Prop} (hk : σ.lookup k = some (p, .dS l)) (q : Q (.v (.raw (.builtin "dict.get"))) [.ref k p] σ) : GM b n (.ref k p) "get" σ Q :=
  GM.dict hk (.inr ⟨_, rfl⟩) PySem.F.slot_dict_get PySem.F.type_dict_get q
theorem Sub.swap {k j : Nat} {e e' : Nat × O} {σ : Store} (h : k ≠ j) : Sub ((k, e) :: (j, e') :: σ) ((j, e') :: (k, e) :: σ) := fun i x q => by
  by_cases h1 : i = k
  · subst h1
    rw [lookup_cons_eq] at q
    rw [lookup_cons_ne h, lookup_cons_eq]; exact q
  · rw [lookup_cons_ne h1] at q
    by_cases h2 : i = j
    · subst h2
      rw [lookup_cons_eq] at q ⊢; exact q
    · rw [lookup_cons_ne h2] at q
      rw [lookup_cons_ne h2, lookup_cons_ne h1]; exact q
end
end Mine
end
section
open PySem PySem.W PyProof.Rows PySem.Calls
namespace Mine
section
variable {b : Bas} {n : Nat} {σ : Store} {Q : W → Store → Prop}
theorem GI.dS {k p : Nat} {l : List (Str × V)} {i : Str} {x : V} (hk : σ.lookup k = some (p, .dS l)) (hx : dget i l = some x) (q : Q (.v x) σ) : GI b n (.ref k p) (.v (.str i)) σ Q := by
  intro A s γ o iv R S r r'
  refine ex0_2 (r) fun zz1 _ => ?_
  subst zz1
  refine ex1_2 (S.obj k _ _ hk) fun kvs hd hp => ?_
  rcases hp.get (k := i) with ⟨e, _⟩ | ⟨x', v, e, hv, hpv⟩
  · rw [e] at hx; cases hx
  · rw [e] at hx; cases hx
    exact ⟨⟨"dict", _, hd.typeIs, slot_dict_getitem.lookup⟩, wpAny_getItem_of (key_str (b := b) r') hd.mapOf hv (RV.now S q _ hpv)⟩
theorem Op2.notInDS {k p : Nat} {l : List (Str × V)} {i : Str} (hk : σ.lookup k = some (p, .dS l)) (q : Q (.v (.bool (!(dget i l).isSome))) σ) : Op2 b n (compareOp .NotIn) (.v (.str i)) (.ref k p) σ Q := by
  intro A s γ iv o R S r' r
  refine ex0_2 (r) fun zz2 _ => ?_
  subst zz2
  refine ex1_2 (S.obj k _ _ hk) fun kvs hd hp => ?_
  refine wpAny_notIn_of (key_str (b := b) r') (S.noMod hk) hd.mapOf ?_
  have e : (valueAt kvs i).isSome = (dget i l).isSome := by rcases hp.get (k := i) with ⟨e, e'⟩ | ⟨x', v, e, e', _⟩ <;> rw [e, e'] <;> rfl
  rw [e]
  exact RV.now S q _ (.bool _)
theorem WRs.any {γ : Gh} {σ σ' : Store} {h : Heap} {ys : List W} : ∀ {vs : List Value}, WRs γ σ h ys vs → WRs γ σ' h ys vs := by
  induction ys with
  | nil => exact fun r => WRs.c0 r trivial
  | cons y ys ih => exact fun r => WRs.c r fun v vs a r => ⟨WR.mono (fun _ h => h) (fun _ _ _ e => e) (AlKeep.same rfl rfl rfl) a, ih r⟩
theorem FN.pre {f : Value} {ys : List W} {σ' : Store} (hs : Sub σ' σ) (h : FN b n f ys σ' Q) : FN b n f ys σ Q := by
  intro A s γ vs R S rs
  have P := Post.sub S hs
  refine codeAny_mono (h A s γ vs R P.st rs.any) fun r s' z => ?_
  rcases r with e | (v | _ | _ | _) <;> first | exact z | exact z.elim | skip
  refine (z).e fun y σ₁ γ₁ q P' r => ?_
  exact ⟨y, σ₁, γ₁, q, P.trans P', r⟩
theorem Sub.dup {k : Nat} {e e' : Nat × O} {σ : Store} : Sub ((k, e) :: σ) ((k, e) :: (k, e') :: σ) := fun j x q => by
  by_cases h : j = k
  · subst h; rw [lookup_cons_eq] at q ⊢; exact q
  · rw [lookup_cons_ne h] at q
    rw [lookup_cons_ne h, lookup_cons_ne h]; exact q
theorem Sub.app {σ σ' : Store} (h : Sub σ σ') : ∀ A : Store, Sub (A ++ σ) (A ++ σ')
  | [] => h
  | (_, _) :: A => (Sub.app h A).cons
theorem Sub.down {k : Nat} {e : Nat × O} {σ : Store} : ∀ (A : Store), (A.all fun x => x.1 != k) = true → Sub (A ++ (k, e) :: σ) ((k, e) :: (A ++ σ))
  | [], _ => Sub.refl
  | (j, e') :: A, h => by
    rw [List.all_cons, Bool.and_eq_true_iff] at h
    exact ((Sub.down A h.2).cons).trans (Sub.swap (by simpa using h.1))
theorem Sub.renew {k : Nat} {e e' : Nat × O} {σ : Store} (A : Store) (h : (A.all fun x => x.1 != k) = true) : Sub (A ++ (k, e) :: σ) ((k, e) :: (A ++ (k, e') :: σ)) :=
  (Sub.app Sub.dup A).trans (Sub.down A h)
end
end Mine
end
section
open PySem PySem.W PyProof.Rows PySem.Calls
namespace Mine
theorem WR.any {γ : Gh} {σ σ' : Store} {h : Heap} {y : W} {v : Value} (r : WR γ σ h y v) : WR γ σ' h y v := by cases y <;> exact r
def PairP (y z : W) (γ : Gh) (h : Heap) (v : Value) : Prop := ∃ a u w, v = .ref a ∧ γ.F a ∧ h.IsTuple a #[u, w] ∧ WR γ [] h y u ∧ WR γ [] h z w
noncomputable def pairW (y z : W) : W := .sem (PairP y z)
theorem pairW_at {y z : W} {γ : Gh} {σ : Store} {h : Heap} {v : Value} (p : PairP y z γ h v) : WR γ σ h (pairW y z) v :=
  ⟨let ⟨a, _, _, e, _⟩ := p; ⟨a, e⟩, p, fun _ _ hF hal hk => by
    refine ex3_5 (p) fun a u w e fa zz1 r1 r2 => ?_
    refine ex1_3 (zz1) fun o ho hc hd => ?_
    exact ⟨a, u, w, e, hF _ fa, ⟨o, hk _ _ fa ho, hc, hd⟩, r1.mono hF hk hal, r2.mono hF hk hal⟩⟩
section
variable {b : Bas} {n : Nat} {sc : Scope} {ρ : Loc} {σ : Store}
abbrev Kpair (Q : W → Store → Prop) : List W → Store → Prop := fun ys σ => ∃ y z, ys = [y, z] ∧ Q (pairW y z) σ
theorem EE.pair {es : List Expr} {k : Nat} {pos : Pos} {Q : W → Store → Prop} (h : EEs b n sc pos es ρ σ (Kpair Q)) : EE b n sc (.Tuple es k pos) ρ σ Q := by
  intro A s env γ R S F
  refine wpAny_Tuple (h.go R S F fun ys σ₁ γ₁ vs s₁ zy81 P₁ r₁ => ex2_2 zy81 fun y z hx q => ⟨by rw [r₁.length, sizeLine_eq, hx]; exact Nat.le_of_ble_eq_true rfl, ?_⟩)
  subst hx
  refine WRs.c r₁ fun u vs r1 r₁ => WRs.c r₁ fun w vs r2 r₁ => WRs.c0 r₁ ?_
  refine ⟨_, σ₁, _, q, P₁.trans (Post.allocF P₁.st), pairW_at ⟨_, u, w, rfl, .inr rfl, ⟨_, Heap.get?_push_size _ rfl, rfl, 0, rfl⟩, ?_, ?_⟩⟩
  · refine WR.any (σ := σ₁) (WR.mono (γ := γ₁) (h := s₁.heap) (σ := σ₁) ?_ ?_ ?_ r1)
    · exact fun _ h => Or.inl h
    · exact fun a o _ e => Heap.get?_push_of_some _ e
    · exact AlKeep.same rfl rfl rfl
  · refine WR.any (σ := σ₁) (WR.mono (γ := γ₁) (h := s₁.heap) (σ := σ₁) ?_ ?_ ?_ r2)
    · exact fun _ h => Or.inl h
    · exact fun a o _ e => Heap.get?_push_of_some _ e
    · exact AlKeep.same rfl rfl rfl
abbrev Kas2 (b : Bas) (n : Nat) (sc : Scope) (t2 : Expr) (z : W) (Q : Loc → Store → Prop) : Loc → Store → Prop := fun ρ₁ σ₁ => AS b n sc t2 z ρ₁ σ₁ Q
theorem AS.pair {t1 t2 : Expr} {k : Nat} {pos : Pos} {y z : W} {Q : Loc → Store → Prop} (h : AS b n sc t1 y ρ σ (Kas2 b n sc t2 z Q))
    (he : ∀ env, assignEach [t1, t2] env = [t1, t2].map fun e => (false, assign e env) := by intros; rfl) : AS b n sc (.Tuple [t1, t2] k pos) (pairW y z) ρ σ Q := by
  intro A s env γ v R S F r
  refine ex0_3 (r) fun _ zz2 _ => ?_
  refine ex3_5 (zz2) fun a u w zz3 fa ht r1 r2 => ?_
  subst zz3
  refine ex0_3 (map_starred (he env)) fun h1 h2 h3 => ?_
  rw [arm_assign_Tuple]
  refine wpAny_bind (wpAny_standAt ?_)
  unfold unpack
  rw [h1, h2, h3]
  refine wpAny_bind (wpAny_holding ?_)
  have hsz : [t1, t2].length = (#[u, w] : Array Value).size := rfl
  rw [hsz]
  refine with_size (wpAny_unpackItems_tuple R.2.2 ht fun h' he hz => ?_)
  have P := Post.extBut S he hz
  refine assignInOrder_cons (wpAny_mono (h A _ env γ _ R P.st (F.post S P) (WR.post S P (r1.any (σ' := σ)))) (fun _ s₁ zy82 => zy82.e fun fl ρ₁ σ₁ γ₁ zy83 P₁ F₁ _ => ex0_2 zy83 fun _ h₁ => ?_) fun _ _ z => z)
  refine assignInOrder_cons (wpAny_mono (h₁ A _ env γ₁ _ R P₁.st F₁ (WR.postF P.st (F.post S P) P₁ (WR.post S P (r2.any (σ' := σ))))) (fun _ s₂ zy84 => zy84.e fun fl₂ ρ₂ σ₂ γ₂ zy85 P₂ F₂ _ => ex0_2 zy85 fun _ q => ?_) fun _ _ z => z)
  exact assignInOrder_nil ⟨.nx, ρ₂, σ₂, γ₂, ⟨rfl, q⟩, P.toF.trans (P₁.trans P₂), F₂, trivial⟩
end
end Mine
end
section
open PySem PySem.W PyProof.Rows PySem.Calls
namespace Mine
noncomputable def mvW (k p k' p' : Nat) : W → W
  | .ref j q => if j = k ∧ q = p then .ref k' p' else .ref j q
  | x => x
noncomputable def mvO (k p k' p' : Nat) : O → O
  | .inst C fs => .inst C (fs.map fun x => (x.1, mvW k p k' p' x.2))
  | o => o
noncomputable def mvL (k p k' p' : Nat) (ρ : Loc) : Loc := ρ.map fun x => (x.1, mvW k p k' p' x.2)
noncomputable def mvS (k p k' p' : Nat) (σ : Store) : Store := σ.map fun x => if x.1 = k then (k', p', mvO k p k' p' x.2.2) else (x.1, x.2.1, mvO k p k' p' x.2.2)
noncomputable def Gh.mv (γ : Gh) (k p k' : Nat) : Gh where
  al j q := if j = k' ∧ q = γ.nv k' then γ.al k p else γ.al j q
  dx j q := if j = k' ∧ q = γ.nv k' then γ.dx k p else γ.dx j q
  nv j := if j = k' then γ.nv k' + 1 else γ.nv j
  F := γ.F
section
variable {b : Bas} {n : Nat} {sc : Scope} {ρ : Loc} {σ : Store} {k p k' : Nat} {o : O}
theorem mvL_lookup (ρ : Loc) (p' : Nat) (x : Str) : (mvL k p k' p' ρ).lookup x = (ρ.lookup x).map (mvW k p k' p') := by
  induction ρ with
  | nil => rfl
  | cons e r ih =>
    obtain ⟨y, w⟩ := e
    show List.lookup x ((y, _) :: mvL k p k' p' r) = _
    rw [List.lookup_cons, List.lookup_cons]
    cases x == y with
    | true => rfl
    | false => exact ih
theorem mvS_out (p' : Nat) (σ : Store) {j : Nat} (h1 : j ≠ k) (h2 : j ≠ k') : (mvS k p k' p' σ).lookup j = (σ.lookup j).map fun e => (e.1, mvO k p k' p' e.2) := by
  induction σ with
  | nil => rfl
  | cons x r ih =>
    show List.lookup j ((if x.1 = k then (k', p', mvO k p k' p' x.2.2) else (x.1, x.2.1, mvO k p k' p' x.2.2)) :: mvS k p k' p' r) = _
    by_cases e : x.1 = k
    · rw [if_pos e, lookup_cons_ne h2, lookup_at (x := x.2), if_neg (fun q => h1 (q.trans e))]; exact ih
    · rw [if_neg e, lookup_at, lookup_at (x := x.2), ih]
      split <;> rfl
theorem mvS_old (p' : Nat) (hne : k ≠ k') (σ : Store) : (mvS k p k' p' σ).lookup k = none := by
  induction σ with
  | nil => rfl
  | cons x r ih =>
    show List.lookup k ((if x.1 = k then (k', p', mvO k p k' p' x.2.2) else (x.1, x.2.1, mvO k p k' p' x.2.2)) :: mvS k p k' p' r) = _
    by_cases e : x.1 = k
    · rw [if_pos e, lookup_cons_ne hne]; exact ih
    · rw [if_neg e, lookup_cons_ne (fun h => e h.symm)]; exact ih
theorem mvS_new (p' : Nat) (σ : Store) : σ.lookup k' = none → σ.lookup k = some (p, o) → (mvS k p k' p' σ).lookup k' = some (p', mvO k p k' p' o) := by
  induction σ with
  | nil => intro _ h; cases h
  | cons x r ih =>
    intro h' h
    show List.lookup k' ((if x.1 = k then (k', p', mvO k p k' p' x.2.2) else (x.1, x.2.1, mvO k p k' p' x.2.2)) :: mvS k p k' p' r) = _
    rw [lookup_at (x := x.2)] at h h'
    by_cases e : x.1 = k
    · rw [if_pos e.symm] at h
      rw [if_pos e, lookup_cons_eq, Option.some.inj h]
    · rw [if_neg (fun q => e q.symm)] at h
      have ne : k' ≠ x.1 := fun z => by rw [if_pos z] at h'; cases h'
      rw [if_neg ne] at h'
      rw [if_neg e, lookup_cons_ne ne]
      exact ih h' h
theorem ESs.move (k k' : Nat) {st : List Stmt} {Q : Fl → Loc → Store → Prop} {p : Nat} {o : O} (hk : σ.lookup k = some (p, o)) (hk' : σ.lookup k' = none) (hne : k ≠ k')
    (h : ∀ p', ESs b n sc st (mvL k p k' p' ρ) (mvS k p k' p' σ) Q) : ESs b n sc st ρ σ Q := by
  intro A s env γ R S F
  let γ₁ := γ.mv k p k'
  have alk : AlKeep γ γ₁ σ σ := fun j q hq => by
    have ne : ¬ (j = k' ∧ q = γ.nv k') := fun zy86 => ex0_2 zy86 fun e1 e2 => by subst e1; lia
    refine ⟨if_neg ne, if_neg ne, ?_⟩
    show q < if j = k' then γ.nv k' + 1 else γ.nv j
    split
    · rename_i e; subst e; lia
    · exact hq
  have a1 : γ₁.al k' (γ.nv k') = γ.al k p := if_pos ⟨rfl, rfl⟩
  have d1 : γ₁.dx k' (γ.nv k') = γ.dx k p := if_pos ⟨rfl, rfl⟩
  have n1 : γ.nv k' < γ₁.nv k' := by
    show _ < if k' = k' then γ.nv k' + 1 else γ.nv k'
    rw [if_pos rfl]; lia
  have mv : ∀ {h : Heap} {x : W} {v : Value} {σ₁ σ₂ : Store}, WR γ σ₁ h x v → WR γ₁ σ₂ h (mvW k p k' (γ.nv k') x) v := fun {h x v σ₁ σ₂} r => by
    cases x with
    | ref j q =>
      show WR γ₁ σ₂ h (if j = k ∧ q = p then W.ref k' (γ.nv k') else W.ref j q) v
      by_cases e : j = k ∧ q = p
      · rw [if_pos e]
        refine ex0_2 (e) fun zz1 zz2 => ?_
        subst zz1
        subst zz2
        exact ⟨by rw [a1]; exact r.1, n1⟩
      · rw [if_neg e]
        exact WR.mono (γ := γ) (γ' := γ₁) (σ := σ₁) (σ' := σ₂) (fun _ h => h) (fun _ _ _ e => e) alk r
    | _ => exact WR.mono (γ := γ) (γ' := γ₁) (σ := σ₁) (σ' := σ₂) (fun _ h => h) (fun _ _ _ e => e) alk r
  have ob : ∀ {j q j' q' : Nat} {o : O}, γ₁.al j' q' = γ.al j q → γ₁.dx j' q' = γ.dx j q → ObjAt b.prog b.w γ σ s.heap j q o → ObjAt b.prog b.w γ₁ (mvS k p k' (γ.nv k') σ) s.heap j' q' (mvO k p k' (γ.nv k') o) := fun {j q j' q' o} e1 e2 r => by
    cases o with
    | tab ps => exact ⟨e1.trans r.1, by rw [e1]; exact r.2.1, r.2.2⟩
    | list l => obtain ⟨its, m, h1, h2⟩ := r; exact ⟨its, m, by rw [e1]; exact h1, h2⟩
    | dS l => obtain ⟨kvs, h1, h2⟩ := r; exact ⟨kvs, by rw [e1]; exact h1, h2⟩
    | dI l => obtain ⟨kvs, h1, h2⟩ := r; exact ⟨kvs, by rw [e1]; exact h1, h2⟩
    | inst C fs =>
      obtain ⟨h1, h2, es, m, h3, h4⟩ := r
      refine ⟨by rw [e1, e2]; exact h1, by rw [e1, e2]; exact h2, es, m, by rw [e2]; exact h3, ?_⟩
      exact FEs.map (fun x v r => mv r) h4
  have look : ∀ {j q : Nat} {x : O}, (mvS k p k' (γ.nv k') σ).lookup j = some (q, x) → ∃ j₀ q₀ x₀, σ.lookup j₀ = some (q₀, x₀) ∧ γ₁.al j q = γ.al j₀ q₀ ∧ γ₁.dx j q = γ.dx j₀ q₀ ∧ q < γ₁.nv j ∧ x = mvO k p k' (γ.nv k') x₀ ∧ (j = k' ∧ j₀ = k ∨ j ≠ k' ∧ j ≠ k ∧ j₀ = j) := fun {j q x} e => by
    by_cases e1 : j = k'
    · subst e1
      rw [mvS_new _ σ hk' hk] at e; cases e
      exact ⟨k, p, o, hk, a1, d1, n1, rfl, .inl ⟨rfl, rfl⟩⟩
    · by_cases e2 : j = k
      · subst e2
        rw [mvS_old _ hne] at e; cases e
      · rw [mvS_out _ σ e2 e1] at e
        refine ex1_2 (Option.map_eq_some_iff.mp e) fun zz3 h1 h2 => ?_
        obtain ⟨q₀, x₀⟩ := zz3
        cases h2
        have z := alk j q₀ (S.nv j q₀ x₀ h1)
        exact ⟨j, q₀, x₀, h1, z.1, z.2.1, z.2.2, rfl, .inr ⟨e1, e2, rfl⟩⟩
  have tr : ∀ a, Tr γ₁ (mvS k p k' (γ.nv k') σ) a → Tr γ σ a := fun a zy87 => ex3_2 zy87 fun j q x e ha => by
    refine ex3_4 (look e) fun j₀ q₀ x₀ h1 h2 h3 _ => ?_
    rw [h2, h3] at ha
    exact ⟨j₀, q₀, x₀, h1, ha⟩
  have P : Post b γ σ s γ₁ (mvS k p k' (γ.nv k') σ) s := by
    refine ⟨⟨S.base, S.gens, S.os, S.stat, S.lt, fun j q x e => ?_, fun j q x e => ?_, fun j j' q q' x x' e e' ne => ?_, fun j q x e => ?_⟩, ⟨fun _ h => h, alk, fun _ h => .inl h, fun a h => .inl (tr a h)⟩, fun _ _ h _ => h, Nat.le_refl _⟩
    · refine ex3_5 (look e) fun j₀ q₀ x₀ h1 h2 h3 h4 _ => ?_
      exact h4
    · refine ex3_5 (look e) fun j₀ q₀ x₀ h1 h2 h3 h4 _ => ?_
      rw [h2, h3]
      exact S.sep j₀ q₀ x₀ h1
    · refine ex3_6 (look e) fun j₀ q₀ x₀ h1 h2 h3 h4 _ c => ?_
      refine ex3_6 (look e') fun j₁ q₁ x₁ g1 g2 g3 g4 _ c' => ?_
      rw [h2, h3, g2, g3]
      refine S.dist j₀ j₁ q₀ q₁ x₀ x₁ h1 g1 ?_
      rcases c with ⟨rfl, rfl⟩ | ⟨c1, c2, rfl⟩ <;> rcases c' with ⟨rfl, rfl⟩ | ⟨d1, d2, rfl⟩
      · exact absurd rfl ne
      · exact fun z => d2 z.symm
      · exact c2
      · exact ne
    · refine ex3_6 (look e) fun j₀ q₀ x₀ h1 h2 h3 h4 zz4 _ => ?_
      subst zz4
      exact ob h2 h3 (S.obj j₀ q₀ x₀ h1)
  have F₁ : FrR b sc γ₁ (mvS k p k' (γ.nv k') σ) (mvL k p k' (γ.nv k') ρ) env s.heap := by
    refine ex1_2 (F.loc) fun m hm hl => ?_
    have none' : ∀ x, (mvL k p k' (γ.nv k') ρ).lookup x = none ↔ ρ.lookup x = none := fun x => by rw [mvL_lookup, Option.map_eq_none_iff]
    refine ⟨F.scope, F.kind, F.glob, F.bltn, ⟨F.own.1, fun t => F.own.2 (tr _ t)⟩, ⟨m, hm, fun x y hx hs => ?_⟩, fun x hx => ?_, F.inj, fun hh => F.wr ((none' _).mp hh), F.code, fun hh => F.fz fun z => hh ((none' _).mpr z)⟩
    · rw [mvL_lookup] at hx
      refine ex1_2 (Option.map_eq_some_iff.mp hx) fun y₀ h1 h2 => ?_
      refine ex1_2 (hl x y₀ h1 hs) fun v h3 h4 => ?_
      subst h2
      exact ⟨v, h3, mv h4⟩
    · refine (F.cel x hx).e fun c o vo h1 h2 h3 h4 h5 h6 => ?_
      refine ⟨c, o, vo, h1, h2, h3, fun y hy => ?_, fun t => h5 (tr _ t), h6⟩
      rw [mvL_lookup] at hy
      refine ex1_2 (Option.map_eq_some_iff.mp hy) fun y₀ g1 g2 => ?_
      refine ex1_2 (h4 y₀ g1) fun v g3 g4 => ?_
      subst g2
      exact ⟨v, g3, mv g4⟩
  exact wpAny_mono (h (γ.nv k') A s env γ₁ R P.st F₁) (fun _ _ z => z.trans P.toF) fun _ _ z => z
theorem Sub.build {σ τ : Store} {k : Nat} {e : Nat × O} (h : τ.lookup k = some e) (r : Sub σ τ) : Sub ((k, e) :: σ) τ := fun j x q => by
  by_cases z : j = k
  · subst z; rw [lookup_cons_eq] at q; cases q; exact h
  · rw [lookup_cons_ne z] at q; exact r j x q
end
end Mine
end
section
open PySem PySem.W PyProof.Rows PySem.Calls
namespace Mine
theorem LSub.nil {ρ : Loc} (h : ρ.lookup ("#" : Str) = none) : LSub [] ρ := ⟨fun _ _ h => (nomatch h), ⟨fun _ => h, fun _ => rfl⟩⟩
theorem LSub.build {ρ' ρ : Loc} {x : Str} {y : W} (h : ρ.lookup x = some y) (r : LSub ρ' ρ) (hx : (("#" : Str) == x) = false := by rfl) : LSub ((x, y) :: ρ') ρ := by
  refine ⟨fun z w e => ?_, ?_⟩
  · rw [List.lookup_cons] at e
    by_cases q : z = x
    · subst q
      rw [beq_self_eq_true] at e
      cases e; exact h
    · rw [beq_false_of_ne q] at e
      exact r.1 z w e
  · rw [List.lookup_cons, hx]; exact r.2
theorem mvW_fz {k p k' p' : Nat} {b : Bas} {l : List (Int × V)} : mvW k p k' p' (fzD b l) = fzD b l := rfl
theorem ES.setC {b : Bas} {n : Nat} {sc : Scope} {ρ : Loc} {σ : Store} {x : Str} {pos' : Pos} {e : Expr} {pos : Pos} {Q : Fl → Loc → Store → Prop} (h : EE b n sc e ρ σ (Kset Q x ρ)) (hk : bindK sc ρ x = true := by rfl)
    (hs : swapsWith e (some (.Name x pos')) pos.line (envS sc) = pure false) : ES b n sc (.Assign [.Name x pos'] e pos) ρ σ Q := by
  intro A s env γ R S F
  refine wpAny_Assign_Name (h.go R S F fun y σ₁ γ₁ v s₁ q P r => ?_) (swWi hs F.scope)
  exact bind_any P.st (F.post S P) r hk fun s' P' F' => ⟨.nx, _, _, _, q, P.toF.trans P', F', trivial⟩
end Mine
end
section
open PySem PySem.W PySem.W.X PyProof.Rows PySem.Calls
theorem fill0 : (PySem.Challenge.rw_pq0153_01, MineH.KF) = (PySem.Challenge.rw_pq0153_01, MineH.KF) := by k_fill; rfl
end
namespace Mine
open PySem PySem.W PySem.W.X PyProof.Rows PySem.Calls
section
open PySem PySem.W PySem.W.X PyProof.Rows PySem.Calls
theorem clsOk_350 {b : Bas} : ClsOk b.w 350 := ⟨by k_is, by k_is, by k_is, by k_is, by k_is⟩
theorem clsOk_428 {b : Bas} : ClsOk b.w 428 := ⟨by k_is, by k_is, by k_is, by k_is, by k_is⟩
theorem clsOk_526 {b : Bas} : ClsOk b.w 526 := ⟨by k_is, by k_is, by k_is, by k_is, by k_is⟩
theorem clsOk_720 {b : Bas} : ClsOk b.w 720 := ⟨by k_is, by k_is, by k_is, by k_is, by k_is⟩
theorem clsOk_776 {b : Bas} : ClsOk b.w 776 := ⟨by k_is, by k_is, by k_is, by k_is, by k_is⟩
theorem clsOk_797 {b : Bas} : ClsOk b.w 797 := ⟨by k_is, by k_is, by k_is, by k_is, by k_is⟩
theorem clsOk_853 {b : Bas} : ClsOk b.w 853 := ⟨by k_is, by k_is, by k_is, by k_is, by k_is⟩
theorem look_pn {k j : Nat} {o : O} {σ : Store} {x : Option (Nat × O)} (h : Nat.beq j k = false) (r : σ.lookup j = x) : (put k o σ).lookup j = x := (put_ne (Nat.ne_of_beq_eq_false h)).trans r
theorem look_cn {k j : Nat} {e : Nat × O} {σ : Store} {x : Option (Nat × O)} (h : Nat.beq j k = false) (r : σ.lookup j = x) : List.lookup j ((k, e) :: σ) = x := (lookup_cons_ne (Nat.ne_of_beq_eq_false h)).trans r
theorem cond_t {A B : Prop} (h : A) : cond true A B := h
theorem cond_f {A B : Prop} (h : B) : cond false A B := h
theorem cond_eq_t {c : Bool} {A B : Prop} (h : c = true) (a : A) : cond c A B := by rw [h]; exact a
theorem cond_eq_f {c : Bool} {A B : Prop} (h : c = false) (a : B) : cond c A B := by rw [h]; exact a
section
variable {b : Bas} {n : Nat} {sc : Scope} {ρ : Loc} {σ : Store}
theorem EE.id {e : Expr} {Q : W → Store → Prop} (h : EE b n sc e ρ σ Q) : EE b n sc e ρ σ Q := h
theorem EEs.id {p : Pos} {e : List Expr} {Q : List W → Store → Prop} (h : EEs b n sc p e ρ σ Q) : EEs b n sc p e ρ σ Q := h
theorem ES.id {e : Stmt} {Q : Fl → Loc → Store → Prop} (h : ES b n sc e ρ σ Q) : ES b n sc e ρ σ Q := h
theorem ESs.id {e : List Stmt} {Q : Fl → Loc → Store → Prop} (h : ESs b n sc e ρ σ Q) : ESs b n sc e ρ σ Q := h
theorem ET.id {e : Expr} {Q : Bool → Store → Prop} (h : ET b n sc e ρ σ Q) : ET b n sc e ρ σ Q := h
theorem EA.id {o : BoolOp} {e : List Expr} {Q : Bool → Store → Prop} (h : EA b n sc o e ρ σ Q) : EA b n sc o e ρ σ Q := h
theorem OpT.id {y : W} {Q : Bool → Store → Prop} (h : OpT b n y σ Q) : OpT b n y σ Q := h
theorem Op2.id {f : Value → Value → Sem Value} {x y : W} {Q : W → Store → Prop} (h : Op2 b n f x y σ Q) : Op2 b n f x y σ Q := h
theorem Op1.id {f : Value → Sem Value} {x : W} {Q : W → Store → Prop} (h : Op1 b n f x σ Q) : Op1 b n f x σ Q := h
theorem AP.id {f : W} {ys : List W} {Q : W → Store → Prop} (h : AP b n f ys σ Q) : AP b n f ys σ Q := h
theorem GM.id {f : W} {x : Str} {Q : W → List W → Store → Prop} (h : GM b n f x σ Q) : GM b n f x σ Q := h
theorem GI.id {x y : W} {Q : W → Store → Prop} (h : GI b n x y σ Q) : GI b n x y σ Q := h
theorem AS.id {e : Expr} {y : W} {Q : Loc → Store → Prop} (h : AS b n sc e y ρ σ Q) : AS b n sc e y ρ σ Q := h
theorem ASL.id {e : List Expr} {y : List V} {Q : Loc → Store → Prop} (h : ASL b n sc Q e y ρ σ) : ASL b n sc Q e y ρ σ := h
theorem EI.id {t e : Expr} {Q : List V → (Store → Prop) → Store → Prop} (h : EI b n sc t e ρ σ Q) : EI b n sc t e ρ σ Q := h
theorem IT.id {t : Expr} {y : W} {Q : List V → (Store → Prop) → Store → Prop} (h : IT b n t y σ Q) : IT b n t y σ Q := h
theorem CB.id {t : Expr} {i : List Expr} {e : Expr} {src : Store → Prop} {Q : List V → Store → Prop} {l a : List V} (h : CB b n sc t i e ρ src Q l a σ) : CB b n sc t i e ρ src Q l a σ := h
theorem WB.id {t : Expr} {i : List Stmt} {Q : Fl → Loc → Store → Prop} {k : Nat} (h : WB b n sc t i Q k ρ σ) : WB b n sc t i Q k ρ σ := h
theorem FB.id {t : Expr} {i : List Stmt} {src : Store → Prop} {Q : Fl → Loc → Store → Prop} {l : List V} (h : FB b n sc t i src Q l ρ σ) : FB b n sc t i src Q l ρ σ := h
end
theorem lv_e {x : Str} {y : W} {ρ : Loc} : List.lookup x ((x, y) :: ρ) = some y := by rw [lookupS, if_pos rfl]
theorem lv_n {x a : Str} {y : W} {ρ : Loc} {r : Option W} (h : (x == a) = false) (q : List.lookup x ρ = r) : List.lookup x ((a, y) :: ρ) = r := by rw [lookupS, if_neg (ne_of_beq_false h)]; exact q
theorem lv_se {x : Str} {y : W} {ρ : Loc} : List.lookup x (setL x y ρ) = some y := by rw [setL_lookup, if_pos rfl]
theorem lv_sn {x a : Str} {y : W} {ρ : Loc} {r : Option W} (h : (x == a) = false) (q : List.lookup x ρ = r) : List.lookup x (setL a y ρ) = r := by rw [setL_lookup, if_neg (ne_of_beq_false h)]; exact q
end
def tqAt (s : String) : Lean.Syntax := .atom .none s
def tqNl (l : Array Lean.Syntax) : Lean.Syntax := .node .none `null l
def tqNd (k : String) (l : Array Lean.Syntax) : Lean.Syntax := .node .none (.str `Lean.Parser.Tactic k) l
def tqNt (k : String) (l : Array Lean.Syntax) : Lean.Syntax := .node .none (.str `Lean.Parser.Term k) l
def tqSq (l : Array Lean.Syntax) : Lean.Syntax := tqNd "tacticSeq" #[tqNd "tacticSeq1Indented" #[tqNl l]]
def tqId (s : String) : Lean.Syntax := (Lean.mkIdent s.toName).raw
def tqAp (r x : Lean.Syntax) : Lean.Syntax := tqNd "withReducible" #[tqAt "with_reducible", tqSq #[tqNd r.getAtomVal #[r, x]]]
def tqHo (c : Char) : Lean.Syntax := tqNt "syntheticHole" #[tqAt "?", if c == '_' then tqAt "_" else tqId ("zq" ++ String.singleton c)]
def tqNo (s : Lean.Syntax) : Lean.Syntax := tqNd "failIfSuccess" #[tqAt "fail_if_success", tqSq #[s]]
def tqTwo (a b : Lean.Syntax) : Lean.Syntax := tqNd "paren" #[tqAt "(", tqSq #[a, tqAt ";", b], tqAt ")"]
def tqPc (ps : Lean.Syntax) (s : String) : Lean.Syntax := ps.getArg (2 * s.toNat!)
def tqRf (r x : String) (l : List Char) : Lean.Syntax := tqAp (tqAt r) (tqNt "app" #[tqId x, tqNl (l.map tqHo).toArray])
def tqCase (ps s : Lean.Syntax) (c : String) : Lean.Syntax :=
  tqTwo s (tqNd "case" #[tqAt "case", tqNl #[tqNd "caseArg" #[.node .none `Lean.binderIdent #[tqId ("zq" ++ (c.take 1).toString)], tqNl #[]]], tqAt "=>", tqSq #[tqPc ps (c.drop 1).toString]])
def tqWord (ps : Lean.Syntax) (w : String) : Lean.Syntax :=
  let ws := w.splitOn " "
  let x := ws.headD ""
  let r := (x.drop 1).toString
  if x.front == '!' then tqPc ps r else
  if x.front == '=' then tqAp (tqAt "exact") (tqId r) else
  if x.front == '?' then tqTwo (tqNo (tqNo (tqRf "refine" (r ++ ".id") ['_']))) (.node .none `PyProof.Rows.tacticWalk_at_ #[tqAt "walk_at ", (Lean.Syntax.mkStrLit r).raw]) else
  if ws.length == 1 then tqRf "refine" x ['_'] else
  (ws.drop 2).foldl (tqCase ps) (tqRf "refine'" x (ws.getD 1 "").toList)
def tqAlt (ps : Lean.Syntax) (w : String) : Lean.Syntax := .node .none `group #[tqAt "|", tqSq #[tqWord ps w]]
local macro_rules | `(tactic| walk_at $gn:str) => do
  let t ← `(tactic| (rfl; (intros; rfl); decide; k_is; boot_by_name; kernel_rfl; trivial; (intros; exact ⟨_, rfl⟩); (first | assumption | kernel_rfl); exact rfl; (first | rfl | assumption); walk_at "look"; walk_at "size"; walk_at "c"; (first | rfl | exact ListW.of rfl | exact ListW.of (by walk_at "look")); (first | rfl | assumption | decide +kernel); exact Nat.le_of_ble_eq_true rfl; exact .inl rfl; exact IntMulOk.of_left (PySem.intBits_le_64 (by decide) (by decide)); (first | assumption | decide | omega); (first | exact Nat.lt_of_lt_of_le (Nat.lt_succ_of_le (Nat.le_of_ble_eq_true rfl)) (show 1000 ≤ 2 ^ 62 by decide) | walk_at "size"); (first | rfl | exact ListW.of rfl | exact ListW.of (by assumption)); (with_reducible refine EE.pair (es := [.Name "code" _, .Attribute _ "notes" _]) ?_); (refine EE.comp ?_); ((with_reducible refine' EE.bound (o := .Name "run" _) (name := "store") ?_ ?a); (case a => intros; rfl)); (refine ES.setComp ?_); (with_reducible refine IT.list rfl IsSrc.fz ?_); ((with_reducible refine' IT.list rfl (IsSrc.tr ?a) ?_); (case a => walk_at "look")); ((with_reducible refine' Exists.intro _ (And.intro ?a (And.intro ?b ?_))); (case a => exact rfl); (case b => exact Nat.le_of_ble_eq_true rfl)); ((with_reducible refine' And.intro ?a (And.intro ?b ?_)); (case a => exact rfl); (case b => exact Nat.le_of_ble_eq_true rfl)); ((with_reducible refine' Exists.intro _ (And.intro ?a ?_)); (case a => exact rfl)); (conv => lhs; whnf); exact valsL (by (repeat intro _); rfl); walk_at "z"; (walk_at "F0"; dsimp only [List.map, List.zip, List.zipWith]); (repeat (walk_at "turn"; try dsimp only [List.cons_append, List.nil_append])); assumption; (first | lia | omega); (simp only [List.length_map, List.length_take, List.length_append, List.length_cons, List.length_nil, List.length_reverse]; (first | lia | omega)); kernel_rfl!; (refine ((?f : ?T → ?T) ?a); (case a => walk_at "lv"); (case f => intro _; kernel_rfl)); walk_at "lv"))
  let g := ((((";EE:EE.cint,EE.cstr,EE.cnone,EE.cbool,EE.bop,EE.bin,EE.un,EE.ife,!22,EE.tup,EE.loc 21_3 139 240 339,EE.cell 21_3 139 240 339,EE.free 21_34 139 20 339 439,EE.globT 2134_5 139 23 33 40 539,EE.glob 21_3 139 23 339,EE.bltn 231_45 139 23 34 42 539,EE.call _12 11 21,EE.meth _12 17 21,EE.comp _abcdefgh a0 b39 c39 d39 e39 f39 g39 h1,EE.cmp _1 10,!24,EE.attr _1 11,EE.idx _1 11,EE.cmp2 _1 11;EEs:EEs.cons _1 11,EEs.nil;ES:ES.try,ES.ret,ES.ite,ES.parS _abcd a0 b0 c0 d1,ES.parN _abcd a0 b0 c0 d1,ES.set _12 139 21,ES.asg _123 11 20 31,ES.aug 123_ 140 239 339,ES.for _1 11,ES.setComp _abcdefghijk a39 b39 c0 d39 e39 f39 g39 h39 i39 j1 k39,ES.setC _12 10 20,ES.exprA _1 11;ESs:ESs.cons,ESs.nil;ET:ET.cmp _1 10,ET.not,ET.bop,ET.val _1 11;EA:EA.and,EA.or,EA.and0,EA.or0;OpT:OpT.bool;Op2:Op2.iaddI,Op2.addI,Op2.eqI,Op2.neI,Op2.ltI,Op2.leI,Op2.gtI,Op2.geI,Op2.addI,Op2.subI,Op2.eqS,Op2.neS,Op2.eqB,Op2.neB,Op2.subB,Op2.inFz,Op2.notInFz,Op2.notInDS 1_ 111,Op2.addL 12_3 114 214 312,Op2.inT 1234_ 117 28 35 45,Op2.mulI 1_ 118,Op2.modI 1_ 119,Op2.divI 12_ 12 20,Op2.isNone 1_ 10,Op2.isNotNone 1_ 10;Op1:Op1.negI,Op1.not;AP:AP.intI,AP.intB,AP.absI,AP.range1,AP.range2,AP.isiStr,AP.isiTup,AP.dictGetS 1_ 111,AP.append 1_2 111 212,AP.popC 12_3 111 20 312,AP.extend 12_3 111 214 312,AP.reverse 1_2 111 212,AP.lenL 1_2 114 220,AP.range3 12_ 12 20,AP.listFz _1 112,AP.fzValues _;GM:GM.append 1_ 111,GM.pop 1_ 111,GM.extend 1_ 111,GM.reverse 1_ 111,GM.getS 1_ 111,GM.inst 12345_ 111 239 313 43 53,GM.fzValues _;GI:GI.dS 12_ 111 20,GI.tup 12_34 10 20 32 42,GI.tup0,GI.list 123_4 121 22 30 42;AS:AS.name _1 139,AS.tup 1_23 10 20 31,AS.attr,AS.sub;ASL:ASL.cons,ASL.nil;EI:EI.enum _1 11,EI.of;IT:IT.tup,!26,!27,IT.fz,IT.fzU;CB:CB.nil 1_2 16 216,CB.plain 12_3 16 20 316,CB.test 12_3 16 20 316;WB:WB.turn;z:EO.and,EO.or,EO.one,Kite.t,Kite.f,cond_t,cond_f,Kite.eqt 1_ 115,Kite.eqf 1_ 115,cond_eq_t 1_ 115,cond_eq_f 1_ 115,Kattr.mk 12345_ 111 20 313 43 510,SI.dI 12_ 111 212,SI.dS 12_ 111 212,KasAttr.mk 1234_ 111 213 33 412,Ktup.mk 12_ 19 216,Klst.mk 12_ 19 216,KnewList.mk 12_ 19 216,KparN.mk 12_ 19 216,Kcbe.mk,Kapm.one,!28,!29,!30,And.intro 1_ 19;turn:?EE,?EEs,?ES,?ESs,?ET,?EA,?OpT,?Op2,?Op1,?AP,?GM,?GI,?AS,?ASL,?EI,?IT,?CB,?WB,!33;F0:FN.introN abcdefghijk_lmnop a3 b31 c31 d31 e3 f32 g2 h0 i0 j0 k2 l0 m17 n0 o0 p0;F:!34;S:!35;lv:=lv_e,lv_n ab a39 b41,=lv_se,lv_sn ab a39 b41,!0;look:=lookup_cons_eq,put_self a a11,look_pn ab a9 b11,look_cn ab a9 b11,!36,!9;size:!16,!37,!38;c:=clsOk_350,=clsOk_428,=clsOk_526,=clsOk_720,=clsOk_776,=clsOk_797,=clsOk_853").splitOn (";" ++ gn.getString ++ ":")).getD 1 "").splitOn ";").headD ""
  if g == "" then throw .unsupportedSyntax
  return tqNd "first" #[tqAt "first", tqNl ((g.splitOn ",").map (tqAlt (((t.raw.getArg 1).getArg 0).getArg 0))).toArray]
section
variable {b : Bas} {n : Nat} {σ : Store} {Q : W → Store → Prop}
theorem fn_kind_of {i : Int} (q : Q (.v (.str "whole")) σ) : FN b (n + 1) (.ref 44) [.v (.int i)] σ Q := by
  walk_at "F"
  walk_at "S"
  exact q
theorem fn_is_nought {i : Int} (q : Q (.v (.bool (i == 0))) σ) : FN b (n + 1) (.ref 107) [.v (.int i)] σ Q := by
  walk_at "F"
  walk_at "S"
  exact q
theorem fn_is_true {i : Int} (q : Q (.v (.bool (!(i == 0)))) σ) : FN b (n + 2) (.ref 114) [.v (.int i)] σ Q := by
  walk_at "F"
  walk_at "S"
  refine AP.fn (by k_is) (fn_is_nought ?_)
  walk_at "S"
  exact q
theorem fn_sign_of {i : Int} (q : Q (.v (.int (b2i (decide (i > 0)) - b2i (decide (i < 0))))) σ) : FN b (n + 1) (.ref 128) [.v (.int i)] σ Q := by
  walk_at "F"
  walk_at "S"
  exact q
theorem fn_is_whole {i : Int} (q : Q (.v (.bool true)) σ) : FN b (n + 1) (.ref 206) [.v (.int i)] σ Q := by
  walk_at "F"
  walk_at "S"
  exact q
theorem fn_truth {t : Bool} (q : Q (.v (.int (cond t (-1) 0))) σ) : FN b (n + 1) (.ref 121) [.v (.bool t)] σ Q := by
  walk_at "F"
  walk_at "S"
  cases t <;> walk_at "S" <;> exact q
theorem fn_fits {i : Int} (h1 : -32768 ≤ i) (h2 : i < 32768) (q : Q (.v (.bool true)) σ) : FN b (n + 1) (.ref 79) [.v (.int i), .v (.int 16)] σ Q := by
  walk_at "F"
  walk_at "S"
  refine Op2.shlI (by decide) (by decide) (by decide) ?_
  walk_at "S"
  rw [decide_eq_true (show -(1 * 2 ^ ((16 : Int) - 1).toNat) ≤ i from by simpa using h1)]
  walk_at "S"
  refine Op2.shlI (by decide) (by decide) (by decide) ?_
  walk_at "S"
  rw [decide_eq_true (show i < 1 * 2 ^ ((16 : Int) - 1).toNat from by simpa using h2)]
  exact q
theorem fn_settled {i : Int} (h1 : -32768 ≤ i) (h2 : i < 32768) (q : Q (.v (.int i)) σ) : FN b (n + 2) (.ref 213) [.v (.int i), .v (.int 16), .v (.int 9)] σ Q := by
  walk_at "F"
  walk_at "S"
  refine AP.fn (by k_is) (fn_fits h1 h2 ?_)
  walk_at "S"
  exact q
theorem fn_whole_reckoned {i j : Int} (h1 : -32768 ≤ i + j) (h2 : i + j < 32768) (q : Q (.v (.int (i + j))) σ) : FN b (n + 3) (.ref 220) [.v (.str "+"), .v (.int i), .v (.int j), .v (.int 16), .v (.int 9)] σ Q := by
  walk_at "F"
  walk_at "S"
  refine AP.fn (by k_is) (fn_settled h1 h2 ?_)
  exact q
theorem fn_order_of {i j : Int} (q : Q (.v (.int (b2i (decide (i > j)) - b2i (decide (i < j))))) σ) : FN b (n + 2) (.ref 276) [.v (.int i), .v (.int j)] σ Q := by
  walk_at "F"
  walk_at "S"
  refine AP.fn (by k_is) (fn_is_whole ?_)
  walk_at "S"
  refine AP.fn (by k_is) (fn_is_whole ?_)
  walk_at "S"
  exact q
theorem fn_compared {o : Int} (q : Q (.v (.int (cond (decide (o < 0)) (-1) 0))) σ) : FN b (n + 2) (.ref 306) [.v (.str "<"), .v (.int o)] σ Q := by
  walk_at "F"
  walk_at "S"
  refine AP.fn (by k_is) (fn_truth ?_)
  walk_at "S"
  have e : (decide (o < 0) == ((("<" : Str)) == ("<" : Str))) = decide (o < 0) := by cases decide (o < 0) <;> rfl
  show Q (.v (.int (cond (decide (o < 0) == ((("<" : Str)) == ("<" : Str))) (-1) 0))) σ
  rw [e]; exact q
theorem fn_reckoned {i j : Int} (h1 : -32768 ≤ i + j) (h2 : i + j < 32768) (q : Q (.v (.int (i + j))) σ) : FN b (n + 4) (.ref 262) [.v (.str "+"), .v (.int i), .v (.int j), .v (.int 16), .v (.int 9)] σ Q := by
  walk_at "F"
  walk_at "S"
  refine AP.fn (by k_is) (fn_is_whole ?_)
  walk_at "S"
  refine AP.fn (by k_is) (fn_is_whole ?_)
  walk_at "S"
  refine AP.fn (by k_is) (fn_whole_reckoned h1 h2 ?_)
  exact q
theorem fn_worth_lt {i j : Int} (q : Q (.v (.int (cond (decide (b2i (decide (i > j)) - b2i (decide (i < j)) < 0)) (-1) 0))) σ) : FN b (n + 5) (.ref 318) [.v (.str "<"), .v (.int i), .v (.int j), .v (.int 16), .v (.int 9)] σ Q := by
  walk_at "F"
  walk_at "S"
  refine AP.fn (by k_is) (fn_kind_of ?_)
  walk_at "S"
  refine AP.fn (by k_is) (fn_kind_of ?_)
  walk_at "S"
  refine AP.fn (by k_is) (fn_order_of ?_)
  walk_at "S"
  refine AP.fn (by k_is) (fn_compared ?_)
  exact q
theorem fn_worth_add {i j : Int} (h1 : -32768 ≤ i + j) (h2 : i + j < 32768) (q : Q (.v (.int (i + j))) σ) : FN b (n + 5) (.ref 318) [.v (.str "+"), .v (.int i), .v (.int j), .v (.int 16), .v (.int 9)] σ Q := by
  walk_at "F"
  walk_at "S"
  refine AP.fn (by k_is) (fn_kind_of ?_)
  walk_at "S"
  refine AP.fn (by k_is) (fn_kind_of ?_)
  walk_at "S"
  refine AP.fn (by k_is) (fn_reckoned h1 h2 ?_)
  exact q
theorem fn_leaf {i : Int} (h1 : -32768 ≤ i) (h2 : i < 32768) (q : Q (.v (.int i)) σ) : FN b (n + 2) (.ref 332) [.v (.tup [.str "whole", .int i]), .v (.int 16), .v (.int 9)] σ Q := by
  walk_at "F"
  walk_at "S"
  refine AP.fn (by k_is) (fn_fits h1 h2 ?_)
  walk_at "S"
  exact q
theorem fn_leaf_order {i : Int} (h1 : -32768 ≤ i) (h2 : i < 32768) (q : Q (.v (.tup [.str "PUSH", .int i])) σ) : FN b (n + 3) (.ref 361) [.v (.tup [.str "whole", .int i]), .v (.int 16), .v (.int 9)] σ Q := by
  walk_at "F"
  walk_at "S"
  refine AP.fn (by k_is) (fn_leaf h1 h2 ?_)
  walk_at "S"
  exact q
end
section
variable {b : Bas} {n : Nat} {σ : Store} {Q : W → Store → Prop}
noncomputable abbrev tX : V := .tup [.str "name", .str "X"]
noncomputable abbrev tW (i : Int) : V := .tup [.str "whole", .int i]
noncomputable abbrev tTwo (op : Str) (i : Int) : V := .tup [.str "two", .str op, tX, tW i]
theorem fn_expr_two {op : Str} {i : Int} (h1 : -32768 ≤ i) (h2 : i < 32768) (q : ∀ p p', Q (.ref 60 p) ((61, p', .list []) :: (60, p, .list [.tup [.str "VAR", .str "X"], .tup [.str "PUSH", .int i], .tup [.str "TWO", .str op]]) :: σ)) : FN b (n + 4) (.ref 368) [.v (tTwo op i), .v (.int 16), .v (.int 9)] σ Q := by
  walk_at "F"
  walk_at "S"
  refine EE.newList 60 ?_
  walk_at "S"
  intro p
  walk_at "S"
  refine EE.newList 61 ?_
  walk_at "S"
  intro p'
  walk_at "S"
  refine ES.whileU 10 ?_
  walk_at "S"
  refine EE.lst ?_
  walk_at "S"
  refine AP.fn (by k_is) (fn_leaf_order h1 h2 ?_)
  walk_at "S"
  exact q p p'
end
section
variable {b : Bas} {n : Nat} {σ : Store} {Q : W → Store → Prop}
theorem Sub.drop2 {σ : Store} (h : Temps σ) {j k : Nat} (hj : 60 ≤ j) (hk : 60 ≤ k) (e e' : Nat × O) : Sub σ ((j, e) :: (k, e') :: σ) := (Sub.refl.skip (h k hk)).skip (h j hj)
theorem fn_target {i : Int} (ht : Temps σ) (h1 : -32768 ≤ i) (h2 : i < 32768) (q : Q (.v (.lst [.tup [.str "VAR", .str "X"], .tup [.str "PUSH", .int i], .tup [.str "TWO", .str "+"], .tup [.str "STORE", .str "X"]])) σ) : FN b (n + 5) (.ref 375) [.v tX, .v (tTwo "+" i), .v (.int 16), .v (.int 9)] σ Q := by
  refine FN.sub ?_
  walk_at "F"
  walk_at "S"
  refine AP.fn (by k_is) (fn_expr_two h1 h2 ?_)
  intro p p'
  walk_at "S"
  refine EE.lst ?_
  walk_at "S"
  exact ⟨_, Sub.drop2 ht (by decide) (by decide) _ _, q⟩
end
section
variable {b : Bas} {n : Nat} {σ : Store} {Q : W → Store → Prop}
noncomputable abbrev flatF (b : Bas) (rows : List V) (places pairs loops : List (Int × V)) : List (Str × W) := [("rows", .v (.lst rows)), ("places", fzD b places), ("data", .v (.lst [])), ("pairs", fzD b pairs), ("loops", fzD b loops), ("fns", fzD b [])]
structure FlatAt (b : Bas) (σ : Store) (p2 : Nat) (rows : List V) (places pairs loops : List (Int × V)) : Prop where
  len : rows.length ≤ 1000
  at' : σ.lookup 2 = some (p2, .inst 428 (flatF b rows places pairs loops))
variable {p2 : Nat} {rows : List V} {places pairs loops : List (Int × V)} {at' : Nat} {line : Int}
theorem GI.nat {x : W} {l : List V} {k : Nat} {y : V} (e : ListW σ x = some l) (hx : l[k]? = some y) (q : Q (.v y) σ) (hz : l.length ≤ 1000) : GI b n x (.v (.int ((k : Nat) : Int))) σ Q := by
  have hk : k < l.length := (List.getElem?_eq_some_iff.mp hx).1
  exact GI.list e (Int.natCast_nonneg k) (by simpa using hx) q (by lia)
theorem fn_row_rem {t : Str} (hf : FlatAt b σ p2 rows places pairs loops) (hr : rows[at']? = some (.tup [.int line, .tup [.str "REM", .str t]])) (q : Q (.v (.lst [.tup [.str "ROW", .int at']])) σ) : FN b (n + 6) (.ref 382) [.ref 2 p2, .v (.int at'), .v (.int 16), .v (.int 9)] σ Q := by
  obtain ⟨hz, f2⟩ := hf
  walk_at "F"
  walk_at "S"
  refine GI.nat rfl hr ?_ hz
  walk_at "S"
  refine EE.lst ?_
  walk_at "S"
  exact q
theorem fn_row_let {i : Int} (ht : Temps σ) (h1 : -32768 ≤ i) (h2 : i < 32768) (hf : FlatAt b σ p2 rows places pairs loops) (hr : rows[at']? = some (.tup [.int line, .tup [.str "LET", tX, tTwo "+" i]]))
    (q : Q (.v (.lst [.tup [.str "ROW", .int at'], .tup [.str "VAR", .str "X"], .tup [.str "PUSH", .int i], .tup [.str "TWO", .str "+"], .tup [.str "STORE", .str "X"]])) σ) : FN b (n + 6) (.ref 382) [.ref 2 p2, .v (.int at'), .v (.int 16), .v (.int 9)] σ Q := by
  obtain ⟨hz, f2⟩ := hf
  walk_at "F"
  walk_at "S"
  refine GI.nat rfl hr ?_ hz
  walk_at "S"
  refine EE.lst ?_
  walk_at "S"
  refine AP.fn (by k_is) (fn_target ht h1 h2 ?_)
  walk_at "S"
  exact q
theorem fn_row_ifnot {i g : Int} (ht : Temps σ) (h1 : -32768 ≤ i) (h2 : i < 32768) (hf : FlatAt b σ p2 rows places pairs loops) (hr : rows[at']? = some (.tup [.int line, .tup [.str "IFNOT", tTwo "<" i, .int g]]))
    (q : Q (.v (.lst [.tup [.str "ROW", .int at'], .tup [.str "VAR", .str "X"], .tup [.str "PUSH", .int i], .tup [.str "TWO", .str "<"], .tup [.str "FALSE", .int g]])) σ) : FN b (n + 6) (.ref 382) [.ref 2 p2, .v (.int at'), .v (.int 16), .v (.int 9)] σ Q := by
  obtain ⟨hz, f2⟩ := hf
  refine FN.sub ?_
  walk_at "F"
  walk_at "S"
  refine GI.nat rfl hr ?_ hz
  walk_at "S"
  refine EE.lst ?_
  walk_at "S"
  refine AP.fn (by k_is) (fn_expr_two h1 h2 ?_)
  intro p p'
  walk_at "S"
  refine EE.lst ?_
  walk_at "S"
  exact ⟨_, Sub.drop2 ht (by decide) (by decide) _ _, q⟩
theorem fn_row_jump {g : Int} (hf : FlatAt b σ p2 rows places pairs loops) (hr : rows[at']? = some (.tup [.int line, .tup [.str "JUMP", .int g]])) (q : Q (.v (.lst [.tup [.str "GO", .int g]])) σ) : FN b (n + 6) (.ref 382) [.ref 2 p2, .v (.int at'), .v (.int 16), .v (.int 9)] σ Q := by
  obtain ⟨hz, f2⟩ := hf
  walk_at "F"
  walk_at "S"
  refine GI.nat rfl hr ?_ hz
  walk_at "S"
  refine EE.lst ?_
  walk_at "S"
  exact q
theorem fn_row_goto {g r : Int} (hf : FlatAt b σ p2 rows places pairs loops) (hr : rows[at']? = some (.tup [.int line, .tup [.str "GOTO", .int g]])) (hg : dget g places = some (.int r)) (q : Q (.v (.lst [.tup [.str "ROW", .int at'], .tup [.str "GO", .int r]])) σ) : FN b (n + 6) (.ref 382) [.ref 2 p2, .v (.int at'), .v (.int 16), .v (.int 9)] σ Q := by
  obtain ⟨hz, f2⟩ := hf
  walk_at "F"
  walk_at "S"
  refine GI.nat rfl hr ?_ hz
  walk_at "S"
  rw [hg]
  walk_at "S"
  refine EE.lst ?_
  walk_at "S"
  refine GI.fz hg ?_
  walk_at "S"
  exact q
theorem fn_row_for {a1 a2 a3 a4 : V} (hf : FlatAt b σ p2 rows places pairs loops) (hr : rows[at']? = some (.tup [.int line, .tup [.str "FOR", a1, a2, a3, a4]])) (q : Q (.v (.lst [.tup [.str "DO", .int at']])) σ) : FN b (n + 6) (.ref 382) [.ref 2 p2, .v (.int at'), .v (.int 16), .v (.int 9)] σ Q := by
  obtain ⟨hz, f2⟩ := hf
  walk_at "F"
  walk_at "S"
  refine GI.nat rfl hr ?_ hz
  walk_at "S"
  refine EE.lst ?_
  walk_at "S"
  exact q
theorem fn_row_next {a1 a2 a3 a4 : V} (hf : FlatAt b σ p2 rows places pairs loops) (hr : rows[at']? = some (.tup [.int line, .tup [.str "NEXT", a1]])) (q : Q (.v (.lst [.tup [.str "DO", .int at']])) σ) : FN b (n + 6) (.ref 382) [.ref 2 p2, .v (.int at'), .v (.int 16), .v (.int 9)] σ Q := by
  obtain ⟨hz, f2⟩ := hf
  walk_at "F"
  walk_at "S"
  refine GI.nat rfl hr ?_ hz
  walk_at "S"
  refine EE.lst ?_
  walk_at "S"
  exact q
theorem fn_row_while {a1 a2 a3 a4 : V} (hf : FlatAt b σ p2 rows places pairs loops) (hr : rows[at']? = some (.tup [.int line, .tup [.str "WHILE", a1]])) (q : Q (.v (.lst [.tup [.str "DO", .int at']])) σ) : FN b (n + 6) (.ref 382) [.ref 2 p2, .v (.int at'), .v (.int 16), .v (.int 9)] σ Q := by
  obtain ⟨hz, f2⟩ := hf
  walk_at "F"
  walk_at "S"
  refine GI.nat rfl hr ?_ hz
  walk_at "S"
  refine EE.lst ?_
  walk_at "S"
  exact q
theorem fn_row_wend {a1 a2 a3 a4 : V} (hf : FlatAt b σ p2 rows places pairs loops) (hr : rows[at']? = some (.tup [.int line, .tup [.str "WEND"]])) (q : Q (.v (.lst [.tup [.str "DO", .int at']])) σ) : FN b (n + 6) (.ref 382) [.ref 2 p2, .v (.int at'), .v (.int 16), .v (.int 9)] σ Q := by
  obtain ⟨hz, f2⟩ := hf
  walk_at "F"
  walk_at "S"
  refine GI.nat rfl hr ?_ hz
  walk_at "S"
  refine EE.lst ?_
  walk_at "S"
  exact q
theorem fn_row_gosub {a1 a2 a3 a4 : V} (hf : FlatAt b σ p2 rows places pairs loops) (hr : rows[at']? = some (.tup [.int line, .tup [.str "GOSUB", a1]])) (q : Q (.v (.lst [.tup [.str "DO", .int at']])) σ) : FN b (n + 6) (.ref 382) [.ref 2 p2, .v (.int at'), .v (.int 16), .v (.int 9)] σ Q := by
  obtain ⟨hz, f2⟩ := hf
  walk_at "F"
  walk_at "S"
  refine GI.nat rfl hr ?_ hz
  walk_at "S"
  refine EE.lst ?_
  walk_at "S"
  exact q
theorem fn_row_return {a1 a2 a3 a4 : V} (hf : FlatAt b σ p2 rows places pairs loops) (hr : rows[at']? = some (.tup [.int line, .tup [.str "RETURN", a1]])) (q : Q (.v (.lst [.tup [.str "DO", .int at']])) σ) : FN b (n + 6) (.ref 382) [.ref 2 p2, .v (.int at'), .v (.int 16), .v (.int 9)] σ Q := by
  obtain ⟨hz, f2⟩ := hf
  walk_at "F"
  walk_at "S"
  refine GI.nat rfl hr ?_ hz
  walk_at "S"
  refine EE.lst ?_
  walk_at "S"
  exact q
theorem fn_row_end {a1 a2 a3 a4 : V} (hf : FlatAt b σ p2 rows places pairs loops) (hr : rows[at']? = some (.tup [.int line, .tup [.str "END"]])) (q : Q (.v (.lst [.tup [.str "DO", .int at']])) σ) : FN b (n + 6) (.ref 382) [.ref 2 p2, .v (.int at'), .v (.int 16), .v (.int 9)] σ Q := by
  obtain ⟨hz, f2⟩ := hf
  walk_at "F"
  walk_at "S"
  refine GI.nat rfl hr ?_ hz
  walk_at "S"
  refine EE.lst ?_
  walk_at "S"
  exact q
end
section
variable {b : Bas} {n : Nat} {σ : Store} {Q : W → Store → Prop}
def OrdOk (m : Nat) (o : V) : Prop := ∃ w r, o = .tup (.str w :: r) ∧ ((w = "GO" ∨ w = "FALSE") → ∃ g : Nat, r = [.int g] ∧ g < m)
noncomputable def isGoal (w : Str) : Bool := w == ("GO" : Str) || w == ("FALSE" : Str)
noncomputable def ledF (starts : List V) (e : V) : V → V
  | .tup [.str w, .int g] => if isGoal w then .tup [.str w, (starts[g.toNat]?).getD e] else .tup [.str w, .int g]
  | o => o
theorem ledF_oth {starts : List V} {e : V} {w : Str} {r : List V} (h : isGoal w = false) : ledF starts e (.tup (.str w :: r)) = .tup (.str w :: r) := by
  unfold ledF
  split
  · rename_i w' g hh
    injection hh with hh
    injection hh with h1 h2
    injection h1 with h1
    subst h1; subst h2
    rw [if_neg (by rw [h]; exact Bool.false_ne_true)]
  · rfl
theorem put_head {k p : Nat} {o o' : O} {σ : Store} : put k o' ((k, p, o) :: σ) = (k, p, o') :: σ := if_pos rfl
theorem FlatAt.cons {k p2 : Nat} {e : Nat × O} {rows : List V} {places pairs loops : List (Int × V)} (h : FlatAt b σ p2 rows places pairs loops) (hk : 2 ≠ k) : FlatAt b ((k, e) :: σ) p2 rows places pairs loops := ⟨h.len, (lookup_cons_ne hk).trans h.at'⟩
theorem fn_led_to {os starts : List V} {e : Nat} {m p20 p21 : Nat} (k20 : σ.lookup 20 = some (p20, .list os)) (k21 : σ.lookup 21 = some (p21, .list starts)) (ho : ∀ o ∈ os, OrdOk m o) (hs : starts.length ≤ 1000) (hl : os.length ≤ 100000) (q : ∀ p, Q (.ref 60 p) ((60, p, .list (os.map (ledF starts (.int e)))) :: σ)) : FN b (n + 1) (.ref 389) [.ref 20 p20, .ref 21 p21, .v (.int e)] σ Q := by
  walk_at "F"
  walk_at "S"
  refine EE.newList 60 ?_
  walk_at "S"
  intro p
  walk_at "S"
  refine FB.invL (fun _ => _) (fun i s => s = (60, p, .list ((os.take i).map (ledF starts (.int e)))) :: σ) os (fun i x s hx hI => ?_) (fun s hI => ?_) rfl
  · subst hI
    have hi := (List.getElem?_eq_some_iff.mp hx).1
    refine ex2_2 (ho x (List.mem_of_getElem? hx)) fun w r zz1 hg => ?_
    subst zz1
    have ht : os.take (i + 1) = os.take i ++ [.tup (.str w :: r)] := by rw [List.take_add_one, hx]; rfl
    refine ⟨(lookup_cons_ne (by decide)).trans k20, ?_⟩
    have go : ∀ g : Nat, r = [.int g] → isGoal w = true → os.map (ledF starts (.int e)) = os.map (ledF starts (.int e)) → (os.take (i + 1)).map (ledF starts (.int e)) = (os.take i).map (ledF starts (.int e)) ++ [.tup [.str w, (starts[g]?).getD (.int e)]] := fun g hr hw _ => by
      subst hr
      rw [ht, List.map_append, List.map_singleton]
      show _ ++ [if isGoal w then _ else _] = _
      rw [if_pos hw]; rfl
    by_cases h1 : w = "GO" ∨ w = "FALSE"
    · refine ex1_2 (hg h1) fun g zz2 hg => ?_
      subst zz2
      have hw : isGoal w = true := by rcases h1 with rfl | rfl <;> rfl
      have go := go g rfl hw rfl
      rcases Nat.lt_or_ge g starts.length with hlt | hge
      · have hd : decide (((g : Nat) : Int) < (starts.length : Int)) = true := decide_eq_true (by lia)
        rw [List.getElem?_eq_getElem hlt] at go
        rcases h1 with rfl | rfl <;> (walk_at "S"; refine GI.nat (ListW.of ((lookup_cons_ne (by decide)).trans k21)) (List.getElem?_eq_getElem hlt) ?_ hs; walk_at "S"; refine ⟨LSub.refl.set.set, ?_⟩; rw [put_head, go]; rfl)
      · have hd : decide (((g : Nat) : Int) < (starts.length : Int)) = false := decide_eq_false (by lia)
        rw [List.getElem?_eq_none hge] at go
        rcases h1 with rfl | rfl <;> (walk_at "S"; refine ⟨LSub.refl.set.set, ?_⟩; rw [put_head, go]; rfl)
    · have hw1 : (w == ("GO" : Str)) = false := beq_eq_false_iff_ne.mpr fun q => h1 (.inl q)
      have hw2 : (w == ("FALSE" : Str)) = false := beq_eq_false_iff_ne.mpr fun q => h1 (.inr q)
      walk_at "S"
      refine ⟨LSub.refl.set, ?_⟩
      rw [put_head, ht, List.map_append, List.map_singleton, ledF_oth (by rw [isGoal, hw1, hw2]; rfl)]
  · subst hI
    rw [List.take_length]
    walk_at "S"
    refine ⟨(lookup_cons_ne (by decide)).trans k20, ?_⟩
    walk_at "S"
    exact q p
end
section
variable {b : Bas} {n : Nat} {σ : Store} {Q : W → Store → Prop}
inductive R where
  | rem (t : Str)
  | lt
  | ifn (c : Int) (g : Nat)
  | jmp (g : Nat)
  | goto (g : Int)
  | forr (l : Int)
  | next
  | whil (c : Int)
  | wend
  | gosub
  | ret
  | endd
noncomputable abbrev tFor (l : Int) : V := .tup [.str "FOR", .str "I", tW 1, tW l, .none]
noncomputable def R.v : R → V
  | .rem t => .tup [.str "REM", .str t]
  | .lt => .tup [.str "LET", tX, tTwo "+" 1]
  | .ifn c g => .tup [.str "IFNOT", tTwo "<" c, .int g]
  | .jmp g => .tup [.str "JUMP", .int g]
  | .goto g => .tup [.str "GOTO", .int g]
  | .forr l => tFor l
  | .next => .tup [.str "NEXT", .lst [.str "I"]]
  | .whil c => .tup [.str "WHILE", tTwo "<" c]
  | .wend => .tup [.str "WEND"]
  | .gosub => .tup [.str "GOSUB", .int 9000]
  | .ret => .tup [.str "RETURN", .none]
  | .endd => .tup [.str "END"]
noncomputable abbrev Row := Int × R
noncomputable def rowV (x : Row) : V := .tup [.int x.1, x.2.v]
inductive Od where
  | row (a : Nat)
  | doo (a : Nat)
  | go (g : Nat)
  | fls (g : Nat)
  | var
  | push (i : Int)
  | add
  | lss
  | store
  | endd
noncomputable def Od.v : Od → V
  | .row a => .tup [.str "ROW", .int a]
  | .doo a => .tup [.str "DO", .int a]
  | .go g => .tup [.str "GO", .int g]
  | .fls g => .tup [.str "FALSE", .int g]
  | .var => .tup [.str "VAR", .str "X"]
  | .push i => .tup [.str "PUSH", .int i]
  | .add => .tup [.str "TWO", .str "+"]
  | .lss => .tup [.str "TWO", .str "<"]
  | .store => .tup [.str "STORE", .str "X"]
  | .endd => .tup [.str "END"]
noncomputable def placeF (places : List (Int × V)) (g : Int) : Nat := match dget g places with
  | some (.int r) => r.toNat
  | _ => 0
noncomputable def ordsOf (pl : Int → Nat) (a : Nat) : R → List Od
  | .rem _ => [.row a]
  | .lt => [.row a, .var, .push 1, .add, .store]
  | .ifn c g => [.row a, .var, .push c, .lss, .fls g]
  | .jmp g => [.go g]
  | .goto g => [.row a, .go (pl g)]
  | _ => [.doo a]
def RowOk (places : List (Int × V)) : R → Prop
  | .ifn c _ => -32768 ≤ c ∧ c < 32768
  | .goto g => ∃ r : Nat, dget g places = some (.int r)
  | _ => True
variable {p2 : Nat} {places pairs loops : List (Int × V)} {at' : Nat}
theorem fn_row {rows : List Row} {r : Row} (ht : Temps σ) (hf : FlatAt b σ p2 (rows.map rowV) places pairs loops) (hr : rows[at']? = some r) (ok : RowOk places r.2)
    (q : Q (.v (.lst ((ordsOf (placeF places) at' r.2).map Od.v))) σ) : FN b (n + 6) (.ref 382) [.ref 2 p2, .v (.int at'), .v (.int 16), .v (.int 9)] σ Q := by
  have hr' : (rows.map rowV)[at']? = some (rowV r) := by rw [List.getElem?_map, hr]; rfl
  obtain ⟨l, r⟩ := r
  cases r with
  | rem t => exact fn_row_rem hf hr' q
  | lt => exact fn_row_let ht (by decide) (by decide) hf hr' q
  | ifn c g => exact fn_row_ifnot ht ok.1 ok.2 hf hr' q
  | jmp g => exact fn_row_jump hf hr' q
  | goto g =>
    refine ex1_1 (ok) fun r e => ?_
    refine fn_row_goto hf hr' e ?_
    have : placeF places g = r := by unfold placeF; rw [e]; rfl
    simp only [ordsOf, this] at q
    exact q
  | forr l => exact fn_row_for hf hr' q
  | next => exact fn_row_next (a2 := .none) (a3 := .none) (a4 := .none) hf hr' q
  | whil c => exact fn_row_while (a2 := .none) (a3 := .none) (a4 := .none) hf hr' q
  | wend => exact fn_row_wend (a1 := .none) (a2 := .none) (a3 := .none) (a4 := .none) hf hr' q
  | gosub => exact fn_row_gosub (a2 := .none) (a3 := .none) (a4 := .none) hf hr' q
  | ret => exact fn_row_return (a2 := .none) (a3 := .none) (a4 := .none) hf hr' q
  | endd => exact fn_row_end (a1 := .none) (a2 := .none) (a3 := .none) (a4 := .none) hf hr' q
theorem fn_RowCode {k p : Nat} {x y : W} (q : Q (.v .none) ((k, p, .inst 350 [("orders", x), ("starts", y)]) :: σ)) : FN b (n + 1) (.ref 347) [.ref k p, x, y] ((k, p, .inst 350 []) :: σ) Q := by
  walk_at "F"
  walk_at "S"
  rw [put_head, put_head]; exact q
noncomputable def ords (pl : Int → Nat) : Nat → List Row → List Od
  | _, [] => []
  | a, r :: l => ordsOf pl a r.2 ++ ords pl (a + 1) l
noncomputable def strt (pl : Int → Nat) : Nat → Nat → List Row → List Nat
  | _, _, [] => []
  | a, m, r :: l => m :: strt pl (a + 1) (m + (ordsOf pl a r.2).length) l
theorem ords_one {pl : Int → Nat} {a : Nat} {r : Row} : ords pl a [r] = ordsOf pl a r.2 := List.append_nil _
theorem strt_one {pl : Int → Nat} {a m : Nat} {r : Row} : strt pl a m [r] = [m] := rfl
theorem ords_append {pl : Int → Nat} : ∀ (l l' : List Row) (a : Nat), ords pl a (l ++ l') = ords pl a l ++ ords pl (a + l.length) l'
  | [], l', a => rfl
  | r :: l, l', a => by
    rw [List.cons_append]
    show _ ++ ords pl (a + 1) (l ++ l') = (_ ++ _) ++ _
    rw [ords_append l l' (a + 1), List.append_assoc, List.length_cons, show a + 1 + l.length = a + (l.length + 1) by lia]
theorem strt_append {pl : Int → Nat} : ∀ (l l' : List Row) (a m : Nat), strt pl a m (l ++ l') = strt pl a m l ++ strt pl (a + l.length) (m + (ords pl a l).length) l'
  | [], l', a, m => rfl
  | r :: l, l', a, m => by
    rw [List.cons_append]
    show _ :: strt pl (a + 1) _ (l ++ l') = (_ :: _) ++ _
    rw [strt_append l l' (a + 1), List.cons_append, List.length_cons, show a + 1 + l.length = a + (l.length + 1) by lia]
    show _ = _ :: (_ ++ strt pl _ (m + (ordsOf pl a r.2 ++ ords pl (a + 1) l).length) l')
    rw [List.length_append, Nat.add_assoc]
theorem ordsOf_length {pl : Int → Nat} {a : Nat} {r : R} : (ordsOf pl a r).length ≤ 5 := by cases r <;> simp [ordsOf]
theorem ords_length {pl : Int → Nat} : ∀ (l : List Row) (a : Nat), (ords pl a l).length ≤ 5 * l.length
  | [], a => Nat.zero_le _
  | r :: l, a => by
    show (ordsOf pl a r.2 ++ ords pl (a + 1) l).length ≤ _
    rw [List.length_append, List.length_cons]
    have := ords_length (pl := pl) l (a + 1)
    have := ordsOf_length (pl := pl) (a := a) (r := r.2)
    lia
theorem strt_length {pl : Int → Nat} : ∀ (l : List Row) (a m : Nat), (strt pl a m l).length = l.length
  | [], _, _ => rfl
  | r :: l, a, m => congrArg (· + 1) (strt_length l _ _)
end
section
variable {b : Bas} {n : Nat} {σ : Store} {Q : W → Store → Prop}
noncomputable def ledO (st : List Nat) (e : Nat) : Od → Od
  | .go g => .go ((st[g]?).getD e)
  | .fls g => .fls ((st[g]?).getD e)
  | o => o
noncomputable def cOrds (pl : Int → Nat) (rows : List Row) : List Od := (ords pl 0 rows).map (ledO (strt pl 0 0 rows) (ords pl 0 rows).length) ++ [.endd]
noncomputable abbrev nV (k : Nat) : V := .int k
theorem ledF_od (st : List Nat) (e : Nat) (o : Od) : ledF (st.map nV) (.int e) o.v = (ledO st e o).v := by
  cases o with
  | go g =>
    show (if isGoal "GO" then V.tup [.str "GO", ((st.map nV)[g]?).getD (.int e)] else V.tup [.str "GO", .int g]) = _
    rw [if_pos (show isGoal "GO" = true from rfl), List.getElem?_map]
    show _ = V.tup [.str "GO", .int (((st[g]?).getD e : Nat) : Int)]
    cases st[g]? <;> rfl
  | fls g =>
    show (if isGoal "FALSE" then V.tup [.str "FALSE", ((st.map nV)[g]?).getD (.int e)] else V.tup [.str "FALSE", .int g]) = _
    rw [if_pos (show isGoal "FALSE" = true from rfl), List.getElem?_map]
    show _ = V.tup [.str "FALSE", .int (((st[g]?).getD e : Nat) : Int)]
    cases st[g]? <;> rfl
  | row a => exact ledF_oth rfl
  | doo a => exact ledF_oth rfl
  | push a => exact ledF_oth rfl
  | _ => rfl
noncomputable def Od.goal : Od → Option Nat
  | .go g => some g
  | .fls g => some g
  | _ => none
theorem Od.ok {m : Nat} (o : Od) (h : ∀ g, o.goal = some g → g < m) : OrdOk m o.v := by
  cases o with
  | go g => exact ⟨"GO", _, rfl, fun _ => ⟨g, rfl, h g rfl⟩⟩
  | fls g => exact ⟨"FALSE", _, rfl, fun _ => ⟨g, rfl, h g rfl⟩⟩
  | row a => exact ⟨"ROW", _, rfl, fun h => by rcases h with h | h <;> cases h⟩
  | doo a => exact ⟨"DO", _, rfl, fun h => by rcases h with h | h <;> cases h⟩
  | var => exact ⟨"VAR", _, rfl, fun h => by rcases h with h | h <;> cases h⟩
  | push a => exact ⟨"PUSH", _, rfl, fun h => by rcases h with h | h <;> cases h⟩
  | add => exact ⟨"TWO", _, rfl, fun h => by rcases h with h | h <;> cases h⟩
  | lss => exact ⟨"TWO", _, rfl, fun h => by rcases h with h | h <;> cases h⟩
  | store => exact ⟨"STORE", _, rfl, fun h => by rcases h with h | h <;> cases h⟩
  | endd => exact ⟨"END", _, rfl, fun h => by rcases h with h | h <;> cases h⟩
theorem Od.goal_bound (l : List Od) : ∃ m : Nat, ∀ o ∈ l, ∀ g, o.goal = some g → g < m := by
  induction l with
  | nil => exact ⟨0, fun _ h => nomatch h⟩
  | cons o l ih =>
    refine ex1_1 (ih) fun m hm => ?_
    cases h : o.goal with
    | none => exact ⟨m, fun o' h' g e => by
        rcases List.mem_cons.mp h' with rfl | h'
        · rw [h] at e; cases e
        · exact hm o' h' g e⟩
    | some g0 => exact ⟨max m (g0 + 1), fun o' h' g e => by
        rcases List.mem_cons.mp h' with rfl | h'
        · rw [h] at e; cases e; lia
        · have := hm o' h' g e; lia⟩
theorem IT.rangeN {x : Str} {p : Pos} {hi : Int} {m : Nat} {Q : List V → (Store → Prop) → Store → Prop} (hm : hi = (m : Int)) (hz : m ≤ 1000000) (q : Q ((List.range m).map nV) (fun _ => True) σ) : IT b n (.Name x p) (rangeW 0 hi 1) σ Q := by
  subst hm
  refine IT.range (m := m) (small_one (by lia) (by lia) (by lia) (by lia)) ?_ ?_
  · have := rangeSize_nat 0 (m : Int)
    rw [this]; lia
  · have e : rangeV 0 1 m = (List.range m).map nV := by
      unfold rangeV
      refine List.map_congr_left fun i _ => ?_
      show V.int _ = V.int _
      congr 1; lia
    rw [e]; exact q
variable {p2 : Nat} {places pairs loops : List (Int × V)}
theorem fn_compile {rows : List Row} (ht : Temps σ) (h20 : σ.lookup 20 = none) (h21 : σ.lookup 21 = none) (h22 : σ.lookup 22 = none) (hf : FlatAt b σ p2 (rows.map rowV) places pairs loops) (ok : ∀ r ∈ rows, RowOk places r.2)
    (q : ∀ p, Q (.ref 22 p) ((22, p, .inst 350 [("orders", .v (.lst ((cOrds (placeF places) rows).map Od.v))), ("starts", .v (.lst ((strt (placeF places) 0 0 rows).map nV)))]) :: σ)) : FN b (n + 7) (.ref 396) [.ref 2 p2, .v (.int 16), .v (.int 9)] σ Q := by
  refine FN.fz h22 ?_
  have hz : rows.length ≤ 1000 := by have := hf.len; rwa [List.length_map] at this
  have f2 := hf.at'
  walk_at "F"
  walk_at "S"
  refine EE.newList 20 ?_
  walk_at "S"
  intro p20
  walk_at "S"
  refine EE.newList 21 ?_
  walk_at "S"
  intro p21
  walk_at "S"
  refine IT.rangeN (m := rows.length) (by rw [List.length_map]) (by lia) ?_
  have hpl : ∀ i r, rows[i]? = some r → rows.take (i + 1) = rows.take i ++ [r] := fun i r e => by rw [List.take_add_one, e]; rfl
  refine FB.invL (fun _ => _) (fun i s => s = (21, p21, .list ((strt (placeF places) 0 0 (rows.take i)).map nV)) :: (20, p20, .list ((ords (placeF places) 0 (rows.take i)).map Od.v)) :: σ) _ (fun i x s hx hI => ?_) (fun s hI => ?_) rfl
  · subst hI
    have hi : i < rows.length := by have := (List.getElem?_eq_some_iff.mp hx).1; simpa using this
    obtain ⟨r, hr⟩ : ∃ r, rows[i]? = some r := ⟨_, List.getElem?_eq_getElem hi⟩
    rw [List.getElem?_map, List.getElem?_range hi] at hx
    cases hx
    have l1 : ((ords (placeF places) 0 (rows.take i)).map Od.v).length ≤ 5000 := by
      have := ords_length (pl := placeF places) (rows.take i) 0
      rw [List.length_map]; rw [List.length_take] at this; lia
    have l2 : ((strt (placeF places) 0 0 (rows.take i)).map nV).length ≤ 1000 := by
      rw [List.length_map, strt_length, List.length_take]; lia
    refine ⟨trivial, ?_⟩
    walk_at "S"
    rw [put_head]
    refine AP.fn (by k_is) (fn_row (at' := i) ((ht.cons (by decide)).cons (by decide)) ((hf.cons (by decide)).cons (by decide)) hr (ok r (List.mem_of_getElem? hr)) ?_)
    have l3 : ((ordsOf (placeF places) i r.2).map Od.v).length ≤ 5 := by rw [List.length_map]; exact ordsOf_length
    walk_at "S"
    rw [put_cons (by decide), put_head]
    refine ⟨LSub.refl.set, ?_⟩
    have li : (rows.take i).length = i := by rw [List.length_take]; lia
    rw [hpl i r hr, ords_append, strt_append, li, Nat.zero_add, Nat.zero_add]
    simp only [ords_one, strt_one, List.append_nil, List.map_append, List.map_cons, List.map_nil, List.length_map]
  · subst hI
    rw [List.length_map, List.length_range, List.take_length]
    have l1 : (ords (placeF places) 0 rows).length ≤ 5000 := by
      have := ords_length (pl := placeF places) rows 0
      lia
    have l2 : (strt (placeF places) 0 0 rows).length ≤ 1000 := by
      rw [strt_length]; lia
    refine ⟨trivial, ?_⟩
    walk_at "S"
    refine ex1_1 (Od.goal_bound (ords (placeF places) 0 rows)) fun m hm => ?_
    refine AP.fn (by k_is) (fn_led_to (m := m) ((lookup_cons_ne (by decide)).trans lookup_cons_eq) lookup_cons_eq (fun o ho => ?_) (by rwa [List.length_map]) (by rw [List.length_map]; lia) fun p60 => ?_)
    · refine ex1_2 (List.mem_map.mp ho) fun od h1 zz1 => ?_
      subst zz1
      exact od.ok (hm od h1)
    walk_at "S"
    refine EE.lst ?_
    walk_at "S"
    refine AP.new 22 (by k_is) (by k_is) (by k_is) (by k_is) fun p22 => fn_RowCode ⟨rfl, ?_⟩
    walk_at "S"
    refine ⟨p22, 350, _, rfl, lookup_cons_eq, (((Ext.refl.cons h20).cons h21).cons (ht 60 (by decide))).cons h22, ?_⟩
    have e1 : fzW b σ ((22, p22, O.inst 350 [("orders", .v (.lst ((cOrds (placeF places) rows).map Od.v))), ("starts", .ref 21 p21)]) :: (60, p60, O.list (List.map (ledF (List.map nV (strt (placeF places) 0 0 rows)) (V.int ((List.map Od.v (ords (placeF places) 0 rows)).length : Nat))) (List.map Od.v (ords (placeF places) 0 rows)))) :: (21, p21, O.list (List.map nV (strt (placeF places) 0 0 rows))) :: (20, p20, O.list (List.map Od.v (ords (placeF places) 0 rows))) :: σ) (.ref 21 p21) = .v (.lst ((strt (placeF places) 0 0 rows).map nV)) := fzW_list h21 (by walk_at "look")
    have e2 : List.map (ledF (List.map nV (strt (placeF places) 0 0 rows)) (V.int ((List.map Od.v (ords (placeF places) 0 rows)).length : Nat))) (List.map Od.v (ords (placeF places) 0 rows)) ++ [V.tup [V.str "END"]] = (cOrds (placeF places) rows).map Od.v := by
      unfold cOrds
      rw [List.map_append, List.map_map, List.map_map, List.length_map]
      congr 1
      exact List.map_congr_left fun o _ => ledF_od _ _ o
    rw [e2]
    simp only [List.map_cons, List.map_nil, fzW_v, e1]
    exact q p22
end
section
variable {b : Bas} {n : Nat} {σ : Store} {Q : W → Store → Prop}
noncomputable def movO (ld : List Nat) : Od → Od
  | .go g => .go ((ld[g]?).getD 0)
  | .fls g => .fls ((ld[g]?).getD 0)
  | o => o
theorem Od.view (o : Od) : (∃ w r, o.v = .tup (.str w :: r) ∧ (w == ("GO" : Str)) = false ∧ (w == ("FALSE" : Str)) = false ∧ (∀ ld, movO ld o = o) ∧ o.goal = none) ∨ (∃ g, o = .go g) ∨ (∃ g, o = .fls g) := by
  cases o with
  | go g => exact .inr (.inl ⟨g, rfl⟩)
  | fls g => exact .inr (.inr ⟨g, rfl⟩)
  | _ => exact .inl ⟨_, _, rfl, rfl, rfl, fun _ => rfl, rfl⟩
variable {p2 : Nat} {places pairs loops : List (Int × V)}
noncomputable def movS (ld : List Nat) : V → V
  | .int i => nV ((ld[i.toNat]?).getD 0)
  | x => x
theorem fn_moved {os : List Od} {st ld : List Nat} {x22 : W} {p22 p25 p26 : Nat} (h23 : σ.lookup 23 = none) (h62 : σ.lookup 62 = none) (k22 : σ.lookup 22 = some (p22, .inst 350 [("orders", x22), ("starts", .v (.lst (st.map nV)))]))
    (k25 : σ.lookup 25 = some (p25, .list (os.map Od.v))) (k26 : σ.lookup 26 = some (p26, .list (ld.map nV))) (hg : ∀ o ∈ os, ∀ g, o.goal = some g → g < ld.length) (hs : ∀ s ∈ st, s < ld.length) (l1 : os.length ≤ 100000) (l2 : ld.length ≤ 1000) (l3 : st.length ≤ 1000)
    (q : ∀ p, Q (.ref 23 p) ((23, p, .inst 350 [("orders", .v (.lst ((os.map (movO ld)).map Od.v))), ("starts", .v (.lst (st.map fun s => nV ((ld[s]?).getD 0))))]) :: σ)) : FN b (n + 3) (.ref 401) [.ref 22 p22, .ref 25 p25, .ref 26 p26] σ Q := by
  refine FN.fz h23 ?_
  walk_at "F"
  walk_at "S"
  refine EE.newList 62 ?_
  walk_at "S"
  intro p62
  walk_at "S"
  refine FB.invL (fun _ => _) (fun i s => s = (62, p62, .list (((os.take i).map (movO ld)).map Od.v)) :: σ) _ (fun i x s hx hI => ?_) (fun s hI => ?_) rfl
  · subst hI
    rw [List.getElem?_map] at hx
    refine ex1_2 (Option.map_eq_some_iff.mp hx) fun o ho zz1 => ?_
    subst zz1
    have ht : os.take (i + 1) = os.take i ++ [o] := by rw [List.take_add_one, ho]; rfl
    have hm := List.mem_of_getElem? ho
    refine ⟨(lookup_cons_ne (by decide)).trans k25, ?_⟩
    rcases o.view with ⟨w, r, e1, e2, e3, e4, _⟩ | ⟨g, rfl⟩ | ⟨g, rfl⟩
    · rw [e1]
      walk_at "S"
      refine ⟨LSub.refl.set, ?_⟩
      rw [put_head, ht, List.map_append, List.map_append, List.map_singleton, List.map_singleton, e4, e1]
    · have hl := hg _ hm g rfl
      have hx : (ld.map nV)[g]? = some (nV ((ld[g]?).getD 0)) := by rw [List.getElem?_map, List.getElem?_eq_getElem hl]; rfl
      show AS b _ _ _ (.v (.tup [.str "GO", .int g])) _ _ _
      walk_at "S"
      refine GI.nat (ListW.of ((lookup_cons_ne (by decide)).trans k26)) hx ?_ (by rw [List.length_map]; exact l2)
      walk_at "S"
      refine ⟨LSub.refl.set.set, ?_⟩
      rw [put_head, ht, List.map_append, List.map_append, List.map_singleton, List.map_singleton]; rfl
    · have hl := hg _ hm g rfl
      have hx : (ld.map nV)[g]? = some (nV ((ld[g]?).getD 0)) := by rw [List.getElem?_map, List.getElem?_eq_getElem hl]; rfl
      show AS b _ _ _ (.v (.tup [.str "FALSE", .int g])) _ _ _
      walk_at "S"
      refine GI.nat (ListW.of ((lookup_cons_ne (by decide)).trans k26)) hx ?_ (by rw [List.length_map]; exact l2)
      walk_at "S"
      refine ⟨LSub.refl.set.set, ?_⟩
      rw [put_head, ht, List.map_append, List.map_append, List.map_singleton, List.map_singleton]; rfl
  · subst hI
    refine ⟨(lookup_cons_ne (by decide)).trans k25, ?_⟩
    rw [List.length_map, List.take_length]
    walk_at "S"
    refine CB.map (movS ld) trivial _ _ (by rw [List.length_map]; exact Nat.le_trans (Nat.add_le_add_left l3 _) (by decide)) (fun x hx => ?_) ?_
    · refine ex1_2 (List.mem_map.mp hx) fun s hm zz2 => ?_
      subst zz2
      have hl := hs s hm
      have h0 : decide ((0 : Int) ≤ ((s : Nat) : Int)) = true := decide_eq_true (by lia)
      have hx : (ld.map nV)[s]? = some (nV ((ld[s]?).getD 0)) := by rw [List.getElem?_map, List.getElem?_eq_getElem hl]; rfl
      refine ⟨_, rfl, ?_⟩
      walk_at "S"
      refine GI.nat (ListW.of ((lookup_cons_ne (by decide)).trans k26)) hx ?_ (by rw [List.length_map]; exact l2)
      exact ⟨rfl, rfl⟩
    · walk_at "S"
      refine AP.new 23 (by k_is) (by k_is) (by k_is) (by k_is) fun p23 => fn_RowCode ⟨rfl, ?_⟩
      walk_at "S"
      refine ⟨p23, 350, _, rfl, lookup_cons_eq, (Ext.refl.cons h62).cons h23, ?_⟩
      simp only [List.map_cons, List.map_nil, fzW_v]
      rw [fzW_list h62 ((lookup_cons_ne (by decide)).trans lookup_cons_eq)]
      have e3 : List.map (movS ld) (List.map nV st) = st.map fun s => nV ((ld[s]?).getD 0) := List.map_map
      rw [e3]
      exact q p23
end
section
open PySem PySem.W PyProof.Rows PySem.Calls
noncomputable abbrev plV (l : List (Int × Nat)) : List (Int × V) := l.map fun e => (e.1, nV e.2)
noncomputable abbrev prV (l : List (Nat × Nat)) : List (Int × V) := l.map fun e => ((e.1 : Int), nV e.2)
noncomputable abbrev lpV (l : List (Nat × Nat × Nat)) : List (Int × V) := l.map fun e => ((e.1 : Int), .tup [nV e.2.1, nV e.2.2])
noncomputable def plc (l : List (Int × Nat)) (k : Int) : Nat := ((l.find? fun e => e.1 = k).map (·.2)).getD 0
theorem dget_pl {l : List (Int × Nat)} {k : Int} : dget k (plV l) = (l.find? fun e => e.1 = k).map fun e => nV e.2 := by
  unfold dget
  rw [List.find?_map, Option.map_map]; rfl
theorem dget_mem {l : List (Int × Nat)} {e : Int × Nat} (h : e ∈ l) : dget e.1 (plV l) = some (nV (plc l e.1)) := by
  rw [dget_pl]
  unfold plc
  cases q : l.find? fun x => x.1 = e.1 with
  | none => exact absurd (List.find?_eq_none.mp q e h) (by simp)
  | some x => rfl
noncomputable def goalsD (os : List Od) : List (Int × V) := os.foldl (fun d o => match o.goal with | some g => dset (g : Int) (.bool true) d | none => d) []
noncomputable def hasGoal (os : List Od) (s : Nat) : Bool := os.any fun o => o.goal == some s
theorem dget_some {j : Int} {l : List (Int × V)} : (dget j l).isSome = l.any fun kv => decide (kv.1 = j) := by
  unfold dget
  rw [Option.isSome_map]
  induction l with
  | nil => rfl
  | cons e l ih =>
    rw [List.find?_cons, List.any_cons]
    cases h : decide (e.1 = j) with
    | true => rfl
    | false => rw [Bool.false_or]; exact ih
theorem dget_dset {k j : Int} {x : V} {l : List (Int × V)} : (dget j (dset k x l)).isSome = (decide (k = j) || (dget j l).isSome) := by
  rw [dget_some, dget_some]
  unfold dset
  by_cases h : l.any fun kv => decide (kv.1 = k)
  · rw [if_pos h, List.any_map]
    have e : ((fun kv : Int × V => decide (kv.1 = j)) ∘ fun kv => if kv.1 = k then (kv.1, x) else kv) = fun kv => decide (kv.1 = j) := by
      funext kv
      show decide ((if kv.1 = k then (kv.1, x) else kv).1 = j) = _
      split <;> rfl
    rw [e]
    by_cases q : k = j
    · subst q; rw [h]; simp
    · rw [decide_eq_false q, Bool.false_or]
  · rw [if_neg h, List.any_append, List.any_cons, List.any_nil, Bool.or_false, Bool.or_comm]
theorem dset_length {k : Int} {x : V} {l : List (Int × V)} : (dset k x l).length ≤ l.length + 1 := by
  unfold dset
  split
  · rw [List.length_map]; lia
  · rw [List.length_append]; exact Nat.le_refl _
theorem goalsD_has {s : Nat} : ∀ (os : List Od), (dget (s : Int) (goalsD os)).isSome = hasGoal os s := by
  have key : ∀ (os : List Od) (d : List (Int × V)), (dget (s : Int) (os.foldl (fun d o => match o.goal with | some g => dset (g : Int) (.bool true) d | none => d) d)).isSome = (hasGoal os s || (dget (s : Int) d).isSome) := by
    intro os
    induction os with
    | nil => intro d; simp [hasGoal]
    | cons o os ih =>
      intro d
      rw [List.foldl_cons, ih]
      unfold hasGoal
      rw [List.any_cons]
      cases h : o.goal with
      | none =>
        have e : ((none : Option Nat) == some s) = false := rfl
        rw [e, Bool.false_or]
      | some g =>
        show (_ || (dget (s : Int) (dset (g : Int) (.bool true) d)).isSome) = _
        rw [dget_dset]
        have e : ((some g : Option Nat) == some s) = decide ((g : Int) = (s : Int)) := by
          by_cases q : g = s
          · subst q; simp
          · have q' : ¬ ((g : Int) = (s : Int)) := by lia
            rw [decide_eq_false q']; simpa using q
        rw [e]
        cases decide ((g : Int) = (s : Int)) <;> cases os.any (fun o => o.goal == some s) <;> simp
  intro os
  rw [goalsD, key]
  simp [dget]
theorem goalsD_length : ∀ (os : List Od), (goalsD os).length ≤ os.length := by
  have key : ∀ (os : List Od) (d : List (Int × V)), (os.foldl (fun d o => match o.goal with | some g => dset (g : Int) (.bool true) d | none => d) d).length ≤ d.length + os.length := by
    intro os
    induction os with
    | nil => intro d; exact Nat.le_refl _
    | cons o os ih =>
      intro d
      rw [List.foldl_cons, List.length_cons]
      refine Nat.le_trans (ih _) ?_
      cases o.goal with
      | none => show d.length + _ ≤ _; lia
      | some g =>
        show (dset (g : Int) (.bool true) d).length + _ ≤ _
        have := dset_length (k := (g : Int)) (x := .bool true) (l := d)
        lia
  intro os
  have := key os []
  simpa [goalsD] using this
theorem pds_map : ∀ l : List V, pds l = l.map pd
  | [] => rfl
  | x :: r => by show pd x :: pds r = _; rw [pds_map r]; rfl
theorem any_ints {l : List Nat} {a : Nat} : ((pds (l.map nV)).any fun y => PyData.eqv y (pd (.int a))) = l.contains a := by
  rw [pds_map, List.map_map, List.any_map]
  induction l with
  | nil => rfl
  | cons x l ih =>
    rw [List.any_cons, List.contains_cons, ih]
    congr 1
    show ((x : Int) == (a : Int)) = (a == x)
    by_cases q : x = a
    · subst q; simp
    · have : ¬ ((x : Int) = (a : Int)) := by lia
      rw [beq_eq_false_iff_ne.mpr this, beq_eq_false_iff_ne.mpr (Ne.symm q)]
theorem okVs_ints : ∀ l : List Nat, okVs (l.map nV) = true
  | [] => rfl
  | _ :: l => by show (okV _ && okVs _) = true; rw [okVs_ints l]; rfl
theorem canLay_ints : ∀ l : List Nat, PyData.canLayAll0 (pds (l.map nV)) = true
  | [] => rfl
  | _ :: l => by show (PyData.canLay0 _ && PyData.canLayAll0 _) = true; rw [canLay_ints l]; rfl
theorem Op2.notInN {b : Bas} {n : Nat} {σ : Store} {l : List Nat} {a : Nat} {Q : W → Store → Prop} (q : Q (.v (.bool (!l.contains a))) σ) : Op2 b n (compareOp .NotIn) (.v (.int (a : Int))) (.v (.lst (l.map nV))) σ Q := by
  refine Op2.notInL (.inl rfl) rfl rfl (okVs_ints l) (canLay_ints l) ?_
  rw [any_ints]; exact q
noncomputable def firsts (pls : List (Int × Nat)) : List Nat := pls.map fun e => plc pls e.1
noncomputable def keptL (prs : List (Nat × Nat)) (lps : List (Nat × Nat × Nat)) : List Nat := prs.map (·.1) ++ lps.map (·.2.1)
noncomputable def alone (pls : List (Int × Nat)) (prs : List (Nat × Nat)) (lps : List (Nat × Nat × Nat)) (os : List Od) (st : List Nat) (a : Nat) : Bool :=
  decide (0 < a) && !(firsts pls).contains a && !(keptL prs lps).contains a && !hasGoal os ((st[a]?).getD 0)
noncomputable def isGo : Od → Bool
  | .go _ => true
  | _ => false
noncomputable def leftL (al : Nat → Bool) (os : List Od) (st : List Nat) : Nat → List Bool
  | 0 => []
  | a + 1 => leftL al os st a ++ [al a && ((((leftL al os st a)[a - 1]?).getD false) || isGo ((os[(st[a]?).getD 0 - 1]?).getD .endd))]
theorem leftL_s {al : Nat → Bool} {os : List Od} {st : List Nat} {a : Nat} : leftL al os st (a + 1) = leftL al os st a ++ [al a && ((((leftL al os st a)[a - 1]?).getD false) || isGo ((os[(st[a]?).getD 0 - 1]?).getD .endd))] := rfl
theorem leftL_length {al : Nat → Bool} {os : List Od} {st : List Nat} : ∀ a, (leftL al os st a).length = a
  | 0 => rfl
  | a + 1 => by rw [leftL_s, List.length_append, leftL_length a]; rfl
end
section
open PySem PySem.W PyProof.Rows PySem.Calls
theorem LSub.setSame {ρ : Loc} {x : Str} {y : W} (h : ρ.lookup x = some y) (hx : ¬ (("#" : Str) = x) := by decide) : LSub (setL x y ρ) ρ := by
  refine ⟨fun z w e => ?_, by rw [setL_lookup, if_neg hx]⟩
  rw [setL_lookup] at e
  by_cases q : z = x
  · subst q; rw [if_pos rfl] at e; rw [h]; exact e
  · rw [if_neg q] at e; exact e
theorem LSub.setSet {ρ : Loc} {x : Str} {y y' : W} (hx : ¬ (("#" : Str) = x) := by decide) : LSub (setL x y ρ) (setL x y (setL x y' ρ)) := by
  refine ⟨fun z w e => ?_, by rw [setL_lookup, setL_lookup, setL_lookup, if_neg hx, if_neg hx, if_neg hx]⟩
  rw [setL_lookup] at e
  rw [setL_lookup, setL_lookup]
  by_cases q : z = x
  · rw [if_pos q] at e ⊢; exact e
  · rw [if_neg q] at e; rw [if_neg q, if_neg q]; exact e
theorem LSub.setR {ρ' ρ : Loc} {x : Str} {y : W} (h : LSub ρ' ρ) (hx : ¬ (("#" : Str) = x) := by decide) : LSub (setL x y ρ') (setL x y ρ) := by
  refine ⟨fun z w e => ?_, by rw [setL_lookup, setL_lookup, if_neg hx, if_neg hx]; exact h.2⟩
  rw [setL_lookup] at e ⊢
  by_cases q : z = x
  · rw [if_pos q] at e ⊢; exact e
  · rw [if_neg q] at e ⊢; exact h.1 z w e
theorem enum_map {β : Type} (f : V → β) (d : V) : ∀ (l : List V) (j : Nat), (enumFrom j l).map f = (List.range l.length).map fun a => f (.tup [.int ((j + a : Nat) : Int), (l[a]?).getD d])
  | [], j => rfl
  | x :: r, j => by
    rw [List.length_cons, List.range_succ_eq_map, List.map_cons, List.map_map]
    show f _ :: (enumFrom (j + 1) r).map f = _
    rw [enum_map f d r (j + 1)]
    congr 1
    refine List.map_congr_left fun a _ => ?_
    show f _ = f _
    rw [show j + 1 + a = j + (a + 1) by lia]; rfl
noncomputable def advF (ends : List Nat) (place : Nat) : Nat → Nat → Nat
  | 0, r => r
  | f + 1, r => if (ends[r]?).getD 0 ≤ place then advF ends place f (r + 1) else r
noncomputable def dropN (left : List Bool) (ends : List Nat) (os : List Od) : Nat → Nat × List Od × List Nat
  | 0 => (0, [], [])
  | i + 1 =>
    let d := dropN left ends os i
    let r := advF ends i (left.length - d.1) d.1
    (r, (if r = left.length ∨ (left[r]?).getD false = false then d.2.1 ++ [(os[i]?).getD .endd] else d.2.1), d.2.2 ++ [d.2.1.length])
theorem advF_le (ends : List Nat) (place : Nat) : ∀ f r, advF ends place f r ≤ r + f
  | 0, r => Nat.le_refl _
  | f + 1, r => by
    show (if (ends[r]?).getD 0 ≤ place then advF ends place f (r + 1) else r) ≤ _
    split
    · have := advF_le ends place f (r + 1); lia
    · lia
theorem dropN_row (left : List Bool) (ends : List Nat) (os : List Od) : ∀ i, (dropN left ends os i).1 ≤ left.length
  | 0 => Nat.zero_le _
  | i + 1 => by
    have h := dropN_row left ends os i
    have := advF_le ends i (left.length - (dropN left ends os i).1) (dropN left ends os i).1
    show advF ends i (left.length - (dropN left ends os i).1) (dropN left ends os i).1 ≤ _
    lia
theorem dropN_lead (left : List Bool) (ends : List Nat) (os : List Od) : ∀ i, (dropN left ends os i).2.2.length = i
  | 0 => rfl
  | i + 1 => by show (_ ++ [_]).length = _; rw [List.length_append, dropN_lead left ends os i]; rfl
theorem dropN_found (left : List Bool) (ends : List Nat) (os : List Od) : ∀ i, (dropN left ends os i).2.1.length ≤ i
  | 0 => Nat.le_refl _
  | i + 1 => by
    have h := dropN_found left ends os i
    show (if _ then _ else _ : List Od).length ≤ _
    split
    · rw [List.length_append]; show _ + 1 ≤ _; lia
    · lia
theorem dropN_mem (left : List Bool) (ends : List Nat) (os : List Od) : ∀ i, i ≤ os.length → ∀ o ∈ (dropN left ends os i).2.1, o ∈ os
  | 0, _, o, h => nomatch h
  | i + 1, hi, o, h => by
    have ih := dropN_mem left ends os i (Nat.le_of_succ_le hi)
    have h' : o ∈ (if advF ends i (left.length - (dropN left ends os i).1) (dropN left ends os i).1 = left.length ∨ (left[advF ends i (left.length - (dropN left ends os i).1) (dropN left ends os i).1]?).getD false = false then (dropN left ends os i).2.1 ++ [(os[i]?).getD .endd] else (dropN left ends os i).2.1) := h
    split at h'
    · rcases List.mem_append.mp h' with h' | h'
      · exact ih o h'
      · rw [List.mem_singleton] at h'
        subst h'
        rw [List.getElem?_eq_getElem (by lia)]
        exact List.getElem_mem _
    · exact ih o h'
end
section
variable {b : Bas} {n : Nat} {σ : Store} {Q : W → Store → Prop}
variable {p2 p22 : Nat}
theorem fn_left {rows : List Row} {os : List Od} {st : List Nat} {pls : List (Int × Nat)} {prs : List (Nat × Nat)} {lps : List (Nat × Nat × Nat)} (ht : Temps σ) (hf : FlatAt b σ p2 (rows.map rowV) (plV pls) (prV prs) (lpV lps))
    (k22 : σ.lookup 22 = some (p22, .inst 350 [("orders", .v (.lst (os.map Od.v))), ("starts", .v (.lst (st.map nV)))])) (hl : st.length = rows.length) (hb : ∀ a s, st[a]? = some s → a ≤ s ∧ s ≤ os.length)
    (l1 : os.length ≤ 1000) (l2 : rows.length ≤ 100) (l3 : pls.length ≤ 100) (l4 : prs.length ≤ 100) (l5 : lps.length ≤ 100)
    (q : ∀ p p', Q (.ref 61 p) ((61, p, .list ((leftL (alone pls prs lps os st) os st rows.length).map .bool)) :: (60, p', .dI (goalsD os)) :: σ)) : FN b (n + 1) (.ref 406) [.ref 2 p2, .ref 22 p22] σ Q := by
  have f2 := hf.at'
  walk_at "F"
  walk_at "S"
  refine EE.newDI 60 ?_
  intro p60
  walk_at "S"
  refine EE.newList 61 ?_
  walk_at "S"
  intro p61
  walk_at "S"
  refine FB.invL (fun _ => _) (fun i s => s = (61, p61, .list []) :: (60, p60, .dI (goalsD (os.take i))) :: σ) _ (fun i x s hx hI => ?_) (fun s hI => ?_) rfl
  · subst hI
    rw [List.getElem?_map] at hx
    refine ex1_2 (Option.map_eq_some_iff.mp hx) fun o ho zz1 => ?_
    subst zz1
    have hi := (List.getElem?_eq_some_iff.mp ho).1
    have ht : goalsD (os.take (i + 1)) = match o.goal with | some g => dset (g : Int) (.bool true) (goalsD (os.take i)) | none => goalsD (os.take i) := by
      rw [List.take_add_one, ho]
      show goalsD (os.take i ++ [o]) = _
      unfold goalsD
      rw [List.foldl_append]; rfl
    have hz : (goalsD (os.take i)).length ≤ 16777216 := by
      have := goalsD_length (os.take i)
      rw [List.length_take] at this; lia
    refine ⟨trivial, ?_⟩
    rcases o.view with ⟨w, r, e1, e2, e3, e4, e5⟩ | ⟨g, rfl⟩ | ⟨g, rfl⟩
    · rw [e1]
      walk_at "S"
      refine ⟨LSub.refl.set, ?_⟩
      rw [ht, e5]
    · show AS b _ _ _ (.v (.tup [.str "GO", .int g])) _ _ _
      walk_at "S"
      refine ⟨LSub.refl.set, ?_⟩
      rw [put_cons (by decide), put_head, ht]; rfl
    · show AS b _ _ _ (.v (.tup [.str "FALSE", .int g])) _ _ _
      walk_at "S"
      refine ⟨LSub.refl.set, ?_⟩
      rw [put_cons (by decide), put_head, ht]; rfl
  · subst hI
    rw [List.length_map, List.take_length]
    refine ⟨trivial, ?_⟩
    walk_at "S"
    refine CB.map (fun x => match x with | .int i => nV (plc pls i) | x => x) trivial _ _ (by simp; lia) (fun x hx => ?_) ?_
    · simp only [List.map_map, List.mem_map] at hx
      refine ex1_2 (hx) fun e he zz2 => ?_
      subst zz2
      refine ⟨_, rfl, ?_⟩
      walk_at "S"
      show GI b n (fzD b (plV pls)) (.v (.int e.1)) _ _
      exact GI.fz (dget_mem he) ⟨rfl, rfl⟩
    · walk_at "S"
      refine CB.map (fun x => match x with | .tup [a, _] => a | x => x) trivial _ _ (by simp; lia) (fun x hx => ?_) ?_
      · simp only [List.map_map, List.mem_map] at hx
        refine ex1_2 (hx) fun e he zz3 => ?_
        subst zz3
        show ∃ ρ₁, bindT _ (V.tup [nV e.2.1, nV e.2.2]) _ = some ρ₁ ∧ _
        refine ⟨_, rfl, ?_⟩
        walk_at "S"
      · walk_at "S"
        have e1 : ((plV pls).map fun e => V.int e.1).map (fun x => match x with | .int i => nV (plc pls i) | x => x) = (firsts pls).map nV := by
          unfold firsts; rw [List.map_map, List.map_map, List.map_map]; rfl
        have e2 : ((prV prs).map fun e => V.int e.1) ++ ((lpV lps).map (·.2)).map (fun x => match x with | .tup [a, _] => a | x => x) = (keptL prs lps).map nV := by
          unfold keptL; rw [List.map_append, List.map_map, List.map_map, List.map_map, List.map_map, List.map_map]; rfl
        rw [e1, e2]
        refine IT.rangeN (m := rows.length) (by rw [List.length_map]) (by lia) ?_
        refine FB.invL (fun _ => _) (fun i s => s = (61, p61, .list ((leftL (alone pls prs lps os st) os st i).map .bool)) :: (60, p60, .dI (goalsD os)) :: σ) _ (fun i x s hx hI => ?_) (fun s hI => ?_) rfl
        · subst hI
          have hi : i < rows.length := by have := (List.getElem?_eq_some_iff.mp hx).1; simpa using this
          rw [List.getElem?_map, List.getElem?_range hi] at hx
          cases hx
          refine ⟨trivial, ?_⟩
          have his : i < st.length := by lia
          obtain ⟨s, hs⟩ : ∃ s, st[i]? = some s := ⟨_, List.getElem?_eq_getElem his⟩
          refine ex0_2 (hb i s hs) fun hb1 hb2 => ?_
          have hsV : (st.map nV)[i]? = some (nV s) := by rw [List.getElem?_map, hs]; rfl
          have lst1 : (st.map nV).length ≤ 1000 := by rw [List.length_map]; lia
          have ll : ((leftL (alone pls prs lps os st) os st i).map V.bool).length ≤ 1000 := by rw [List.length_map, leftL_length]; lia
          have ll' : (leftL (alone pls prs lps os st) os st i).length ≤ 1000 := by rw [leftL_length]; lia
          have fin : ∀ t : Bool, (alone pls prs lps os st i && ((((leftL (alone pls prs lps os st) os st i)[i - 1]?).getD false) || isGo ((os[s - 1]?).getD .endd))) = t →
              (61, p61, O.list ((leftL (alone pls prs lps os st) os st i).map V.bool ++ [.bool t])) :: (60, p60, O.dI (goalsD os)) :: σ = (61, p61, O.list ((leftL (alone pls prs lps os st) os st (i + 1)).map V.bool)) :: (60, p60, O.dI (goalsD os)) :: σ := fun t e => by
            rw [leftL_s, List.map_append, hs]
            show _ = (61, p61, O.list (_ ++ [V.bool (alone pls prs lps os st i && ((((leftL (alone pls prs lps os st) os st i)[i - 1]?).getD false) || isGo ((os[s - 1]?).getD .endd)))])) :: _
            rw [e]
          have al : alone pls prs lps os st i = (decide (0 < i) && !(firsts pls).contains i && !(keptL prs lps).contains i && !hasGoal os s) := by unfold alone; rw [hs]; rfl
          by_cases a1 : 0 < i
          · have c1 : decide ((0 : Int) < (i : Int)) = true := decide_eq_true (by lia)
            walk_at "S"
            refine Op2.notInN ?_
            cases a2 : (firsts pls).contains i with
            | true =>
              walk_at "S"
              refine ⟨LSub.refl.set.set, ?_⟩
              rw [put_head]; exact fin false (by rw [al, a2]; simp)
            | false =>
              walk_at "S"
              refine Op2.notInN ?_
              cases a3 : (keptL prs lps).contains i with
              | true =>
                walk_at "S"
                refine ⟨LSub.refl.set.set, ?_⟩
                rw [put_head]; exact fin false (by rw [al, a3]; simp)
              | false =>
                walk_at "S"
                refine GI.nat rfl hsV ?_ lst1
                walk_at "S"
                refine Op2.notInDI (k := 60) (by walk_at "look") ?_
                rw [goalsD_has]
                cases a4 : hasGoal os s with
                | true =>
                  walk_at "S"
                  refine ⟨LSub.refl.set.set, ?_⟩
                  rw [put_head]; exact fin false (by rw [al, a4]; simp)
                | false =>
                  have alt : alone pls prs lps os st i = true := by rw [al, a2, a3, a4, decide_eq_true a1]; rfl
                  have hi1 : ((i : Int) - 1).toNat = i - 1 := by lia
                  have hs1 : ((s : Int) - 1).toNat = s - 1 := by lia
                  have hfl : i - 1 < (leftL (alone pls prs lps os st) os st i).length := by rw [leftL_length]; lia
                  obtain ⟨f, hf1⟩ : ∃ f, (leftL (alone pls prs lps os st) os st i)[i - 1]? = some f := ⟨_, List.getElem?_eq_getElem hfl⟩
                  have hso : s - 1 < os.length := by lia
                  obtain ⟨o, ho⟩ : ∃ o, os[s - 1]? = some o := ⟨_, List.getElem?_eq_getElem hso⟩
                  have lo1 : (os.map Od.v).length ≤ 1000 := by rw [List.length_map]; exact l1
                  walk_at "S"
                  refine GI.list (ListW.of (by walk_at "look")) (by lia) (by rw [hi1, List.getElem?_map, hf1]; rfl) ?_ (by lia)
                  cases f with
                  | true =>
                    walk_at "S"
                    refine ⟨LSub.refl.set.set, ?_⟩
                    rw [put_head]; exact fin true (by rw [alt, hf1]; rfl)
                  | false =>
                    walk_at "S"
                    refine GI.nat rfl hsV ?_ lst1
                    walk_at "S"
                    refine GI.list rfl (by lia) (by rw [hs1, List.getElem?_map, ho]; rfl) ?_ (by lia)
                    rcases o.view with ⟨w, r, e1, e2, e3, e4, e5⟩ | ⟨g, rfl⟩ | ⟨g, rfl⟩
                    · rw [e1]
                      walk_at "S"
                      refine ⟨LSub.refl.set.set, ?_⟩
                      rw [put_head, e2]
                      refine fin false ?_
                      rw [alt, hf1, ho]
                      cases o with
                      | go g => injection e1 with e1; injection e1 with e1; injection e1 with e1; rw [← e1] at e2; cases e2
                      | _ => rfl
                    · rw [show (Od.go g).v = .tup [.str "GO", .int g] from rfl]
                      walk_at "S"
                      refine ⟨LSub.refl.set.set, ?_⟩
                      rw [put_head]; exact fin true (by rw [alt, hf1, ho]; rfl)
                    · rw [show (Od.fls g).v = .tup [.str "FALSE", .int g] from rfl]
                      walk_at "S"
                      refine ⟨LSub.refl.set.set, ?_⟩
                      rw [put_head]; exact fin false (by rw [alt, hf1, ho]; rfl)
          · have c1 : decide ((0 : Int) < (i : Int)) = false := decide_eq_false (by lia)
            walk_at "S"
            refine ⟨LSub.refl.set.set, ?_⟩
            rw [put_head, c1]; exact fin false (by rw [al, decide_eq_false a1]; simp)
        · subst hI
          rw [List.length_map, List.length_range]
          refine ⟨trivial, ?_⟩
          walk_at "S"
          exact q p61 p60
end
section
variable {b : Bas} {n : Nat} {σ : Store} {Q : W → Store → Prop}
variable {p2 p22 : Nat}
theorem fn_drop {rows : List Row} {os : List Od} {st : List Nat} {pls : List (Int × Nat)} {prs : List (Nat × Nat)} {lps : List (Nat × Nat × Nat)} (ht : Temps σ) (h23 : σ.lookup 23 = none) (h24 : σ.lookup 24 = none) (h25 : σ.lookup 25 = none) (h26 : σ.lookup 26 = none)
    (hf : FlatAt b σ p2 (rows.map rowV) (plV pls) (prV prs) (lpV lps))
    (k22 : σ.lookup 22 = some (p22, .inst 350 [("orders", .v (.lst (os.map Od.v))), ("starts", .v (.lst (st.map nV)))])) (hl : st.length = rows.length) (hb : ∀ a s, st[a]? = some s → a ≤ s ∧ s < os.length) (hg : ∀ o ∈ os, ∀ g, o.goal = some g → g < os.length)
    (l0 : 0 < os.length) (l1 : os.length ≤ 1000) (l2 : rows.length ≤ 100) (l2' : 0 < rows.length) (l3 : pls.length ≤ 100) (l4 : prs.length ≤ 100) (l5 : lps.length ≤ 100)
    (q : ∀ p, let left := leftL (alone pls prs lps os st) os st rows.length
      let d := dropN left (st.tail ++ [os.length - 1]) os os.length
      Q (.ref 24 p) ((24, p, .inst 350 [("orders", .v (.lst ((d.2.1.map (movO d.2.2)).map Od.v))), ("starts", .v (.lst ((List.range rows.length).map fun a => if (left[a]?).getD false then V.int (-1) else nV ((d.2.2[(st[a]?).getD 0]?).getD 0))))]) :: σ)) : FN b (n + 4) (.ref 411) [.ref 2 p2, .ref 22 p22] σ Q := by
  have f2 := hf.at'
  refine FN.sub ?_
  walk_at "F"
  walk_at "S"
  refine AP.fn (by k_is) (fn_left ht hf k22 hl (fun a s h => ⟨(hb a s h).1, Nat.le_of_lt (hb a s h).2⟩) l1 l2 l3 l4 l5 fun p61 p60 => ?_)
  walk_at "S"
  refine EE.newList 25 ?_
  walk_at "S"
  intro p25
  walk_at "S"
  refine EE.newList 26 ?_
  walk_at "S"
  intro p26
  walk_at "S"
  refine EE.sliceFromA ?_
  walk_at "S"
  have lo1 : (os.map Od.v).length ≤ 1000 := by rw [List.length_map]; exact l1
  have len1 : (st.map nV).length = rows.length := by rw [List.length_map, hl]
  refine ⟨_, 1, rfl, rfl, by lia, by lia, ?_⟩
  walk_at "S"
  refine EE.lst ?_
  walk_at "S"
  refine Op2.addL rfl rfl ?_ (by simp; lia)
  have eE : List.drop 1 (st.map nV) ++ [V.int (((os.map Od.v).length : Nat) - 1)] = (st.tail ++ [os.length - 1]).map nV := by
    rw [List.map_append, List.length_map, ← List.map_drop, List.drop_one]
    congr 1
    show [V.int _] = [V.int _]
    congr 2; lia
  rw [eE]
  walk_at "S"
  refine ⟨_, _, IsSrc.fz, ?_⟩
  have hll : (leftL (alone pls prs lps os st) os st rows.length).length = rows.length := leftL_length _
  generalize hleft : leftL (alone pls prs lps os st) os st rows.length = left at hll q ⊢
  have hel : (st.tail ++ [os.length - 1]).length = rows.length := by rw [List.length_append, List.length_tail, hl]; show _ + 1 = _; lia
  generalize hends : st.tail ++ [os.length - 1] = ends at hel q ⊢
  refine FB.invL (fun i => setL "row" (.v (nV (dropN left ends os i).1)) _) (fun i s => s = (26, p26, .list ((dropN left ends os i).2.2.map nV)) :: (25, p25, .list ((dropN left ends os i).2.1.map Od.v)) :: (61, p61, .list (left.map .bool)) :: (60, p60, .dI (goalsD os)) :: σ) _ (fun i x s hx hI => ?_) (fun s hI => ?_) rfl
  · subst hI
    refine ex1_2 (enumFrom_get hx) fun y hy zz1 => ?_
    subst zz1
    rw [List.getElem?_map] at hy
    refine ex1_2 (Option.map_eq_some_iff.mp hy) fun o ho zz2 => ?_
    subst zz2
    rw [Nat.zero_add]
    refine ⟨trivial, ?_⟩
    walk_at "S"
    have hi : i < os.length := (List.getElem?_eq_some_iff.mp ho).1
    have lend : (ends.map nV).length ≤ 1000 := by rw [List.length_map]; lia
    have hd2 := dropN_found left ends os i
    have hd3 := dropN_lead left ends os i
    have hd1 := dropN_row left ends os i
    generalize hR : advF ends i (left.length - (dropN left ends os i).1) (dropN left ends os i).1 = R'
    have hsucc : dropN left ends os (i + 1) = (R', (if R' = left.length ∨ (left[R']?).getD false = false then (dropN left ends os i).2.1 ++ [o] else (dropN left ends os i).2.1), (dropN left ends os i).2.2 ++ [(dropN left ends os i).2.1.length]) := by
      rw [← hR, show o = (os[i]?).getD .endd by rw [ho]; rfl]; rfl
    refine ES.whileL (fun r => setL "row" (.v (nV r)) _) (fun r s => s = _ ∧ r ≤ left.length ∧ advF ends i (left.length - r) r = R') (fun r => left.length - r) (dropN left ends os i).1 (LSub.setSame rfl) ⟨rfl, hd1, hR⟩ (fun r s hI => ?_)
    refine ex0_3 (hI) fun zz3 hr hadv => ?_
    subst zz3
    by_cases c1 : r < left.length
    · have d1 : decide ((r : Int) < ((left.map V.bool).length : Int)) = true := decide_eq_true (by rw [List.length_map]; lia)
      obtain ⟨e, he⟩ : ∃ e, ends[r]? = some e := ⟨_, List.getElem?_eq_getElem (by lia)⟩
      have heV : (ends.map nV)[r]? = some (nV e) := by rw [List.getElem?_map, he]; rfl
      have hf : left.length - r = (left.length - (r + 1)) + 1 := by lia
      rw [hf] at hadv
      have hadv : (if (ends[r]?).getD 0 ≤ i then advF ends i (left.length - (r + 1)) (r + 1) else r) = R' := hadv
      rw [he] at hadv
      by_cases c2 : e ≤ i
      · have d2 : decide ((e : Int) ≤ (i : Int)) = true := decide_eq_true (by lia)
        rw [if_pos (show (some e).getD 0 ≤ i from c2)] at hadv
        walk_at "S"
        refine GI.nat rfl heV ?_ lend
        walk_at "S"
        exact ⟨r + 1, by show left.length - (r + 1) < left.length - r; lia, LSub.setSet, rfl, by lia, hadv⟩
      · have d2 : decide ((e : Int) ≤ (i : Int)) = false := decide_eq_false (by lia)
        rw [if_neg (show ¬ (some e).getD 0 ≤ i from c2)] at hadv
        walk_at "S"
        subst hadv
        have d3 : (((r : Nat) : Int) == (((left.map V.bool).length : Nat) : Int)) = false := beq_eq_false_iff_ne.mpr (by rw [List.length_map]; lia)
        obtain ⟨t, ht⟩ : ∃ t, left[r]? = some t := ⟨_, List.getElem?_eq_getElem c1⟩
        have htV : (left.map V.bool)[r]? = some (.bool t) := by rw [List.getElem?_map, ht]; rfl
        refine GI.nat rfl heV ?_ lend
        walk_at "S"
        refine GI.nat (ListW.of (by walk_at "look")) htV ?_ (by rw [List.length_map]; lia)
        cases t with
        | true =>
          walk_at "S"
          refine ⟨by rw [hsucc]; exact LSub.setR LSub.refl.set.set.set, ?_⟩
          rw [put_head, hsucc]
          simp only [ht, Option.getD_some, Bool.true_eq_false, or_false, if_neg (show ¬ r = left.length by lia), List.map_append, List.map_cons, List.map_nil, List.length_map]
        | false =>
          walk_at "S"
          refine ⟨by rw [hsucc]; exact LSub.setR LSub.refl.set.set.set, ?_⟩
          rw [put_head, put_cons (by decide), put_head, hsucc]
          simp only [ht, Option.getD_some, or_true, if_true, List.map_append, List.map_cons, List.map_nil, List.length_map]
    · have hrl : r = left.length := by lia
      have d1 : decide ((r : Int) < ((left.map V.bool).length : Int)) = false := decide_eq_false (by rw [List.length_map]; lia)
      have d3 : (((r : Nat) : Int) == (((left.map V.bool).length : Nat) : Int)) = true := beq_iff_eq.mpr (by rw [List.length_map]; lia)
      have hadv : r = R' := by rw [← hadv, show left.length - r = 0 by lia]; rfl
      subst hadv
      walk_at "S"
      refine ⟨by rw [hsucc]; exact LSub.setR LSub.refl.set.set.set, ?_⟩
      rw [put_head, put_cons (by decide), put_head, hsucc]
      simp only [hrl, true_or, if_true, List.map_append, List.map_cons, List.map_nil, List.length_map]
  · subst hI
    rw [enumFrom_length, List.length_map]
    refine ⟨trivial, ?_⟩
    walk_at "S"
    have h62 := ht 62 (by decide)
    have h60 := ht 60 (by decide)
    have h61 := ht 61 (by decide)
    have hd3 := dropN_lead left ends os os.length
    have hd2 := dropN_found left ends os os.length
    refine AP.fn (by k_is) (fn_moved (os := (dropN left ends os os.length).2.1) (st := st) (ld := (dropN left ends os os.length).2.2) (by walk_at "look") (by walk_at "look") (by walk_at "look") (by walk_at "look") (by walk_at "look") (fun o ho g e => ?_) (fun s hs => ?_) (by lia) (by lia) (by lia) fun p23 => ?_)
    · rw [hd3]; exact hg o (dropN_mem left ends os os.length (Nat.le_refl _) o ho) g e
    · refine ex1_1 (List.mem_iff_getElem?.mp hs) fun a ha => ?_
      rw [hd3]; exact (hb a s ha).2
    walk_at "S"
    refine ⟨_, _, IsSrc.fz, ?_⟩
    refine CB.map (fun x => match x with | .tup [.int a, y] => if (left[a.toNat]?).getD false then V.int (-1) else y | x => x) trivial _ _ (by rw [enumFrom_length, List.length_map]; exact Nat.le_trans (Nat.add_le_add_left (show st.length ≤ 100 by lia) _) (by decide)) (fun x hx => ?_) ?_
    · refine ex1_1 (List.mem_iff_getElem?.mp hx) fun a ha => ?_
      refine ex1_2 (enumFrom_get ha) fun y hy zz4 => ?_
      subst zz4
      have hal : a < left.length := by
        have := (List.getElem?_eq_some_iff.mp hy).1
        rw [List.length_map] at this; lia
      obtain ⟨t, htt⟩ : ∃ t, left[a]? = some t := ⟨_, List.getElem?_eq_getElem hal⟩
      have htV : (left.map V.bool)[a]? = some (.bool t) := by rw [List.getElem?_map, htt]; rfl
      rw [Nat.zero_add]
      refine ⟨_, rfl, ?_⟩
      walk_at "S"
      refine GI.nat (ListW.of (by walk_at "look")) htV ?_ (by rw [List.length_map]; lia)
      cases t with
      | true =>
        walk_at "S"
        exact ⟨by rw [Int.toNat_natCast, htt]; rfl, rfl⟩
      | false =>
        walk_at "S"
        exact ⟨by rw [Int.toNat_natCast, htt]; rfl, rfl⟩
    · walk_at "S"
      refine AP.new 24 (by k_is) (by k_is) (by k_is) (by k_is) fun p24 => fn_RowCode ⟨rfl, ?_⟩
      walk_at "S"
      refine ⟨_, Sub.cons (((((Sub.refl.skip h60).skip h61).skip h25).skip h26).skip h23), ?_⟩
      have e9 : (enumFrom 0 (st.map fun s => nV (((dropN left ends os os.length).2.2[s]?).getD 0))).map (fun x => match x with | .tup [.int a, y] => if (left[a.toNat]?).getD false then V.int (-1) else y | x => x)
          = (List.range rows.length).map fun a => if (left[a]?).getD false then V.int (-1) else nV (((dropN left ends os os.length).2.2[(st[a]?).getD 0]?).getD 0) := by
        rw [enum_map _ (.int 0), List.length_map, hl]
        refine List.map_congr_left fun a ha => ?_
        have hal : a < st.length := by rw [hl]; exact List.mem_range.mp ha
        rw [Nat.zero_add, List.getElem?_map, List.getElem?_eq_getElem hal]
        rfl
      rw [e9]
      exact q p24
end
section
variable {b : Bas} {n : Nat} {σ : Store} {Q : W → Store → Prop}
noncomputable abbrev flatR (p3 p4 p5 p6 p7 p8 : Nat) : List (Str × W) := [("rows", .ref 3 p3), ("places", .ref 4 p4), ("data", .ref 5 p5), ("pairs", .ref 6 p6), ("loops", .ref 7 p7), ("fns", .ref 8 p8)]
structure FlatT (σ : Store) (p2 p3 p4 p5 p6 p7 p8 : Nat) (rs : List V) : Prop where
  f2 : σ.lookup 2 = some (p2, .inst 428 (flatR p3 p4 p5 p6 p7 p8))
  f3 : σ.lookup 3 = some (p3, .list rs)
theorem FlatT.put {σ : Store} {p2 p3 p4 p5 p6 p7 p8 : Nat} {rs rs' : List V} (h : FlatT σ p2 p3 p4 p5 p6 p7 p8 rs) : FlatT (put 3 (.list rs') σ) p2 p3 p4 p5 p6 p7 p8 rs' := ⟨(put_ne (by decide)).trans h.f2, put_self h.f3⟩
theorem R.view (r : R) : ∃ w t, r.v = .tup (.str w :: t) ∧ (w == ("IF" : Str)) = false := by
  cases r <;> exact ⟨_, _, rfl, rfl⟩
inductive S where
  | p (r : R)
  | iff (c : Int) (A B : List R)
noncomputable def S.v : S → V
  | .p r => r.v
  | .iff c A B => .tup [.str "IF", tTwo "<" c, .lst (A.map R.v), .lst (B.map R.v)]
noncomputable def lay (line : Int) (l : List R) : List Row := l.map fun r => (line, r)
noncomputable def flS (line : Int) (m : Nat) : S → List Row
  | .p r => [(line, r)]
  | .iff c A B => (line, .ifn c (m + 2 + A.length)) :: (lay line A ++ (line, .jmp (m + 2 + A.length + B.length)) :: lay line B)
noncomputable def flSs (line : Int) : Nat → List S → List Row
  | _, [] => []
  | m, s :: l => flS line m s ++ flSs line (m + (flS line m s).length) l
theorem set_mid {α : Type} {x y : α} : ∀ {l t : List α}, (l ++ x :: t).set l.length y = l ++ y :: t
  | [], _ => rfl
  | a :: l, t => by show a :: (l ++ x :: t).set l.length y = _; rw [set_mid]; rfl
theorem put_id {k p : Nat} {o : O} : ∀ {σ : Store}, σ.lookup k = some (p, o) → put k o σ = σ
  | [], h => nomatch h
  | (j, e) :: r, h => by
    by_cases q : j = k
    · subst q
      rw [lookup_cons_eq] at h; cases h
      exact put_head
    · rw [put_cons q, put_id ((lookup_cons_ne (Ne.symm q)).symm.trans h)]
variable {p2 p3 p4 p5 p6 p7 p8 : Nat} {line : Int} {rs : List V}
theorem fn_put_row {st : V} (hf : FlatT σ p2 p3 p4 p5 p6 p7 p8 rs) (hz : rs.length ≤ 100000) (q : Q (.v (.int (rs.length : Nat))) (put 3 (.list (rs ++ [.tup [.int line, st]])) σ)) : FN b (n + 1) (.ref 439) [.ref 2 p2, .v (.int line), .v st] σ Q := by
  have f2 := hf.f2
  have f3 := hf.f3
  walk_at "F"
  walk_at "S"
  have e : ((rs ++ [V.tup [.int line, st]]).length : Int) - 1 = (rs.length : Int) := by rw [List.length_append]; show ((rs.length + 1 : Nat) : Int) - 1 = _; lia
  rw [e]
  exact q
theorem fn_put_plain {A : List R} (hf : FlatT σ p2 p3 p4 p5 p6 p7 p8 rs) (hz : rs.length + A.length ≤ 100000) (q : Q (.v .none) (put 3 (.list (rs ++ (lay line A).map rowV)) σ)) : FN b (n + 2) (.ref 453) [.ref 2 p2, .v (.int line), .v (.lst (A.map R.v))] σ Q := by
  walk_at "F"
  walk_at "S"
  refine FB.invL (fun _ => _) (fun i s => s = put 3 (.list (rs ++ (lay line (A.take i)).map rowV)) σ) _ (fun i x s hx hI => ?_) (fun s hI => ?_) ?_
  · subst hI
    rw [List.getElem?_map] at hx
    refine ex1_2 (Option.map_eq_some_iff.mp hx) fun r hr zz1 => ?_
    subst zz1
    have hi := (List.getElem?_eq_some_iff.mp hr).1
    refine ex2_2 (r.view) fun w t e1 e2 => ?_
    have ht : A.take (i + 1) = A.take i ++ [r] := by rw [List.take_add_one, hr]; rfl
    refine ⟨trivial, ?_⟩
    rw [e1]
    walk_at "S"
    refine AP.fn (by k_is) (fn_put_row hf.put (by simp [lay]; lia) ?_)
    walk_at "S"
    refine ⟨LSub.refl.set, ?_⟩
    rw [put_put, ht]
    congr 2
    simp only [lay, List.map_append, List.map_cons, List.map_nil, List.append_assoc, rowV, e1]
  · subst hI
    rw [List.length_map, List.take_length]
    refine ⟨trivial, ?_⟩
    walk_at "S"
    exact q
  · show σ = put 3 (.list (rs ++ [])) σ
    rw [List.append_nil, put_id hf.f3]
theorem fn_put_if {c : Int} {A B : List R} (hf : FlatT σ p2 p3 p4 p5 p6 p7 p8 rs) (hB : 0 < B.length) (hz : rs.length + A.length + B.length ≤ 10000) (q : Q (.v .none) (put 3 (.list (rs ++ (flS line rs.length (.iff c A B)).map rowV)) σ)) : FN b (n + 3) (.ref 446) [.ref 2 p2, .v (.int line), .v (S.iff c A B).v] σ Q := by
  have f2 := hf.f2
  have f3 := hf.f3
  dsimp only [S.v]
  walk_at "F"
  walk_at "S"
  refine AP.fn (by k_is) (fn_put_row hf (by lia) ?_)
  walk_at "S"
  refine AP.fn (by k_is) (fn_put_plain hf.put (by rw [List.length_append]; show _ + 1 + _ ≤ _; lia) ?_)
  rw [put_put]
  walk_at "S"
  have d1 : (((B.map R.v).length : Int) == 0) = false := beq_eq_false_iff_ne.mpr (by rw [List.length_map]; lia)
  walk_at "S"
  have lA : (lay line A).length = A.length := List.length_map _
  have lB : (lay line B).length = B.length := List.length_map _
  refine AP.fn (by k_is) (fn_put_row hf.put (by simp [lay]; lia) ?_)
  rw [put_put]
  walk_at "S"
  generalize hif : V.tup [V.int line, V.tup [V.str "IF", tTwo "<" c, V.lst (List.map R.v A), V.lst (List.map R.v B)]] = ifr
  have eL : rs ++ [ifr] ++ List.map rowV (lay line A) ++ [ifr] = rs ++ ifr :: (List.map rowV (lay line A) ++ [ifr]) := by simp
  rw [eL]
  refine SI.list (by walk_at "look") (Int.natCast_nonneg _) (by simp only [List.length_append, List.length_cons]; lia) (by lia) ?_
  rw [put_put, Int.toNat_natCast, set_mid]
  walk_at "S"
  refine AP.fn (by k_is) (fn_put_plain hf.put (by simp only [List.length_append, List.length_cons, List.length_map, List.length_nil]; lia) ?_)
  rw [put_put]
  walk_at "S"
  have g1 : (rs ++ ifr :: (List.map rowV (lay line A) ++ [ifr])).length = rs.length + 2 + A.length := by simp only [List.length_append, List.length_cons, List.length_map, List.length_nil]; lia
  rw [g1]
  generalize hX : V.tup [V.int line, V.tup [V.str "IFNOT", tTwo "<" c, V.int ((rs.length + 2 + A.length : Nat) : Int)]] = X1
  have e2 : rs ++ X1 :: (List.map rowV (lay line A) ++ [ifr]) ++ List.map rowV (lay line B) = (rs ++ X1 :: List.map rowV (lay line A)) ++ ifr :: List.map rowV (lay line B) := by simp
  have g2 : ((rs ++ X1 :: List.map rowV (lay line A)) ++ ifr :: List.map rowV (lay line B)).length = rs.length + 2 + A.length + B.length := by simp only [List.length_append, List.length_cons, List.length_map]; lia
  have g3 : (rs ++ [ifr] ++ List.map rowV (lay line A)).length = (rs ++ X1 :: List.map rowV (lay line A)).length := by simp
  rw [e2, g2, g3]
  refine SI.list (by walk_at "look") (Int.natCast_nonneg _) (by rw [g2]; simp only [List.length_append, List.length_cons, List.length_map]; lia) (by simp only [List.length_append, List.length_cons, List.length_map]; lia) ?_
  rw [put_put, Int.toNat_natCast, set_mid]
  walk_at "S"
  have e3 : (rs ++ X1 :: List.map rowV (lay line A)) ++ V.tup [V.int line, V.tup [V.str "JUMP", V.int ((rs.length + 2 + A.length + B.length : Nat) : Int)]] :: List.map rowV (lay line B) = rs ++ (flS line rs.length (.iff c A B)).map rowV := by
    subst hX
    simp only [flS, List.map_cons, List.map_append, List.append_assoc, List.cons_append]
    rfl
  rw [e3]
  exact q
def S.ok : S → Prop
  | .p _ => True
  | .iff _ A B => 0 < B.length ∧ A.length + B.length ≤ 100
theorem flSs_append {line : Int} : ∀ (l : List S) (s : S) (m : Nat), flSs line m (l ++ [s]) = flSs line m l ++ flS line (m + (flSs line m l).length) s
  | [], s, m => by show flS line m s ++ [] = flS line m s; exact List.append_nil _
  | x :: l, s, m => by
    show flS line m x ++ flSs line (m + (flS line m x).length) (l ++ [s]) = (flS line m x ++ flSs line (m + (flS line m x).length) l) ++ flS line (m + (flS line m x ++ flSs line (m + (flS line m x).length) l).length) s
    rw [flSs_append l s, List.append_assoc, List.length_append, Nat.add_assoc]
theorem fn_put_all {L : List S} (hf : FlatT σ p2 p3 p4 p5 p6 p7 p8 rs) (hS : ∀ s ∈ L, s.ok) (hz : ∀ i, i ≤ L.length → rs.length + (flSs line rs.length (L.take i)).length ≤ 9000) (q : Q (.v .none) (put 3 (.list (rs ++ (flSs line rs.length L).map rowV)) σ)) : FN b (n + 4) (.ref 453) [.ref 2 p2, .v (.int line), .v (.lst (L.map S.v))] σ Q := by
  walk_at "F"
  walk_at "S"
  refine FB.invL (fun _ => _) (fun i s => s = put 3 (.list (rs ++ (flSs line rs.length (L.take i)).map rowV)) σ) _ (fun i x s hx hI => ?_) (fun s hI => ?_) ?_
  · subst hI
    rw [List.getElem?_map] at hx
    refine ex1_2 (Option.map_eq_some_iff.mp hx) fun r hr zz2 => ?_
    subst zz2
    have hi := (List.getElem?_eq_some_iff.mp hr).1
    have hm := List.mem_of_getElem? hr
    have hzi := hz i (Nat.le_of_lt hi)
    have ht : L.take (i + 1) = L.take i ++ [r] := by rw [List.take_add_one, hr]; rfl
    refine ⟨trivial, ?_⟩
    cases r with
    | p r =>
      refine ex2_2 (r.view) fun w t e1 e2 => ?_
      show AS b _ _ _ (.v r.v) _ _ _
      rw [e1]
      walk_at "S"
      refine AP.fn (by k_is) (fn_put_row hf.put (by simp only [List.length_append, List.length_map]; lia) ?_)
      walk_at "S"
      refine ⟨LSub.refl.set, ?_⟩
      rw [put_put, ht, flSs_append]
      congr 2
      simp only [flS, List.map_append, List.map_cons, List.map_nil, List.append_assoc, rowV, e1]
    | iff c A B =>
      have ok := hS _ hm
      rw [show (S.iff c A B).v = .tup [.str "IF", tTwo "<" c, .lst (A.map R.v), .lst (B.map R.v)] from rfl]
      walk_at "S"
      refine AP.fn (by k_is) (fn_put_if hf.put ok.1 (by simp only [List.length_append, List.length_map]; have := ok.2; lia) ?_)
      walk_at "S"
      refine ⟨LSub.refl.set, ?_⟩
      rw [put_put, ht, flSs_append]
      congr 2
      simp only [List.map_append, List.append_assoc, List.length_append, List.length_map]
  · subst hI
    rw [List.length_map, List.take_length]
    refine ⟨trivial, ?_⟩
    walk_at "S"
    exact q
  · show σ = put 3 (.list (rs ++ [])) σ
    rw [List.append_nil, put_id hf.f3]
end
section
open PySem PySem.W PyProof.Rows PySem.Calls
noncomputable def dsetN {α : Type} (k : Nat) (x : α) (l : List (Nat × α)) : List (Nat × α) :=
  if l.any (fun kv => kv.1 = k) then l.map (fun kv => if kv.1 = k then (kv.1, x) else kv) else l ++ [(k, x)]
theorem dset_map {α : Type} (g : α → V) (k : Nat) (x : α) (l : List (Nat × α)) : dset (k : Int) (g x) (l.map fun e => ((e.1 : Int), g e.2)) = (dsetN k x l).map fun e => ((e.1 : Int), g e.2) := by
  unfold dset dsetN
  have e1 : (l.map fun e => ((e.1 : Int), g e.2)).any (fun kv => decide (kv.1 = (k : Int))) = l.any (fun kv => decide (kv.1 = k)) := by
    rw [List.any_map]
    congr 1
    funext e
    show decide ((e.1 : Int) = (k : Int)) = decide (e.1 = k)
    by_cases h : e.1 = k
    · rw [decide_eq_true h, decide_eq_true (by lia)]
    · rw [decide_eq_false h, decide_eq_false (by lia)]
  rw [e1]
  by_cases h : l.any fun kv => decide (kv.1 = k)
  · rw [if_pos h, if_pos h, List.map_map, List.map_map]
    refine List.map_congr_left fun e _ => ?_
    show (if (e.1 : Int) = (k : Int) then ((e.1 : Int), g x) else ((e.1 : Int), g e.2)) = ((fun e : Nat × α => ((e.1 : Int), g e.2)) (if e.1 = k then (e.1, x) else e))
    by_cases q : e.1 = k
    · rw [if_pos q, if_pos (by lia)]
    · rw [if_neg q, if_neg (by lia)]
  · rw [if_neg h, if_neg h, List.map_append]; rfl
theorem dsetN_length {α : Type} {k : Nat} {x : α} {l : List (Nat × α)} : (dsetN k x l).length ≤ l.length + 1 := by
  unfold dsetN
  split
  · rw [List.length_map]; lia
  · rw [List.length_append]; exact Nat.le_refl _
structure G where
  wh : List Nat
  fo : List Nat
  prs : List (Nat × Nat)
  lps : List (Nat × Nat × Nat)
noncomputable def gaStep (a : Nat) (r : R) (g : G) : G := match r with
  | .whil _ => { g with wh := g.wh ++ [a] }
  | .wend => match g.wh.getLast? with
    | none => g
    | some bg => { g with wh := g.wh.dropLast, prs := dsetN a bg (dsetN bg a g.prs) }
  | .forr _ => { g with fo := g.fo ++ [a] }
  | .next => match g.fo.getLast? with
    | none => g
    | some bg => { g with fo := g.fo.dropLast, lps := dsetN bg (a, 0) g.lps }
  | _ => g
noncomputable def gaN (rows : List Row) : Nat → G
  | 0 => ⟨[], [], [], []⟩
  | i + 1 => gaStep i ((rows[i]?).getD (0, .endd)).2 (gaN rows i)
theorem gaN_len (rows : List Row) : ∀ i, (gaN rows i).wh.length ≤ i ∧ (gaN rows i).fo.length ≤ i ∧ (gaN rows i).prs.length ≤ 2 * i ∧ (gaN rows i).lps.length ≤ i
  | 0 => ⟨Nat.le_refl _, Nat.le_refl _, Nat.le_refl _, Nat.le_refl _⟩
  | i + 1 => by
    have ⟨h1, h2, h3, h4⟩ := gaN_len rows i
    show (gaStep i _ (gaN rows i)).wh.length ≤ _ ∧ (gaStep i _ (gaN rows i)).fo.length ≤ _ ∧ (gaStep i _ (gaN rows i)).prs.length ≤ _ ∧ (gaStep i _ (gaN rows i)).lps.length ≤ _
    generalize gaN rows i = g at *
    cases ((rows[i]?).getD (0, .endd)).2 with
    | whil c => simp only [gaStep, List.length_append, List.length_cons, List.length_nil]; lia
    | forr c => simp only [gaStep, List.length_append, List.length_cons, List.length_nil]; lia
    | wend =>
      simp only [gaStep]
      split
      · lia
      · rename_i bg _
        have a1 := dsetN_length (k := i) (x := bg) (l := dsetN bg i g.prs)
        have a2 := dsetN_length (k := bg) (x := i) (l := g.prs)
        simp only [List.length_dropLast]; lia
    | next =>
      simp only [gaStep]
      split
      · lia
      · rename_i bg _
        have a1 := dsetN_length (k := bg) (x := ((i, 0) : Nat × Nat)) (l := g.lps)
        simp only [List.length_dropLast]; lia
    | _ => simp only [gaStep]; lia
theorem put_comm {k j : Nat} {o o' : O} (h : k ≠ j) : ∀ {σ : Store}, put k o (put j o' σ) = put j o' (put k o σ)
  | [] => rfl
  | (i, e) :: r => by
    by_cases h1 : i = k
    · subst h1
      obtain ⟨q, x⟩ := e
      rw [put_cons h, put_head, put_head, put_cons h]
    · by_cases h2 : i = j
      · subst h2
        obtain ⟨q, x⟩ := e
        rw [put_head, put_cons (Ne.symm h), put_cons (Ne.symm h), put_head]
      · rw [put_cons h2, put_cons h1, put_cons h1, put_cons h2, put_comm h]
end
section
open PySem PySem.W PyProof.Rows PySem.Calls
noncomputable def dsetP (k : Int) (x : Nat) (l : List (Int × Nat)) : List (Int × Nat) :=
  if l.any (fun kv => kv.1 = k) then l.map (fun kv => if kv.1 = k then (kv.1, x) else kv) else l ++ [(k, x)]
theorem dsetP_map (k : Int) (x : Nat) (l : List (Int × Nat)) : dset k (nV x) (plV l) = plV (dsetP k x l) := by
  unfold dset dsetP
  have e1 : (plV l).any (fun kv => decide (kv.1 = k)) = l.any (fun kv => decide (kv.1 = k)) := by rw [List.any_map]; rfl
  rw [e1]
  by_cases h : l.any fun kv => decide (kv.1 = k)
  · rw [if_pos h, if_pos h]
    show (l.map _).map _ = (l.map _).map _
    rw [List.map_map, List.map_map]
    refine List.map_congr_left fun e _ => ?_
    show (if e.1 = k then (e.1, nV x) else (e.1, nV e.2)) = ((fun e : Int × Nat => (e.1, nV e.2)) (if e.1 = k then (e.1, x) else e))
    by_cases q : e.1 = k
    · rw [if_pos q, if_pos q]
    · rw [if_neg q, if_neg q]
  · rw [if_neg h, if_neg h]
    show l.map _ ++ _ = (l ++ [(k, x)]).map _
    rw [List.map_append]; rfl
theorem dsetP_length {k : Int} {x : Nat} {l : List (Int × Nat)} : (dsetP k x l).length ≤ l.length + 1 := by
  unfold dsetP
  split
  · rw [List.length_map]; lia
  · rw [List.length_append]; exact Nat.le_refl _
theorem plc_dsetP {k : Int} {x : Nat} {l : List (Int × Nat)} : dget k (plV (dsetP k x l)) = some (nV x) := by
  rw [dget_pl]
  unfold dsetP
  by_cases h : l.any fun kv => decide (kv.1 = k)
  · rw [if_pos h]
    induction l with
    | nil => simp at h
    | cons e l ih =>
      rw [List.map_cons, List.find?_cons]
      by_cases q : e.1 = k
      · rw [if_pos q]; simp [q]
      · rw [if_neg q]
        rw [List.any_cons, decide_eq_false q, Bool.false_or] at h
        simp only [decide_eq_false q]
        exact ih h
  · rw [if_neg h, List.find?_append]
    have : l.find? (fun kv => decide (kv.1 = k)) = none := by
      rw [List.find?_eq_none]
      intro e he q
      exact h (List.any_eq_true.mpr ⟨e, he, q⟩)
    rw [this]; simp
noncomputable def flN (lines : List (Int × List S)) : Nat → List Row × List (Int × Nat)
  | 0 => ([], [])
  | i + 1 =>
    let d := flN lines i
    let l := (lines[i]?).getD (0, [])
    (d.1 ++ flSs l.1 d.1.length l.2, dsetP l.1 d.1.length d.2)
noncomputable def lineV (l : Int × List S) : V := .tup [.int l.1, .lst (l.2.map S.v)]
theorem flSs_take {line : Int} : ∀ (L : List S) (i m : Nat), (flSs line m (L.take i)).length ≤ (flSs line m L).length
  | [], i, m => by simp
  | s :: L, 0, m => Nat.zero_le _
  | s :: L, i + 1, m => by
    show (flS line m s ++ flSs line _ (L.take i)).length ≤ (flS line m s ++ flSs line _ L).length
    rw [List.length_append, List.length_append]
    have := flSs_take (line := line) L i (m + (flS line m s).length)
    lia
theorem flN_mono {lines : List (Int × List S)} (h : ∀ i, i < lines.length → (flN lines i).1.length < (flN lines (i + 1)).1.length) : ∀ k i, i + k = lines.length → (flN lines i).1.length ≤ (flN lines lines.length).1.length
  | 0, i, e => by rw [← e]; exact Nat.le_refl _
  | k + 1, i, e => Nat.le_trans (Nat.le_of_lt (h i (by lia))) (flN_mono h k (i + 1) (by lia))
theorem flN_pl {lines : List (Int × List S)} : ∀ i, (flN lines i).2.length ≤ i
  | 0 => Nat.le_refl _
  | i + 1 => by
    have := flN_pl (lines := lines) i
    show (dsetP _ _ (flN lines i).2).length ≤ _
    exact Nat.le_trans dsetP_length (by lia)
end
section
variable {b : Bas} {n : Nat} {σ : Store} {Q : W → Store → Prop}
variable {p2 p3 p4 p5 p6 p7 p8 : Nat}
theorem fn_Flat (q : ∀ p3 p4 p5 p6 p7 p8, Q (.v .none) ((8, p8, .dI []) :: (7, p7, .dI []) :: (6, p6, .dI []) :: (5, p5, .list []) :: (4, p4, .dI []) :: (3, p3, .list []) :: (2, p2, .inst 428 (flatR p3 p4 p5 p6 p7 p8)) :: σ)) : FN b (n + 1) (.ref 425) [.ref 2 p2] ((2, p2, .inst 428 []) :: σ) Q := by
  walk_at "F"
  walk_at "S"
  refine EE.newList 3 ?_
  walk_at "S"
  intro p3
  walk_at "S"
  refine EE.newDI 4 ?_
  intro p4
  walk_at "S"
  refine EE.newList 5 ?_
  walk_at "S"
  intro p5
  walk_at "S"
  refine EE.newDI 6 ?_
  intro p6
  walk_at "S"
  refine EE.newDI 7 ?_
  intro p7
  walk_at "S"
  refine EE.newDI 8 ?_
  intro p8
  walk_at "S"
  exact q p3 p4 p5 p6 p7 p8
theorem fn_join0 {p60 : Nat} {k : Nat} {at' : Nat} (h2 : σ.lookup 2 = some (p2, .inst 428 (flatR p3 p4 p5 p6 p7 p8))) (h60 : σ.lookup k = some (p60, .list [])) (q : Q (.v .none) σ) : FN b (n + 1) (.ref 467) [.ref 2 p2, .ref k p60, .v (.int at')] σ Q := by
  walk_at "F"
  walk_at "S"
  exact q
theorem fn_join1 {p60 : Nat} {w : List V} {bg at' : Nat} {pr : List (Int × V)} (h2 : σ.lookup 2 = some (p2, .inst 428 (flatR p3 p4 p5 p6 p7 p8))) (h60 : σ.lookup 60 = some (p60, .list (w ++ [.int bg]))) (h6 : σ.lookup 6 = some (p6, .dI pr)) (hw : w.length ≤ 1000) (hp : pr.length ≤ 1000)
    (q : Q (.v .none) (put 6 (.dI (dset (at' : Int) (.int bg) (dset (bg : Int) (.int at') pr))) (put 60 (.list w) σ))) : FN b (n + 1) (.ref 467) [.ref 2 p2, .ref 60 p60, .v (.int at')] σ Q := by
  have d1 : decide (0 < (((w ++ [V.int bg]).length : Nat) : Int)) = true := decide_eq_true (by rw [List.length_append]; show (0 : Int) < ((w.length + 1 : Nat) : Int); lia)
  walk_at "F"
  walk_at "S"
  refine AP.pop h60 ?_ (by lia)
  have hz2 : (dset (bg : Int) (V.int at') pr).length ≤ 1001 := Nat.le_trans dset_length (by lia)
  walk_at "S"
  rw [put_put]
  exact q
theorem fn_loops0 {p61 : Nat} {at' : Nat} (h2 : σ.lookup 2 = some (p2, .inst 428 (flatR p3 p4 p5 p6 p7 p8))) (h61 : σ.lookup 61 = some (p61, .list [])) (q : Q (.v .none) σ) : FN b (n + 1) (.ref 474) [.ref 2 p2, .ref 61 p61, .v (.int at'), .v (.int 1)] σ Q := by
  walk_at "F"
  walk_at "S"
  refine IT.rangeN (m := 1) rfl (by decide) ?_
  refine FB.cons trivial ?_
  walk_at "S"
  refine FB.nil trivial ?_
  walk_at "S"
  exact q
theorem fn_loops1 {p61 : Nat} {w : List V} {bg at' : Nat} {lp : List (Int × V)} (h2 : σ.lookup 2 = some (p2, .inst 428 (flatR p3 p4 p5 p6 p7 p8))) (h61 : σ.lookup 61 = some (p61, .list (w ++ [.int bg]))) (h7 : σ.lookup 7 = some (p7, .dI lp)) (hw : w.length ≤ 1000) (hp : lp.length ≤ 1000)
    (q : Q (.v .none) (put 7 (.dI (dset (bg : Int) (.tup [.int at', .int 0]) lp)) (put 61 (.list w) σ))) : FN b (n + 1) (.ref 474) [.ref 2 p2, .ref 61 p61, .v (.int at'), .v (.int 1)] σ Q := by
  have d1 : decide (0 < (((w ++ [V.int bg]).length : Nat) : Int)) = true := decide_eq_true (by rw [List.length_append]; show (0 : Int) < ((w.length + 1 : Nat) : Int); lia)
  walk_at "F"
  walk_at "S"
  refine IT.rangeN (m := 1) rfl (by decide) ?_
  refine FB.cons trivial ?_
  walk_at "S"
  refine AP.pop h61 ?_ (by lia)
  walk_at "S"
  refine FB.nil trivial ?_
  walk_at "S"
  exact q
end
section
variable {b : Bas} {n : Nat} {σ : Store} {Q : W → Store → Prop}
variable {p2 p3 p4 p5 p6 p7 p8 : Nat}
theorem fn_gather {rows : List Row} (ht : Temps σ) (hf : FlatT σ p2 p3 p4 p5 p6 p7 p8 (rows.map rowV)) (h6 : σ.lookup 6 = some (p6, .dI [])) (h7 : σ.lookup 7 = some (p7, .dI [])) (hz : rows.length ≤ 400)
    (q : Q (.v .none) (put 7 (.dI (lpV (gaN rows rows.length).lps)) (put 6 (.dI (prV (gaN rows rows.length).prs)) σ))) : FN b (n + 2) (.ref 460) [.ref 2 p2] σ Q := by
  have f2 := hf.f2
  have f3 := hf.f3
  refine FN.sub ?_
  walk_at "F"
  walk_at "S"
  refine EE.newList 60 ?_
  walk_at "S"
  intro p60
  walk_at "S"
  refine EE.newList 61 ?_
  walk_at "S"
  intro p61
  walk_at "S"
  refine EE.newList 62 ?_
  walk_at "S"
  intro p62
  walk_at "S"
  refine ⟨_, _, IsSrc.tr (by walk_at "look"), ?_⟩
  refine FB.invL (fun _ => _) (fun i s => s = (62, p62, .list []) :: (61, p61, .list ((gaN rows i).fo.map nV)) :: (60, p60, .list ((gaN rows i).wh.map nV)) :: put 7 (.dI (lpV (gaN rows i).lps)) (put 6 (.dI (prV (gaN rows i).prs)) σ)) _ (fun i x s hx hI => ?_) (fun s hI => ?_) ?_
  · subst hI
    refine ex1_2 (enumFrom_get hx) fun y hy zz1 => ?_
    subst zz1
    rw [List.getElem?_map] at hy
    refine ex1_2 (Option.map_eq_some_iff.mp hy) fun zz2 hr zz3 => ?_
    subst zz3
    obtain ⟨line, r⟩ := zz2
    have hi : i < rows.length := (List.getElem?_eq_some_iff.mp hr).1
    have hg : gaN rows (i + 1) = gaStep i r (gaN rows i) := by show gaStep i ((rows[i]?).getD (0, .endd)).2 _ = _; rw [hr]; rfl
    have ⟨z1, z2, z3, z4⟩ := gaN_len rows i
    rw [hg]
    generalize gaN rows i = g at z1 z2 z3 z4 ⊢
    rw [Nat.zero_add]
    refine ⟨by walk_at "look", ?_⟩
    cases r with
    | rem t =>
      rw [show rowV (line, R.rem t) = .tup [.int line, .tup [.str "REM", .str t]] from rfl]
      walk_at "S"
      exact ⟨LSub.refl.set.set.set.set.set, rfl⟩
    | lt =>
      rw [show rowV (line, R.lt) = .tup [.int line, .tup [.str "LET", tX, tTwo "+" 1]] from rfl]
      walk_at "S"
      exact ⟨LSub.refl.set.set.set.set.set, rfl⟩
    | ifn c g' =>
      rw [show rowV (line, R.ifn c g') = .tup [.int line, .tup [.str "IFNOT", tTwo "<" c, .int g']] from rfl]
      walk_at "S"
      exact ⟨LSub.refl.set.set.set.set.set, rfl⟩
    | jmp g' =>
      rw [show rowV (line, R.jmp g') = .tup [.int line, .tup [.str "JUMP", .int g']] from rfl]
      walk_at "S"
      exact ⟨LSub.refl.set.set.set.set.set, rfl⟩
    | goto g' =>
      rw [show rowV (line, R.goto g') = .tup [.int line, .tup [.str "GOTO", .int g']] from rfl]
      walk_at "S"
      exact ⟨LSub.refl.set.set.set.set.set, rfl⟩
    | gosub =>
      rw [show rowV (line, R.gosub) = .tup [.int line, .tup [.str "GOSUB", .int 9000]] from rfl]
      walk_at "S"
      exact ⟨LSub.refl.set.set.set.set.set, rfl⟩
    | ret =>
      rw [show rowV (line, R.ret) = .tup [.int line, .tup [.str "RETURN", .none]] from rfl]
      walk_at "S"
      exact ⟨LSub.refl.set.set.set.set.set, rfl⟩
    | endd =>
      rw [show rowV (line, R.endd) = .tup [.int line, .tup [.str "END"]] from rfl]
      walk_at "S"
      exact ⟨LSub.refl.set.set.set.set.set, rfl⟩
    | whil c =>
      rw [show rowV (line, R.whil c) = .tup [.int line, .tup [.str "WHILE", tTwo "<" c]] from rfl]
      walk_at "S"
      refine ⟨LSub.refl.set.set.set.set.set, ?_⟩
      rw [put_cons (by decide), put_cons (by decide), put_head]
      simp only [gaStep, List.map_append, List.map_cons, List.map_nil]
    | forr l =>
      rw [show rowV (line, R.forr l) = .tup [.int line, tFor l] from rfl]
      walk_at "S"
      refine ⟨LSub.refl.set.set.set.set.set, ?_⟩
      rw [put_cons (by decide), put_head]
      simp only [gaStep, List.map_append, List.map_cons, List.map_nil]
    | wend =>
      rw [show rowV (line, R.wend) = .tup [.int line, .tup [.str "WEND"]] from rfl]
      walk_at "S"
      cases hl : g.wh.getLast? with
      | none =>
        have e : g.wh = [] := List.getLast?_eq_none_iff.mp hl
        refine AP.fn (by k_is) (fn_join0 (by walk_at "look") (by rw [e]; walk_at "look") ?_)
        walk_at "S"
        exact ⟨LSub.refl.set.set.set.set.set, by simp only [gaStep, hl]⟩
      | some bg =>
        refine ex1_1 (List.getLast?_eq_some_iff.mp hl) fun w e => ?_
        have e2 : g.wh.dropLast = w := by rw [e, List.dropLast_concat]
        have hw : w.length ≤ 400 := by rw [e, List.length_append] at z1; simp only [List.length_cons, List.length_nil] at z1; lia
        refine AP.fn (by k_is) (fn_join1 (w := w.map nV) (bg := bg) (pr := prV g.prs) (by walk_at "look") (by rw [e, List.map_append]; walk_at "look") (by walk_at "look") (by rw [List.length_map]; lia) (by rw [List.length_map]; lia) ?_)
        walk_at "S"
        refine ⟨LSub.refl.set.set.set.set.set, ?_⟩
        rw [put_cons (k := 60) (by decide), put_cons (k := 60) (by decide), put_head, put_cons (k := 6) (by decide), put_cons (k := 6) (by decide), put_cons (k := 6) (by decide), put_comm (k := 6) (by decide), put_put]
        simp only [gaStep, hl, e2]
        have e5 : dset (i : Int) (V.int bg) (dset (bg : Int) (V.int i) (prV g.prs)) = prV (dsetN i bg (dsetN bg i g.prs)) := (congrArg (dset (i : Int) (V.int bg)) (dset_map nV bg i g.prs)).trans (dset_map nV i bg _)
        rw [e5]
    | next =>
      rw [show rowV (line, R.next) = .tup [.int line, .tup [.str "NEXT", .lst [.str "I"]]] from rfl]
      walk_at "S"
      refine AP.max2 ?_
      walk_at "S"
      rw [show (if (([V.str "I"].length : Nat) : Int) > 1 then (([V.str "I"].length : Nat) : Int) else 1) = 1 from rfl]
      cases hl : g.fo.getLast? with
      | none =>
        have e : g.fo = [] := List.getLast?_eq_none_iff.mp hl
        refine AP.fn (by k_is) (fn_loops0 (by walk_at "look") (by rw [e]; walk_at "look") ?_)
        walk_at "S"
        exact ⟨LSub.refl.set.set.set.set.set, by simp only [gaStep, hl]⟩
      | some bg =>
        refine ex1_1 (List.getLast?_eq_some_iff.mp hl) fun w e => ?_
        have e2 : g.fo.dropLast = w := by rw [e, List.dropLast_concat]
        have hw : w.length ≤ 400 := by rw [e, List.length_append] at z2; simp only [List.length_cons, List.length_nil] at z2; lia
        refine AP.fn (by k_is) (fn_loops1 (w := w.map nV) (bg := bg) (lp := lpV g.lps) (by walk_at "look") (by rw [e, List.map_append]; walk_at "look") (by walk_at "look") (by rw [List.length_map]; lia) (by rw [List.length_map]; lia) ?_)
        walk_at "S"
        refine ⟨LSub.refl.set.set.set.set.set, ?_⟩
        rw [put_cons (k := 61) (by decide), put_head, put_cons (k := 7) (by decide), put_cons (k := 7) (by decide), put_cons (k := 7) (by decide), put_put]
        simp only [gaStep, hl, e2]
        have e6 : dset (bg : Int) (V.tup [V.int i, V.int 0]) (lpV g.lps) = lpV (dsetN bg (i, 0) g.lps) := dset_map (fun e : Nat × Nat => V.tup [nV e.1, nV e.2]) bg (i, 0) g.lps
        rw [e6]
  · subst hI
    rw [enumFrom_length, List.length_map]
    refine ⟨by walk_at "look", ?_⟩
    walk_at "S"
    have h60 := ht 60 (by decide)
    have h61 := ht 61 (by decide)
    have h62 := ht 62 (by decide)
    refine ⟨_, ?_, q⟩
    refine ((Sub.refl.skip ?_).skip ?_).skip ?_ <;> walk_at "look"
  · show (62, p62, O.list []) :: (61, p61, O.list []) :: (60, p60, O.list []) :: σ = _
    rw [show (gaN rows 0) = ⟨[], [], [], []⟩ from rfl]
    show _ = (62, p62, O.list []) :: (61, p61, O.list []) :: (60, p60, O.list []) :: put 7 (.dI []) (put 6 (.dI []) σ)
    rw [put_id h6, put_id h7]
end
section
variable {b : Bas} {n : Nat} {σ : Store} {Q : W → Store → Prop}
variable {p2 p3 p4 p5 p6 p7 p8 : Nat}
theorem fn_flatten {lines : List (Int × List S)} {p1 : Nat} (ht : Temps σ) (h1 : σ.lookup 1 = some (p1, .list (lines.map lineV))) (hn : ∀ k, 2 ≤ k → k ≤ 8 → σ.lookup k = none) (hl : lines.length ≤ 100)
    (hS : ∀ l ∈ lines, ∀ s ∈ l.2, s.ok) (hgrow : ∀ i, i < lines.length → (flN lines i).1.length < (flN lines (i + 1)).1.length) (hz : (flN lines lines.length).1.length ≤ 100)
    (q : ∀ p2, let d := flN lines lines.length
      let g := gaN d.1 d.1.length
      Q (.ref 2 p2) ((2, p2, .inst 428 (flatF b (d.1.map rowV) (plV d.2) (prV g.prs) (lpV g.lps))) :: σ)) : FN b (n + 6) (.ref 481) [.ref 1 p1] σ Q := by
  refine FN.fz (hn 2 (by decide) (by decide)) ?_
  walk_at "F"
  walk_at "S"
  refine AP.new 2 (by k_is) (by k_is) (by k_is) (by k_is) fun p2 => fn_Flat fun p3 p4 p5 p6 p7 p8 => ⟨rfl, ?_⟩
  walk_at "S"
  refine FB.invL (fun _ => _) (fun i s => s = (8, p8, .dI []) :: (7, p7, .dI []) :: (6, p6, .dI []) :: (5, p5, .list []) :: (4, p4, .dI (plV (flN lines i).2)) :: (3, p3, .list ((flN lines i).1.map rowV)) :: (2, p2, .inst 428 (flatR p3 p4 p5 p6 p7 p8)) :: σ) _ (fun i x s hx hI => ?_) (fun s hI => ?_) rfl
  · subst hI
    rw [List.getElem?_map] at hx
    obtain ⟨⟨line, L⟩, hr, rfl⟩ := Option.map_eq_some_iff.mp hx
    have hi : i < lines.length := (List.getElem?_eq_some_iff.mp hr).1
    have hm := List.mem_of_getElem? hr
    have hg := hgrow i hi
    have hd : flN lines (i + 1) = ((flN lines i).1 ++ flSs line (flN lines i).1.length L, dsetP line (flN lines i).1.length (flN lines i).2) := by show (_ ++ flSs ((lines[i]?).getD (0, [])).1 _ ((lines[i]?).getD (0, [])).2, dsetP ((lines[i]?).getD (0, [])).1 _ _) = _; rw [hr]; rfl
    have hz1 := flN_mono hgrow (lines.length - (i + 1)) (i + 1) (by lia)
    have hz2 := flN_pl (lines := lines) i
    rw [hd] at hg hz1 ⊢
    generalize flN lines i = d at hg hz1 hz2 ⊢
    have hz3 : d.1.length + (flSs line d.1.length L).length ≤ 100 := by
      have : (d.1 ++ flSs line d.1.length L).length ≤ 100 := Nat.le_trans hz1 hz
      rwa [List.length_append] at this
    have hg' : 0 < (flSs line d.1.length L).length := by
      have : d.1.length < (d.1 ++ flSs line d.1.length L).length := hg
      rw [List.length_append] at this; lia
    have ll : (d.1.map rowV).length = d.1.length := List.length_map _
    refine ⟨by walk_at "look", ?_⟩
    rw [show lineV (line, L) = .tup [.int line, .lst (L.map S.v)] from rfl]
    have e4 : dset line (V.int (((d.1.map rowV).length : Nat) : Int)) (plV d.2) = plV (dsetP line d.1.length d.2) := by rw [ll]; exact dsetP_map _ _ _
    have d1 : (((d.1.length : Nat) : Int) == ((d.1.map rowV ++ (flSs line (d.1.map rowV).length L).map rowV).length : Nat)) = false := beq_eq_false_iff_ne.mpr (by rw [List.length_append, List.length_map, List.length_map]; lia)
    walk_at "S"
    rw [e4, put_cons (by decide), put_cons (by decide), put_cons (by decide), put_cons (by decide), put_head]
    refine AP.fn (by k_is) (fn_put_all (rs := d.1.map rowV) (p3 := p3) (p4 := p4) (p5 := p5) (p6 := p6) (p7 := p7) (p8 := p8) ⟨by walk_at "look", by walk_at "look"⟩ (hS _ hm) (fun j _ => ?_) ?_)
    · rw [ll]
      have := flSs_take (line := line) L j d.1.length
      lia
    rw [put_cons (by decide), put_cons (by decide), put_cons (by decide), put_cons (by decide), put_cons (by decide), put_head]
    walk_at "S"
    refine GI.dI (by walk_at "look") plc_dsetP ?_
    walk_at "S"
    refine ⟨LSub.refl.set.set, ?_⟩
    rw [ll, List.map_append]
  · subst hI
    rw [List.length_map]
    refine ⟨by walk_at "look", ?_⟩
    have hz2 := flN_pl (lines := lines) lines.length
    generalize hd : flN lines lines.length = d at hz hz2 q ⊢
    walk_at "S"
    refine AP.fn (by k_is) (fn_gather (rows := d.1) (p2 := p2) (p3 := p3) (p4 := p4) (p5 := p5) (p6 := p6) (p7 := p7) (p8 := p8) ?_ ⟨by walk_at "look", by walk_at "look"⟩ (by walk_at "look") (by walk_at "look") (by lia) ?_)
    · exact ((((((ht.cons (by decide)).cons (by decide)).cons (by decide)).cons (by decide)).cons (by decide)).cons (by decide)).cons (by decide)
    rw [put_cons (k := 6) (by decide), put_cons (k := 6) (by decide), put_head, put_cons (k := 7) (by decide), put_head]
    walk_at "S"
    have h2 := hn 2 (by decide) (by decide)
    have h3 := hn 3 (by decide) (by decide)
    have h4 := hn 4 (by decide) (by decide)
    have h5 := hn 5 (by decide) (by decide)
    have h6 := hn 6 (by decide) (by decide)
    have h7 := hn 7 (by decide) (by decide)
    have h8 := hn 8 (by decide) (by decide)
    refine ⟨p2, 428, _, rfl, by walk_at "look", ((((((Ext.refl.cons h2).cons h3).cons h4).cons h5).cons h6).cons h7).cons h8, ?_⟩
    simp only [List.map_cons, List.map_nil]
    rw [fzW_list h3 (by walk_at "look"), fzW_dI h4 (by walk_at "look"), fzW_list h5 (by walk_at "look"), fzW_dI h6 (by walk_at "look"), fzW_dI h7 (by walk_at "look"), fzW_dI h8 (by walk_at "look")]
    exact q p2
end
section
variable {b : Bas} {n : Nat} {σ : Store} {Q : W → Store → Prop}
inductive Fr where
  | forr (place : Nat) (limit : Int)
  | whil (place : Nat)
  | gosub (place : Nat)
noncomputable def Fr.v : Fr → V
  | .forr p l => .tup [.str "FOR", .str "I", .int p, .int l, .int 1]
  | .whil p => .tup [.str "WHILE", .int p]
  | .gosub p => .tup [.str "GOSUB", .int p]
noncomputable abbrev pileV (o : Option Fr) : List V := (o.map Fr.v).toList
noncomputable abbrev ctlF (p13 : Nat) : List (Str × W) := [("pile", .ref 13 p13), ("most", .v (.int 20)), ("failed_at", .v (.int (-1)))]
structure CtlAt (σ : Store) (p12 p13 : Nat) (o : Option Fr) : Prop where
  c12 : σ.lookup 12 = some (p12, .inst 526 (ctlF p13))
  c13 : σ.lookup 13 = some (p13, .list (pileV o))
variable {p12 p13 : Nat} {o : Option Fr}
theorem fn_Control (q : ∀ p13, Q (.v .none) ((13, p13, .list []) :: (12, p12, .inst 526 (ctlF p13)) :: σ)) : FN b (n + 1) (.ref 523) [.ref 12 p12, .v (.int 20)] ((12, p12, .inst 526 []) :: σ) Q := by
  walk_at "F"
  walk_at "S"
  refine EE.newList 13 ?_
  walk_at "S"
  intro p13
  walk_at "S"
  exact q p13
theorem IT.rangeK {x : Str} {p : Pos} {lo hi st : Int} (m : Nat) {Q : List V → (Store → Prop) → Store → Prop} (hs : Builtin.Range.small lo hi st = true) (hm : Builtin.Range.rangeSize lo hi st = (m : Int)) (q : Q (rangeV lo st m) (fun _ => True) σ) : IT b n (.Name x p) (rangeW lo hi st) σ Q := IT.range hs hm q
theorem fn_floor0 (h : σ.lookup 13 = some (p13, .list [])) (q : Q (.v (.int 0)) σ) : FN b (n + 1) (.ref 544) [.ref 13 p13] σ Q := by
  walk_at "F"
  walk_at "S"
  refine IT.rangeK 0 (by kernel_rfl) (by kernel_rfl) ?_
  refine FB.nil trivial ?_
  walk_at "S"
  exact q
theorem fn_floor1 {f : Fr} (h : σ.lookup 13 = some (p13, .list [f.v])) (q : Q (.v (.int (match f with | .gosub _ => 1 | _ => 0))) σ) : FN b (n + 1) (.ref 544) [.ref 13 p13] σ Q := by
  walk_at "F"
  walk_at "S"
  refine IT.rangeK 1 (by kernel_rfl) (by kernel_rfl) ?_
  refine FB.cons trivial ?_
  walk_at "S"
  show GI b n (.ref 13 p13) (.v (.int 0)) σ _
  refine GI.list (ListW.of h) (by decide) rfl ?_ (by decide)
  cases f with
  | gosub p =>
    dsimp only [Fr.v]
    walk_at "S"
    exact q
  | forr p l =>
    dsimp only [Fr.v]
    walk_at "S"
    refine FB.nil trivial ?_
    walk_at "S"
    exact q
  | whil p =>
    dsimp only [Fr.v]
    walk_at "S"
    refine FB.nil trivial ?_
    walk_at "S"
    exact q
theorem fn_put_upon {x : V} (h : CtlAt σ p12 p13 none) (q : Q (.v .none) (put 13 (.list [x]) σ)) : FN b (n + 1) (.ref 537) [.ref 12 p12, .v x] σ Q := by
  have c12 := h.c12
  have c13 := h.c13
  walk_at "F"
  walk_at "S"
  exact q
end
section
open PySem PySem.W PyProof.Rows PySem.Calls
noncomputable def prc (l : List (Nat × Nat)) (k : Nat) : Nat := ((l.find? fun e => e.1 = k).map (·.2)).getD 0
noncomputable def lpc (l : List (Nat × Nat × Nat)) (k : Nat) : Nat := ((l.find? fun e => e.1 = k).map (·.2.1)).getD 0
theorem find_key {α : Type} {g : α → V} {l : List (Nat × α)} {k : Nat} : dget (k : Int) (l.map fun e => ((e.1 : Int), g e.2)) = (l.find? fun e => e.1 = k).map fun e => g e.2 := by
  unfold dget
  rw [List.find?_map, Option.map_map]
  have e : ((fun kv : Int × V => decide (kv.1 = (k : Int))) ∘ fun e : Nat × α => ((e.1 : Int), g e.2)) = fun e => decide (e.1 = k) := by
    funext e
    show decide ((e.1 : Int) = (k : Int)) = decide (e.1 = k)
    by_cases h : e.1 = k
    · rw [decide_eq_true h, decide_eq_true (by lia)]
    · rw [decide_eq_false h, decide_eq_false (by lia)]
  rw [e]; rfl
theorem dget_pr {l : List (Nat × Nat)} {k : Nat} (h : k ∈ l.map (·.1)) : dget (k : Int) (prV l) = some (nV (prc l k)) := by
  have e : dget (k : Int) (prV l) = (l.find? fun e => e.1 = k).map fun e => nV e.2 := find_key (g := fun x => nV x)
  rw [e]
  unfold prc
  cases q : l.find? fun x => x.1 = k with
  | none =>
    refine ex1_2 (List.mem_map.mp h) fun e' he zz1 => ?_
    subst zz1
    exact absurd (List.find?_eq_none.mp q e' he) (by simp)
  | some x => rfl
noncomputable def flow (pl : Int → Nat) (pr lp : Nat → Nat) (a : Nat) (x i : Int) : Option Fr → R → Option (Nat × Int × Option Fr)
  | fr, .ifn c g => some (if x < c then a + 1 else g, i, fr)
  | fr, .jmp g => some (g, i, fr)
  | fr, .goto g => some (pl g, i, fr)
  | none, .gosub => some (pl 9000, i, some (.gosub (a + 1)))
  | some (.gosub p), .ret => some (p, i, none)
  | none, .forr l => some (if l < 1 then lp a + 1 else a + 1, 1, if l < 1 then none else some (.forr (a + 1) l))
  | some (.forr p l), .next => some (if l < i + 1 then a + 1 else p, i + 1, if l < i + 1 then none else some (.forr p l))
  | some (.whil p), .wend => some (p, i, some (.whil p))
  | none, .whil c => some (if x < c then a + 1 else pr a + 1, i, if x < c then some (.whil a) else none)
  | some (.whil _), .whil c => some (if x < c then a + 1 else pr a + 1, i, if x < c then some (.whil a) else none)
  | _, _ => none
theorem flow_at {P : Nat → Int → Option Fr → Prop} {A t : Nat × Int × Option Fr} (e : some A = some t) (h : P A.1 A.2.1 A.2.2) : P t.1 t.2.1 t.2.2 := Option.some.inj e ▸ h
theorem flow_no {A : Nat × Int × Option Fr} {T : Prop} (e : none = some A) : T := nomatch e
theorem flow_inv {pl : Int → Nat} {pr lp : Nat → Nat} {a : Nat} {x i : Int} {fr : Option Fr} {r : R} {a' : Nat} {i' : Int} {fr' : Option Fr} {P : R → Option Fr → Nat → Int → Option Fr → Prop} (e : flow pl pr lp a x i fr r = some (a', i', fr'))
    (ifn : ∀ c g fr, P (.ifn c g) fr (if x < c then a + 1 else g) i fr) (jmp : ∀ g fr, P (.jmp g) fr g i fr) (goto : ∀ g fr, P (.goto g) fr (pl g) i fr) (gosub : P .gosub none (pl 9000) i (some (.gosub (a + 1))))
    (ret : ∀ p, P .ret (some (.gosub p)) p i none) (forr : ∀ l, P (.forr l) none (if l < 1 then lp a + 1 else a + 1) 1 (if l < 1 then none else some (.forr (a + 1) l)))
    (next : ∀ p l, P .next (some (.forr p l)) (if l < i + 1 then a + 1 else p) (i + 1) (if l < i + 1 then none else some (.forr p l))) (wend : ∀ p, P .wend (some (.whil p)) p i (some (.whil p)))
    (whil : ∀ c fr, (fr = none ∨ ∃ p, fr = some (.whil p)) → P (.whil c) fr (if x < c then a + 1 else pr a + 1) i (if x < c then some (.whil a) else none)) : P r fr a' i' fr' := by
  cases r with
  | ifn c g => exact flow_at (P := P _ _) e (ifn _ _ _)
  | jmp g => exact flow_at (P := P _ _) e (jmp _ _)
  | goto g => exact flow_at (P := P _ _) e (goto _ _)
  | gosub => cases fr with
    | none => exact flow_at (P := P _ _) e gosub
    | some f => cases f <;> exact flow_no e
  | ret => cases fr with
    | none => exact flow_no e
    | some f => cases f <;> first | exact flow_no e | exact flow_at (P := P _ _) e (ret _)
  | forr l => cases fr with
    | none => exact flow_at (P := P _ _) e (forr _)
    | some f => cases f <;> exact flow_no e
  | next => cases fr with
    | none => exact flow_no e
    | some f => cases f <;> first | exact flow_no e | exact flow_at (P := P _ _) e (next _ _)
  | wend => cases fr with
    | none => exact flow_no e
    | some f => cases f <;> first | exact flow_no e | exact flow_at (P := P _ _) e (wend _)
  | whil c => cases fr with
    | none => exact flow_at (P := P _ _) e (whil _ _ (.inl rfl))
    | some f => cases f <;> first | exact flow_no e | exact flow_at (P := P _ _) e (whil _ _ (.inr ⟨_, rfl⟩))
  | _ => cases fr with
    | none => exact flow_no e
    | some f => cases f <;> exact flow_no e
def flowOk (rows : List Row) (pls : List (Int × Nat)) (prs : List (Nat × Nat)) (lps : List (Nat × Nat × Nat)) (a : Nat) (i : Int) (fr : Option Fr) : R → Prop
  | .goto g => g ∈ pls.map (·.1)
  | .gosub => (9000 : Int) ∈ pls.map (·.1)
  | .forr _ => dget (a : Int) (lpV lps) = some (.tup [nV (lpc lps a), nV 0]) ∧ ∃ line, rows[lpc lps a]? = some (line, .next)
  | .next => -32768 ≤ i + 1 ∧ i + 1 < 32768
  | .wend => ∀ p, fr = some (.whil p) → a ∈ prs.map (·.1) ∧ prc prs a = p
  | .whil _ => a ∈ prs.map (·.1) ∧ ∀ p, fr = some (.whil p) → p = a
  | _ => True
end
section
open PySem PySem.W PyProof.Rows PySem.Calls
structure PS where
  at' : Nat
  x : Int
  i : Int
  fr : Option Fr
  notes : List (Str × Int)
noncomputable def noteV (e : Str × Int) : V := .tup [.str e.1, .int e.2]
inductive Step (rows : List Row) (pls : List (Int × Nat)) (prs : List (Nat × Nat)) (lps : List (Nat × Nat × Nat)) : PS → PS → Prop
  | rem {s : PS} {l : Int} {t : Str} : rows[s.at']? = some (l, .rem t) → Step rows pls prs lps s { s with at' := s.at' + 1, notes := s.notes ++ [(t, s.x)] }
  | lt {s : PS} {l : Int} : rows[s.at']? = some (l, .lt) → Step rows pls prs lps s { s with at' := s.at' + 1, x := s.x + 1 }
  | flow {s : PS} {l : Int} {r : R} {a' : Nat} {i' : Int} {fr' : Option Fr} : rows[s.at']? = some (l, r) → flow (plc pls) (prc prs) (lpc lps) s.at' s.x s.i s.fr r = some (a', i', fr') → flowOk rows pls prs lps s.at' s.i s.fr r →
    Step rows pls prs lps s ⟨a', s.x, i', fr', s.notes⟩
theorem Step.notes {rows : List Row} {pls : List (Int × Nat)} {prs : List (Nat × Nat)} {lps : List (Nat × Nat × Nat)} {s s' : PS} (h : Step rows pls prs lps s s') : s'.notes.length ≤ s.notes.length + 1 := by
  cases h with
  | rem h => simp
  | lt h => exact Nat.le_succ _
  | flow h => exact Nat.le_succ _
theorem Step.row {rows : List Row} {pls : List (Int × Nat)} {prs : List (Nat × Nat)} {lps : List (Nat × Nat × Nat)} {s s' : PS} (h : Step rows pls prs lps s s') : ∃ l r, rows[s.at']? = some (l, r) := by
  cases h with
  | rem h => exact ⟨_, _, h⟩
  | lt h => exact ⟨_, _, h⟩
  | flow h => exact ⟨_, _, h⟩
end
section
open PySem PySem.W PyProof.Rows PySem.Calls
structure OS where
  place : Nat
  x : Int
  i : Int
  fr : Option Fr
  notes : List (Str × Int)
  pile : List Int
  asked : Nat
end
section
variable {b : Bas} {n : Nat} {σ : Store} {Q : W → Store → Prop}
variable {p12 p13 : Nat}
theorem fn_found0 {x y : V} (h : σ.lookup 13 = some (p13, .list [])) (q : Q (.v (.int (-1))) σ) : FN b (n + 2) (.ref 551) [.ref 13 p13, .v x, .v y] σ Q := by
  walk_at "F"
  walk_at "S"
  refine AP.fn (by k_is) (fn_floor0 h ?_)
  walk_at "S"
  refine IT.rangeK 0 (by kernel_rfl) (by kernel_rfl) ?_
  refine FB.nil trivial ?_
  walk_at "S"
  exact q
theorem fn_found_for {p : Nat} {l : Int} (h : σ.lookup 13 = some (p13, .list [(Fr.forr p l).v])) (q : Q (.v (.int 0)) σ) : FN b (n + 2) (.ref 551) [.ref 13 p13, .v (.str "FOR"), .v (.str "I")] σ Q := by
  walk_at "F"
  walk_at "S"
  refine AP.fn (by k_is) (fn_floor1 h ?_)
  walk_at "S"
  refine IT.rangeK 1 (by kernel_rfl) (by kernel_rfl) ?_
  refine FB.cons trivial ?_
  walk_at "S"
  show GI b _ (.ref 13 p13) (.v (.int 0)) σ _
  refine GI.list (ListW.of h) (by decide) rfl ?_ (by decide)
  dsimp only [Fr.v]
  walk_at "S"
  show GI b _ (.ref 13 p13) (.v (.int 0)) σ _
  refine GI.list (ListW.of h) (by decide) rfl ?_ (by decide)
  dsimp only [Fr.v]
  walk_at "S"
  exact q
variable {o : Option Fr}
noncomputable abbrev CS (o : Option Fr) (p12 p13 : Nat) (σ : Store) : Store := (13, p13, .list (pileV o)) :: (12, p12, .inst 526 (ctlF p13)) :: σ
theorem CS.at : CtlAt (CS o p12 p13 σ) p12 p13 o := ⟨by walk_at "look", by walk_at "look"⟩
theorem Sub.cs {o o' : Option Fr} {p q : Nat} : Sub (CS o' p12 q σ) ((13, q, .list (pileV o')) :: (13, p, .list (pileV o)) :: (12, p12, .inst 526 (ctlF q)) :: σ) := fun j e h => by
  by_cases h3 : j = 13
  · subst h3
    rw [lookup_cons_eq] at h ⊢
    exact h
  · rw [lookup_cons_ne h3] at h
    rw [lookup_cons_ne h3, lookup_cons_ne h3]
    exact h
theorem wh_in (p : Nat) : ((pds [V.str (Str.ofString ""), V.int (p : Int)]).any fun y => y.eqv (pd (V.int (p : Int)))) = true := by
  show (_ || (decide ((p : Int) = p) || false)) = true
  simp
theorem fn_found_whil {p : Nat} (h : σ.lookup 13 = some (p13, .list [(Fr.whil p).v])) (q : Q (.v (.int 0)) σ) : FN b (n + 2) (.ref 551) [.ref 13 p13, .v (.str "WHILE"), .v (.int p)] σ Q := by
  walk_at "F"
  walk_at "S"
  refine AP.fn (by k_is) (fn_floor1 h ?_)
  walk_at "S"
  refine IT.rangeK 1 (by kernel_rfl) (by kernel_rfl) ?_
  refine FB.cons trivial ?_
  walk_at "S"
  show GI b _ (.ref 13 p13) (.v (.int 0)) σ _
  refine GI.list (ListW.of h) (by decide) rfl ?_ (by decide)
  dsimp only [Fr.v]
  walk_at "S"
  show GI b _ (.ref 13 p13) (.v (.int 0)) σ _
  refine GI.list (ListW.of h) (by decide) rfl ?_ (by decide)
  dsimp only [Fr.v]
  walk_at "S"
  rw [wh_in]
  walk_at "S"
  exact q
theorem fn_cut0 (q : ∀ p, Q (.v .none) (CS none p12 p σ)) : FN b (n + 1) (.ref 558) [.ref 12 p12, .v (.int 0)] (CS o p12 p13 σ) Q := by
  refine FN.sub ?_
  walk_at "F"
  walk_at "S"
  refine EE.sliceToTA 13 ?_
  walk_at "S"
  refine ⟨_, 0, ListW.of (by walk_at "look"), rfl, by cases o <;> exact Nat.le_of_ble_eq_true rfl, fun p => ?_⟩
  walk_at "S"
  exact ⟨_, Sub.cs (o := o) (o' := none), q p⟩
theorem fn_cut1 {f : Fr} (q : ∀ p, Q (.v .none) (CS (some f) p12 p σ)) : FN b (n + 1) (.ref 558) [.ref 12 p12, .v (.int 1)] (CS (some f) p12 p13 σ) Q := by
  refine FN.sub ?_
  walk_at "F"
  walk_at "S"
  refine EE.sliceToTA 13 ?_
  walk_at "S"
  refine ⟨_, 1, ListW.of (by walk_at "look"), rfl, Nat.le_of_ble_eq_true rfl, fun p => ?_⟩
  walk_at "S"
  exact ⟨_, Sub.cs (o := some f) (o' := some f), q p⟩
end
section
variable {b : Bas} {n : Nat} {σ : Store} {Q : W → Store → Prop}
variable {p12 p13 : Nat} {o : Option Fr}
theorem past_lt (v l : Int) : decide (b2i (decide (l > v)) - b2i (decide (l < v)) < 0) = decide (l < v) := by
  by_cases h : l < v
  · have h2 : ¬ l > v := by lia
    rw [decide_eq_true h, decide_eq_false h2]; rfl
  · rw [decide_eq_false h]
    by_cases h2 : l > v
    · rw [decide_eq_true h2]; rfl
    · rw [decide_eq_false h2]; rfl
theorem fn_is_past {v l : Int} (q : Q (.v (.bool (decide (l < v)))) σ) : FN b (n + 3) (.ref 565) [.v (.int v), .v (.int l), .v (.int 1), .v (.raw (.ref 276))] σ Q := by
  walk_at "F"
  walk_at "S"
  refine AP.fn (by k_is) (fn_sign_of ?_)
  walk_at "S"
  refine AP.fn (by k_is) (fn_order_of ?_)
  walk_at "S"
  rw [past_lt]
  exact q
theorem fn_for_begin {p : Nat} {l : Int} (q : Q (.v .none) (CS (some (.forr p l)) p12 p13 σ)) : FN b (n + 3) (.ref 572) [.ref 12 p12, .v (.str "I"), .v (.int p), .v (.int l), .v (.int 1)] (CS none p12 p13 σ) Q := by
  walk_at "F"
  walk_at "S"
  refine AP.fn (by k_is) (fn_found0 (by walk_at "look") ?_)
  walk_at "S"
  refine AP.fn (by k_is) (fn_put_upon CS.at ?_)
  walk_at "S"
  exact q
theorem fn_for_name {p : Nat} {l : Int} (q : Q (.v (.str "I")) (CS (some (.forr p l)) p12 p13 σ)) : FN b (n + 3) (.ref 579) [.ref 12 p12, .v (.str "I")] (CS (some (.forr p l)) p12 p13 σ) Q := by
  walk_at "F"
  walk_at "S"
  refine AP.fn (by k_is) (fn_found_for (by walk_at "look") ?_)
  walk_at "S"
  dsimp only [Fr.v]
  walk_at "S"
  exact q
end
section
variable {b : Bas} {n : Nat} {σ : Store} {Q : W → Store → Prop}
variable {p12 p13 : Nat} {o : Option Fr}
theorem fn_for_end {p : Nat} {l v : Int} {cs : W}
    (hp : ∀ Q' : W → Store → Prop, Q' (.v (.int (v + 1))) (CS (some (.forr p l)) p12 p13 σ) → AP b (n + 3) cs [.v (.int v), .v (.int 1)] (CS (some (.forr p l)) p12 p13 σ) Q')
    (h : decide (l < v + 1) = true) (q : ∀ p, Q (.v (.tup [.int (v + 1), .none])) (CS none p12 p σ)) : FN b (n + 4) (.ref 586) [.ref 12 p12, .v (.str "I"), .v (.int v), cs, .v (.raw (.ref 276))] (CS (some (.forr p l)) p12 p13 σ) Q := by
  walk_at "F"
  walk_at "S"
  refine AP.fn (by k_is) (fn_found_for (by walk_at "look") ?_)
  walk_at "S"
  refine hp _ ?_
  walk_at "S"
  refine AP.fn (by k_is) (fn_is_past ?_)
  rw [h]
  walk_at "S"
  refine AP.fn (by k_is) (fn_cut0 fun p' => ?_)
  walk_at "S"
  exact q p'
theorem fn_for_on {p : Nat} {l v : Int} {cs : W}
    (hp : ∀ Q' : W → Store → Prop, Q' (.v (.int (v + 1))) (CS (some (.forr p l)) p12 p13 σ) → AP b (n + 3) cs [.v (.int v), .v (.int 1)] (CS (some (.forr p l)) p12 p13 σ) Q')
    (h : decide (l < v + 1) = false) (q : ∀ p', Q (.v (.tup [.int (v + 1), .int p])) (CS (some (.forr p l)) p12 p' σ)) : FN b (n + 4) (.ref 586) [.ref 12 p12, .v (.str "I"), .v (.int v), cs, .v (.raw (.ref 276))] (CS (some (.forr p l)) p12 p13 σ) Q := by
  walk_at "F"
  walk_at "S"
  refine AP.fn (by k_is) (fn_found_for (by walk_at "look") ?_)
  walk_at "S"
  refine hp _ ?_
  walk_at "S"
  refine AP.fn (by k_is) (fn_is_past ?_)
  rw [h]
  walk_at "S"
  rw [show (0 + 1 : Int) = 1 from rfl]
  refine AP.fn (by k_is) (fn_cut1 (f := .forr p l) fun p' => ?_)
  walk_at "S"
  exact q p'
theorem fn_gosub {p : Nat} (q : Q (.v .none) (CS (some (.gosub p)) p12 p13 σ)) : FN b (n + 3) (.ref 611) [.ref 12 p12, .v (.int p)] (CS none p12 p13 σ) Q := by
  walk_at "F"
  walk_at "S"
  refine AP.fn (by k_is) (fn_put_upon CS.at ?_)
  walk_at "S"
  exact q
theorem fn_return_place {p : Nat} (q : ∀ p', Q (.v (.int p)) (CS none p12 p' σ)) : FN b (n + 3) (.ref 618) [.ref 12 p12] (CS (some (.gosub p)) p12 p13 σ) Q := by
  walk_at "F"
  walk_at "S"
  refine AP.fn (by k_is) (fn_floor1 (by walk_at "look") ?_)
  walk_at "S"
  dsimp only [Fr.v]
  walk_at "S"
  rw [show (1 - 1 : Int) = 0 from rfl]
  refine AP.fn (by k_is) (fn_cut0 fun p' => ?_)
  walk_at "S"
  exact q p'
end
section
variable {b : Bas} {n : Nat} {σ : Store} {Q : W → Store → Prop}
variable {p12 p13 : Nat} {o : Option Fr}
theorem fn_wend_place {p : Nat} (q : ∀ p', Q (.v (.int p)) (CS (some (.whil p)) p12 p' σ)) : FN b (n + 3) (.ref 604) [.ref 12 p12, .v (.int p)] (CS (some (.whil p)) p12 p13 σ) Q := by
  refine' FN.introD ?ho ?eP ?eB ?eS ?hcd ?hb ?hn ?hl ?hk ?hfr ?hnd ?h ?sp ?cf ?c1 ?c2 ?c3
  (case ho => k_is); (case eP => (conv => lhs; whnf)); (case eB => (conv => lhs; whnf)); (case eS => (conv => lhs; whnf)); (case hcd => k_is)
  case hb =>
    intro vs s hv hs
    obtain ⟨u, v, rfl⟩ : ∃ u v, vs = [u, v] := by
      match vs, hv with
      | [u, v], _ => exact ⟨u, v, rfl⟩
    exact BindsTo.of_defaults (T := 597) rfl (b.X.keeps hs 597 _ (by k_is)) rfl rfl rfl
  (case hn => decide); (case hl => rfl); (case hk => rfl); (case hfr => rfl); (case hnd => decide)
  (case sp => rfl); (case cf => exact .inl rfl)
  (case c1 => rfl); (case c2 => rfl); (case c3 => rfl)
  dsimp only [List.map, List.zip, List.zipWith]
  walk_at "S"
  refine AP.fn (by k_is) (fn_found_whil (by walk_at "look") ?_)
  walk_at "S"
  rw [show (0 + 1 : Int) = 1 from rfl]
  refine AP.fn (by k_is) (fn_cut1 (f := .whil p) fun p' => ?_)
  walk_at "S"
  dsimp only [Fr.v]
  walk_at "S"
  exact q p'
end
section
variable {b : Bas} {n : Nat} {σ : Store} {Q : W → Store → Prop}
variable {p12 p13 : Nat} {o : Option Fr}
theorem wh_sh (p : Nat) : shV (.tup [.str "WHILE", .int p]) = true := by kernel_rfl
theorem wh_eq (p : Nat) : PyData.eqv (pd (Fr.whil p).v) (pd (.tup [.str "WHILE", .int p])) = true := by
  show ("WHILE" == "WHILE" && (decide ((p : Int) = p) && true)) = true
  simp
theorem fn_while_begin0 {p : Nat} (q : Q (.v .none) (CS (some (.whil p)) p12 p13 σ)) : FN b (n + 3) (.ref 591) [.ref 12 p12, .v (.int p)] (CS none p12 p13 σ) Q := by
  walk_at "F"
  walk_at "S"
  refine AP.fn (by k_is) (fn_floor0 (by walk_at "look") ?_)
  walk_at "S"
  refine IT.rangeK 0 (by kernel_rfl) (by kernel_rfl) ?_
  refine CB.nil trivial ?_ (Nat.le_of_ble_eq_true rfl)
  walk_at "S"
  refine EE.lst ?_
  walk_at "S"
  refine Op2.neD (.inl rfl) (.inl rfl) rfl rfl ?_
  rw [show PyData.eqv (pd (V.lst [])) (pd (V.lst [])) = true from rfl]
  walk_at "S"
  refine AP.fn (by k_is) (fn_put_upon CS.at ?_)
  walk_at "S"
  exact q
theorem fn_while_begin1 {p : Nat} (q : ∀ p', Q (.v .none) (CS (some (.whil p)) p12 p' σ)) : FN b (n + 3) (.ref 591) [.ref 12 p12, .v (.int p)] (CS (some (.whil p)) p12 p13 σ) Q := by
  walk_at "F"
  walk_at "S"
  refine AP.fn (by k_is) (fn_floor1 (by walk_at "look") ?_)
  walk_at "S"
  refine IT.rangeK 1 (by kernel_rfl) (by kernel_rfl) ?_
  refine CB.test (acc := []) trivial rfl ?_ (Nat.le_of_ble_eq_true rfl)
  walk_at "S"
  dsimp only [Fr.v]
  refine Op2.eqD (.inl rfl) (.inl rfl) (wh_sh p) (wh_sh p) ?_
  rw [show PyData.eqv (pd (V.tup [.str "WHILE", .int p])) (pd (V.tup [.str "WHILE", .int p])) = true from wh_eq p]
  walk_at "S"
  refine CB.nil trivial ?_ (Nat.le_of_ble_eq_true rfl)
  walk_at "S"
  refine EE.lst ?_
  walk_at "S"
  refine Op2.neD (.inl rfl) (.inl rfl) rfl rfl ?_
  rw [show (0 + ((0 : Nat) : Int) * 1) = 0 from rfl, show PyData.eqv (pd (V.lst [V.int 0])) (pd (V.lst [])) = false from rfl]
  walk_at "S"
  rw [show (0 + 1 : Int) = 1 from rfl]
  refine AP.fn (by k_is) (fn_cut1 (f := .whil p) fun p' => ?_)
  walk_at "S"
  exact q p'
theorem fn_while_end0 {p : Nat} (q : Q (.v .none) (CS none p12 p13 σ)) : FN b (n + 3) (.ref 596) [.ref 12 p12, .v (.int p)] (CS none p12 p13 σ) Q := by
  walk_at "F"
  walk_at "S"
  refine AP.fn (by k_is) (fn_floor0 (by walk_at "look") ?_)
  walk_at "S"
  refine IT.rangeK 0 (by kernel_rfl) (by kernel_rfl) ?_
  refine CB.nil trivial ?_ (Nat.le_of_ble_eq_true rfl)
  walk_at "S"
  refine EE.lst ?_
  walk_at "S"
  refine Op2.neD (.inl rfl) (.inl rfl) rfl rfl ?_
  rw [show PyData.eqv (pd (V.lst [])) (pd (V.lst [])) = true from rfl]
  walk_at "S"
  exact q
theorem fn_while_end1 {p : Nat} (q : ∀ p', Q (.v .none) (CS none p12 p' σ)) : FN b (n + 3) (.ref 596) [.ref 12 p12, .v (.int p)] (CS (some (.whil p)) p12 p13 σ) Q := by
  walk_at "F"
  walk_at "S"
  refine AP.fn (by k_is) (fn_floor1 (by walk_at "look") ?_)
  walk_at "S"
  refine IT.rangeK 1 (by kernel_rfl) (by kernel_rfl) ?_
  refine CB.test (acc := []) trivial rfl ?_ (Nat.le_of_ble_eq_true rfl)
  walk_at "S"
  dsimp only [Fr.v]
  refine Op2.eqD (.inl rfl) (.inl rfl) (wh_sh p) (wh_sh p) ?_
  rw [show PyData.eqv (pd (V.tup [.str "WHILE", .int p])) (pd (V.tup [.str "WHILE", .int p])) = true from wh_eq p]
  walk_at "S"
  refine CB.nil trivial ?_ (Nat.le_of_ble_eq_true rfl)
  walk_at "S"
  refine EE.lst ?_
  walk_at "S"
  refine Op2.neD (.inl rfl) (.inl rfl) rfl rfl ?_
  rw [show (0 + ((0 : Nat) : Int) * 1) = 0 from rfl, show PyData.eqv (pd (V.lst [V.int 0])) (pd (V.lst [])) = false from rfl]
  walk_at "S"
  refine AP.fn (by k_is) (fn_cut0 fun p' => ?_)
  walk_at "S"
  exact q p'
end
section
variable {b : Bas} {n : Nat} {σ : Store} {Q : W → Store → Prop}
variable {p2 : Nat} {rows : List V} {places pairs loops : List (Int × V)}
theorem fn_place_of {g : Int} {x : V} (hf : FlatAt b σ p2 rows places pairs loops) (hx : dget g places = some x) (q : Q (.v x) σ) : FN b (n + 1) (.ref 488) [.ref 2 p2, .v (.int g)] σ Q := by
  have f2 := hf.at'
  walk_at "F"
  walk_at "S"
  rw [hx]
  walk_at "S"
  exact GI.fz hx q
theorem fn_end_of_while {g : Int} {x : V} (hf : FlatAt b σ p2 rows places pairs loops) (hx : dget g pairs = some x) (q : Q (.v x) σ) : FN b (n + 1) (.ref 502) [.ref 2 p2, .v (.int g)] σ Q := by
  have f2 := hf.at'
  walk_at "F"
  walk_at "S"
  rw [hx]
  walk_at "S"
  exact GI.fz hx q
theorem fn_next_of_for {g : Int} {x : V} (hf : FlatAt b σ p2 rows places pairs loops) (hx : dget g loops = some x) (q : Q (.v x) σ) : FN b (n + 1) (.ref 509) [.ref 2 p2, .v (.int g)] σ Q := by
  have f2 := hf.at'
  walk_at "F"
  walk_at "S"
  rw [hx]
  walk_at "S"
  exact GI.fz hx q
end
section
variable {b : Bas} {n : Nat} {σ : Store} {Q : W → Store → Prop}
variable {p10 p11 p12 p13 p14 : Nat} {o : Option Fr}
noncomputable abbrev vals (x i : Int) : List (Str × V) := [("X", .int x), ("I", .int i)]
noncomputable abbrev runF (p2 p11 p12 p14 : Nat) : List (Str × W) := [("flat", .ref 2 p2), ("values", .ref 11 p11), ("worth_of", .v (.raw (.ref 871))), ("bits", .v (.int 16)), ("digits", .v (.int 9)), ("control", .ref 12 p12), ("notes", .ref 14 p14)]
theorem fn_FlowRun {p2 : Nat} (q : ∀ p12 p13 p14, Q (.v .none) ((14, p14, .list []) :: (13, p13, .list []) :: (12, p12, .inst 526 (ctlF p13)) :: (10, p10, .inst 720 (runF p2 p11 p12 p14)) :: σ)) :
    FN b (n + 3) (.ref 675) [.ref 10 p10, .ref 2 p2, .ref 11 p11, .v (.raw (.ref 871)), .v (.int 16), .v (.int 9)] ((10, p10, .inst 720 []) :: σ) Q := by
  walk_at "F"
  walk_at "S"
  simp only [put_head]
  refine AP.new 12 (by k_is) (by k_is) (by k_is) (by k_is) fun p12 => fn_Control fun p13 => ⟨rfl, ?_⟩
  walk_at "S"
  refine EE.newList 14 ?_
  walk_at "S"
  intro p14
  walk_at "S"
  exact q p12 p13 p14
end
section
variable {b : Bas} {n : Nat} {σ : Store} {Q : W → Store → Prop}
variable {p2 p10 p11 p12 p13 p14 : Nat} {o : Option Fr} {x i : Int}
theorem fn_lw_whole {k : Int} {p : Nat} (q : Q (.v (.int k)) σ) : FN b (n + 1) (.ref 871) [.v (tW k), .ref 11 p] σ Q := by
  walk_at "F"
  walk_at "S"
  exact q
theorem fn_lw_name (h11 : σ.lookup 11 = some (p11, .dS (vals x i))) (q : Q (.v (.int x)) σ) : FN b (n + 1) (.ref 871) [.v tX, .ref 11 p11] σ Q := by
  walk_at "F"
  walk_at "S"
  exact q
theorem fn_lw_add {k : Int} (h11 : σ.lookup 11 = some (p11, .dS (vals x i))) (q : Q (.v (.int (x + k))) σ) : FN b (n + 2) (.ref 871) [.v (tTwo "+" k), .ref 11 p11] σ Q := by
  walk_at "F"
  walk_at "S"
  refine AP.fn (by k_is) (fn_lw_name h11 ?_)
  walk_at "S"
  refine AP.fn (by k_is) (fn_lw_whole ?_)
  walk_at "S"
  exact q
theorem fn_lw_lt {k : Int} (h11 : σ.lookup 11 = some (p11, .dS (vals x i))) (q : Q (.v (.int (if x < k then -1 else 0))) σ) : FN b (n + 2) (.ref 871) [.v (tTwo "<" k), .ref 11 p11] σ Q := by
  walk_at "F"
  walk_at "S"
  refine AP.fn (by k_is) (fn_lw_name h11 ?_)
  walk_at "S"
  refine AP.fn (by k_is) (fn_lw_whole ?_)
  walk_at "S"
  have e : (0 - if decide (x < k) = true then (1 : Int) else 0) = if x < k then -1 else 0 := by
    by_cases h : x < k
    · rw [if_pos h, if_pos (decide_eq_true h)]; rfl
    · rw [if_neg h, if_neg (by rw [decide_eq_false h]; decide)]; rfl
  rw [e]
  exact q
theorem fn_valX (h10 : σ.lookup 10 = some (p10, .inst 720 (runF p2 p11 p12 p14))) (h11 : σ.lookup 11 = some (p11, .dS (vals x i))) (q : Q (.v (.int x)) σ) : FN b (n + 1) (.ref 696) [.ref 10 p10, .v (.str "X")] σ Q := by
  walk_at "F"
  walk_at "S"
  exact q
theorem fn_valI (h10 : σ.lookup 10 = some (p10, .inst 720 (runF p2 p11 p12 p14))) (h11 : σ.lookup 11 = some (p11, .dS (vals x i))) (q : Q (.v (.int i)) σ) : FN b (n + 1) (.ref 696) [.ref 10 p10, .v (.str "I")] σ Q := by
  walk_at "F"
  walk_at "S"
  exact q
theorem fn_storeX {y : Int} (h10 : σ.lookup 10 = some (p10, .inst 720 (runF p2 p11 p12 p14))) (h11 : σ.lookup 11 = some (p11, .dS (vals x i))) (q : Q (.v .none) (put 11 (.dS (vals y i)) σ)) : FN b (n + 1) (.ref 703) [.ref 10 p10, .v (.str "X"), .v (.int y)] σ Q := by
  walk_at "F"
  walk_at "S"
  exact q
theorem fn_storeI {y : Int} (h10 : σ.lookup 10 = some (p10, .inst 720 (runF p2 p11 p12 p14))) (h11 : σ.lookup 11 = some (p11, .dS (vals x i))) (q : Q (.v .none) (put 11 (.dS (vals x y)) σ)) : FN b (n + 1) (.ref 703) [.ref 10 p10, .v (.str "I"), .v (.int y)] σ Q := by
  walk_at "F"
  walk_at "S"
  exact q
theorem fn_plus {i j : Int} (h10 : σ.lookup 10 = some (p10, .inst 720 (runF p2 p11 p12 p14))) (h1 : -32768 ≤ i + j) (h2 : i + j < 32768) (q : Q (.v (.int (i + j))) σ) : FN b (n + 5) (.ref 710) [.ref 10 p10, .v (.int i), .v (.int j)] σ Q := by
  walk_at "F"
  walk_at "S"
  refine AP.fn (by k_is) (fn_reckoned h1 h2 ?_)
  walk_at "S"
  exact q
theorem fn_worth {t : V} (h10 : σ.lookup 10 = some (p10, .inst 720 (runF p2 p11 p12 p14))) (h : FN b n (.ref 871) [.v t, .ref 11 p11] σ Q) : FN b (n + 1) (.ref 682) [.ref 10 p10, .v t] σ Q := by
  walk_at "F"
  walk_at "S"
  refine AP.fn (by k_is) ?_
  exact h
end
section
variable {b : Bas} {n : Nat} {σ : Store} {Q : W → Store → Prop}
variable {p2 p10 p11 p12 p13 p14 p15 p16 p17 p18 p19 p24 : Nat} {x i : Int}
noncomputable abbrev hkF (p11 p19 : Nat) : List (Str × W) := [("values", .ref 11 p11), ("bits", .v (.int 16)), ("digits", .v (.int 9)), ("asked", .ref 19 p19)]
noncomputable abbrev wyF (y1 y2 y3 y4 y5 : W) : List (Str × W) := [("begin", y1), ("store", y2), ("put", y3), ("do", y4), ("led", y5)]
noncomputable abbrev rrF (p24 p15 p16 p18 : Nat) (r : W) : List (Str × W) := [("code", .ref 24 p24), ("values", .v (.lst [])), ("bits", .v (.int 16)), ("digits", .v (.int 9)), ("hooks", .ref 15 p15), ("ways", .ref 16 p16), ("pile", .ref 18 p18), ("row", r)]
theorem fn_Hooks (q : ∀ p19, Q (.v .none) ((19, p19, .list []) :: (15, p15, .inst 776 (hkF p11 p19)) :: σ)) : FN b (n + 1) (.ref 738) [.ref 15 p15, .ref 11 p11, .v (.int 16), .v (.int 9)] ((15, p15, .inst 776 []) :: σ) Q := by
  walk_at "F"
  walk_at "S"
  refine EE.newList 19 ?_
  walk_at "S"
  intro p19
  walk_at "S"
  exact q p19
theorem fn_Ways {y1 y2 y3 y4 y5 : W} (q : Q (.v .none) ((16, p16, .inst 797 (wyF y1 y2 y3 y4 y5)) :: σ)) : FN b (n + 1) (.ref 794) [.ref 16 p16, y1, y2, y3, y4, y5] ((16, p16, .inst 797 []) :: σ) Q := by
  walk_at "F"
  walk_at "S"
  exact q
theorem fn_RowRun (q : ∀ p18, Q (.v .none) ((18, p18, .list []) :: (17, p17, .inst 853 (rrF p24 p15 p16 p18 (.v (.int 0)))) :: σ)) : FN b (n + 1) (.ref 815) [.ref 17 p17, .ref 24 p24, .v (.lst []), .v (.int 16), .v (.int 9), .ref 15 p15, .ref 16 p16] ((17, p17, .inst 853 []) :: σ) Q := by
  walk_at "F"
  walk_at "S"
  refine EE.newList 18 ?_
  walk_at "S"
  intro p18
  walk_at "S"
  exact q p18
theorem fn_hkval {l : List V} (h15 : σ.lookup 15 = some (p15, .inst 776 (hkF p11 p19))) (h11 : σ.lookup 11 = some (p11, .dS (vals x i))) (h19 : σ.lookup 19 = some (p19, .list l)) (hz : l.length ≤ 100000)
    (q : Q (.v (.int x)) (put 19 (.list (l ++ [.str "X"])) σ)) : FN b (n + 1) (.ref 745) [.ref 15 p15, .v (.str "X")] σ Q := by
  walk_at "F"
  walk_at "S"
  exact q
noncomputable abbrev cdF (os : List Od) (sv : List V) : List (Str × W) := [("orders", .v (.lst (os.map Od.v))), ("starts", .v (.lst sv))]
theorem fn_rrplace {os : List Od} {sv : List V} {r : W} {m s : Nat} (h17 : σ.lookup 17 = some (p17, .inst 853 (rrF p24 p15 p16 p18 r))) (h24 : σ.lookup 24 = some (p24, .inst 350 (cdF os sv))) (hm : m < sv.length) (hz : sv.length ≤ 1000) (hs : sv[m]? = some (nV s))
    (q : Q (.v (nV s)) σ) : FN b (n + 1) (.ref 822) [.ref 17 p17, .v (nV m)] σ Q := by
  have c1 : decide ((m : Int) < (sv.length : Int)) = true := decide_eq_true (by lia)
  walk_at "F"
  walk_at "S"
  refine GI.nat rfl hs ?_ hz
  walk_at "S"
  exact q
theorem fn_rrplace_end {os : List Od} {sv : List V} {r : W} {m : Nat} (h17 : σ.lookup 17 = some (p17, .inst 853 (rrF p24 p15 p16 p18 r))) (h24 : σ.lookup 24 = some (p24, .inst 350 (cdF os sv))) (hm : m = sv.length) (hz : sv.length ≤ 1000) (l0 : 0 < os.length) (l1 : os.length ≤ 1000)
    (q : Q (.v (nV (os.length - 1))) σ) : FN b (n + 1) (.ref 822) [.ref 17 p17, .v (nV m)] σ Q := by
  have c1 : decide ((m : Int) < (sv.length : Int)) = false := decide_eq_false (by lia)
  have lo1 : (os.map Od.v).length ≤ 1000 := by rw [List.length_map]; exact l1
  walk_at "F"
  walk_at "S"
  rw [List.length_map, show ((os.length : Int) - 1) = ((os.length - 1 : Nat) : Int) by lia]
  exact q
end
section
open PySem PySem.W PyProof.Rows PySem.Calls
noncomputable def noted (r : R) (x : Int) (notes : List (Str × Int)) : List (Str × Int) := match r with
  | .rem t => notes ++ [(t, x)]
  | _ => notes
def doAt (rows : List Row) (pls : List (Int × Nat)) (prs : List (Nat × Nat)) (lps : List (Nat × Nat × Nat)) (k : Nat) (x i : Int) (fr : Option Fr) (r : R) (a' : Nat) (i' : Int) (fr' : Option Fr) : Prop :=
  (r = .endd ∧ a' = rows.length ∧ i' = i ∧ fr' = fr) ∨ (flow (plc pls) (prc prs) (lpc lps) k x i fr r = some (a', i', fr') ∧ flowOk rows pls prs lps k i fr r)
inductive OStep (rows : List Row) (pls : List (Int × Nat)) (prs : List (Nat × Nat)) (lps : List (Nat × Nat × Nat)) (os : List Od) (sv : List V) : OS → OS → Prop
  | row {a : OS} {k : Nat} {l : Int} {r : R} : os[a.place]? = some (.row k) → rows[k]? = some (l, r) → a.notes.length ≤ 10000 → OStep rows pls prs lps os sv a { a with place := a.place + 1, notes := noted r a.x a.notes }
  | doo {a : OS} {k : Nat} {l : Int} {r : R} {a' s : Nat} {i' : Int} {fr' : Option Fr} : os[a.place]? = some (.doo k) → rows[k]? = some (l, r) → doAt rows pls prs lps k a.x a.i a.fr r a' i' fr' →
      ((a' < sv.length ∧ sv[a']? = some (nV s)) ∨ (a' = sv.length ∧ s = os.length - 1)) → OStep rows pls prs lps os sv a { a with place := s, i := i', fr := fr' }
  | go {a : OS} {g : Nat} : os[a.place]? = some (.go g) → OStep rows pls prs lps os sv a { a with place := g }
  | fls {a : OS} {g : Nat} {u : Int} : os[a.place]? = some (.fls g) → a.pile = [u] → OStep rows pls prs lps os sv a { a with place := if u = 0 then g else a.place + 1, pile := [] }
  | store {a : OS} {u : Int} : os[a.place]? = some .store → a.pile = [u] → OStep rows pls prs lps os sv a { a with place := a.place + 1, x := u, pile := [] }
  | var {a : OS} : os[a.place]? = some .var → a.pile = [] → a.asked ≤ 10000 → OStep rows pls prs lps os sv a { a with place := a.place + 1, pile := [a.x], asked := a.asked + 1 }
  | push {a : OS} {u k : Int} : os[a.place]? = some (.push k) → a.pile = [u] → OStep rows pls prs lps os sv a { a with place := a.place + 1, pile := [u, k] }
  | add {a : OS} {u v : Int} : os[a.place]? = some .add → a.pile = [u, v] → -32768 ≤ u + v → u + v < 32768 → OStep rows pls prs lps os sv a { a with place := a.place + 1, pile := [u + v] }
  | lss {a : OS} {u v : Int} : os[a.place]? = some .lss → a.pile = [u, v] → OStep rows pls prs lps os sv a { a with place := a.place + 1, pile := [if u < v then -1 else 0] }
inductive ORun (rows : List Row) (pls : List (Int × Nat)) (prs : List (Nat × Nat)) (lps : List (Nat × Nat × Nat)) (os : List Od) (sv : List V) : OS → Nat → OS → Prop
  | done {a : OS} : os[a.place]? = some .endd → ORun rows pls prs lps os sv a 0 a
  | step {a a' z : OS} {m : Nat} : OStep rows pls prs lps os sv a a' → ORun rows pls prs lps os sv a' m z → ORun rows pls prs lps os sv a (m + 1) z
theorem OStep.at {rows : List Row} {pls : List (Int × Nat)} {prs : List (Nat × Nat)} {lps : List (Nat × Nat × Nat)} {os : List Od} {sv : List V} {a a' : OS} (h : OStep rows pls prs lps os sv a a') : ∃ o, os[a.place]? = some o ∧ o ≠ .endd := by
  cases h with
  | row h => exact ⟨_, h, nofun⟩
  | doo h => exact ⟨_, h, nofun⟩
  | go h => exact ⟨_, h, nofun⟩
  | fls h => exact ⟨_, h, nofun⟩
  | store h => exact ⟨_, h, nofun⟩
  | var h => exact ⟨_, h, nofun⟩
  | push h => exact ⟨_, h, nofun⟩
  | add h => exact ⟨_, h, nofun⟩
  | lss h => exact ⟨_, h, nofun⟩
end
section
open PySem PySem.W PyProof.Rows PySem.Calls
theorem placeF_pl (pls : List (Int × Nat)) : placeF (plV pls) = plc pls := by
  funext g
  unfold placeF plc
  rw [dget_pl]
  cases pls.find? (fun e => e.1 = g) with
  | none => rfl
  | some e => rfl
theorem ordsOf_pos {pl : Int → Nat} {a : Nat} {r : R} : 1 ≤ (ordsOf pl a r).length := by cases r <;> exact Nat.le_of_ble_eq_true rfl
theorem strt_at {pl : Int → Nat} : ∀ (l : List Row) (a m i s : Nat), (strt pl a m l)[i]? = some s → m + i ≤ s ∧ s < m + (ords pl a l).length
  | [], _, _, _, _, h => by cases h
  | r :: l, a, m, 0, s, h => by
    cases h
    show m + 0 ≤ m ∧ m < m + (ordsOf pl a r.2 ++ ords pl (a + 1) l).length
    rw [List.length_append]
    have := ordsOf_pos (pl := pl) (a := a) (r := r.2)
    lia
  | r :: l, a, m, i + 1, s, h => by
    have ih := strt_at l (a + 1) (m + (ordsOf pl a r.2).length) i s h
    have := ordsOf_pos (pl := pl) (a := a) (r := r.2)
    show m + (i + 1) ≤ s ∧ s < m + (ordsOf pl a r.2 ++ ords pl (a + 1) l).length
    rw [List.length_append]
    lia
theorem cOrds_length (pl : Int → Nat) (rows : List Row) : (cOrds pl rows).length = (ords pl 0 rows).length + 1 := by
  unfold cOrds
  rw [List.length_append, List.length_map]; rfl
theorem cOrds_goal (pl : Int → Nat) (rows : List Row) : ∀ o ∈ cOrds pl rows, ∀ g, o.goal = some g → g < (cOrds pl rows).length := by
  intro o ho g hg
  rw [cOrds_length]
  unfold cOrds at ho
  rcases List.mem_append.mp ho with ho | ho
  · refine ex1_2 (List.mem_map.mp ho) fun o' _ zz1 => ?_
    subst zz1
    have key : ∀ k : Nat, ((strt pl 0 0 rows)[k]?).getD (ords pl 0 rows).length < (ords pl 0 rows).length + 1 := fun k => by
      cases h : (strt pl 0 0 rows)[k]? with
      | none => exact Nat.lt_succ_self _
      | some s =>
        have := (strt_at rows 0 0 k s h).2
        show s < _
        lia
    cases o' with
    | go k => cases hg; exact key k
    | fls k => cases hg; exact key k
    | _ => cases hg
  · rw [List.mem_singleton] at ho
    subst ho; cases hg
noncomputable def codeO (rows : List Row) (pls : List (Int × Nat)) (prs : List (Nat × Nat)) (lps : List (Nat × Nat × Nat)) : List Od × List V :=
  let os := cOrds (plc pls) rows
  let st := strt (plc pls) 0 0 rows
  let left := leftL (alone pls prs lps os st) os st rows.length
  let d := dropN left (st.tail ++ [os.length - 1]) os os.length
  (d.2.1.map (movO d.2.2), (List.range rows.length).map fun a => if (left[a]?).getD false then V.int (-1) else nV ((d.2.2[(st[a]?).getD 0]?).getD 0))
theorem codeO_len1 (rows : List Row) (pls : List (Int × Nat)) (prs : List (Nat × Nat)) (lps : List (Nat × Nat × Nat)) : (codeO rows pls prs lps).1.length ≤ 5 * rows.length + 1 := by
  show (List.map _ _).length ≤ _
  rw [List.length_map]
  refine Nat.le_trans (dropN_found _ _ _ _) ?_
  rw [cOrds_length]
  have := ords_length (pl := plc pls) rows 0
  lia
theorem codeO_len2 (rows : List Row) (pls : List (Int × Nat)) (prs : List (Nat × Nat)) (lps : List (Nat × Nat × Nat)) : (codeO rows pls prs lps).2.length = rows.length := by
  show (List.map _ _).length = _
  rw [List.length_map, List.length_range]
theorem R.notRem {r : R} (h : ∀ t, r ≠ .rem t) : ∃ w l, r.v = .tup (.str w :: l) ∧ (w == ("REM" : Str)) = false := by
  cases r <;> first | exact absurd rfl (h _) | exact ⟨_, _, rfl, rfl⟩
end
section
open PySem PySem.W PyProof.Rows PySem.Calls
inductive PT where
  | goto (g : Nat)
  | ifgo (c : Nat) (g : Nat)
  | forr (l : Nat)
  | whil (c : Nat)
  | gosub
noncomputable def mk (a s : Nat) : Str := ((toString ((10 * a + s : Nat) : Int) : String) : Str)
noncomputable def lno (a : Nat) : Int := 100 * ((a : Int) + 1)
noncomputable def PT.lines (a : Nat) : PT → List (Int × List S)
  | .goto g => [(lno a, [.p (.rem (mk a 0)), .p (.goto (lno g)), .p (.rem (mk a 1))])]
  | .ifgo c g => [(lno a, [.iff c [.rem (mk a 0), .goto (lno g)] [.rem (mk a 1), .lt], .p (.rem (mk a 2))])]
  | .forr l => [(lno a, [.p (.forr l), .p (.rem (mk a 0))]), (lno a + 1, [.p .lt, .p (.rem (mk a 1))]), (lno a + 2, [.p .next, .p (.rem (mk a 2))])]
  | .whil c => [(lno a, [.p (.whil c)]), (lno a + 1, [.p .lt, .p (.rem (mk a 1))]), (lno a + 2, [.p .wend, .p (.rem (mk a 2))])]
  | .gosub => [(lno a, [.p .gosub, .p (.rem (mk a 0))])]
def PT.ok (a many : Nat) : PT → Prop
  | .goto g => a < g ∧ g ≤ many
  | .ifgo c g => c < 3 ∧ a < g ∧ g ≤ many
  | .forr l => l < 4
  | .whil c => 1 ≤ c ∧ c < 4
  | .gosub => True
theorem small_log {i : Int} (h0 : 0 ≤ i) (h : i ≤ 1000) : i.natAbs.log2 < 1920 := by
  by_cases e : i.natAbs = 0
  · rw [e]; decide
  · rw [Nat.log2_lt e]
    exact Nat.lt_of_le_of_lt (show i.natAbs ≤ 2 ^ 10 by lia) (Nat.pow_lt_pow_right (by decide) (by decide))
end
section
open PySem PySem.W PyProof.Rows PySem.Calls
noncomputable def linesFrom : Nat → List PT → List (Int × List S)
  | _, [] => []
  | a, P :: ps => P.lines a ++ linesFrom (a + 1) ps
theorem linesFrom_append : ∀ (ps : List PT) (a : Nat) (P : PT), linesFrom a (ps ++ [P]) = linesFrom a ps ++ P.lines (a + ps.length)
  | [], a, P => by show P.lines a ++ [] = P.lines a; exact List.append_nil _
  | Q :: ps, a, P => by
    show Q.lines a ++ linesFrom (a + 1) (ps ++ [P]) = (Q.lines a ++ linesFrom (a + 1) ps) ++ _
    rw [linesFrom_append ps (a + 1) P, List.append_assoc, List.length_cons, show a + 1 + ps.length = a + (ps.length + 1) by lia]
noncomputable def tl1 (many : Nat) : Int × List S := (lno many, [.p (.rem "80"), .p .endd, .p (.rem "81")])
noncomputable def tl2 : Int × List S := (9000, [.p (.rem "90"), .p .ret, .p (.rem "91")])
noncomputable def linesOf (ps : List PT) : List (Int × List S) := linesFrom 0 ps ++ [tl1 ps.length] ++ [tl2]
theorem linesFrom_length : ∀ (ps : List PT) (a : Nat), (linesFrom a ps).length ≤ 3 * ps.length
  | [], _ => Nat.le_refl _
  | P :: ps, a => by
    show (P.lines a ++ linesFrom (a + 1) ps).length ≤ _
    rw [List.length_append, List.length_cons]
    have := linesFrom_length ps (a + 1)
    have : (P.lines a).length ≤ 3 := by cases P <;> exact Nat.le_of_ble_eq_true rfl
    lia
def OkParts (ps : List PT) (many : Nat) : Prop := ∀ (j : Nat) (P : PT), ps[j]? = some P → P.ok j many
theorem OkParts.nil {many : Nat} : OkParts [] many := fun j P h => by rw [List.getElem?_nil] at h; cases h
theorem OkParts.snoc {ps : List PT} {P : PT} {many : Nat} (h : OkParts ps many) (hP : P.ok ps.length many) : OkParts (ps ++ [P]) many := fun j R e => by
  by_cases hj : j < ps.length
  · rw [List.getElem?_append_left hj] at e
    exact h j R e
  · rw [List.getElem?_append_right (by lia)] at e
    by_cases hj2 : j = ps.length
    · subst hj2
      rw [Nat.sub_self] at e; cases e; exact hP
    · obtain ⟨i, hi⟩ : ∃ i, j - ps.length = i + 1 := ⟨j - ps.length - 1, by lia⟩
      rw [hi, List.getElem?_cons_succ, List.getElem?_nil] at e; cases e
theorem PT.lines3 (a : Nat) (P : PT) : (P.lines a).length ≤ 3 := by cases P <;> exact Nat.le_of_ble_eq_true rfl
end
section
open PySem PySem.W PyProof.Rows PySem.Calls
noncomputable abbrev rowsOf (ps : List PT) : List Row := (flN (linesOf ps) (linesOf ps).length).1
noncomputable abbrev plsOf (ps : List PT) : List (Int × Nat) := (flN (linesOf ps) (linesOf ps).length).2
noncomputable abbrev prsOf (ps : List PT) : List (Nat × Nat) := (gaN (rowsOf ps) (rowsOf ps).length).prs
noncomputable abbrev lpsOf (ps : List PT) : List (Nat × Nat × Nat) := (gaN (rowsOf ps) (rowsOf ps).length).lps
noncomputable def leftOf (rows : List Row) (pls : List (Int × Nat)) (prs : List (Nat × Nat)) (lps : List (Nat × Nat × Nat)) : List Bool :=
  leftL (alone pls prs lps (cOrds (plc pls) rows) (strt (plc pls) 0 0 rows)) (cOrds (plc pls) rows) (strt (plc pls) 0 0 rows) rows.length
noncomputable def leftR (rows : List Row) (left : List Bool) : List R := ((List.range rows.length).filter fun a => (left[a]?).getD false).map fun a => ((rows[a]?).getD (0, .endd)).2
noncomputable abbrev lftOf (ps : List PT) : List R := leftR (rowsOf ps) (leftOf (rowsOf ps) (plsOf ps) (prsOf ps) (lpsOf ps))
structure Good (ps : List PT) : Prop where
  hS : ∀ l ∈ linesOf ps, ∀ s ∈ l.2, s.ok
  grow : ∀ i, i < (linesOf ps).length → (flN (linesOf ps) i).1.length < (flN (linesOf ps) (i + 1)).1.length
  l2 : (rowsOf ps).length ≤ 100
  l0 : 0 < (rowsOf ps).length
  l3 : (plsOf ps).length ≤ 100
  l4 : (prsOf ps).length ≤ 100
  l5 : (lpsOf ps).length ≤ 100
  okR : ∀ r ∈ rowsOf ps, RowOk (plV (plsOf ps)) r.2
  texts : ∀ t, R.rem t ∈ lftOf ps → PyData.strOk t = true
  run : ∃ (st : Nat → PS) (K : Nat), st 0 = ⟨0, 0, 0, none, []⟩ ∧ (∀ k, k < K → Step (rowsOf ps) (plsOf ps) (prsOf ps) (lpsOf ps) (st k) (st (k + 1))) ∧ (∃ l, (rowsOf ps)[(st K).at']? = some (l, .endd)) ∧ K < 600 ∧ (∀ k, (st k).notes.length ≤ k) ∧
    (∃ p0 m z, (codeO (rowsOf ps) (plsOf ps) (prsOf ps) (lpsOf ps)).2[0]? = some (nV p0) ∧ ORun (rowsOf ps) (plsOf ps) (prsOf ps) (lpsOf ps) (codeO (rowsOf ps) (plsOf ps) (prsOf ps) (lpsOf ps)).1 (codeO (rowsOf ps) (plsOf ps) (prsOf ps) (lpsOf ps)).2 ⟨p0, 0, 0, none, [], [], 0⟩ m z ∧ z.notes = (st K).notes) ∧
    (∀ e ∈ (st K).notes, PyData.strOk e.1 = true ∧ R.rem e.1 ∉ lftOf ps)
  gone : ∀ a g, ps[a]? = some (.goto g) → R.rem (mk a 1) ∈ lftOf ps
  stay1 : R.rem "91" ∉ lftOf ps
  stay2 : R.rem "81" ∉ lftOf ps
  goneOk : ∀ a g, ps[a]? = some (.goto g) → PyData.strOk (mk a 1) = true
end
section
open PySem PySem.W PyProof.Rows PySem.Calls
noncomputable def pNeg (x : V) : Bool := match x with
  | .tup [_, .int s] => decide (s < 0)
  | _ => false
noncomputable def fRow (rows : List Row) (x : V) : V := match x with
  | .tup [.int a, _] => ((rows[a.toNat]?).getD (0, .endd)).2.v
  | x => x
theorem codeO_sv {rows : List Row} {pls : List (Int × Nat)} {prs : List (Nat × Nat)} {lps : List (Nat × Nat × Nat)} {i : Nat} {y : V} (h : (codeO rows pls prs lps).2[i]? = some y) :
    i < rows.length ∧ ∃ s : Int, y = .int s ∧ decide (s < 0) = ((leftOf rows pls prs lps)[i]?).getD false := by
  unfold codeO at h
  dsimp only at h
  rw [List.getElem?_map] at h
  refine ex1_2 (Option.map_eq_some_iff.mp h) fun a ha zz1 => ?_
  subst zz1
  have hi : i < rows.length := by have := (List.getElem?_eq_some_iff.mp ha).1; simpa using this
  rw [List.getElem?_range hi] at ha
  cases ha
  refine ⟨hi, ?_⟩
  show ∃ s : Int, (if ((leftOf rows pls prs lps)[i]?).getD false then V.int (-1) else _) = V.int s ∧ _
  cases hl : ((leftOf rows pls prs lps)[i]?).getD false with
  | true => exact ⟨-1, rfl, rfl⟩
  | false => exact ⟨_, rfl, decide_eq_false (by lia)⟩
theorem left_V (rows : List Row) (pls : List (Int × Nat)) (prs : List (Nat × Nat)) (lps : List (Nat × Nat × Nat)) :
    ((enumFrom 0 (codeO rows pls prs lps).2).filter pNeg).map (fRow rows) = (leftR rows (leftOf rows pls prs lps)).map R.v := by
  have e := enum_map (fun x => x) V.none (codeO rows pls prs lps).2 0
  rw [List.map_id'] at e
  rw [e, List.filter_map, List.map_map, codeO_len2]
  unfold leftR
  rw [List.map_map]
  have e2 : (List.range rows.length).filter (pNeg ∘ fun a => V.tup [.int ((0 + a : Nat) : Int), ((codeO rows pls prs lps).2[a]?).getD V.none]) = (List.range rows.length).filter fun a => ((leftOf rows pls prs lps)[a]?).getD false := by
    refine List.filter_congr fun a ha => ?_
    have hi := List.mem_range.mp ha
    obtain ⟨y, hy⟩ : ∃ y, (codeO rows pls prs lps).2[a]? = some y := ⟨_, List.getElem?_eq_getElem (by rw [codeO_len2]; exact hi)⟩
    obtain ⟨_, s, zz2, hs⟩ := codeO_sv hy
    subst zz2
    show pNeg (V.tup [_, ((codeO rows pls prs lps).2[a]?).getD V.none]) = _
    rw [hy]
    exact hs
  rw [e2]
  refine List.map_congr_left fun a _ => ?_
  show ((rows[((0 + a : Nat) : Int).toNat]?).getD (0, .endd)).2.v = _
  rw [Nat.zero_add]; rfl
end
section
open PySem PySem.W PyProof.Rows PySem.Calls
theorem lay_note (e : Str × Int) (h : PyData.strOk e.1 = true) : PyData.canLay0 (pd (noteV e)) = true := by
  show (PyData.strOk e.1 && (true && true)) = true
  rw [h]; rfl
theorem shV_notes (l : List (Str × Int)) (h : ∀ e ∈ l, PyData.strOk e.1 = true) : shV (.lst (l.map noteV)) = true := by
  have h1 : ∀ l : List (Str × Int), okVs (l.map noteV) = true := fun l => by
    induction l with
    | nil => rfl
    | cons e l ih => show (okV (noteV e) && okVs (l.map noteV)) = true; rw [ih]; rfl
  have h2 : PyData.canLayAll0 (pds (l.map noteV)) = true := by
    induction l with
    | nil => rfl
    | cons e l ih =>
      show (PyData.canLay0 (pd (noteV e)) && PyData.canLayAll0 (pds (l.map noteV))) = true
      rw [ih fun x hx => h x (List.mem_cons_of_mem _ hx), lay_note e (h e List.mem_cons_self)]; rfl
  have h3 : ∀ l : List (Str × Int), PyData.depthAll (pds (l.map noteV)) ≤ 1 := fun l => by
    induction l with
    | nil => exact Nat.zero_le _
    | cons e l ih =>
      show max (PyData.depth (pd (noteV e))) (PyData.depthAll (pds (l.map noteV))) ≤ 1
      refine Nat.max_le.mpr ⟨?_, ih⟩
      show max 0 (max 0 0) + 1 ≤ 1
      decide
  show (okVs (l.map noteV) && (PyData.canLayAll0 (pds (l.map noteV)) && decide (PyData.depthAll (pds (l.map noteV)) + 1 ≤ 64))) = true
  rw [h1, h2, decide_eq_true (by have := h3 l; lia)]; rfl
theorem ok_REM : PyData.strOk "REM" = true := by kernel_rfl
theorem lay_R (r : R) (h : ∀ t, r = .rem t → PyData.strOk t = true) : okV r.v = true ∧ PyData.canLay0 (pd r.v) = true := by
  cases r with
  | rem t =>
    refine ⟨rfl, ?_⟩
    show (PyData.strOk "REM" && (PyData.strOk t && true)) = true
    rw [h t rfl, ok_REM]; rfl
  | _ => exact ⟨rfl, by kernel_rfl⟩
theorem sh_rem {t : Str} (h : PyData.strOk t = true) : shV (R.rem t).v = true := by
  show (true && ((PyData.strOk "REM" && (PyData.strOk t && true)) && _)) = true
  rw [h, ok_REM]; rfl
theorem lay_Rs (l : List R) (h : ∀ t, R.rem t ∈ l → PyData.strOk t = true) : okVs (l.map R.v) = true ∧ PyData.canLayAll0 (pds (l.map R.v)) = true := by
  induction l with
  | nil => exact ⟨rfl, rfl⟩
  | cons r l ih =>
    have h1 := lay_R r fun t e => h t (e ▸ List.mem_cons_self)
    have h2 := ih fun t ht => h t (List.mem_cons_of_mem _ ht)
    refine ⟨?_, ?_⟩
    · show (okV r.v && okVs (l.map R.v)) = true
      rw [h1.1, h2.1]; rfl
    · show (PyData.canLay0 (pd r.v) && PyData.canLayAll0 (pds (l.map R.v))) = true
      rw [h1.2, h2.2]; rfl
theorem eqv_rem {r : R} {t : Str} : PyData.eqv (pd r.v) (pd (R.rem t).v) = true ↔ r = .rem t := by
  cases r with
  | rem t' =>
    show (true && ((t' == t) && true)) = true ↔ _
    rw [Bool.true_and, Bool.and_true, beq_iff_eq]
    exact ⟨fun h => by rw [h], fun h => by injection h⟩
  | _ => exact ⟨fun h => by revert h; first | (intro h; cases h) | decide, fun h => by cases h⟩
theorem any_rem {l : List R} {t : Str} : ((pds (l.map R.v)).any fun y => PyData.eqv y (pd (R.rem t).v)) = true ↔ R.rem t ∈ l := by
  rw [pds_map, List.map_map, List.any_map, List.any_eq_true]
  constructor
  · rintro ⟨r, hr, h⟩
    rw [← eqv_rem.mp h]; exact hr
  · intro h
    exact ⟨_, h, eqv_rem.mpr rfl⟩
theorem any_not {l : List R} {t : Str} (h : R.rem t ∉ l) : ((pds (l.map R.v)).any fun y => PyData.eqv y (pd (R.rem t).v)) = false := by
  cases e : ((pds (l.map R.v)).any fun y => PyData.eqv y (pd (R.rem t).v)) with
  | false => rfl
  | true => exact absurd (any_rem.mp e) h
end
section
open PySem PySem.W PyProof.Rows PySem.Calls
theorem mem_linesFrom {l : Int × List S} : ∀ {ps : List PT} {a : Nat}, l ∈ linesFrom a ps → ∃ (j : Nat) (P : PT), ps[j]? = some P ∧ l ∈ P.lines (a + j)
  | [], _, h => nomatch h
  | P :: ps, a, h => by
    rcases List.mem_append.mp h with h | h
    · exact ⟨0, P, rfl, h⟩
    · refine ex2_2 (mem_linesFrom h) fun j Q h1 h2 => ?_
      exact ⟨j + 1, Q, h1, by rw [show a + (j + 1) = a + 1 + j by lia]; exact h2⟩
def LineOk (ps : List PT) (L : List S) : Prop :=
  (∃ s0 g t, L = [s0, .p (.goto g), .p (.rem t)] ∧ R.rem t ∈ lftOf ps ∧ PyData.strOk t = true) ∨ (L.length ≠ 3 ∧ L.length ≤ 3) ∨ ∃ s0 s1 s2 w r, L = [s0, s1, s2] ∧ s1.v = .tup (.str w :: r) ∧ (w == ("GOTO" : Str)) = false
theorem Good.line {ps : List PT} (G : Good ps) {l : Int × List S} (h : l ∈ linesOf ps) : LineOk ps l.2 := by
  unfold linesOf at h
  rcases List.mem_append.mp h with h | h
  · rcases List.mem_append.mp h with h | h
    · refine ex2_2 (mem_linesFrom h) fun j P h1 h2 => ?_
      rw [Nat.zero_add] at h2
      cases P with
      | goto g =>
        have h2 := List.mem_singleton.mp h2
        subst h2
        exact .inl ⟨_, _, _, rfl, G.gone j g h1, G.goneOk j g h1⟩
      | ifgo c g =>
        have h2 := List.mem_singleton.mp h2
        subst h2
        exact .inr (.inl (by simp))
      | forr c =>
        refine .inr (.inl ?_)
        simp only [PT.lines, List.mem_cons, List.not_mem_nil, or_false] at h2
        rcases h2 with rfl | rfl | rfl <;> simp
      | whil c =>
        refine .inr (.inl ?_)
        simp only [PT.lines, List.mem_cons, List.not_mem_nil, or_false] at h2
        rcases h2 with rfl | rfl | rfl <;> simp
      | gosub =>
        have h2 := List.mem_singleton.mp h2
        subst h2
        exact .inr (.inl (by simp))
    · rw [List.mem_singleton] at h
      subst h
      exact .inr (.inr ⟨_, _, _, _, _, rfl, rfl, rfl⟩)
  · rw [List.mem_singleton] at h
    subst h
    exact .inr (.inr ⟨_, _, _, _, _, rfl, rfl, rfl⟩)
end
section
open PySem PySem.W PyProof.Rows PySem.Calls
noncomputable def flStep (d : List Row × List (Int × Nat)) (l : Int × List S) : List Row × List (Int × Nat) := (d.1 ++ flSs l.1 d.1.length l.2, dsetP l.1 d.1.length d.2)
theorem flN_fold (lines : List (Int × List S)) : ∀ i, i ≤ lines.length → flN lines i = (lines.take i).foldl flStep ([], [])
  | 0, _ => rfl
  | i + 1, h => by
    have hi : i < lines.length := h
    rw [List.take_add_one, List.foldl_append, ← flN_fold lines i (Nat.le_of_succ_le h), List.getElem?_eq_getElem hi]
    show flN lines (i + 1) = flStep (flN lines i) lines[i]
    rw [flN, List.getElem?_eq_getElem hi]; rfl
theorem dsetP_new {k : Int} {x : Nat} {l : List (Int × Nat)} (h : ∀ e ∈ l, e.1 < k) : dsetP k x l = l ++ [(k, x)] := by
  unfold dsetP
  rw [if_neg]
  intro q
  refine ex1_2 (List.any_eq_true.mp q) fun e he q => ?_
  have := h e he
  have := of_decide_eq_true q
  lia
theorem flSs_plain (ln : Int) : ∀ (L : List R) (m : Nat), flSs ln m (L.map .p) = L.map fun r => (ln, r)
  | [], _ => rfl
  | r :: L, m => by
    show [(ln, r)] ++ flSs ln _ (L.map .p) = _
    rw [flSs_plain ln L]; rfl
theorem flStep_plain {d : List Row × List (Int × Nat)} {ln : Int} (L : List R) (h : ∀ e ∈ d.2, e.1 < ln) : flStep d (ln, L.map .p) = (d.1 ++ L.map (fun r => (ln, r)), d.2 ++ [(ln, d.1.length)]) := by
  unfold flStep
  rw [flSs_plain, dsetP_new h]
noncomputable def PT.rows (a p : Nat) : PT → List Row
  | .goto g => [(lno a, .rem (mk a 0)), (lno a, .goto (lno g)), (lno a, .rem (mk a 1))]
  | .ifgo c g => [(lno a, .ifn c (p + 4)), (lno a, .rem (mk a 0)), (lno a, .goto (lno g)), (lno a, .jmp (p + 6)), (lno a, .rem (mk a 1)), (lno a, .lt), (lno a, .rem (mk a 2))]
  | .forr l => [(lno a, .forr l), (lno a, .rem (mk a 0)), (lno a + 1, .lt), (lno a + 1, .rem (mk a 1)), (lno a + 2, .next), (lno a + 2, .rem (mk a 2))]
  | .whil c => [(lno a, .whil c), (lno a + 1, .lt), (lno a + 1, .rem (mk a 1)), (lno a + 2, .wend), (lno a + 2, .rem (mk a 2))]
  | .gosub => [(lno a, .gosub), (lno a, .rem (mk a 0))]
noncomputable def PT.pls (a p : Nat) : PT → List (Int × Nat)
  | .forr _ => [(lno a, p), (lno a + 1, p + 2), (lno a + 2, p + 4)]
  | .whil _ => [(lno a, p), (lno a + 1, p + 1), (lno a + 2, p + 3)]
  | _ => [(lno a, p)]
theorem fold_part {d : List Row × List (Int × Nat)} {a : Nat} (P : PT) (h : ∀ e ∈ d.2, e.1 < lno a) : (P.lines a).foldl flStep d = (d.1 ++ P.rows a d.1.length, d.2 ++ P.pls a d.1.length) := by
  have h1 : ∀ {l : List (Int × Nat)} {k : Int} {x : Nat}, (∀ e ∈ l, e.1 < k) → ∀ e ∈ l ++ [(k, x)], e.1 < k + 1 := fun {l k x} h e he => by
    rcases List.mem_append.mp he with he | he
    · have := h e he; lia
    · rw [List.mem_singleton] at he; subst he; show k < k + 1; lia
  cases P with
  | goto g =>
    show flStep d (lno a, [R.rem (mk a 0), .goto (lno g), .rem (mk a 1)].map .p) = _
    rw [flStep_plain _ h]; rfl
  | gosub =>
    show flStep d (lno a, [R.gosub, .rem (mk a 0)].map .p) = _
    rw [flStep_plain _ h]; rfl
  | ifgo c g =>
    show flStep d (lno a, _) = _
    unfold flStep
    rw [dsetP_new h]; rfl
  | forr l =>
    show flStep (flStep (flStep d (lno a, [R.forr l, .rem (mk a 0)].map .p)) (lno a + 1, [R.lt, .rem (mk a 1)].map .p)) (lno a + 2, [R.next, .rem (mk a 2)].map .p) = _
    rw [flStep_plain (d := d) _ h]
    rw [flStep_plain (d := (_, d.2 ++ [(lno a, d.1.length)])) (ln := lno a + 1) _ (h1 h)]
    rw [flStep_plain (d := (_, d.2 ++ [(lno a, d.1.length)] ++ [(lno a + 1, _)])) (ln := lno a + 2) _ (by rw [show lno a + 2 = lno a + 1 + 1 by lia]; exact h1 (h1 h))]
    simp only [List.length_append, List.length_map, List.length_cons, List.length_nil, List.append_assoc]
    rfl
  | whil c =>
    show flStep (flStep (flStep d (lno a, [R.whil c].map .p)) (lno a + 1, [R.lt, .rem (mk a 1)].map .p)) (lno a + 2, [R.wend, .rem (mk a 2)].map .p) = _
    rw [flStep_plain (d := d) _ h]
    rw [flStep_plain (d := (_, d.2 ++ [(lno a, d.1.length)])) (ln := lno a + 1) _ (h1 h)]
    rw [flStep_plain (d := (_, d.2 ++ [(lno a, d.1.length)] ++ [(lno a + 1, _)])) (ln := lno a + 2) _ (by rw [show lno a + 2 = lno a + 1 + 1 by lia]; exact h1 (h1 h))]
    simp only [List.length_append, List.length_map, List.length_cons, List.length_nil, List.append_assoc]
    rfl
noncomputable def PT.size : PT → Nat
  | .goto _ => 3
  | .ifgo _ _ => 7
  | .forr _ => 6
  | .whil _ => 5
  | .gosub => 2
theorem PT.rows_length {a p : Nat} {P : PT} : (P.rows a p).length = P.size := by cases P <;> rfl
noncomputable def rowsFrom : Nat → Nat → List PT → List Row
  | _, _, [] => []
  | a, p, P :: ps => P.rows a p ++ rowsFrom (a + 1) (p + P.size) ps
noncomputable def plsFrom : Nat → Nat → List PT → List (Int × Nat)
  | _, _, [] => []
  | a, p, P :: ps => P.pls a p ++ plsFrom (a + 1) (p + P.size) ps
theorem PT.pls_lt {a p : Nat} {P : PT} {e : Int × Nat} (h : e ∈ P.pls a p) : lno a ≤ e.1 ∧ e.1 < lno (a + 1) := by
  have hs : lno (a + 1) = lno a + 100 := by unfold lno; lia
  cases P <;> (simp only [PT.pls, List.mem_cons, List.not_mem_nil, or_false] at h; rcases h with rfl | rfl | rfl <;> (dsimp only; lia)) <;> skip
end
section
open PySem PySem.W PyProof.Rows PySem.Calls
theorem lno_succ (a : Nat) : lno (a + 1) = lno a + 100 := by unfold lno; lia
theorem fold_parts : ∀ (ps : List PT) (a : Nat) (d : List Row × List (Int × Nat)), (∀ e ∈ d.2, e.1 < lno a) → (linesFrom a ps).foldl flStep d = (d.1 ++ rowsFrom a d.1.length ps, d.2 ++ plsFrom a d.1.length ps)
  | [], a, d, _ => by show d = (d.1 ++ [], d.2 ++ []); rw [List.append_nil, List.append_nil]
  | P :: ps, a, d, h => by
    show (P.lines a ++ linesFrom (a + 1) ps).foldl flStep d = _
    rw [List.foldl_append, fold_part P h, fold_parts ps (a + 1)]
    · show (d.1 ++ P.rows a d.1.length ++ _, d.2 ++ P.pls a d.1.length ++ _) = (d.1 ++ (_ ++ _), d.2 ++ (_ ++ _))
      rw [List.length_append, PT.rows_length, List.append_assoc, List.append_assoc]
    · intro e he
      rw [lno_succ]
      rcases List.mem_append.mp he with he | he
      · have := h e he; lia
      · have := (PT.pls_lt he).2
        rw [lno_succ] at this; exact this
theorem plsFrom_lt : ∀ {ps : List PT} {a p : Nat} {e : Int × Nat}, e ∈ plsFrom a p ps → lno a ≤ e.1 ∧ e.1 < lno (a + ps.length)
  | [], _, _, _, h => nomatch h
  | P :: ps, a, p, e, h => by
    rw [List.length_cons, show a + (ps.length + 1) = a + 1 + ps.length by lia]
    have hm : lno (a + 1) ≤ lno (a + 1 + ps.length) := by unfold lno; lia
    rcases List.mem_append.mp h with h | h
    · have := PT.pls_lt h
      lia
    · have := plsFrom_lt h
      rw [lno_succ] at this; lia
noncomputable def tlRows (m : Nat) : List Row := [(lno m, .rem "80"), (lno m, .endd), (lno m, .rem "81"), (9000, .rem "90"), (9000, .ret), (9000, .rem "91")]
noncomputable def len0 (ps : List PT) : Nat := (rowsFrom 0 0 ps).length
theorem flat_of {ps : List PT} (h4 : ps.length ≤ 4) : rowsOf ps = rowsFrom 0 0 ps ++ tlRows ps.length ∧ plsOf ps = plsFrom 0 0 ps ++ [(lno ps.length, len0 ps), (9000, len0 ps + 3)] := by
  have e : flN (linesOf ps) (linesOf ps).length = (rowsFrom 0 0 ps ++ tlRows ps.length, plsFrom 0 0 ps ++ [(lno ps.length, len0 ps), (9000, len0 ps + 3)]) := by
    rw [flN_fold _ _ (Nat.le_refl _), List.take_length]
    unfold linesOf
    rw [List.foldl_append, List.foldl_append, fold_parts ps 0 ([], []) (fun _ h => nomatch h)]
    have h1 : ∀ e ∈ plsFrom 0 0 ps, e.1 < lno ps.length := fun e he => by
      have := (plsFrom_lt he).2
      rw [Nat.zero_add] at this; exact this
    have h2 : lno ps.length < 9000 := by unfold lno; lia
    show flStep (flStep ([] ++ rowsFrom 0 0 ps, [] ++ plsFrom 0 0 ps) (lno ps.length, [R.rem "80", .endd, .rem "81"].map .p)) (9000, [R.rem "90", .ret, .rem "91"].map .p) = _
    rw [List.nil_append, List.nil_append]
    rw [flStep_plain (d := (rowsFrom 0 0 ps, plsFrom 0 0 ps)) _ h1]
    rw [flStep_plain (d := (_, plsFrom 0 0 ps ++ [(lno ps.length, (rowsFrom 0 0 ps).length)])) (ln := 9000) _ (fun e he => by
      rcases List.mem_append.mp he with he | he
      · have := h1 e he; lia
      · rw [List.mem_singleton] at he; subst he; exact h2)]
    rw [List.append_assoc, List.append_assoc, List.length_append]
    rfl
  exact ⟨congrArg Prod.fst e, congrArg Prod.snd e⟩
noncomputable def gaFold : Nat → G → List Row → G
  | _, g, [] => g
  | p, g, r :: l => gaFold (p + 1) (gaStep p r.2 g) l
theorem gaFold_append : ∀ (A B : List Row) (p : Nat) (g : G), gaFold p g (A ++ B) = gaFold (p + A.length) (gaFold p g A) B
  | [], B, p, g => rfl
  | r :: A, B, p, g => by
    show gaFold (p + 1) _ (A ++ B) = _
    rw [gaFold_append A B, List.length_cons, show p + 1 + A.length = p + (A.length + 1) by lia]; rfl
theorem gaN_fold (rows : List Row) : ∀ i, i ≤ rows.length → gaN rows i = gaFold 0 ⟨[], [], [], []⟩ (rows.take i)
  | 0, _ => rfl
  | i + 1, h => by
    have hi : i < rows.length := h
    rw [List.take_add_one, gaFold_append, ← gaN_fold rows i (Nat.le_of_succ_le h), List.getElem?_eq_getElem hi, List.length_take, Nat.min_eq_left (Nat.le_of_lt hi), Nat.zero_add]
    show gaN rows (i + 1) = gaStep i rows[i].2 (gaN rows i)
    show gaStep i ((rows[i]?).getD (0, .endd)).2 (gaN rows i) = _
    rw [List.getElem?_eq_getElem hi]; rfl
theorem dsetN_new {α : Type} {k : Nat} {x : α} {l : List (Nat × α)} (h : ∀ e ∈ l, e.1 < k) : dsetN k x l = l ++ [(k, x)] := by
  unfold dsetN
  rw [if_neg]
  intro q
  refine ex1_2 (List.any_eq_true.mp q) fun e he q => ?_
  have := h e he
  have := of_decide_eq_true q
  lia
noncomputable def PT.prs (p : Nat) : PT → List (Nat × Nat)
  | .whil _ => [(p, p + 3), (p + 3, p)]
  | _ => []
noncomputable def PT.lps (p : Nat) : PT → List (Nat × Nat × Nat)
  | .forr _ => [(p, p + 4, 0)]
  | _ => []
theorem ga_part {a p : Nat} {prs : List (Nat × Nat)} {lps : List (Nat × Nat × Nat)} (P : PT) (h1 : ∀ e ∈ prs, e.1 < p) (h2 : ∀ e ∈ lps, e.1 < p) : gaFold p ⟨[], [], prs, lps⟩ (P.rows a p) = ⟨[], [], prs ++ P.prs p, lps ++ P.lps p⟩ := by
  cases P with
  | goto g => show (⟨[], [], prs, lps⟩ : G) = ⟨[], [], prs ++ [], lps ++ []⟩; rw [List.append_nil, List.append_nil]
  | ifgo c g => show (⟨[], [], prs, lps⟩ : G) = ⟨[], [], prs ++ [], lps ++ []⟩; rw [List.append_nil, List.append_nil]
  | gosub => show (⟨[], [], prs, lps⟩ : G) = ⟨[], [], prs ++ [], lps ++ []⟩; rw [List.append_nil, List.append_nil]
  | forr l =>
    show (⟨[], [], prs, dsetN p (p + 4, 0) lps⟩ : G) = ⟨[], [], prs ++ [], lps ++ [(p, p + 4, 0)]⟩
    rw [List.append_nil, dsetN_new h2]
  | whil c =>
    show (⟨[], [], dsetN (p + 3) p (dsetN p (p + 3) prs), lps⟩ : G) = ⟨[], [], prs ++ [(p, p + 3), (p + 3, p)], lps ++ []⟩
    rw [List.append_nil, dsetN_new h1, dsetN_new (k := p + 3), List.append_assoc]
    · rfl
    · intro e he
      rcases List.mem_append.mp he with he | he
      · have := h1 e he; lia
      · rw [List.mem_singleton] at he; subst he; show p < p + 3; lia
noncomputable def prsFrom : Nat → List PT → List (Nat × Nat)
  | _, [] => []
  | p, P :: ps => P.prs p ++ prsFrom (p + P.size) ps
noncomputable def lpsFrom : Nat → List PT → List (Nat × Nat × Nat)
  | _, [] => []
  | p, P :: ps => P.lps p ++ lpsFrom (p + P.size) ps
theorem PT.prs_lt {p : Nat} {P : PT} : (∀ e ∈ P.prs p, p ≤ e.1 ∧ e.1 < p + P.size) ∧ ∀ e ∈ P.lps p, p ≤ e.1 ∧ e.1 < p + P.size := by
  cases P <;> refine ⟨fun e he => ?_, fun e he => ?_⟩ <;> simp only [PT.prs, PT.lps, List.mem_cons, List.not_mem_nil, or_false] at he <;> simp only [PT.size] <;> first | (rcases he with rfl | rfl <;> (dsimp only; lia)) | (subst he; dsimp only; omega)
theorem ga_parts : ∀ (ps : List PT) (a p : Nat) (prs : List (Nat × Nat)) (lps : List (Nat × Nat × Nat)), (∀ e ∈ prs, e.1 < p) → (∀ e ∈ lps, e.1 < p) → gaFold p ⟨[], [], prs, lps⟩ (rowsFrom a p ps) = ⟨[], [], prs ++ prsFrom p ps, lps ++ lpsFrom p ps⟩
  | [], a, p, prs, lps, _, _ => by show (⟨[], [], prs, lps⟩ : G) = ⟨[], [], prs ++ [], lps ++ []⟩; rw [List.append_nil, List.append_nil]
  | P :: ps, a, p, prs, lps, h1, h2 => by
    show gaFold p _ (P.rows a p ++ rowsFrom (a + 1) (p + P.size) ps) = _
    rw [gaFold_append, ga_part P h1 h2, PT.rows_length, ga_parts ps (a + 1) (p + P.size)]
    · show (⟨[], [], prs ++ P.prs p ++ _, lps ++ P.lps p ++ _⟩ : G) = ⟨[], [], prs ++ (_ ++ _), lps ++ (_ ++ _)⟩
      rw [List.append_assoc, List.append_assoc]
    · intro e he
      rcases List.mem_append.mp he with he | he
      · have := h1 e he; lia
      · exact (PT.prs_lt.1 e he).2
    · intro e he
      rcases List.mem_append.mp he with he | he
      · have := h2 e he; lia
      · exact (PT.prs_lt.2 e he).2
theorem ga_of {ps : List PT} (h4 : ps.length ≤ 4) : prsOf ps = prsFrom 0 ps ∧ lpsOf ps = lpsFrom 0 ps := by
  have e : gaN (rowsOf ps) (rowsOf ps).length = ⟨[], [], prsFrom 0 ps, lpsFrom 0 ps⟩ := by
    rw [gaN_fold _ _ (Nat.le_refl _), List.take_length, (flat_of h4).1, gaFold_append, ga_parts ps 0 0 [] [] (fun _ h => nomatch h) (fun _ h => nomatch h)]
    rfl
  exact ⟨congrArg G.prs e, congrArg G.lps e⟩
end
section
open PySem PySem.W PyProof.Rows PySem.Calls
noncomputable def sAt (pl : Int → Nat) (rows : List Row) (k : Nat) : Nat := (ords pl 0 (rows.take k)).length
section
variable {pl : Int → Nat} {rows : List Row} {k j : Nat} {l : Int} {r : R} {o : Od}
theorem sAt_succ (h : rows[k]? = some (l, r)) : sAt pl rows (k + 1) = sAt pl rows k + (ordsOf pl k r).length := by
  have hk : k < rows.length := (List.getElem?_eq_some_iff.mp h).1
  unfold sAt
  rw [List.take_add_one, h, ords_append, List.length_append, List.length_take, Nat.min_eq_left (Nat.le_of_lt hk), Nat.zero_add]
  show _ + (ordsOf pl k r ++ []).length = _
  rw [List.append_nil]
theorem sAt_end : sAt pl rows rows.length = (ords pl 0 rows).length := by unfold sAt; rw [List.take_length]
theorem drop_at (h : rows[k]? = some (l, r)) : rows.drop k = (l, r) :: rows.drop (k + 1) := by
  obtain ⟨hk, e⟩ := List.getElem?_eq_some_iff.mp h
  rw [List.drop_eq_getElem_cons hk, e]
theorem st_at (h : rows[k]? = some (l, r)) : (strt pl 0 0 rows)[k]? = some (sAt pl rows k) := by
  have hk : k < rows.length := (List.getElem?_eq_some_iff.mp h).1
  have e := strt_append (pl := pl) (rows.take k) (rows.drop k) 0 0
  rw [List.take_append_drop, drop_at h] at e
  rw [e, List.getElem?_append_right (by rw [strt_length, List.length_take]; lia), strt_length, List.length_take, Nat.min_eq_left (Nat.le_of_lt hk), Nat.sub_self]
  show some (0 + (ords pl 0 (rows.take k)).length) = _
  rw [Nat.zero_add]; rfl
theorem ords_at (h : rows[k]? = some (l, r)) (ho : (ordsOf pl k r)[j]? = some o) : (ords pl 0 rows)[sAt pl rows k + j]? = some o := by
  have hk : k < rows.length := (List.getElem?_eq_some_iff.mp h).1
  have hj : j < (ordsOf pl k r).length := (List.getElem?_eq_some_iff.mp ho).1
  have e := ords_append (pl := pl) (rows.take k) (rows.drop k) 0
  rw [List.take_append_drop, drop_at h, List.length_take, Nat.min_eq_left (Nat.le_of_lt hk), Nat.zero_add] at e
  rw [e, List.getElem?_append_right (by unfold sAt; lia)]
  show (ordsOf pl k r ++ _)[_]? = _
  rw [show sAt pl rows k + j - (ords pl 0 (rows.take k)).length = j by unfold sAt; lia, List.getElem?_append_left hj, ho]
theorem os_at (h : rows[k]? = some (l, r)) (ho : (ordsOf pl k r)[j]? = some o) : (cOrds pl rows)[sAt pl rows k + j]? = some (ledO (strt pl 0 0 rows) (ords pl 0 rows).length o) := by
  have e := ords_at h ho
  have hl := (List.getElem?_eq_some_iff.mp e).1
  unfold cOrds
  rw [List.getElem?_append_left (by rw [List.length_map]; exact hl), List.getElem?_map, e]; rfl
theorem os_end : (cOrds pl rows)[(ords pl 0 rows).length]? = some .endd := by
  unfold cOrds
  rw [List.getElem?_append_right (by rw [List.length_map]; exact Nat.le_refl _), List.length_map, Nat.sub_self]; rfl
theorem sAt_mono : ∀ {m : Nat} (k : Nat), k + m ≤ rows.length → sAt pl rows k + m ≤ sAt pl rows (k + m)
  | 0, k, _ => Nat.le_refl _
  | m + 1, k, h => by
    have ih := sAt_mono (m := m) k (by lia)
    obtain ⟨⟨l, r⟩, hr⟩ : ∃ x, rows[k + m]? = some x := ⟨_, List.getElem?_eq_getElem (by lia)⟩
    have e := sAt_succ (pl := pl) hr
    have := ordsOf_pos (pl := pl) (a := k + m) (r := r)
    rw [show k + (m + 1) = k + m + 1 by lia, e]
    lia
theorem sAt_lt {k k' : Nat} (h : k < k') (h' : k' ≤ rows.length) : sAt pl rows k < sAt pl rows k' := by
  obtain ⟨m, rfl⟩ : ∃ m, k' = k + (m + 1) := ⟨k' - k - 1, by lia⟩
  have := sAt_mono (pl := pl) (rows := rows) (m := m + 1) k h'
  lia
theorem ends_at (hk : k < rows.length) : ((strt pl 0 0 rows).tail ++ [(cOrds pl rows).length - 1])[k]? = some (sAt pl rows (k + 1)) := by
  have hl : (strt pl 0 0 rows).tail.length = rows.length - 1 := by rw [List.length_tail, strt_length]
  by_cases h : k + 1 < rows.length
  · obtain ⟨⟨l, r⟩, hr⟩ : ∃ x, rows[k + 1]? = some x := ⟨_, List.getElem?_eq_getElem h⟩
    rw [List.getElem?_append_left (by lia), List.getElem?_tail, st_at hr]
  · have e : k + 1 = rows.length := by lia
    rw [List.getElem?_append_right (by lia), e, sAt_end, hl, show k - (rows.length - 1) = 0 by lia, cOrds_length]; rfl
end
end
section
open PySem PySem.W PyProof.Rows PySem.Calls
noncomputable def lf (left : List Bool) (k : Nat) : Bool := (left[k]?).getD false
noncomputable def rowAt (rows : List Row) (k : Nat) : R := ((rows[k]?).getD (0, .endd)).2
noncomputable def blkO (pl : Int → Nat) (rows : List Row) (k : Nat) : List Od := (ordsOf pl k (rowAt rows k)).map (ledO (strt pl 0 0 rows) (ords pl 0 rows).length)
noncomputable def keptO (pl : Int → Nat) (rows : List Row) (left : List Bool) : Nat → List Od
  | 0 => []
  | k + 1 => keptO pl rows left k ++ (if lf left k = true then [] else blkO pl rows k)
section
variable {pl : Int → Nat} {rows : List Row} {left : List Bool} {k j : Nat}
noncomputable abbrev endsO (pl : Int → Nat) (rows : List Row) : List Nat := (strt pl 0 0 rows).tail ++ [(cOrds pl rows).length - 1]
theorem adv_stay {r place f : Nat} (hr : r < rows.length) (h : place < sAt pl rows (r + 1)) : advF (endsO pl rows) place f r = r := by
  cases f with
  | zero => rfl
  | succ f =>
    show (if ((endsO pl rows)[r]?).getD 0 ≤ place then _ else r) = r
    rw [ends_at hr]
    exact if_neg (by show ¬ sAt pl rows (r + 1) ≤ place; lia)
theorem adv_go {r place f : Nat} (hr : r < rows.length) (h : sAt pl rows (r + 1) ≤ place) : advF (endsO pl rows) place (f + 1) r = advF (endsO pl rows) place f (r + 1) := by
  show (if ((endsO pl rows)[r]?).getD 0 ≤ place then _ else r) = _
  rw [ends_at hr]
  exact if_pos h
theorem rowAt_of {l : Int} {r : R} (h : rows[k]? = some (l, r)) : rowAt rows k = r := by unfold rowAt; rw [h]; rfl
theorem blkO_len (pl : Int → Nat) (rows : List Row) (k : Nat) : 1 ≤ (blkO pl rows k).length := by unfold blkO; rw [List.length_map]; exact ordsOf_pos
theorem sAt_blk (hk : k < rows.length) : sAt pl rows (k + 1) = sAt pl rows k + (blkO pl rows k).length := by
  obtain ⟨⟨l, r⟩, hr⟩ : ∃ x, rows[k]? = some x := ⟨_, List.getElem?_eq_getElem hk⟩
  rw [sAt_succ hr]
  unfold blkO
  rw [List.length_map, rowAt_of hr]
theorem os_blk {o : Od} (hk : k < rows.length) (h : (blkO pl rows k)[j]? = some o) : (cOrds pl rows)[sAt pl rows k + j]? = some o := by
  obtain ⟨⟨l, r⟩, hr⟩ : ∃ x, rows[k]? = some x := ⟨_, List.getElem?_eq_getElem hk⟩
  unfold blkO at h
  rw [rowAt_of hr, List.getElem?_map] at h
  refine ex1_2 (Option.map_eq_some_iff.mp h) fun o' h1 zz1 => ?_
  subst zz1
  exact os_at hr h1
theorem drop_row (hl : left.length = rows.length) (hk : k < rows.length) (h1 : (dropN left (endsO pl rows) (cOrds pl rows) (sAt pl rows k)).1 = k - 1) (h2 : (dropN left (endsO pl rows) (cOrds pl rows) (sAt pl rows k)).2.1 = keptO pl rows left k) :
    ∀ j, j ≤ (blkO pl rows k).length → (dropN left (endsO pl rows) (cOrds pl rows) (sAt pl rows k + j)).1 = (if j = 0 then k - 1 else k) ∧ (dropN left (endsO pl rows) (cOrds pl rows) (sAt pl rows k + j)).2.1 = keptO pl rows left k ++ (if lf left k = true then [] else (blkO pl rows k).take j)
  | 0, _ => by
    rw [if_pos rfl, Nat.add_zero, h1, h2, List.take_zero]
    refine ⟨rfl, ?_⟩
    split <;> rw [List.append_nil]
  | j + 1, hj => by
    refine ex0_2 (drop_row hl hk h1 h2 j (by lia)) fun i1 i2 => ?_
    have hs := sAt_blk (pl := pl) hk
    obtain ⟨o, ho⟩ : ∃ o, (blkO pl rows k)[j]? = some o := ⟨_, List.getElem?_eq_getElem hj⟩
    have hos := os_blk (pl := pl) hk ho
    have hr : advF (endsO pl rows) (sAt pl rows k + j) (left.length - (dropN left (endsO pl rows) (cOrds pl rows) (sAt pl rows k + j)).1) (dropN left (endsO pl rows) (cOrds pl rows) (sAt pl rows k + j)).1 = k := by
      rw [i1]
      by_cases c : j = 0 ∧ 0 < k
      · refine ex0_2 (c) fun zz2 hk0 => ?_
        subst zz2
        rw [if_pos rfl, show left.length - (k - 1) = (left.length - k) + 1 by lia, adv_go (by lia) (by rw [show k - 1 + 1 = k by lia]; lia), show k - 1 + 1 = k by lia]
        exact adv_stay hk (by lia)
      · have : (if j = 0 then k - 1 else k) = k := by
          split
          · lia
          · rfl
        rw [this]
        exact adv_stay hk (by lia)
    rw [if_neg (Nat.succ_ne_zero j), ← Nat.add_assoc]
    refine ⟨hr, ?_⟩
    show (if advF (endsO pl rows) (sAt pl rows k + j) _ _ = left.length ∨ _ then _ else _) = _
    rw [hr, hos, i2]
    have nk : ¬ k = left.length := by lia
    cases hlf : lf left k with
    | true =>
      rw [if_neg (fun h => h.elim nk fun h => by
        have : lf left k = false := h
        rw [hlf] at this; cases this), if_pos rfl, if_pos rfl]
    | false =>
      have hlf' : (left[k]?).getD false = false := hlf
      rw [if_pos (Or.inr hlf'), if_neg Bool.false_ne_true, if_neg Bool.false_ne_true, List.append_assoc, List.take_add_one, ho]; rfl
theorem drop_rows (hl : left.length = rows.length) : ∀ k, k ≤ rows.length → (dropN left (endsO pl rows) (cOrds pl rows) (sAt pl rows k)).1 = k - 1 ∧ (dropN left (endsO pl rows) (cOrds pl rows) (sAt pl rows k)).2.1 = keptO pl rows left k
  | 0, _ => ⟨rfl, rfl⟩
  | k + 1, h => by
    refine ex0_2 (drop_rows hl k (by lia)) fun h1 h2 => ?_
    refine ex0_2 (drop_row hl h h1 h2 _ (Nat.le_refl _)) fun i1 i2 => ?_
    have := blkO_len pl rows k
    rw [sAt_blk h, i1, i2, if_neg (by lia), List.take_length]
    exact ⟨rfl, rfl⟩
theorem drop_end (hl : left.length = rows.length) (h0 : 0 < rows.length) : (dropN left (endsO pl rows) (cOrds pl rows) (cOrds pl rows).length).2.1 = keptO pl rows left rows.length ++ [.endd] := by
  refine ex0_2 (drop_rows (pl := pl) hl rows.length (Nat.le_refl _)) fun h1 h2 => ?_
  rw [sAt_end] at h1 h2
  rw [cOrds_length]
  have hr : advF (endsO pl rows) (ords pl 0 rows).length (left.length - (dropN left (endsO pl rows) (cOrds pl rows) (ords pl 0 rows).length).1) (dropN left (endsO pl rows) (cOrds pl rows) (ords pl 0 rows).length).1 = left.length := by
    rw [h1, hl, show rows.length - (rows.length - 1) = 0 + 1 by lia, adv_go (by lia) (by rw [show rows.length - 1 + 1 = rows.length by lia, sAt_end]; exact Nat.le_refl _), show rows.length - 1 + 1 = rows.length by lia]; rfl
  show (if advF (endsO pl rows) (ords pl 0 rows).length _ _ = left.length ∨ _ then _ else _) = _
  rw [if_pos (Or.inl hr), os_end, h2]; rfl
theorem lead_at {ends : List Nat} {os : List Od} {i : Nat} : ∀ m, i < m → (dropN left ends os m).2.2[i]? = some (dropN left ends os i).2.1.length
  | 0, h => absurd h (Nat.not_lt_zero _)
  | m + 1, h => by
    show ((dropN left ends os m).2.2 ++ [(dropN left ends os m).2.1.length])[i]? = _
    by_cases e : i = m
    · subst e
      rw [List.getElem?_append_right (by rw [dropN_lead]; exact Nat.le_refl _), dropN_lead, Nat.sub_self]; rfl
    · rw [List.getElem?_append_left (by rw [dropN_lead]; lia)]
      exact lead_at m (by lia)
noncomputable def pAt (pl : Int → Nat) (rows : List Row) (left : List Bool) (k : Nat) : Nat := (keptO pl rows left k).length
theorem lead_row (hl : left.length = rows.length) (hk : k ≤ rows.length) : (dropN left (endsO pl rows) (cOrds pl rows) (cOrds pl rows).length).2.2[sAt pl rows k]? = some (pAt pl rows left k) := by
  have h1 : sAt pl rows k < (cOrds pl rows).length := by
    rw [cOrds_length, ← sAt_end (pl := pl) (rows := rows)]
    by_cases e : k = rows.length
    · rw [e]; exact Nat.lt_succ_self _
    · exact Nat.lt_succ_of_lt (sAt_lt (by lia) (Nat.le_refl _))
  rw [lead_at _ h1, (drop_rows hl k hk).2]; rfl
theorem keptO_pre {m : Nat} : ∀ (d : Nat), m + d ≤ rows.length → ∃ t, keptO pl rows left (m + d) = keptO pl rows left m ++ t
  | 0, _ => ⟨[], (List.append_nil _).symm⟩
  | d + 1, h => by
    refine ex1_1 (keptO_pre (m := m) d (by lia)) fun t e => ?_
    exact ⟨t ++ _, by show keptO pl rows left (m + d) ++ _ = _; rw [e, List.append_assoc]⟩
theorem keptO_s (hn : lf left k = false) : keptO pl rows left (k + 1) = keptO pl rows left k ++ blkO pl rows k := congrArg _ (if_neg (by rw [hn]; exact Bool.false_ne_true))
theorem kept_at {o : Od} (hk : k < rows.length) (hn : lf left k = false) (h : (blkO pl rows k)[j]? = some o) : (keptO pl rows left rows.length)[pAt pl rows left k + j]? = some o := by
  refine ex1_1 (keptO_pre (pl := pl) (rows := rows) (left := left) (m := k + 1) (rows.length - (k + 1)) (by lia)) fun t e => ?_
  rw [show k + 1 + (rows.length - (k + 1)) = rows.length by lia] at e
  have hj := (List.getElem?_eq_some_iff.mp h).1
  rw [e, keptO_s hn, List.append_assoc, List.getElem?_append_right (by unfold pAt; lia), List.getElem?_append_left (by unfold pAt; lia)]
  rw [show pAt pl rows left k + j - (keptO pl rows left k).length = j by unfold pAt; lia, h]
theorem pAt_succ (hn : lf left k = false) : pAt pl rows left (k + 1) = pAt pl rows left k + (blkO pl rows k).length := by
  unfold pAt
  rw [keptO_s hn, List.length_append]
end
end
section
open PySem PySem.W PyProof.Rows PySem.Calls
section
variable {rows : List Row} {pls : List (Int × Nat)} {prs : List (Nat × Nat)} {lps : List (Nat × Nat × Nat)} {k j g : Nat} {l : Int} {r : R} {o : Od}
theorem leftOf_len : (leftOf rows pls prs lps).length = rows.length := leftL_length _
noncomputable abbrev pOf (rows : List Row) (pls : List (Int × Nat)) (prs : List (Nat × Nat)) (lps : List (Nat × Nat × Nat)) (k : Nat) : Nat := pAt (plc pls) rows (leftOf rows pls prs lps) k
noncomputable abbrev lfOf (rows : List Row) (pls : List (Int × Nat)) (prs : List (Nat × Nat)) (lps : List (Nat × Nat × Nat)) (k : Nat) : Bool := lf (leftOf rows pls prs lps) k
noncomputable def fin (rows : List Row) (pls : List (Int × Nat)) (prs : List (Nat × Nat)) (lps : List (Nat × Nat × Nat)) : Od → Od
  | .go g => .go (pOf rows pls prs lps (min g rows.length))
  | .fls g => .fls (pOf rows pls prs lps (min g rows.length))
  | o => o
theorem led_go : ((strt (plc pls) 0 0 rows)[g]?).getD (ords (plc pls) 0 rows).length = sAt (plc pls) rows (min g rows.length) := by
  by_cases h : g < rows.length
  · obtain ⟨⟨l, r⟩, hr⟩ : ∃ x, rows[g]? = some x := ⟨_, List.getElem?_eq_getElem h⟩
    rw [st_at hr, Nat.min_eq_left (Nat.le_of_lt h)]; rfl
  · rw [List.getElem?_eq_none (by rw [strt_length]; lia), Nat.min_eq_right (by lia), sAt_end]; rfl
theorem mov_led : movO (dropN (leftOf rows pls prs lps) (endsO (plc pls) rows) (cOrds (plc pls) rows) (cOrds (plc pls) rows).length).2.2 (ledO (strt (plc pls) 0 0 rows) (ords (plc pls) 0 rows).length o) = fin rows pls prs lps o := by
  have key : ∀ g, ((dropN (leftOf rows pls prs lps) (endsO (plc pls) rows) (cOrds (plc pls) rows) (cOrds (plc pls) rows).length).2.2[((strt (plc pls) 0 0 rows)[g]?).getD (ords (plc pls) 0 rows).length]?).getD 0 = pOf rows pls prs lps (min g rows.length) := fun g => by
    rw [led_go, lead_row leftOf_len (Nat.min_le_right _ _)]; rfl
  cases o with
  | go g => exact congrArg Od.go (key g)
  | fls g => exact congrArg Od.fls (key g)
  | _ => rfl
theorem code_eq (h0 : 0 < rows.length) : (codeO rows pls prs lps).1 = (keptO (plc pls) rows (leftOf rows pls prs lps) rows.length ++ [Od.endd]).map (movO (dropN (leftOf rows pls prs lps) (endsO (plc pls) rows) (cOrds (plc pls) rows) (cOrds (plc pls) rows).length).2.2) := by
  show List.map _ (dropN (leftOf rows pls prs lps) (endsO (plc pls) rows) (cOrds (plc pls) rows) (cOrds (plc pls) rows).length).2.1 = _
  rw [drop_end leftOf_len h0]; rfl
theorem code_at (hr : rows[k]? = some (l, r)) (hn : lfOf rows pls prs lps k = false) (ho : (ordsOf (plc pls) k r)[j]? = some o) : (codeO rows pls prs lps).1[pOf rows pls prs lps k + j]? = some (fin rows pls prs lps o) := by
  have hk : k < rows.length := (List.getElem?_eq_some_iff.mp hr).1
  have hb : (blkO (plc pls) rows k)[j]? = some (ledO (strt (plc pls) 0 0 rows) (ords (plc pls) 0 rows).length o) := by
    unfold blkO
    rw [rowAt_of hr, List.getElem?_map, ho]; rfl
  have h := kept_at hk hn hb
  have hl := (List.getElem?_eq_some_iff.mp h).1
  rw [code_eq (by lia), List.getElem?_map, List.getElem?_append_left hl, h]
  exact congrArg some mov_led
theorem code_end (h0 : 0 < rows.length) : (codeO rows pls prs lps).1[pOf rows pls prs lps rows.length]? = some .endd ∧ (codeO rows pls prs lps).1.length = pOf rows pls prs lps rows.length + 1 := by
  rw [code_eq h0]
  refine ⟨?_, by rw [List.length_map, List.length_append]; rfl⟩
  rw [List.getElem?_map]
  show Option.map _ ((keptO (plc pls) rows (leftOf rows pls prs lps) rows.length ++ [Od.endd])[(keptO (plc pls) rows (leftOf rows pls prs lps) rows.length).length]?) = _
  rw [List.getElem?_append_right (Nat.le_refl _), Nat.sub_self]; rfl
theorem code_sv (hk : k < rows.length) (hn : lfOf rows pls prs lps k = false) : (codeO rows pls prs lps).2[k]? = some (nV (pOf rows pls prs lps k)) := by
  obtain ⟨⟨l, r⟩, hr⟩ : ∃ x, rows[k]? = some x := ⟨_, List.getElem?_eq_getElem hk⟩
  show (List.map _ (List.range rows.length))[k]? = _
  rw [List.getElem?_map, List.getElem?_range hk]
  show some (if lf (leftOf rows pls prs lps) k = true then _ else _) = _
  rw [if_neg (fun h => by
    have h' : lfOf rows pls prs lps k = true := h
    rw [hn] at h'; cases h'), st_at hr]
  show some (nV (((dropN (leftOf rows pls prs lps) (endsO (plc pls) rows) (cOrds (plc pls) rows) (cOrds (plc pls) rows).length).2.2[sAt (plc pls) rows k]?).getD 0)) = _
  rw [lead_row leftOf_len (Nat.le_of_lt hk)]; rfl
theorem pOf_succ (hr : rows[k]? = some (l, r)) (hn : lfOf rows pls prs lps k = false) : pOf rows pls prs lps (k + 1) = pOf rows pls prs lps k + (ordsOf (plc pls) k r).length := by
  show pAt _ _ _ _ = _
  rw [pAt_succ hn]
  unfold blkO
  rw [List.length_map, rowAt_of hr]
theorem leftL_get {al : Nat → Bool} {os : List Od} {st : List Nat} : ∀ m, k < m → (leftL al os st m)[k]? = some (al k && ((((leftL al os st k)[k - 1]?).getD false) || isGo ((os[(st[k]?).getD 0 - 1]?).getD .endd)))
  | 0, h => absurd h (Nat.not_lt_zero _)
  | m + 1, h => by
    show (leftL al os st m ++ [_])[k]? = _
    by_cases e : k = m
    · subst e
      rw [List.getElem?_append_right (by rw [leftL_length]; exact Nat.le_refl _), leftL_length, Nat.sub_self]; rfl
    · rw [List.getElem?_append_left (by rw [leftL_length]; lia)]
      exact leftL_get m (by lia)
theorem lf_eq (hk : k < rows.length) : lfOf rows pls prs lps k = (alone pls prs lps (cOrds (plc pls) rows) (strt (plc pls) 0 0 rows) k && (((if k = 0 then false else lfOf rows pls prs lps (k - 1))) || isGo (((cOrds (plc pls) rows)[sAt (plc pls) rows k - 1]?).getD .endd))) := by
  obtain ⟨⟨l, r⟩, hr⟩ : ∃ x, rows[k]? = some x := ⟨_, List.getElem?_eq_getElem hk⟩
  show ((leftL _ _ _ rows.length)[k]?).getD false = _
  rw [leftL_get _ hk, st_at hr]
  show (alone _ _ _ _ _ _ && _) = _
  congr 1
  congr 1
  by_cases h : k = 0
  · subst h; rfl
  · rw [if_neg h]
    show _ = ((leftL _ _ _ rows.length)[k - 1]?).getD false
    rw [leftL_get rows.length (show k - 1 < rows.length by lia), leftL_get k (show k - 1 < k by lia)]
theorem lf_alone (hk : k < rows.length) (h : alone pls prs lps (cOrds (plc pls) rows) (strt (plc pls) 0 0 rows) k = false) : lfOf rows pls prs lps k = false := by
  rw [lf_eq hk, h, Bool.false_and]
theorem lf_zero (h0 : 0 < rows.length) : lfOf rows pls prs lps 0 = false := lf_alone h0 rfl
theorem lf_first (hk : k < rows.length) (h : k ∈ firsts pls) : lfOf rows pls prs lps k = false := by
  refine lf_alone hk ?_
  unfold alone
  rw [List.contains_iff_mem.mpr h]; simp
theorem lf_kept (hk : k < rows.length) (h : k ∈ keptL prs lps) : lfOf rows pls prs lps k = false := by
  refine lf_alone hk ?_
  unfold alone
  rw [List.contains_iff_mem.mpr h]; simp
theorem lf_goal {l' : Int} {r' : R} (hg : g < rows.length) (hr : rows[k]? = some (l', r')) (ho : (ordsOf (plc pls) k r')[j]? = some o) (hog : o.goal = some g) : lfOf rows pls prs lps g = false := by
  refine lf_alone hg ?_
  obtain ⟨⟨l, r⟩, hgr⟩ : ∃ x, rows[g]? = some x := ⟨_, List.getElem?_eq_getElem hg⟩
  have h1 := os_at hr ho
  have h2 : hasGoal (cOrds (plc pls) rows) (sAt (plc pls) rows g) = true := by
    unfold hasGoal
    rw [List.any_eq_true]
    refine ⟨_, List.mem_of_getElem? h1, ?_⟩
    have key : ((strt (plc pls) 0 0 rows)[g]?).getD (ords (plc pls) 0 rows).length = sAt (plc pls) rows g := by rw [st_at hgr]; rfl
    cases o with
    | go g' => cases hog; show (some _ == some _) = true; rw [key]; simp
    | fls g' => cases hog; show (some _ == some _) = true; rw [key]; simp
    | _ => cases hog
  unfold alone
  rw [st_at hgr]
  show (_ && !hasGoal _ (sAt (plc pls) rows g)) = false
  rw [h2]; simp
theorem isGo_led {st : List Nat} {e : Nat} : isGo (ledO st e o) = isGo o := by cases o <;> rfl
theorem lf_next (hr : rows[k]? = some (l, r)) (hk1 : k + 1 < rows.length) (hn : lfOf rows pls prs lps k = false) (hlast : (ordsOf (plc pls) k r)[(ordsOf (plc pls) k r).length - 1]? = some o) (hg : isGo o = false) : lfOf rows pls prs lps (k + 1) = false := by
  rw [lf_eq hk1, if_neg (Nat.succ_ne_zero k), Nat.add_sub_cancel, hn, Bool.false_or, sAt_succ hr]
  have := ordsOf_pos (pl := plc pls) (a := k) (r := r)
  rw [show sAt (plc pls) rows k + (ordsOf (plc pls) k r).length - 1 = sAt (plc pls) rows k + ((ordsOf (plc pls) k r).length - 1) by lia, os_at hr hlast]
  show (_ && isGo (ledO _ _ o)) = false
  rw [isGo_led, hg, Bool.and_false]
end
end
section
open PySem PySem.W PyProof.Rows PySem.Calls
section
variable {rows : List Row} {pls : List (Int × Nat)} {prs : List (Nat × Nat)} {lps : List (Nat × Nat × Nat)} {s s' : PS}
def FrOk (rows : List Row) (pls : List (Int × Nat)) (prs : List (Nat × Nat)) (lps : List (Nat × Nat × Nat)) : Option Fr → Prop
  | none => True
  | some (.forr p _) => p < rows.length → lfOf rows pls prs lps p = false
  | some (.whil p) => p < rows.length → lfOf rows pls prs lps p = false
  | some (.gosub p) => p < rows.length → lfOf rows pls prs lps p = false
def PrOk (rows : List Row) (prs : List (Nat × Nat)) : Prop := ∀ a, a ∈ prs.map (·.1) → prc prs a ∈ prs.map (·.1) ∧ ∃ l r, rows[prc prs a]? = some (l, r) ∧ (r = .wend ∨ ∃ c, r = .whil c)
theorem first_of {g : Int} (h : g ∈ pls.map (·.1)) : plc pls g ∈ firsts pls := by
  refine ex1_2 (List.mem_map.mp h) fun e he zz1 => ?_
  subst zz1
  exact List.mem_map.mpr ⟨e, he, rfl⟩
theorem lp_kept {a : Nat} {x : V} (h : dget (a : Int) (lpV lps) = some x) : lpc lps a ∈ keptL prs lps := by
  have e : dget (a : Int) (lpV lps) = (lps.find? fun e => e.1 = a).map fun e => V.tup [nV e.2.1, nV e.2.2] := find_key (g := fun x : Nat × Nat => V.tup [nV x.1, nV x.2])
  rw [e] at h
  refine ex1_2 (Option.map_eq_some_iff.mp h) fun y hy _ => ?_
  unfold keptL lpc
  rw [hy]
  exact List.mem_append.mpr (.inr (List.mem_map.mpr ⟨y, List.mem_of_find?_eq_some hy, rfl⟩))
theorem closed (hW : PrOk rows prs) (h : Step rows pls prs lps s s') (hn : lfOf rows pls prs lps s.at' = false) (hf : FrOk rows pls prs lps s.fr) (hs' : s'.at' < rows.length) : lfOf rows pls prs lps s'.at' = false ∧ FrOk rows pls prs lps s'.fr := by
  cases h with
  | rem hr => exact ⟨lf_next hr hs' hn rfl rfl, hf⟩
  | lt hr => exact ⟨lf_next hr hs' hn rfl rfl, hf⟩
  | @flow l r a' i' fr' hr e ok =>
    obtain ⟨a, x, i, fr, notes⟩ := s
    dsimp only at hr e ok hn hf hs' ⊢
    revert hs'
    revert hf
    revert ok
    revert hr
    refine flow_inv (P := fun r fr a' i' fr' => rows[a]? = some (l, r) → flowOk rows pls prs lps a i fr r → FrOk rows pls prs lps fr → a' < rows.length → lfOf rows pls prs lps a' = false ∧ FrOk rows pls prs lps fr') e ?_ ?_ ?_ ?_ ?_ ?_ ?_ ?_ ?_
    · intro c g fr hr ok hf hs'
      refine ⟨?_, hf⟩
      by_cases hx : x < c
      · rw [if_pos hx] at hs' ⊢
        exact lf_next hr hs' hn rfl rfl
      · rw [if_neg hx] at hs' ⊢
        exact lf_goal (j := 4) hs' hr rfl rfl
    · exact fun g fr hr ok hf hs' => ⟨lf_goal (j := 0) hs' hr rfl rfl, hf⟩
    · exact fun g fr hr ok hf hs' => ⟨lf_first hs' (first_of ok), hf⟩
    · exact fun hr ok hf hs' => ⟨lf_first hs' (first_of ok), fun h => lf_next hr h hn rfl rfl⟩
    · exact fun p hr ok hf hs' => ⟨hf hs', trivial⟩
    · intro l hr ok hf hs'
      refine ex0_2 ok fun h1 z => ex1_1 z fun ln h2 => ?_
      have hlk := lp_kept (prs := prs) h1
      by_cases hl : l < 1
      · rw [if_pos hl] at hs' ⊢
        rw [if_pos hl]
        exact ⟨lf_next h2 hs' (lf_kept (Nat.lt_of_succ_lt hs') hlk) rfl rfl, trivial⟩
      · rw [if_neg hl] at hs' ⊢
        rw [if_neg hl]
        exact ⟨lf_next hr hs' hn rfl rfl, fun h => lf_next hr h hn rfl rfl⟩
    · intro p l hr ok hf hs'
      by_cases hl : l < i + 1
      · rw [if_pos hl] at hs' ⊢
        rw [if_pos hl]
        exact ⟨lf_next hr hs' hn rfl rfl, trivial⟩
      · rw [if_neg hl] at hs' ⊢
        rw [if_neg hl]
        exact ⟨hf hs', hf⟩
    · exact fun p hr ok hf hs' => ⟨hf hs', hf⟩
    · intro c fr _ hr ok hf hs'
      by_cases hx : x < c
      · rw [if_pos hx] at hs' ⊢
        rw [if_pos hx]
        exact ⟨lf_next hr hs' hn rfl rfl, fun _ => hn⟩
      · rw [if_neg hx] at hs' ⊢
        rw [if_neg hx]
        refine ex0_2 (hW a ok.1) fun h1 z => ex2_2 z fun ln rw' h2 h3 => ?_
        have hk : lfOf rows pls prs lps (prc prs a) = false := lf_kept (Nat.lt_of_succ_lt hs') (List.mem_append.mpr (.inl h1))
        rcases h3 with rfl | ⟨c', rfl⟩
        · exact ⟨lf_next h2 hs' hk rfl rfl, trivial⟩
        · exact ⟨lf_next h2 hs' hk rfl rfl, trivial⟩
noncomputable def oso (rows : List Row) (pls : List (Int × Nat)) (prs : List (Nat × Nat)) (lps : List (Nat × Nat × Nat)) (s : PS) (asked : Nat) : OS := ⟨pOf rows pls prs lps s.at', s.x, s.i, s.fr, s.notes, [], asked⟩
abbrev ORunC (rows : List Row) (pls : List (Int × Nat)) (prs : List (Nat × Nat)) (lps : List (Nat × Nat × Nat)) (a : OS) (m : Nat) (z : OS) : Prop := ORun rows pls prs lps (codeO rows pls prs lps).1 (codeO rows pls prs lps).2 a m z
theorem sim (h : Step rows pls prs lps s s') (hn : lfOf rows pls prs lps s.at' = false) (hs' : s'.at' < rows.length) (hn' : lfOf rows pls prs lps s'.at' = false) (b1 : -32768 ≤ s.x + 1) (b2 : s.x + 1 < 32768) {asked : Nat} (ba : asked ≤ 10000) (bn : s.notes.length ≤ 10000) :
    ∃ asked', asked' ≤ asked + 1 ∧ ∀ m z, ORunC rows pls prs lps (oso rows pls prs lps s' asked') m z → ∃ m', ORunC rows pls prs lps (oso rows pls prs lps s asked) m' z := by
  obtain ⟨a, x, i, fr, notes⟩ := s
  cases h with
  | @rem l t hr =>
    refine ⟨asked, Nat.le_succ _, fun m z hz => ⟨m + 1, .step (.row (code_at (j := 0) hr hn rfl) hr bn) ?_⟩⟩
    unfold oso at hz
    rw [pOf_succ hr hn] at hz
    exact hz
  | @lt l hr =>
    refine ⟨asked + 1, Nat.le_refl _, fun m z hz => ⟨m + 5, .step (.row (code_at (j := 0) hr hn rfl) hr bn) (.step (.var (code_at (j := 1) hr hn rfl) rfl ba) (.step (.push (code_at (j := 2) hr hn rfl) rfl) (.step (.add (code_at (j := 3) hr hn rfl) rfl b1 b2) (.step (.store (code_at (j := 4) hr hn rfl) rfl) ?_))))⟩⟩
    unfold oso at hz
    rw [pOf_succ hr hn] at hz
    exact hz
  | @flow l r a' i' fr' hr e ok =>
    have doo : (ordsOf (plc pls) a r)[0]? = some (.doo a) → ∃ asked', asked' ≤ asked + 1 ∧ ∀ m z, ORunC rows pls prs lps (oso rows pls prs lps ⟨a', x, i', fr', notes⟩ asked') m z → ∃ m', ORunC rows pls prs lps (oso rows pls prs lps ⟨a, x, i, fr, notes⟩ asked) m' z := fun h0 =>
      ⟨asked, Nat.le_succ _, fun m z hz => ⟨m + 1, .step (.doo (code_at (j := 0) hr hn h0) hr (.inr ⟨e, ok⟩) (.inl ⟨by rw [codeO_len2]; exact hs', code_sv hs' hn'⟩)) hz⟩⟩
    revert doo
    revert hn'
    revert hs'
    revert ok
    revert hr
    refine flow_inv (P := fun r fr a' i' fr' => rows[a]? = some (l, r) → flowOk rows pls prs lps a i fr r → a' < rows.length → lfOf rows pls prs lps a' = false → ((ordsOf (plc pls) a r)[0]? = some (.doo a) → ∃ asked', asked' ≤ asked + 1 ∧ ∀ m z, ORunC rows pls prs lps (oso rows pls prs lps ⟨a', x, i', fr', notes⟩ asked') m z → ∃ m', ORunC rows pls prs lps (oso rows pls prs lps ⟨a, x, i, fr, notes⟩ asked) m' z) →
      ∃ asked', asked' ≤ asked + 1 ∧ ∀ m z, ORunC rows pls prs lps (oso rows pls prs lps ⟨a', x, i', fr', notes⟩ asked') m z → ∃ m', ORunC rows pls prs lps (oso rows pls prs lps ⟨a, x, i, fr, notes⟩ asked) m' z) e ?_ ?_ ?_ (fun _ _ _ _ doo => doo rfl) (fun _ _ _ _ _ doo => doo rfl) (fun _ _ _ _ _ doo => doo rfl) (fun _ _ _ _ _ _ doo => doo rfl) (fun _ _ _ _ _ doo => doo rfl) (fun _ _ _ _ _ _ _ doo => doo rfl)
    · intro c g fr hr ok hs' hn' _
      refine ⟨asked + 1, Nat.le_refl _, fun m z hz => ⟨m + 5, .step (.row (code_at (j := 0) hr hn rfl) hr bn) (.step (.var (code_at (j := 1) hr hn rfl) rfl ba) (.step (.push (code_at (j := 2) hr hn rfl) rfl) (.step (.lss (code_at (j := 3) hr hn rfl) rfl) (.step (.fls (code_at (j := 4) hr hn rfl) rfl) ?_))))⟩⟩
      unfold oso at hz
      dsimp only at hz
      show ORunC rows pls prs lps ⟨if (if x < c then (-1 : Int) else 0) = 0 then pOf rows pls prs lps (min g rows.length) else pOf rows pls prs lps a + 5, x, i, fr, notes, [], asked + 1⟩ m z
      by_cases hx : x < c
      · rw [if_pos hx] at hz hs'
        rw [if_pos hx, if_neg (by decide)]
        rw [pOf_succ hr hn] at hz
        exact hz
      · rw [if_neg hx] at hz hs'
        rw [if_neg hx, if_pos rfl, Nat.min_eq_left (Nat.le_of_lt hs')]
        exact hz
    · intro g fr hr ok hs' hn' _
      refine ⟨asked, Nat.le_succ _, fun m z hz => ⟨m + 1, .step (.go (code_at (j := 0) hr hn rfl)) ?_⟩⟩
      rw [Nat.min_eq_left (Nat.le_of_lt hs')]
      exact hz
    · intro g fr hr ok hs' hn' _
      refine ⟨asked, Nat.le_succ _, fun m z hz => ⟨m + 2, .step (.row (code_at (j := 0) hr hn rfl) hr bn) (.step (.go (code_at (j := 1) hr hn rfl)) ?_)⟩⟩
      rw [Nat.min_eq_left (Nat.le_of_lt hs')]
      exact hz
inductive Path (rows : List Row) (pls : List (Int × Nat)) (prs : List (Nat × Nat)) (lps : List (Nat × Nat × Nat)) : Nat → PS → PS → Prop
  | nil {s : PS} : Path rows pls prs lps 0 s s
  | cons {k : Nat} {s s' z : PS} : Step rows pls prs lps s s' → Path rows pls prs lps k s' z → Path rows pls prs lps (k + 1) s z
theorem Path.trans {k k' : Nat} {s s' z : PS} (h : Path rows pls prs lps k s s') (h' : Path rows pls prs lps k' s' z) : Path rows pls prs lps (k + k') s z := by
  induction h with
  | nil => rw [Nat.zero_add]; exact h'
  | @cons k s s₁ s₂ hs _ ih => rw [Nat.add_right_comm]; exact .cons hs (ih h')
theorem Step.x {s s' : PS} (h : Step rows pls prs lps s s') : s.x ≤ s'.x ∧ s'.x ≤ s.x + 1 := by
  cases h with
  | rem h => exact ⟨Int.le_refl _, by show s.x ≤ s.x + 1; lia⟩
  | lt h => exact ⟨by show s.x ≤ s.x + 1; lia, Int.le_refl _⟩
  | flow h => exact ⟨Int.le_refl _, by show s.x ≤ s.x + 1; lia⟩
theorem run_both (hW : PrOk rows prs) (h0 : 0 < rows.length) {k : Nat} {s z : PS} (h : Path rows pls prs lps k s z) (hz : ∃ l, rows[z.at']? = some (l, .endd)) : ∀ (asked : Nat), lfOf rows pls prs lps s.at' = false → FrOk rows pls prs lps s.fr → 0 ≤ s.x → s.x + k < 30000 → asked + k ≤ 10000 → s.notes.length + k ≤ 10000 →
    (∃ m w, ORunC rows pls prs lps (oso rows pls prs lps s asked) m w ∧ w.notes = z.notes) := by
  induction h with
  | @nil s =>
    intro asked hn hf _ _ _ _
    refine ex1_1 (hz) fun l hr => ?_
    refine ex0_2 (code_end (rows := rows) (pls := pls) (prs := prs) (lps := lps) h0) fun e1 e2 => ?_
    refine ⟨1, _, .step (.doo (code_at (j := 0) hr hn rfl) hr (.inl ⟨rfl, rfl, rfl, rfl⟩) (.inr ⟨codeO_len2 _ _ _ _ |>.symm, rfl⟩)) (.done ?_), rfl⟩
    rw [e2, Nat.add_sub_cancel]
    exact e1
  | @cons k s s₁ s₂ hs hp ih =>
    intro asked hn hf hx hk ha hl
    have hs₁ : s₁.at' < rows.length := by
      cases hp with
      | nil => exact (List.getElem?_eq_some_iff.mp hz.choose_spec).1
      | cons h _ => obtain ⟨l, r, e⟩ := h.row; exact (List.getElem?_eq_some_iff.mp e).1
    refine ex0_2 (closed hW hs hn hf hs₁) fun hn' hf' => ?_
    have hsx := hs.x
    have hsn := hs.notes
    refine ex1_2 (sim hs hn hs₁ hn' (by lia) (by lia) (asked := asked) (by lia) (by lia)) fun asked' ha' hsim => ?_
    refine ex2_2 (ih hz asked' hn' hf' (by lia) (by lia) (by lia) (by lia)) fun m w hw hwn => ?_
    refine ex1_1 (hsim m w hw) fun m' hm' => ?_
    exact ⟨m', w, hm', hwn⟩
end
end
section
open PySem PySem.W PyProof.Rows PySem.Calls
noncomputable def off : List PT → Nat → Nat
  | [], _ => 0
  | _ :: _, 0 => 0
  | P :: ps, j + 1 => P.size + off ps j
theorem off_zero (ps : List PT) : off ps 0 = 0 := by cases ps <;> rfl
theorem off_succ {ps : List PT} : ∀ {j : Nat} {P : PT}, ps[j]? = some P → off ps (j + 1) = off ps j + P.size := by
  induction ps with
  | nil => intro j P h; rw [List.getElem?_nil] at h; cases h
  | cons Q ps ih =>
    intro j P h
    cases j with
    | zero => cases h; show Q.size + off ps 0 = 0 + Q.size; rw [off_zero, Nat.add_comm]
    | succ j => show Q.size + off ps (j + 1) = Q.size + off ps j + P.size; rw [ih (j := j) h, Nat.add_assoc]
theorem off_end (ps : List PT) : ∀ (a p : Nat), (rowsFrom a p ps).length = off ps ps.length := by
  induction ps with
  | nil => exact fun _ _ => rfl
  | cons P ps ih =>
    intro a p
    show (P.rows a p ++ rowsFrom (a + 1) (p + P.size) ps).length = P.size + off ps ps.length
    rw [List.length_append, PT.rows_length, ih]
theorem off_mono {ps : List PT} {d : Nat} : ∀ {j : Nat}, j + d ≤ ps.length → off ps j ≤ off ps (j + d) := by
  induction d with
  | zero => exact fun _ => Nat.le_refl _
  | succ d ih =>
    intro j h
    have e := off_succ (List.getElem?_eq_getElem (show j + d < ps.length from h))
    rw [← Nat.add_assoc, e]
    exact Nat.le_trans (ih (Nat.le_of_succ_le h)) (Nat.le_add_right _ _)
theorem off_lt {ps : List PT} {j j' : Nat} {P : PT} (hP : ps[j]? = some P) (h : j < j') (h' : j' ≤ ps.length) : off ps j + P.size ≤ off ps j' := by
  rw [← off_succ hP]
  have := off_mono (ps := ps) (d := j' - (j + 1)) (j := j + 1) (by lia)
  rwa [show j + 1 + (j' - (j + 1)) = j' by lia] at this
theorem part_rows {ps : List PT} : ∀ {a p j k : Nat} {P : PT} {x : Row}, ps[j]? = some P → (P.rows (a + j) (p + off ps j))[k]? = some x → (rowsFrom a p ps)[off ps j + k]? = some x := by
  induction ps with
  | nil => intro a p j k P x h _; rw [List.getElem?_nil] at h; cases h
  | cons Q ps ih =>
    intro a p j k P x h hx
    cases j with
    | zero =>
      cases h
      have hk := (List.getElem?_eq_some_iff.mp hx).1
      show (Q.rows a p ++ _)[0 + k]? = _
      rw [Nat.zero_add, List.getElem?_append_left (by rw [PT.rows_length] at hk ⊢; exact hk)]
      exact hx
    | succ j =>
      show (Q.rows a p ++ rowsFrom (a + 1) (p + Q.size) ps)[Q.size + off ps j + k]? = _
      rw [List.getElem?_append_right (by rw [PT.rows_length, Nat.add_assoc]; exact Nat.le_add_right _ _), PT.rows_length, Nat.add_assoc, Nat.add_sub_cancel_left]
      refine ih (a := a + 1) (p := p + Q.size) (P := P) h ?_
      rw [Nat.add_assoc, Nat.add_comm 1 j, Nat.add_assoc]
      exact hx
theorem rows_part {ps : List PT} : ∀ {a p i : Nat} {x : Row}, (rowsFrom a p ps)[i]? = some x → ∃ (j k : Nat) (P : PT), ps[j]? = some P ∧ i = off ps j + k ∧ (P.rows (a + j) (p + off ps j))[k]? = some x := by
  induction ps with
  | nil =>
    intro a p i x h
    have h' : ([] : List Row)[i]? = some _ := h
    rw [List.getElem?_nil] at h'; cases h'
  | cons Q ps ih =>
    intro a p i x h
    have h' : (Q.rows a p ++ rowsFrom (a + 1) (p + Q.size) ps)[i]? = some x := h
    by_cases hi : i < Q.size
    · rw [List.getElem?_append_left (by rw [PT.rows_length]; exact hi)] at h'
      exact ⟨0, i, Q, rfl, (Nat.zero_add i).symm, h'⟩
    · rw [List.getElem?_append_right (by rw [PT.rows_length]; exact Nat.not_lt.mp hi), PT.rows_length] at h'
      refine ex3_3 (ih h') fun j k P h1 h2 h3 => ?_
      refine ⟨j + 1, k, P, h1, ?_, ?_⟩
      · show i = Q.size + off ps j + k
        rw [Nat.add_assoc, ← h2, Nat.add_sub_cancel' (Nat.not_lt.mp hi)]
      · rw [Nat.add_assoc, Nat.add_comm 1 j, Nat.add_assoc] at h3
        exact h3
theorem mem_from {α : Type} {g : PT → Nat → Nat → List α} {F : Nat → Nat → List PT → List α} (h0 : ∀ a p, F a p [] = []) (h1 : ∀ a p Q ps, F a p (Q :: ps) = g Q a p ++ F (a + 1) (p + Q.size) ps) {e : α} {ps : List PT} : ∀ {a p : Nat}, e ∈ F a p ps ↔ ∃ (j : Nat) (P : PT), ps[j]? = some P ∧ e ∈ g P (a + j) (p + off ps j) := by
  induction ps with
  | nil => intro a p; rw [h0]; exact ⟨fun h => (nomatch h), fun z => ex2_2 z fun j P h _ => by rw [List.getElem?_nil] at h; cases h⟩
  | cons Q ps ih =>
    intro a p
    rw [h1, List.mem_append, ih]
    constructor
    · rintro (h | z)
      · exact ⟨0, Q, rfl, h⟩
      · refine ex2_2 z fun j P h1 h2 => ⟨j + 1, P, h1, ?_⟩
        rw [Nat.add_assoc, Nat.add_comm 1 j, Nat.add_assoc] at h2
        exact h2
    · intro z
      refine ex2_2 z fun j P h1 h2 => ?_
      cases j with
      | zero => cases h1; exact .inl h2
      | succ j =>
        refine .inr ⟨j, P, h1, ?_⟩
        rw [Nat.add_assoc, Nat.add_comm 1 j, Nat.add_assoc]
        exact h2
theorem mem_pls {ps : List PT} {a p : Nat} {e : Int × Nat} : e ∈ plsFrom a p ps ↔ ∃ (j : Nat) (P : PT), ps[j]? = some P ∧ e ∈ P.pls (a + j) (p + off ps j) := mem_from (g := fun P a p => P.pls a p) (F := plsFrom) (fun _ _ => rfl) (fun _ _ _ _ => rfl)
theorem mem_prs {ps : List PT} {p : Nat} {e : Nat × Nat} : e ∈ prsFrom p ps ↔ ∃ (j : Nat) (P : PT), ps[j]? = some P ∧ e ∈ P.prs (p + off ps j) := mem_from (g := fun P _ p => P.prs p) (F := fun _ p ps => prsFrom p ps) (fun _ _ => rfl) (fun _ _ _ _ => rfl) (a := 0)
theorem mem_lps {ps : List PT} {p : Nat} {e : Nat × Nat × Nat} : e ∈ lpsFrom p ps ↔ ∃ (j : Nat) (P : PT), ps[j]? = some P ∧ e ∈ P.lps (p + off ps j) := mem_from (g := fun P _ p => P.lps p) (F := fun _ p ps => lpsFrom p ps) (fun _ _ => rfl) (fun _ _ _ _ => rfl) (a := 0)
theorem find_sorted {κ α : Type} [DecidableEq κ] {lt : κ → κ → Prop} (irr : ∀ a, ¬ lt a a) : ∀ {l : List (κ × α)} {e : κ × α}, l.Pairwise (fun x y => lt x.1 y.1) → e ∈ l → l.find? (fun x => x.1 = e.1) = some e
  | [], _, _, h => nomatch h
  | x :: l, e, hp, h => by
    refine ex0_2 (List.pairwise_cons.mp hp) fun h1 h2 => ?_
    rw [List.find?_cons]
    rcases List.mem_cons.mp h with rfl | h
    · rw [decide_eq_true rfl]
    · have ne : ¬ x.1 = e.1 := fun q => irr e.1 (q ▸ h1 e h)
      rw [decide_eq_false ne]
      exact find_sorted irr h2 h
theorem plsFrom_sorted : ∀ (ps : List PT) (a p : Nat), (plsFrom a p ps).Pairwise (fun x y => x.1 < y.1)
  | [], _, _ => List.Pairwise.nil
  | P :: ps, a, p => by
    refine List.pairwise_append.mpr ⟨?_, plsFrom_sorted ps _ _, fun x hx y hy => ?_⟩
    · cases P <;> simp only [PT.pls, List.pairwise_cons, List.mem_cons, List.not_mem_nil, or_false, false_implies, implies_true, List.Pairwise.nil, and_true, forall_eq_or_imp, forall_eq] <;> first | trivial | lia
    · have h1 := (PT.pls_lt hx).2
      have h2 := (plsFrom_lt hy).1
      lia
theorem prsFrom_ge {ps : List PT} {p : Nat} {e : Nat × Nat} (h : e ∈ prsFrom p ps) : p ≤ e.1 := by
  refine ex2_2 (mem_prs.mp h) fun j P _ h2 => ?_
  have := (PT.prs_lt.1 e h2).1
  lia
theorem lpsFrom_ge {ps : List PT} {p : Nat} {e : Nat × Nat × Nat} (h : e ∈ lpsFrom p ps) : p ≤ e.1 := by
  refine ex2_2 (mem_lps.mp h) fun j P _ h2 => ?_
  have := (PT.prs_lt.2 e h2).1
  lia
theorem prsFrom_sorted : ∀ (ps : List PT) (p : Nat), (prsFrom p ps).Pairwise (fun x y => x.1 < y.1)
  | [], _ => List.Pairwise.nil
  | P :: ps, p => by
    refine List.pairwise_append.mpr ⟨?_, prsFrom_sorted ps _, fun x hx y hy => ?_⟩
    · cases P <;> simp [PT.prs]
    · have h1 := (PT.prs_lt.1 x hx).2
      have h2 := prsFrom_ge hy
      lia
theorem lpsFrom_sorted : ∀ (ps : List PT) (p : Nat), (lpsFrom p ps).Pairwise (fun x y => x.1 < y.1)
  | [], _ => List.Pairwise.nil
  | P :: ps, p => by
    refine List.pairwise_append.mpr ⟨?_, lpsFrom_sorted ps _, fun x hx y hy => ?_⟩
    · cases P <;> simp [PT.lps]
    · have h1 := (PT.prs_lt.2 x hx).2
      have h2 := lpsFrom_ge hy
      lia
end
section
open PySem PySem.W PyProof.Rows PySem.Calls
section
variable {ps : List PT} {j k i : Nat} {P : PT} {x : Row}
theorem len0_off (ps : List PT) : len0 ps = off ps ps.length := off_end ps 0 0
theorem rowsOf_part (h4 : ps.length ≤ 4) (hP : ps[j]? = some P) (hx : (P.rows j (off ps j))[k]? = some x) : (rowsOf ps)[off ps j + k]? = some x := by
  have h := part_rows (ps := ps) (a := 0) (p := 0) (j := j) (k := k) (x := x) hP (by rw [Nat.zero_add, Nat.zero_add]; exact hx)
  rw [(flat_of h4).1, List.getElem?_append_left (List.getElem?_eq_some_iff.mp h).1]
  exact h
theorem rowsOf_tail (h4 : ps.length ≤ 4) (hx : (tlRows ps.length)[k]? = some x) : (rowsOf ps)[off ps ps.length + k]? = some x := by
  rw [(flat_of h4).1, List.getElem?_append_right (by rw [off_end]; lia), off_end, show off ps ps.length + k - off ps ps.length = k by lia]
  exact hx
theorem rowsOf_len (h4 : ps.length ≤ 4) : (rowsOf ps).length = off ps ps.length + 6 := by
  rw [(flat_of h4).1, List.length_append, off_end]; rfl
theorem rowsOf_inv (h4 : ps.length ≤ 4) (h : (rowsOf ps)[i]? = some x) : (∃ (j k : Nat) (P : PT), ps[j]? = some P ∧ i = off ps j + k ∧ (P.rows j (off ps j))[k]? = some x) ∨ ∃ k, i = off ps ps.length + k ∧ (tlRows ps.length)[k]? = some x := by
  rw [(flat_of h4).1] at h
  by_cases hi : i < off ps ps.length
  · rw [List.getElem?_append_left (by rw [off_end]; exact hi)] at h
    refine ex3_3 (rows_part h) fun j k P h1 h2 h3 => ?_
    rw [Nat.zero_add, Nat.zero_add] at h3
    exact .inl ⟨j, k, P, h1, h2, h3⟩
  · rw [List.getElem?_append_right (by rw [off_end]; lia), off_end] at h
    exact .inr ⟨i - off ps ps.length, by lia, h⟩
theorem plsOf_sorted (h4 : ps.length ≤ 4) : (plsOf ps).Pairwise (fun x y => x.1 < y.1) := by
  rw [(flat_of h4).2]
  refine List.pairwise_append.mpr ⟨plsFrom_sorted _ _ _, ?_, fun x hx y hy => ?_⟩
  · refine List.pairwise_cons.mpr ⟨fun y hy => ?_, List.pairwise_singleton _ _⟩
    rw [List.mem_singleton] at hy; subst hy
    show lno ps.length < 9000
    unfold lno; lia
  · have h := (plsFrom_lt hx).2
    rw [Nat.zero_add] at h
    have h9 : lno ps.length < 9000 := by unfold lno; lia
    rcases List.mem_cons.mp hy with rfl | hy
    · exact h
    · rw [List.mem_singleton] at hy; subst hy
      show x.1 < 9000
      lia
theorem plc_mem (h4 : ps.length ≤ 4) {e : Int × Nat} (he : e ∈ plsOf ps) : plc (plsOf ps) e.1 = e.2 := by
  unfold plc
  rw [find_sorted (lt := fun a b : Int => a < b) (fun a => by lia) (plsOf_sorted h4) he]; rfl
theorem pls_head {a p : Nat} (P : PT) : (lno a, p) ∈ P.pls a p := by cases P <;> exact List.mem_cons_self
theorem pls_start (h4 : ps.length ≤ 4) {g : Nat} (hg : g ≤ ps.length) : (lno g, off ps g) ∈ plsOf ps := by
  rw [(flat_of h4).2]
  by_cases h : g < ps.length
  · refine List.mem_append.mpr (.inl (mem_pls.mpr ⟨g, ps[g], List.getElem?_eq_getElem h, ?_⟩))
    rw [Nat.zero_add, Nat.zero_add]
    exact pls_head _
  · have : g = ps.length := by lia
    subst this
    rw [len0_off]
    exact List.mem_append.mpr (.inr List.mem_cons_self)
theorem pls_9000 (h4 : ps.length ≤ 4) : ((9000 : Int), off ps ps.length + 3) ∈ plsOf ps := by
  rw [(flat_of h4).2, len0_off]
  exact List.mem_append.mpr (.inr (List.mem_cons_of_mem _ List.mem_cons_self))
theorem prc_mem (h4 : ps.length ≤ 4) {e : Nat × Nat} (he : e ∈ prsOf ps) : e.1 ∈ (prsOf ps).map (·.1) ∧ prc (prsOf ps) e.1 = e.2 := by
  refine ⟨List.mem_map.mpr ⟨e, he, rfl⟩, ?_⟩
  unfold prc
  rw [find_sorted (lt := fun a b : Nat => a < b) (fun a => by lia) (by rw [(ga_of h4).1]; exact prsFrom_sorted _ _) he]; rfl
theorem lpc_mem (h4 : ps.length ≤ 4) {e : Nat × Nat × Nat} (he : e ∈ lpsOf ps) : dget (e.1 : Int) (lpV (lpsOf ps)) = some (.tup [nV e.2.1, nV e.2.2]) ∧ lpc (lpsOf ps) e.1 = e.2.1 := by
  have hf := find_sorted (lt := fun a b : Nat => a < b) (fun a => by lia) (l := lpsOf ps) (by rw [(ga_of h4).2]; exact lpsFrom_sorted _ _) he
  refine ⟨?_, ?_⟩
  · have e1 : dget (e.1 : Int) (lpV (lpsOf ps)) = ((lpsOf ps).find? fun x => x.1 = e.1).map fun e => V.tup [nV e.2.1, nV e.2.2] := find_key (g := fun x : Nat × Nat => V.tup [nV x.1, nV x.2])
    rw [e1, hf]; rfl
  · unfold lpc
    rw [hf]; rfl
theorem prs_whil (h4 : ps.length ≤ 4) {c : Nat} (hP : ps[j]? = some (.whil c)) : (off ps j, off ps j + 3) ∈ prsOf ps ∧ (off ps j + 3, off ps j) ∈ prsOf ps := by
  rw [(ga_of h4).1]
  refine ⟨mem_prs.mpr ⟨j, _, hP, ?_⟩, mem_prs.mpr ⟨j, _, hP, ?_⟩⟩ <;> rw [Nat.zero_add]
  · exact List.mem_cons_self
  · exact List.mem_cons_of_mem _ List.mem_cons_self
theorem lps_forr (h4 : ps.length ≤ 4) {l : Nat} (hP : ps[j]? = some (.forr l)) : (off ps j, off ps j + 4, 0) ∈ lpsOf ps := by
  rw [(ga_of h4).2]
  refine mem_lps.mpr ⟨j, _, hP, ?_⟩
  rw [Nat.zero_add]
  exact List.mem_cons_self
abbrev PathP (ps : List PT) : Nat → PS → PS → Prop := Path (rowsOf ps) (plsOf ps) (prsOf ps) (lpsOf ps)
theorem for_loop (h4 : ps.length ≤ 4) {l : Nat} (hP : ps[j]? = some (.forr l)) (hl : l < 4) (d : Nat) : ∀ (i x : Int) (nt : List (Str × Int)), 1 ≤ i → i + d = l → ∃ k x' i' nt', k ≤ 4 * (d + 1) ∧ x ≤ x' ∧
    PathP ps k ⟨off ps j + 1, x, i, some (.forr (off ps j + 1) l), nt⟩ ⟨off ps j + 5, x', i', none, nt'⟩ := by
  have r1 : (rowsOf ps)[off ps j + 1]? = _ := rowsOf_part (k := 1) h4 hP rfl
  have r2 : (rowsOf ps)[off ps j + 2]? = _ := rowsOf_part (k := 2) h4 hP rfl
  have r3 : (rowsOf ps)[off ps j + 3]? = _ := rowsOf_part (k := 3) h4 hP rfl
  have r4 : (rowsOf ps)[off ps j + 4]? = _ := rowsOf_part (k := 4) h4 hP rfl
  have go : ∀ {i x : Int} {nt : List (Str × Int)} {z : PS} {k : Nat}, 1 ≤ i → i ≤ l → PathP ps k ⟨if (l : Int) < i + 1 then off ps j + 4 + 1 else off ps j + 1, x + 1, i + 1, if (l : Int) < i + 1 then none else some (.forr (off ps j + 1) l), nt ++ [(mk j 0, x)] ++ [(mk j 1, x + 1)]⟩ z →
      PathP ps (k + 4) ⟨off ps j + 1, x, i, some (.forr (off ps j + 1) l), nt⟩ z := fun {i x nt z k} h1 h2 h =>
    .cons (.rem r1) (.cons (.lt r2) (.cons (.rem r3) (.cons (.flow r4 rfl (show (-32768 : Int) ≤ i + 1 ∧ i + 1 < 32768 from ⟨by clear r1 r2 r3 r4 h hP; lia, by clear r1 r2 r3 r4 h hP; lia⟩)) h)))
  clear r1 r2 r3 r4
  induction d with
  | zero =>
    intro i x nt h1 hd
    have hlt : (l : Int) < i + 1 := by lia
    refine ⟨4, x + 1, i + 1, nt ++ [(mk j 0, x)] ++ [(mk j 1, x + 1)], Nat.le_refl _, Int.le_add_one (Int.le_refl _), go (k := 0) h1 (by lia) ?_⟩
    rw [if_pos hlt, if_pos hlt]
    exact .nil
  | succ d ih =>
    intro i x nt h1 hd
    have hlt : ¬ (l : Int) < i + 1 := by lia
    refine ex4_3 (ih (i + 1) (x + 1) (nt ++ [(mk j 0, x)] ++ [(mk j 1, x + 1)]) (by lia) (by lia)) fun k x' i' nt' hk hx hp => ?_
    refine ⟨k + 4, x', i', nt', Nat.add_le_add_right hk 4, Int.le_trans (Int.le_add_one (Int.le_refl _)) hx, go h1 (by lia) ?_⟩
    rw [if_neg hlt, if_neg hlt]
    exact hp
theorem while_loop (h4 : ps.length ≤ 4) {c : Nat} (hP : ps[j]? = some (.whil c)) (d : Nat) : ∀ (i x : Int) (fr : Option Fr) (nt : List (Str × Int)), (fr = none ∨ fr = some (.whil (off ps j))) → (c : Int) - x ≤ d → ∃ k x' nt', k ≤ 4 * d + 1 ∧ x ≤ x' ∧
    PathP ps k ⟨off ps j, x, i, fr, nt⟩ ⟨off ps j + 4, x', i, none, nt'⟩ := by
  have r0 : (rowsOf ps)[off ps j + 0]? = _ := rowsOf_part (k := 0) h4 hP rfl
  have r1 : (rowsOf ps)[off ps j + 1]? = _ := rowsOf_part (k := 1) h4 hP rfl
  have r2 : (rowsOf ps)[off ps j + 2]? = _ := rowsOf_part (k := 2) h4 hP rfl
  have r3 : (rowsOf ps)[off ps j + 3]? = _ := rowsOf_part (k := 3) h4 hP rfl
  have m := prs_whil h4 hP
  have p1 := prc_mem h4 m.1
  have p2 := prc_mem h4 m.2
  have e : prc (prsOf ps) (off ps j) = off ps j + 3 := p1.2
  have step : ∀ (i x : Int) (fr : Option Fr) (nt : List (Str × Int)), (fr = none ∨ fr = some (.whil (off ps j))) → Step (rowsOf ps) (plsOf ps) (prsOf ps) (lpsOf ps) ⟨off ps j, x, i, fr, nt⟩ ⟨if x < c then off ps j + 1 else off ps j + 3 + 1, x, i, if x < c then some (.whil (off ps j)) else none, nt⟩ := by
    intro i x fr nt hf
    rcases hf with rfl | rfl
    · exact .flow r0 (by show some _ = some _; rw [e]) ⟨p1.1, fun p hp => nomatch hp⟩
    · exact .flow r0 (by show some _ = some _; rw [e]) ⟨p1.1, fun p hp => by cases hp; rfl⟩
  have last : ∀ (i x : Int) (fr : Option Fr) (nt : List (Str × Int)), (fr = none ∨ fr = some (.whil (off ps j))) → ¬ x < c → PathP ps 1 ⟨off ps j, x, i, fr, nt⟩ ⟨off ps j + 4, x, i, none, nt⟩ := by
    intro i x fr nt hf hx
    have s := step i x fr nt hf
    rw [if_neg hx, if_neg hx] at s
    exact .cons s .nil
  induction d with
  | zero => exact fun i x fr nt hf hd => ⟨1, x, nt, Nat.le_refl _, Int.le_refl _, last i x fr nt hf (by clear step last r0 r1 r2 r3; lia)⟩
  | succ d ih =>
    intro i x fr nt hf hd
    by_cases hx : x < c
    · have s := step i x fr nt hf
      rw [if_pos hx, if_pos hx] at s
      refine ex3_3 (ih i (x + 1) (some (.whil (off ps j))) (nt ++ [(mk j 1, x + 1)]) (.inr rfl) (by clear step last ih r0 r1 r2 r3; lia)) fun k x' nt' hk hxx hp => ?_
      exact ⟨k + 1 + 1 + 1 + 1, x', nt', Nat.add_le_add_right hk 4, Int.le_trans (Int.le_add_one (Int.le_refl _)) hxx, .cons s (.cons (.lt r1) (.cons (.rem r2) (.cons (.flow r3 rfl fun p hp => by cases hp; exact p2) hp)))⟩
    · exact ⟨1, x, nt, Nat.le_add_left _ _, Int.le_refl _, last i x fr nt hf hx⟩
theorem part_path (h4 : ps.length ≤ 4) (hok : OkParts ps ps.length) (hj : ps[j]? = some P) (i x : Int) (nt : List (Str × Int)) (hx : 0 ≤ x) : ∃ g k x' i' nt', j < g ∧ g ≤ ps.length ∧ k ≤ 20 ∧ x ≤ x' ∧ PathP ps k ⟨off ps j, x, i, none, nt⟩ ⟨off ps g, x', i', none, nt'⟩ := by
  have hjl : j < ps.length := (List.getElem?_eq_some_iff.mp hj).1
  have hP := hok j P hj
  have hs := off_succ hj
  cases P with
  | goto g =>
    have m := pls_start h4 hP.2
    have e := plc_mem h4 m
    refine ⟨g, 2, x, i, _, hP.1, hP.2, by lia, Int.le_refl _, .cons (.rem (rowsOf_part (k := 0) h4 hj rfl)) (.cons (s' := ⟨off ps g, x, i, none, nt ++ [(mk j 0, x)]⟩) (.flow (rowsOf_part (k := 1) h4 hj rfl) ?_ (List.mem_map.mpr ⟨_, m, rfl⟩)) .nil)⟩
    show some _ = some _
    rw [e]
  | ifgo c g =>
    refine ex0_3 (hP) fun hc h1 h2 => ?_
    have m := pls_start h4 h2
    have e := plc_mem h4 m
    have st : Step (rowsOf ps) (plsOf ps) (prsOf ps) (lpsOf ps) ⟨off ps j, x, i, none, nt⟩ ⟨if x < c then off ps j + 1 else off ps j + 4, x, i, none, nt⟩ := .flow (rowsOf_part (k := 0) h4 hj rfl) rfl trivial
    by_cases hx : x < c
    · rw [if_pos hx] at st
      refine ⟨g, 3, x, i, _, h1, h2, by lia, Int.le_refl _, .cons st (.cons (.rem (rowsOf_part (k := 1) h4 hj rfl)) (.cons (s' := ⟨off ps g, x, i, none, nt ++ [(mk j 0, x)]⟩) (.flow (rowsOf_part (k := 2) h4 hj rfl) ?_ (List.mem_map.mpr ⟨_, m, rfl⟩)) .nil))⟩
      show some _ = some _
      rw [e]
    · rw [if_neg hx] at st
      refine ⟨j + 1, 4, x + 1, i, nt ++ [(mk j 1, x)] ++ [(mk j 2, x + 1)], by lia, by lia, by lia, by lia, .cons st (.cons (.rem (rowsOf_part (k := 4) h4 hj rfl)) (.cons (.lt (rowsOf_part (k := 5) h4 hj rfl)) (.cons (.rem (rowsOf_part (k := 6) h4 hj rfl)) ?_)))⟩
      rw [hs]
      exact .nil
  | forr l =>
    have ml := lpc_mem h4 (lps_forr h4 hj)
    have e : lpc (lpsOf ps) (off ps j) = off ps j + 4 := ml.2
    have st : Step (rowsOf ps) (plsOf ps) (prsOf ps) (lpsOf ps) ⟨off ps j, x, i, none, nt⟩ ⟨if (l : Int) < 1 then off ps j + 4 + 1 else off ps j + 1, x, 1, if (l : Int) < 1 then none else some (.forr (off ps j + 1) l), nt⟩ := by
      refine .flow (rowsOf_part (k := 0) h4 hj rfl) ?_ ⟨?_, lno j + 2, ?_⟩
      · show some _ = some _; rw [e]
      · rw [e]; exact ml.1
      · rw [e]; exact rowsOf_part (k := 4) h4 hj rfl
    have r5 : (rowsOf ps)[off ps j + 5]? = _ := rowsOf_part (k := 5) h4 hj rfl
    by_cases hl : (l : Int) < 1
    · rw [if_pos hl, if_pos hl] at st
      refine ⟨j + 1, 2, x, 1, nt ++ [(mk j 2, x)], by lia, by lia, by lia, Int.le_refl _, .cons st (.cons (.rem r5) ?_)⟩
      rw [hs]
      exact .nil
    · rw [if_neg hl, if_neg hl] at st
      have hl4 : l < 4 := hP
      refine ex4_3 (for_loop h4 hj hP (l - 1) 1 x nt (Int.le_refl _) (by lia)) fun k x' i' nt' hk hxx hp => ?_
      refine ⟨j + 1, k + 1 + 1, x', i', nt' ++ [(mk j 2, x')], by lia, by lia, by lia, hxx, .cons st (hp.trans (k' := 1) (.cons (.rem r5) ?_))⟩
      rw [hs]
      exact .nil
  | whil c =>
    have hc : 1 ≤ c ∧ c < 4 := hP
    refine ex3_3 (while_loop h4 hj 3 i x none nt (.inl rfl) (by lia)) fun k x' nt' hk hxx hp => ?_
    refine ⟨j + 1, k + 1, x', i, nt' ++ [(mk j 2, x')], by lia, by lia, by lia, hxx, hp.trans (k' := 1) (.cons (.rem (rowsOf_part (k := 4) h4 hj rfl)) ?_)⟩
    rw [hs]
    exact .nil
  | gosub =>
    have m := pls_9000 h4
    have e := plc_mem h4 m
    have t3 : (rowsOf ps)[off ps ps.length + 3]? = _ := rowsOf_tail (k := 3) h4 rfl
    have t4 : (rowsOf ps)[off ps ps.length + 3 + 1]? = _ := rowsOf_tail (k := 4) h4 rfl
    refine ⟨j + 1, 4, x, i, nt ++ [(("90" : Str), x)] ++ [(mk j 0, x)], by lia, by lia, by lia, Int.le_refl _, .cons (s' := ⟨off ps ps.length + 3, x, i, some (.gosub (off ps j + 1)), nt⟩) (.flow (rowsOf_part (k := 0) h4 hj rfl) ?_ (List.mem_map.mpr ⟨_, m, rfl⟩)) (.cons (.rem t3) (.cons (.flow t4 rfl trivial) (.cons (.rem (rowsOf_part (k := 1) h4 hj rfl)) ?_)))⟩
    · show some _ = some _
      rw [e]
    · rw [hs]
      exact .nil
theorem end_path (h4 : ps.length ≤ 4) (hok : OkParts ps ps.length) : ∀ (d j : Nat), ps.length - j = d → j ≤ ps.length → ∀ (i x : Int) (nt : List (Str × Int)), 0 ≤ x → ∃ k z, k ≤ 20 * d + 1 ∧ PathP ps k ⟨off ps j, x, i, none, nt⟩ z ∧ ∃ l, (rowsOf ps)[z.at']? = some (l, .endd) := by
  intro d
  induction d using Nat.strongRecOn with
  | ind d ih =>
    intro j hd hj i x nt hx
    by_cases h : j = ps.length
    · subst h
      have t0 : (rowsOf ps)[off ps ps.length]? = _ := rowsOf_tail (k := 0) h4 rfl
      exact ⟨1, _, by lia, .cons (.rem t0) .nil, _, rowsOf_tail (k := 1) h4 rfl⟩
    · obtain ⟨P, hP⟩ : ∃ P, ps[j]? = some P := ⟨_, List.getElem?_eq_getElem (by lia)⟩
      refine ex5_5 (part_path h4 hok hP i x nt hx) fun g k x' i' nt' h1 h2 h3 h5 hp => ?_
      refine ex2_3 (ih (ps.length - g) (by lia) g rfl h2 i' x' nt' (by lia)) fun k' z hk' hp' hz => ?_
      exact ⟨k + k', z, by lia, hp.trans hp', hz⟩
end
end
section
open PySem PySem.W PyProof.Rows PySem.Calls
noncomputable def tnum (t : Str) : Nat := t.cps.foldl (fun n c => 10 * n + (c - 48)) 0
theorem mk_facts {a s : Nat} (ha : a < 4) (hs : s < 4) : tnum (mk a s) = 10 * a + s ∧ PyData.strOk (mk a s) = true := by
  obtain rfl | rfl | rfl | rfl : a = 0 ∨ a = 1 ∨ a = 2 ∨ a = 3 := by lia
  all_goals
    obtain rfl | rfl | rfl | rfl : s = 0 ∨ s = 1 ∨ s = 2 ∨ s = 3 := by lia
    all_goals exact ⟨by kernel_rfl, by kernel_rfl⟩
noncomputable def PT.remAt : PT → Nat → Nat
  | .goto _, 0 => 0
  | .goto _, _ => 2
  | .ifgo _ _, 0 => 1
  | .ifgo _ _, 1 => 4
  | .ifgo _ _, _ => 6
  | .forr _, 0 => 1
  | .forr _, 1 => 3
  | .forr _, _ => 5
  | .whil _, 1 => 2
  | .whil _, _ => 4
  | .gosub, _ => 1
theorem part_rem {P : PT} {j p k : Nat} {l : Int} {t : Str} (h : (P.rows j p)[k]? = some (l, .rem t)) : ∃ s, s < 3 ∧ t = mk j s ∧ k = P.remAt s := by
  have hk := (List.getElem?_eq_some_iff.mp h).1
  rw [PT.rows_length] at hk
  cases P with
  | goto g =>
    have hk' : k < 3 := hk
    obtain rfl | rfl | rfl : k = 0 ∨ k = 1 ∨ k = 2 := by lia
    · cases h; exact ⟨0, by lia, rfl, rfl⟩
    · cases h
    · cases h; exact ⟨1, by lia, rfl, rfl⟩
  | ifgo c g =>
    have hk' : k < 7 := hk
    obtain rfl | rfl | rfl | rfl | rfl | rfl | rfl : k = 0 ∨ k = 1 ∨ k = 2 ∨ k = 3 ∨ k = 4 ∨ k = 5 ∨ k = 6 := by lia
    · cases h
    · cases h; exact ⟨0, by lia, rfl, rfl⟩
    · cases h
    · cases h
    · cases h; exact ⟨1, by lia, rfl, rfl⟩
    · cases h
    · cases h; exact ⟨2, by lia, rfl, rfl⟩
  | forr c =>
    have hk' : k < 6 := hk
    obtain rfl | rfl | rfl | rfl | rfl | rfl : k = 0 ∨ k = 1 ∨ k = 2 ∨ k = 3 ∨ k = 4 ∨ k = 5 := by lia
    · cases h
    · cases h; exact ⟨0, by lia, rfl, rfl⟩
    · cases h
    · cases h; exact ⟨1, by lia, rfl, rfl⟩
    · cases h
    · cases h; exact ⟨2, by lia, rfl, rfl⟩
  | whil c =>
    have hk' : k < 5 := hk
    obtain rfl | rfl | rfl | rfl | rfl : k = 0 ∨ k = 1 ∨ k = 2 ∨ k = 3 ∨ k = 4 := by lia
    · cases h
    · cases h
    · cases h; exact ⟨1, by lia, rfl, rfl⟩
    · cases h
    · cases h; exact ⟨2, by lia, rfl, rfl⟩
  | gosub =>
    have hk' : k < 2 := hk
    obtain rfl | rfl : k = 0 ∨ k = 1 := by lia
    · cases h
    · cases h; exact ⟨0, by lia, rfl, rfl⟩
theorem tl_rem {m k : Nat} {l : Int} {t : Str} (h : (tlRows m)[k]? = some (l, .rem t)) : (k = 0 ∧ t = "80") ∨ (k = 2 ∧ t = "81") ∨ (k = 3 ∧ t = "90") ∨ (k = 5 ∧ t = "91") := by
  have hk : k < 6 := (List.getElem?_eq_some_iff.mp h).1
  obtain rfl | rfl | rfl | rfl | rfl | rfl : k = 0 ∨ k = 1 ∨ k = 2 ∨ k = 3 ∨ k = 4 ∨ k = 5 := by lia
  · cases h; exact .inl ⟨rfl, rfl⟩
  · cases h
  · cases h; exact .inr (.inl ⟨rfl, rfl⟩)
  · cases h; exact .inr (.inr (.inl ⟨rfl, rfl⟩))
  · cases h
  · cases h; exact .inr (.inr (.inr ⟨rfl, rfl⟩))
theorem t80 : tnum "80" = 80 ∧ PyData.strOk "80" = true := ⟨by kernel_rfl, by kernel_rfl⟩
theorem t81 : tnum "81" = 81 ∧ PyData.strOk "81" = true := ⟨by kernel_rfl, by kernel_rfl⟩
theorem t90 : tnum "90" = 90 ∧ PyData.strOk "90" = true := ⟨by kernel_rfl, by kernel_rfl⟩
theorem t91 : tnum "91" = 91 ∧ PyData.strOk "91" = true := ⟨by kernel_rfl, by kernel_rfl⟩
section
variable {ps : List PT} {j k i : Nat} {P : PT}
noncomputable def remRow (ps : List PT) (n : Nat) : Nat :=
  if n < 80 then off ps (n / 10) + (((ps[n / 10]?).getD .gosub).remAt (n % 10)) else off ps ps.length + (if n = 80 then 0 else if n = 81 then 2 else if n = 90 then 3 else 5)
theorem rem_row (h4 : ps.length ≤ 4) {l : Int} {t : Str} (h : (rowsOf ps)[i]? = some (l, .rem t)) : i = remRow ps (tnum t) ∧ PyData.strOk t = true := by
  rcases rowsOf_inv h4 h with ⟨j, k, P, h1, h2, h3⟩ | ⟨k, h2, h3⟩
  · refine ex1_3 (part_rem h3) fun s hs zz1 zz2 => ?_
    subst zz1
    subst zz2
    have hj : j < ps.length := (List.getElem?_eq_some_iff.mp h1).1
    refine ex0_2 (mk_facts (a := j) (s := s) (by lia) (by lia)) fun e1 e2 => ?_
    refine ⟨?_, e2⟩
    rw [e1]
    unfold remRow
    rw [if_pos (by lia), show (10 * j + s) / 10 = j by lia, show (10 * j + s) % 10 = s by lia, h1]
    exact h2
  · rcases tl_rem h3 with ⟨rfl, rfl⟩ | ⟨rfl, rfl⟩ | ⟨rfl, rfl⟩ | ⟨rfl, rfl⟩
    · exact ⟨by rw [t80.1]; exact h2, t80.2⟩
    · exact ⟨by rw [t81.1]; exact h2, t81.2⟩
    · exact ⟨by rw [t90.1]; exact h2, t90.2⟩
    · exact ⟨by rw [t91.1]; exact h2, t91.2⟩
noncomputable abbrev lfP (ps : List PT) (k : Nat) : Bool := lfOf (rowsOf ps) (plsOf ps) (prsOf ps) (lpsOf ps) k
theorem mem_lft {r : R} : r ∈ lftOf ps ↔ ∃ i l, (rowsOf ps)[i]? = some (l, r) ∧ lfP ps i = true := by
  show r ∈ leftR (rowsOf ps) (leftOf (rowsOf ps) (plsOf ps) (prsOf ps) (lpsOf ps)) ↔ _
  unfold leftR
  rw [List.mem_map]
  constructor
  · rintro ⟨a, ha, rfl⟩
    refine ex0_2 (List.mem_filter.mp ha) fun h1 h2 => ?_
    have h1' := List.mem_range.mp h1
    refine ⟨a, ((rowsOf ps)[a]).1, ?_, h2⟩
    rw [List.getElem?_eq_getElem h1']; rfl
  · rintro ⟨i, l, h1, h2⟩
    have hi := (List.getElem?_eq_some_iff.mp h1).1
    exact ⟨i, List.mem_filter.mpr ⟨List.mem_range.mpr hi, h2⟩, by rw [h1]; rfl⟩
theorem not_lft (h4 : ps.length ≤ 4) {l : Int} {t : Str} (h : (rowsOf ps)[i]? = some (l, .rem t)) (hn : lfP ps i = false) : R.rem t ∉ lftOf ps := fun hm => by
  refine ex2_2 (mem_lft.mp hm) fun i' l' h1 h2 => ?_
  have e : i = i' := (rem_row h4 h).1.trans (rem_row h4 h1).1.symm
  subst e
  rw [hn] at h2; cases h2
theorem prOk_of (h4 : ps.length ≤ 4) : PrOk (rowsOf ps) (prsOf ps) := fun a ha => by
  refine ex1_2 (List.mem_map.mp ha) fun e he zz3 => ?_
  subst zz3
  have hp := prc_mem h4 he
  have he' := he
  rw [(ga_of h4).1] at he'
  refine ex2_2 (mem_prs.mp he') fun j P hj hP => ?_
  rw [Nat.zero_add] at hP
  cases P with
  | whil c =>
    refine ex0_2 (prs_whil h4 hj) fun m1 m2 => ?_
    rw [hp.2]
    rcases List.mem_cons.mp hP with rfl | hP
    · exact ⟨(prc_mem h4 m2).1, _, _, rowsOf_part (k := 3) h4 hj rfl, .inl rfl⟩
    · rw [List.mem_singleton] at hP
      subst hP
      exact ⟨(prc_mem h4 m1).1, _, _, rowsOf_part (k := 0) h4 hj rfl, .inr ⟨_, rfl⟩⟩
  | _ => cases hP
theorem notes_rows (hW : PrOk (rowsOf ps) (prsOf ps)) {k : Nat} {s z : PS} (h : PathP ps k s z) (hz : ∃ l, (rowsOf ps)[z.at']? = some (l, .endd)) : lfP ps s.at' = false → FrOk (rowsOf ps) (plsOf ps) (prsOf ps) (lpsOf ps) s.fr →
    (∀ e ∈ s.notes, ∃ i l, (rowsOf ps)[i]? = some (l, .rem e.1) ∧ lfP ps i = false) → ∀ e ∈ z.notes, ∃ i l, (rowsOf ps)[i]? = some (l, .rem e.1) ∧ lfP ps i = false := by
  induction h with
  | nil => exact fun _ _ h => h
  | @cons k s s₁ s₂ hs hp ih =>
    intro hn hf hnt
    have hs₁ : s₁.at' < (rowsOf ps).length := by
      cases hp with
      | nil => exact (List.getElem?_eq_some_iff.mp hz.choose_spec).1
      | cons h _ => obtain ⟨l, r, e⟩ := h.row; exact (List.getElem?_eq_some_iff.mp e).1
    refine ex0_2 (closed hW hs hn hf hs₁) fun hn' hf' => ?_
    refine ih hz hn' hf' ?_
    cases hs with
    | rem hr =>
      intro e he
      rcases List.mem_append.mp he with he | he
      · exact hnt e he
      · rw [List.mem_singleton] at he
        subst he
        exact ⟨_, _, hr, hn⟩
    | lt hr => exact hnt
    | flow hr _ _ => exact hnt
theorem Path.fn2 {rows : List Row} {pls : List (Int × Nat)} {prs : List (Nat × Nat)} {lps : List (Nat × Nat × Nat)} {k : Nat} {s z : PS} (h : Path rows pls prs lps k s z) : ∃ st : Nat → PS, st 0 = s ∧ (∀ j, k ≤ j → st j = z) ∧ ∀ j, j < k → Step rows pls prs lps (st j) (st (j + 1)) := by
  induction h with
  | nil => exact ⟨fun _ => _, rfl, fun _ _ => rfl, fun j h => absurd h (Nat.not_lt_zero _)⟩
  | @cons k s s₁ s₂ hs _ ih =>
    refine ex1_3 (ih) fun st h0 hk hst => ?_
    refine ⟨fun j => match j with | 0 => s | j + 1 => st j, rfl, fun j hj => ?_, fun j hj => ?_⟩
    · cases j with
      | zero => lia
      | succ j => exact hk j (by lia)
    · cases j with
      | zero => show Step _ _ _ _ s (st 0); rw [h0]; exact hs
      | succ j => exact hst j (by lia)
theorem notes_len {rows : List Row} {pls : List (Int × Nat)} {prs : List (Nat × Nat)} {lps : List (Nat × Nat × Nat)} {K : Nat} {st : Nat → PS} (h0 : (st 0).notes = []) (hst : ∀ j, j < K → Step rows pls prs lps (st j) (st (j + 1))) : ∀ k, k ≤ K → (st k).notes.length ≤ k
  | 0, _ => by rw [h0]; exact Nat.le_refl _
  | k + 1, h => by
    have := notes_len h0 hst k (by lia)
    have := (hst k h).notes
    lia
end
end
section
open PySem PySem.W PyProof.Rows PySem.Calls
section
variable {ps : List PT} {j k i : Nat} {P : PT}
theorem pls_rng {a p : Nat} {P : PT} {e : Int × Nat} (h : e ∈ P.pls a p) : p ≤ e.2 ∧ e.2 < p + P.size := by
  cases P <;> (simp only [PT.pls, List.mem_cons, List.not_mem_nil, or_false] at h) <;> simp only [PT.size] <;> first | (rcases h with rfl | rfl | rfl <;> (dsimp only; lia)) | (subst h; dsimp only; omega)
theorem same_part {j' : Nat} {P' : PT} (h1 : ps[j]? = some P) (h2 : ps[j']? = some P') (a1 : off ps j ≤ k) (a2 : k < off ps j + P.size) (b1 : off ps j' ≤ k) (b2 : k < off ps j' + P'.size) : j = j' := by
  have l1 := (List.getElem?_eq_some_iff.mp h1).1
  have l2 := (List.getElem?_eq_some_iff.mp h2).1
  rcases Nat.lt_trichotomy j j' with h | h | h
  · have := off_lt h1 h (Nat.le_of_lt l2); lia
  · exact h
  · have := off_lt h2 h (Nat.le_of_lt l1); lia
def rowFact (ps : List PT) : R → Prop
  | .ifn c g => (0 ≤ c ∧ c < 3) ∧ ∃ (j : Nat) (c' g' : Nat), ps[j]? = some (.ifgo c' g') ∧ off ps j ≤ g ∧ g < off ps j + 7
  | .jmp g => ∃ (j : Nat) (c' g' : Nat), ps[j]? = some (.ifgo c' g') ∧ off ps j ≤ g ∧ g < off ps j + 7
  | .goto G => ∃ g, G = lno g ∧ g ≤ ps.length
  | _ => True
theorem row_fact (h4 : ps.length ≤ 4) (hok : OkParts ps ps.length) {l : Int} {r : R} (h : (rowsOf ps)[i]? = some (l, r)) : rowFact ps r := by
  rcases rowsOf_inv h4 h with ⟨j, k, P, h1, h2, h3⟩ | ⟨k, h2, h3⟩
  · have hP := hok j P h1
    have hm := List.mem_of_getElem? h3
    cases P with
    | goto g =>
      simp only [PT.rows, List.mem_cons, List.not_mem_nil, or_false, Prod.mk.injEq] at hm
      rcases hm with ⟨_, rfl⟩ | ⟨_, rfl⟩ | ⟨_, rfl⟩
      · trivial
      · exact ⟨g, rfl, hP.2⟩
      · trivial
    | ifgo c g =>
      refine ex0_3 (hP) fun c1 c2 c3 => ?_
      simp only [PT.rows, List.mem_cons, List.not_mem_nil, or_false, Prod.mk.injEq] at hm
      rcases hm with ⟨_, rfl⟩ | ⟨_, rfl⟩ | ⟨_, rfl⟩ | ⟨_, rfl⟩ | ⟨_, rfl⟩ | ⟨_, rfl⟩ | ⟨_, rfl⟩
      · exact ⟨⟨by lia, by lia⟩, j, c, g, h1, by lia, by lia⟩
      · trivial
      · exact ⟨g, rfl, c3⟩
      · exact ⟨j, c, g, h1, by lia, by lia⟩
      · trivial
      · trivial
      · trivial
    | forr c =>
      simp only [PT.rows, List.mem_cons, List.not_mem_nil, or_false, Prod.mk.injEq] at hm
      rcases hm with ⟨_, rfl⟩ | ⟨_, rfl⟩ | ⟨_, rfl⟩ | ⟨_, rfl⟩ | ⟨_, rfl⟩ | ⟨_, rfl⟩ <;> trivial
    | whil c =>
      simp only [PT.rows, List.mem_cons, List.not_mem_nil, or_false, Prod.mk.injEq] at hm
      rcases hm with ⟨_, rfl⟩ | ⟨_, rfl⟩ | ⟨_, rfl⟩ | ⟨_, rfl⟩ | ⟨_, rfl⟩ <;> trivial
    | gosub =>
      simp only [PT.rows, List.mem_cons, List.not_mem_nil, or_false, Prod.mk.injEq] at hm
      rcases hm with ⟨_, rfl⟩ | ⟨_, rfl⟩ <;> trivial
  · have hm := List.mem_of_getElem? h3
    simp only [tlRows, List.mem_cons, List.not_mem_nil, or_false, Prod.mk.injEq] at hm
    rcases hm with ⟨_, rfl⟩ | ⟨_, rfl⟩ | ⟨_, rfl⟩ | ⟨_, rfl⟩ | ⟨_, rfl⟩ | ⟨_, rfl⟩ <;> trivial
theorem mem_ords {pl : Int → Nat} {o : Od} : ∀ {l : List Row} {a : Nat}, o ∈ ords pl a l → ∃ (i : Nat) (x : Row), l[i]? = some x ∧ o ∈ ordsOf pl (a + i) x.2
  | [], _, h => nomatch h
  | r :: l, a, h => by
    have h' : o ∈ ordsOf pl a r.2 ++ ords pl (a + 1) l := h
    rcases List.mem_append.mp h' with h | h
    · exact ⟨0, r, rfl, h⟩
    · refine ex2_2 (mem_ords h) fun i x h1 h2 => ?_
      exact ⟨i + 1, x, h1, by rw [show a + (i + 1) = a + 1 + i by lia]; exact h2⟩
theorem no_goal (h4 : ps.length ≤ 4) (hok : OkParts ps ps.length) {g : Nat} (hj : ps[j]? = some (.goto g)) : hasGoal (cOrds (plc (plsOf ps)) (rowsOf ps)) (sAt (plc (plsOf ps)) (rowsOf ps) (off ps j + 2)) = false := by
  cases hh : hasGoal (cOrds (plc (plsOf ps)) (rowsOf ps)) (sAt (plc (plsOf ps)) (rowsOf ps) (off ps j + 2)) with
  | false => rfl
  | true =>
    exfalso
    have hjl := (List.getElem?_eq_some_iff.mp hj).1
    have hk : off ps j + 2 < (rowsOf ps).length := (List.getElem?_eq_some_iff.mp (rowsOf_part (k := 2) h4 hj rfl)).1
    unfold hasGoal at hh
    refine ex1_2 (List.any_eq_true.mp hh) fun o ho hg => ?_
    have hg' : o.goal = some (sAt (plc (plsOf ps)) (rowsOf ps) (off ps j + 2)) := by simpa using hg
    unfold cOrds at ho
    rcases List.mem_append.mp ho with ho | ho
    · refine ex1_2 (List.mem_map.mp ho) fun o' ho' zz1 => ?_
      subst zz1
      have inj : ∀ g', sAt (plc (plsOf ps)) (rowsOf ps) (min g' (rowsOf ps).length) = sAt (plc (plsOf ps)) (rowsOf ps) (off ps j + 2) → g' = off ps j + 2 := fun g' e => by
        rcases Nat.lt_trichotomy (min g' (rowsOf ps).length) (off ps j + 2) with h | h | h
        · have := sAt_lt (pl := plc (plsOf ps)) h (Nat.le_of_lt hk); lia
        · lia
        · have := sAt_lt (pl := plc (plsOf ps)) h (Nat.min_le_right _ _); lia
      refine ex2_2 (mem_ords ho') fun i zz2 hr hm => ?_
      obtain ⟨l, r⟩ := zz2
      have rf := row_fact h4 hok hr
      have part : ∀ g', (∃ (j' : Nat) (c' g'' : Nat), ps[j']? = some (.ifgo c' g'') ∧ off ps j' ≤ g' ∧ g' < off ps j' + 7) → g' = off ps j + 2 → False := fun g' ⟨j', c', g'', a1, a2, a3⟩ e => by
        have := same_part hj a1 (k := g') (by lia) (by rw [e]; show off ps j + 2 < off ps j + 3; lia) a2 a3
        subst this
        rw [hj] at a1; cases a1
      cases r with
      | ifn c g' =>
        simp only [ordsOf, List.mem_cons, List.not_mem_nil, or_false] at hm
        rcases hm with rfl | rfl | rfl | rfl | rfl
        · cases hg'
        · cases hg'
        · cases hg'
        · cases hg'
        · have e : some (((strt (plc (plsOf ps)) 0 0 (rowsOf ps))[g']?).getD (ords (plc (plsOf ps)) 0 (rowsOf ps)).length) = some (sAt (plc (plsOf ps)) (rowsOf ps) (off ps j + 2)) := hg'
          rw [led_go] at e
          exact part g' rf.2 (inj g' (Option.some.inj e))
      | jmp g' =>
        simp only [ordsOf, List.mem_cons, List.not_mem_nil, or_false] at hm
        subst hm
        have e : some (((strt (plc (plsOf ps)) 0 0 (rowsOf ps))[g']?).getD (ords (plc (plsOf ps)) 0 (rowsOf ps)).length) = some (sAt (plc (plsOf ps)) (rowsOf ps) (off ps j + 2)) := hg'
        rw [led_go] at e
        exact part g' rf (inj g' (Option.some.inj e))
      | goto G =>
        simp only [ordsOf, List.mem_cons, List.not_mem_nil, or_false] at hm
        rcases hm with rfl | rfl
        · cases hg'
        · have e : some (((strt (plc (plsOf ps)) 0 0 (rowsOf ps))[plc (plsOf ps) G]?).getD (ords (plc (plsOf ps)) 0 (rowsOf ps)).length) = some (sAt (plc (plsOf ps)) (rowsOf ps) (off ps j + 2)) := hg'
          rw [led_go] at e
          have e' := inj _ (Option.some.inj e)
          refine ex1_2 (rf) fun g' zz3 hg4 => ?_
          subst zz3
          have e2 : plc (plsOf ps) (lno g') = off ps g' := plc_mem h4 (pls_start h4 hg4)
          rw [e2] at e'
          by_cases hc : g' ≤ j
          · have := off_mono (ps := ps) (d := j - g') (j := g') (by lia)
            rw [show g' + (j - g') = j by lia] at this
            lia
          · have : off ps j + 3 ≤ off ps g' := off_lt hj (by lia) hg4
            lia
      | rem t => simp only [ordsOf, List.mem_cons, List.not_mem_nil, or_false] at hm; subst hm; cases hg'
      | lt =>
        simp only [ordsOf, List.mem_cons, List.not_mem_nil, or_false] at hm
        rcases hm with rfl | rfl | rfl | rfl | rfl <;> cases hg'
      | _ => simp only [ordsOf, List.mem_cons, List.not_mem_nil, or_false] at hm; subst hm; cases hg'
    · rw [List.mem_singleton] at ho
      subst ho; cases hg'
theorem notc {l : List Nat} {a : Nat} (h : a ∉ l) : l.contains a = false := by
  cases e : l.contains a with
  | false => rfl
  | true => exact absurd (List.contains_iff_mem.mp e) h
theorem gone_lf (h4 : ps.length ≤ 4) (hok : OkParts ps ps.length) {g : Nat} (hj : ps[j]? = some (.goto g)) : lfP ps (off ps j + 2) = true := by
  have hjl := (List.getElem?_eq_some_iff.mp hj).1
  have r2 : (rowsOf ps)[off ps j + 2]? = _ := rowsOf_part (k := 2) h4 hj rfl
  have r1 : (rowsOf ps)[off ps j + 1]? = _ := rowsOf_part (k := 1) h4 hj rfl
  have hk := (List.getElem?_eq_some_iff.mp r2).1
  have hm : off ps j + 3 ≤ off ps ps.length := off_lt hj hjl (Nat.le_refl _)
  show lfOf _ _ _ _ _ = true
  rw [lf_eq hk, sAt_succ r1]
  have hl : (ordsOf (plc (plsOf ps)) (off ps j + 1) (R.goto (lno g))).length = 2 := rfl
  rw [hl, show sAt (plc (plsOf ps)) (rowsOf ps) (off ps j + 1) + 2 - 1 = sAt (plc (plsOf ps)) (rowsOf ps) (off ps j + 1) + 1 by lia, os_at (j := 1) r1 rfl]
  show (alone _ _ _ _ _ _ && (_ || true)) = true
  rw [Bool.or_true, Bool.and_true]
  unfold alone
  have c1 : (firsts (plsOf ps)).contains (off ps j + 2) = false := by
    refine notc fun hf => ?_
    refine ex1_2 (List.mem_map.mp hf) fun e he e1 => ?_
    have e2 := plc_mem h4 he
    rw [(flat_of h4).2] at he
    rcases List.mem_append.mp he with he | he
    · refine ex2_2 (mem_pls.mp he) fun j' P' a1 a2 => ?_
      rw [Nat.zero_add, Nat.zero_add] at a2
      have rg := pls_rng a2
      have := same_part hj a1 (k := e.2) (by lia) (by show e.2 < off ps j + 3; lia) rg.1 rg.2
      subst this
      rw [hj] at a1; cases a1
      have e3 : e = (lno j, off ps j) := by simpa [PT.pls] using a2
      rw [e3] at e1 e2
      have : plc (plsOf ps) (lno j) = off ps j + 2 := e1
      have : plc (plsOf ps) (lno j) = off ps j := e2
      lia
    · rw [len0_off] at he
      rcases List.mem_cons.mp he with rfl | he
      · have h5 : plc (plsOf ps) (lno ps.length) = off ps j + 2 := e1
        have h6 : plc (plsOf ps) (lno ps.length) = off ps ps.length := e2
        lia
      · rw [List.mem_singleton] at he
        subst he
        have h5 : plc (plsOf ps) 9000 = off ps j + 2 := e1
        have h6 : plc (plsOf ps) 9000 = off ps ps.length + 3 := e2
        lia
  have c2 : (keptL (prsOf ps) (lpsOf ps)).contains (off ps j + 2) = false := by
    refine notc fun hf => ?_
    rcases List.mem_append.mp hf with hf | hf
    · refine ex1_2 (List.mem_map.mp hf) fun e he e1 => ?_
      rw [(ga_of h4).1] at he
      refine ex2_2 (mem_prs.mp he) fun j' P' a1 a2 => ?_
      rw [Nat.zero_add] at a2
      have rg := PT.prs_lt.1 e a2
      have := same_part hj a1 (k := e.1) (by lia) (by show e.1 < off ps j + 3; lia) rg.1 rg.2
      subst this
      rw [hj] at a1; cases a1
      cases a2
    · refine ex1_2 (List.mem_map.mp hf) fun e he e1 => ?_
      rw [(ga_of h4).2] at he
      refine ex2_2 (mem_lps.mp he) fun j' P' a1 a2 => ?_
      rw [Nat.zero_add] at a2
      cases P' with
      | forr l =>
        have e3 : e = (off ps j', off ps j' + 4, 0) := by simpa [PT.lps] using a2
        rw [e3] at e1
        have e4 : off ps j' + 4 = off ps j + 2 := e1
        have := same_part hj a1 (k := off ps j + 2) (by lia) (by show _ < off ps j + 3; lia) (by lia) (by show _ < off ps j' + 6; lia)
        subst this
        rw [hj] at a1; cases a1
      | _ => cases a2
  have c3 := no_goal h4 hok hj
  rw [c1, c2, st_at r2]
  show (decide (0 < off ps j + 2) && !false && !false && !hasGoal _ (sAt (plc (plsOf ps)) (rowsOf ps) (off ps j + 2))) = true
  rw [c3, decide_eq_true (by lia)]; rfl
end
end
section
open PySem PySem.W PyProof.Rows PySem.Calls
section
variable {ps : List PT} {j k i : Nat} {P : PT}
theorem flSs_pos {ln : Int} {m : Nat} : ∀ {L : List S}, L ≠ [] → 0 < (flSs ln m L).length
  | [], h => absurd rfl h
  | s :: L, _ => by
    show 0 < (flS ln m s ++ flSs ln _ L).length
    rw [List.length_append]
    have : 0 < (flS ln m s).length := by cases s <;> (simp only [flS, List.length_cons]; lia)
    lia
theorem off_le : ∀ (ps : List PT) (j : Nat), off ps j ≤ 7 * ps.length
  | [], _ => Nat.zero_le _
  | _ :: _, 0 => Nat.zero_le _
  | P :: ps, j + 1 => by
    have := off_le ps j
    have h : P.size ≤ 7 := by cases P <;> exact Nat.le_of_ble_eq_true rfl
    show P.size + off ps j ≤ 7 * (ps.length + 1)
    lia
theorem plsFrom_len : ∀ (ps : List PT) (a p : Nat), (plsFrom a p ps).length ≤ 3 * ps.length
  | [], _, _ => Nat.le_refl _
  | P :: ps, a, p => by
    show (P.pls a p ++ plsFrom (a + 1) (p + P.size) ps).length ≤ _
    rw [List.length_append, List.length_cons]
    have := plsFrom_len ps (a + 1) (p + P.size)
    have : (P.pls a p).length ≤ 3 := by cases P <;> exact Nat.le_of_ble_eq_true rfl
    lia
theorem prsFrom_len : ∀ (ps : List PT) (p : Nat), (prsFrom p ps).length ≤ 2 * ps.length
  | [], _ => Nat.le_refl _
  | P :: ps, p => by
    show (P.prs p ++ prsFrom (p + P.size) ps).length ≤ _
    rw [List.length_append, List.length_cons]
    have := prsFrom_len ps (p + P.size)
    have : (P.prs p).length ≤ 2 := by cases P <;> exact Nat.le_of_ble_eq_true rfl
    lia
theorem lpsFrom_len : ∀ (ps : List PT) (p : Nat), (lpsFrom p ps).length ≤ ps.length
  | [], _ => Nat.le_refl _
  | P :: ps, p => by
    show (P.lps p ++ lpsFrom (p + P.size) ps).length ≤ _
    rw [List.length_append, List.length_cons]
    have := lpsFrom_len ps (p + P.size)
    have : (P.lps p).length ≤ 1 := by cases P <;> exact Nat.le_of_ble_eq_true rfl
    lia
theorem lines_ne {l : Int × List S} (h : l ∈ linesOf ps) : l.2 ≠ [] ∧ ∀ s ∈ l.2, s.ok := by
  have pl : ∀ {L : List R}, ∀ s ∈ L.map S.p, s.ok := fun {L} s hs => by
    refine ex1_2 (List.mem_map.mp hs) fun r _ zz1 => ?_
    subst zz1
    trivial
  unfold linesOf at h
  rcases List.mem_append.mp h with h | h
  · rcases List.mem_append.mp h with h | h
    · refine ex2_2 (mem_linesFrom h) fun j P h1 h2 => ?_
      cases P with
      | ifgo c g =>
        have h2 := List.mem_singleton.mp h2
        subst h2
        refine ⟨nofun, fun s hs => ?_⟩
        rcases List.mem_cons.mp hs with rfl | hs
        · exact ⟨Nat.le_of_ble_eq_true rfl, Nat.le_of_ble_eq_true rfl⟩
        · rw [List.mem_singleton] at hs; subst hs; trivial
      | goto g =>
        have h2 := List.mem_singleton.mp h2
        subst h2
        exact ⟨nofun, pl (L := [_, _, _])⟩
      | gosub =>
        have h2 := List.mem_singleton.mp h2
        subst h2
        exact ⟨nofun, pl (L := [_, _])⟩
      | forr c =>
        simp only [PT.lines, List.mem_cons, List.not_mem_nil, or_false] at h2
        rcases h2 with rfl | rfl | rfl
        · exact ⟨nofun, pl (L := [_, _])⟩
        · exact ⟨nofun, pl (L := [_, _])⟩
        · exact ⟨nofun, pl (L := [_, _])⟩
      | whil c =>
        simp only [PT.lines, List.mem_cons, List.not_mem_nil, or_false] at h2
        rcases h2 with rfl | rfl | rfl
        · exact ⟨nofun, pl (L := [_])⟩
        · exact ⟨nofun, pl (L := [_, _])⟩
        · exact ⟨nofun, pl (L := [_, _])⟩
    · rw [List.mem_singleton] at h
      subst h
      exact ⟨nofun, pl (L := [_, _, _])⟩
  · rw [List.mem_singleton] at h
    subst h
    exact ⟨nofun, pl (L := [_, _, _])⟩
theorem stay_lf (h4 : ps.length ≤ 4) : lfP ps (off ps ps.length + 2) = false ∧ lfP ps (off ps ps.length + 5) = false := by
  have hn := rowsOf_len h4
  have t0 : (rowsOf ps)[off ps ps.length]? = _ := rowsOf_tail (k := 0) h4 rfl
  have t1 : (rowsOf ps)[off ps ps.length + 1]? = _ := rowsOf_tail (k := 1) h4 rfl
  have t3 : (rowsOf ps)[off ps ps.length + 3]? = _ := rowsOf_tail (k := 3) h4 rfl
  have t4 : (rowsOf ps)[off ps ps.length + 4]? = _ := rowsOf_tail (k := 4) h4 rfl
  have f0 : lfP ps (off ps ps.length) = false := lf_first (by lia) (by
    have h := first_of (pls := plsOf ps) (List.mem_map.mpr ⟨_, pls_start h4 (Nat.le_refl _), rfl⟩)
    have e : plc (plsOf ps) (lno ps.length) = off ps ps.length := plc_mem h4 (pls_start h4 (Nat.le_refl _))
    rw [← e]; exact h)
  have f3 : lfP ps (off ps ps.length + 3) = false := lf_first (by lia) (by
    have h := first_of (pls := plsOf ps) (List.mem_map.mpr ⟨_, pls_9000 h4, rfl⟩)
    have e : plc (plsOf ps) 9000 = off ps ps.length + 3 := plc_mem h4 (pls_9000 h4)
    rw [← e]; exact h)
  have f1 : lfP ps (off ps ps.length + 1) = false := lf_next t0 (by lia) f0 rfl rfl
  have f4 : lfP ps (off ps ps.length + 4) = false := lf_next t3 (by lia) f3 rfl rfl
  exact ⟨lf_next t1 (by lia) f1 rfl rfl, lf_next t4 (by lia) f4 rfl rfl⟩
theorem good_of (h1 : 1 ≤ ps.length) (h4 : ps.length ≤ 4) (hok : OkParts ps ps.length) : Good ps := by
  have hn := rowsOf_len h4
  have ho := off_le ps ps.length
  have hW := prOk_of h4
  refine ⟨fun l hl => (lines_ne hl).2, fun i hi => ?_, by lia, by lia, ?_, ?_, ?_, fun r hr => ?_, fun t ht => ?_, ?_, fun a g hj => ?_, ?_, ?_, fun a g hj => ?_⟩
  · obtain ⟨l, hl⟩ : ∃ l, (linesOf ps)[i]? = some l := ⟨_, List.getElem?_eq_getElem hi⟩
    have := flSs_pos (ln := l.1) (m := (flN (linesOf ps) i).1.length) (lines_ne (List.mem_of_getElem? hl)).1
    show _ < (_ ++ flSs (((linesOf ps)[i]?).getD (0, [])).1 _ (((linesOf ps)[i]?).getD (0, [])).2).length
    rw [hl]
    show _ < ((flN (linesOf ps) i).1 ++ flSs l.1 (flN (linesOf ps) i).1.length l.2).length
    rw [List.length_append]
    lia
  · rw [(flat_of h4).2, List.length_append]
    have := plsFrom_len ps 0 0
    show _ + 2 ≤ 100
    lia
  · rw [(ga_of h4).1]
    have := prsFrom_len ps 0
    lia
  · rw [(ga_of h4).2]
    have := lpsFrom_len ps 0
    lia
  · refine ex1_1 (List.mem_iff_getElem?.mp hr) fun i hi => ?_
    obtain ⟨l, r⟩ := r
    have rf := row_fact h4 hok hi
    cases r with
    | ifn c g => exact ⟨by have := rf.1.1; lia, by have := rf.1.2; lia⟩
    | goto G =>
      refine ex1_2 (rf) fun g zz2 hg => ?_
      subst zz2
      exact ⟨_, dget_mem (pls_start h4 hg)⟩
    | _ => trivial
  · refine ex2_2 (mem_lft.mp ht) fun i l h1 _ => ?_
    exact (rem_row h4 h1).2
  · refine ex2_3 (end_path h4 hok ps.length 0 (by lia) (Nat.zero_le _) 0 0 [] (Int.le_refl _)) fun K z hK hp hz => ?_
    rw [off_zero] at hp
    have hl0 : lfP ps 0 = false := lf_zero (by lia)
    obtain ⟨m, w, hw, hwn⟩ := run_both hW (by lia) hp hz 0 hl0 trivial (Int.le_refl _) (by show (0 : Int) + K < 30000; lia) (by lia) (by show 0 + K ≤ 10000; lia)
    refine ex1_3 (hp.fn2) fun st s0 sK hst => ?_
    have hN := notes_len (K := K) (by rw [s0]) hst
    refine ⟨st, K, s0, hst, by rw [sK K (Nat.le_refl _)]; exact hz, by lia, fun k => ?_, ⟨_, m, w, code_sv (by lia) hl0, hw, by rw [sK K (Nat.le_refl _)]; exact hwn⟩, fun e he => ?_⟩
    · by_cases hk : k ≤ K
      · exact hN k hk
      · have h2 := hN K (Nat.le_refl _)
        rw [sK K (Nat.le_refl _)] at h2
        rw [sK k (by lia)]
        lia
    · rw [sK K (Nat.le_refl _)] at he
      obtain ⟨i, l, a1, a2⟩ := notes_rows hW hp hz hl0 trivial (fun _ h => nomatch h) e he
      exact ⟨(rem_row h4 a1).2, not_lft h4 a1 a2⟩
  · exact mem_lft.mpr ⟨_, _, rowsOf_part (k := 2) h4 hj rfl, gone_lf h4 hok hj⟩
  · exact not_lft h4 (rowsOf_tail (k := 5) h4 rfl) (stay_lf h4).2
  · exact not_lft h4 (rowsOf_tail (k := 2) h4 rfl) (stay_lf h4).1
  · have hjl := (List.getElem?_eq_some_iff.mp hj).1
    exact (mk_facts (by lia) (by lia)).2
end
end
section
variable {b : Bas} {n : Nat} {σ : Store} {Q : W → Store → Prop}
variable {p2 p10 p11 p12 p13 p14 at' : Nat} {o : Option Fr} {x i : Int} {rows : List V} {places pairs loops : List (Int × V)}
noncomputable abbrev RS (o : Option Fr) (x i : Int) (p11 p12 p13 : Nat) (σ : Store) : Store := CS o p12 p13 ((11, p11, .dS (vals x i)) :: σ)
abbrev RunAt (σ : Store) (p2 p10 p11 p12 p14 : Nat) : Prop := σ.lookup 10 = some (p10, .inst 720 (runF p2 p11 p12 p14))
theorem FlatAt.up {k p : Nat} {ob : O} (h : FlatAt b σ p2 rows places pairs loops) (hk : k ≠ 2) : FlatAt b ((k, p, ob) :: σ) p2 rows places pairs loops := ⟨h.len, (lookup_cons_ne (Ne.symm hk)).trans h.at'⟩
theorem FlatAt.rs (h : FlatAt b σ p2 rows places pairs loops) : FlatAt b (RS o x i p11 p12 p13 σ) p2 rows places pairs loops := ((h.up (by decide)).up (by decide)).up (by decide)
theorem fn_do_ifnot {c : Int} {g : Nat} (h10 : RunAt σ p2 p10 p11 p12 p14) (q : Q (.v (.int ((if x < c then at' + 1 else g : Nat) : Int))) (RS o x i p11 p12 p13 σ)) :
    FN b (n + 4) (.ref 640) [.ref 10 p10, .v (.int at'), .v (R.ifn c g).v] (RS o x i p11 p12 p13 σ) Q := by
  unfold RunAt at h10
  walk_at "F"
  dsimp only [R.v]
  walk_at "S"
  refine AP.fn (by k_is) (fn_worth (p2 := p2) (p12 := p12) (p14 := p14) (by walk_at "look") ?_)
  refine fn_lw_lt (x := x) (i := i) (by walk_at "look") ?_
  walk_at "S"
  refine AP.fn (by k_is) (fn_is_true ?_)
  by_cases hx : x < c
  · rw [if_pos hx, show (!((-1 : Int) == 0)) = true from rfl]
    rw [if_pos hx] at q
    walk_at "S"
    exact q
  · rw [if_neg hx, show (!((0 : Int) == 0)) = false from rfl]
    rw [if_neg hx] at q
    walk_at "S"
    exact q
theorem fn_do_jmp {g : Nat} (h10 : RunAt σ p2 p10 p11 p12 p14) (q : Q (.v (.int g)) (RS o x i p11 p12 p13 σ)) :
    FN b (n + 4) (.ref 640) [.ref 10 p10, .v (.int at'), .v (R.jmp g).v] (RS o x i p11 p12 p13 σ) Q := by
  unfold RunAt at h10
  walk_at "F"
  dsimp only [R.v]
  walk_at "S"
  exact q
theorem fn_do_goto {g : Int} {r : Nat} (h10 : RunAt σ p2 p10 p11 p12 p14) (hf : FlatAt b σ p2 rows places pairs loops) (hg : dget g places = some (nV r)) (q : Q (.v (.int r)) (RS o x i p11 p12 p13 σ)) :
    FN b (n + 4) (.ref 640) [.ref 10 p10, .v (.int at'), .v (R.goto g).v] (RS o x i p11 p12 p13 σ) Q := by
  unfold RunAt at h10
  have f2 := hf.at'
  walk_at "F"
  dsimp only [R.v]
  walk_at "S"
  refine AP.fn (by k_is) (fn_place_of hf.rs hg ?_)
  walk_at "S"
  exact q
theorem fn_do_gosub {r : Nat} (h10 : RunAt σ p2 p10 p11 p12 p14) (hf : FlatAt b σ p2 rows places pairs loops) (hg : dget 9000 places = some (nV r)) (q : Q (.v (.int r)) (RS (some (.gosub (at' + 1))) x i p11 p12 p13 σ)) :
    FN b (n + 5) (.ref 640) [.ref 10 p10, .v (.int at'), .v R.gosub.v] (RS none x i p11 p12 p13 σ) Q := by
  unfold RunAt at h10
  have f2 := hf.at'
  walk_at "F"
  dsimp only [R.v]
  walk_at "S"
  refine AP.fn (by k_is) (fn_place_of hf.rs hg ?_)
  walk_at "S"
  refine AP.fn (by k_is) (fn_gosub (p := at' + 1) ?_)
  walk_at "S"
  exact q
theorem fn_do_ret {p : Nat} (h10 : RunAt σ p2 p10 p11 p12 p14) (q : ∀ p13, Q (.v (.int p)) (RS none x i p11 p12 p13 σ)) :
    FN b (n + 5) (.ref 640) [.ref 10 p10, .v (.int at'), .v R.ret.v] (RS (some (.gosub p)) x i p11 p12 p13 σ) Q := by
  unfold RunAt at h10
  walk_at "F"
  dsimp only [R.v]
  walk_at "S"
  refine AP.fn (by k_is) (fn_return_place fun p' => ?_)
  walk_at "S"
  exact q p'
end
section
variable {b : Bas} {n : Nat} {σ : Store} {Q : W → Store → Prop}
variable {p2 p10 p11 p12 p13 p14 at' : Nat} {o : Option Fr} {x i : Int} {rows : List V} {places pairs loops : List (Int × V)}
theorem fn_next_end {p : Nat} {l : Int} (h10 : RunAt σ p2 p10 p11 p12 p14) (h1 : -32768 ≤ i + 1) (h2 : i + 1 < 32768) (h : decide (l < i + 1) = true) (q : ∀ p13, Q (.v (.int ((at' + 1 : Nat) : Int))) (RS none x (i + 1) p11 p12 p13 σ)) :
    FN b (n + 7) (.ref 661) [.ref 10 p10, .v (.int at'), .v (.lst [.str "I"])] (RS (some (.forr p l)) x i p11 p12 p13 σ) Q := by
  unfold RunAt at h10
  walk_at "F"
  walk_at "S"
  refine FB.cons trivial ?_
  walk_at "S"
  refine AP.fn (by k_is) (fn_for_name ?_)
  walk_at "S"
  refine AP.fn (by k_is) (fn_valI (x := x) (i := i) (p2 := p2) (p12 := p12) (p14 := p14) (p11 := p11) (by walk_at "look") (by walk_at "look") ?_)
  refine' EEs.cons ?_ ?a
  case a => intros; rfl
  refine EE.bound ?_
  walk_at "S"
  refine ⟨10, p10, 720, _, 710, rfl, by walk_at "look", rfl, clsOk_720, by k_is, by k_is, by k_is, by k_is, by decide, ?_⟩
  walk_at "S"
  refine AP.fn (by k_is) (fn_for_end (fun Q' q' => AP.meth (by k_is) (fn_plus (p2 := p2) (p12 := p12) (p14 := p14) (p11 := p11) (by walk_at "look") h1 h2 q')) h fun p13' => ?_)
  walk_at "S"
  refine AP.fn (by k_is) (fn_storeI (x := x) (i := i) (p2 := p2) (p12 := p12) (p14 := p14) (p11 := p11) (by walk_at "look") (by walk_at "look") ?_)
  walk_at "S"
  refine FB.nil trivial ?_
  walk_at "S"
  exact q p13'
theorem fn_next_on {p : Nat} {l : Int} (h10 : RunAt σ p2 p10 p11 p12 p14) (h1 : -32768 ≤ i + 1) (h2 : i + 1 < 32768) (h : decide (l < i + 1) = false) (q : ∀ p13, Q (.v (.int p)) (RS (some (.forr p l)) x (i + 1) p11 p12 p13 σ)) :
    FN b (n + 7) (.ref 661) [.ref 10 p10, .v (.int at'), .v (.lst [.str "I"])] (RS (some (.forr p l)) x i p11 p12 p13 σ) Q := by
  unfold RunAt at h10
  walk_at "F"
  walk_at "S"
  refine FB.cons trivial ?_
  walk_at "S"
  refine AP.fn (by k_is) (fn_for_name ?_)
  walk_at "S"
  refine AP.fn (by k_is) (fn_valI (x := x) (i := i) (p2 := p2) (p12 := p12) (p14 := p14) (p11 := p11) (by walk_at "look") (by walk_at "look") ?_)
  refine' EEs.cons ?_ ?a
  case a => intros; rfl
  refine EE.bound ?_
  walk_at "S"
  refine ⟨10, p10, 720, _, 710, rfl, by walk_at "look", rfl, clsOk_720, by k_is, by k_is, by k_is, by k_is, by decide, ?_⟩
  walk_at "S"
  refine AP.fn (by k_is) (fn_for_on (fun Q' q' => AP.meth (by k_is) (fn_plus (p2 := p2) (p12 := p12) (p14 := p14) (p11 := p11) (by walk_at "look") h1 h2 q')) h fun p13' => ?_)
  walk_at "S"
  refine AP.fn (by k_is) (fn_storeI (x := x) (i := i) (p2 := p2) (p12 := p12) (p14 := p14) (p11 := p11) (by walk_at "look") (by walk_at "look") ?_)
  walk_at "S"
  exact q p13'
theorem fn_next_nil (q : Q (.v (.int ((at' + 1 : Nat) : Int))) σ) : FN b (n + 1) (.ref 661) [.ref 10 p10, .v (.int at'), .v (.lst [])] σ Q := by
  walk_at "F"
  walk_at "S"
  refine FB.nil trivial ?_
  walk_at "S"
  exact q
end
section
variable {b : Bas} {n : Nat} {σ : Store} {Q : W → Store → Prop}
variable {p2 p10 p11 p12 p13 p14 at' : Nat} {o : Option Fr} {x i : Int} {rows : List V} {places pairs loops : List (Int × V)}
theorem fn_do_next_end {p : Nat} {l : Int} (h10 : RunAt σ p2 p10 p11 p12 p14) (h1 : -32768 ≤ i + 1) (h2 : i + 1 < 32768) (h : decide (l < i + 1) = true) (q : ∀ p13, Q (.v (.int ((at' + 1 : Nat) : Int))) (RS none x (i + 1) p11 p12 p13 σ)) :
    FN b (n + 8) (.ref 647) [.ref 10 p10, .v (.int at'), .v R.next.v] (RS (some (.forr p l)) x i p11 p12 p13 σ) Q := by
  walk_at "F"
  dsimp only [R.v]
  walk_at "S"
  refine AP.fn (by k_is) (fn_next_end h10 h1 h2 h fun p13' => ?_)
  walk_at "S"
  exact q p13'
theorem fn_do_next_on {p : Nat} {l : Int} (h10 : RunAt σ p2 p10 p11 p12 p14) (h1 : -32768 ≤ i + 1) (h2 : i + 1 < 32768) (h : decide (l < i + 1) = false) (q : ∀ p13, Q (.v (.int p)) (RS (some (.forr p l)) x (i + 1) p11 p12 p13 σ)) :
    FN b (n + 8) (.ref 647) [.ref 10 p10, .v (.int at'), .v R.next.v] (RS (some (.forr p l)) x i p11 p12 p13 σ) Q := by
  walk_at "F"
  dsimp only [R.v]
  walk_at "S"
  refine AP.fn (by k_is) (fn_next_on h10 h1 h2 h fun p13' => ?_)
  walk_at "S"
  exact q p13'
theorem fn_do_wend {p : Nat} (h10 : RunAt σ p2 p10 p11 p12 p14) (hf : FlatAt b σ p2 rows places pairs loops) (hg : dget (at' : Int) pairs = some (nV p)) (q : ∀ p13, Q (.v (.int p)) (RS (some (.whil p)) x i p11 p12 p13 σ)) :
    FN b (n + 8) (.ref 647) [.ref 10 p10, .v (.int at'), .v R.wend.v] (RS (some (.whil p)) x i p11 p12 p13 σ) Q := by
  unfold RunAt at h10
  have f2 := hf.at'
  walk_at "F"
  dsimp only [R.v]
  walk_at "S"
  refine AP.fn (by k_is) (fn_end_of_while hf.rs hg ?_)
  walk_at "S"
  refine AP.fn (by k_is) (fn_wend_place fun p13' => ?_)
  walk_at "S"
  exact q p13'
theorem fn_do_while0 {c : Int} {e : Nat} (h10 : RunAt σ p2 p10 p11 p12 p14) (hf : FlatAt b σ p2 rows places pairs loops) (hg : dget (at' : Int) pairs = some (nV e))
    (q : ∀ p13, Q (.v (.int ((if x < c then at' + 1 else e + 1 : Nat) : Int))) (RS (if x < c then some (.whil at') else none) x i p11 p12 p13 σ)) :
    FN b (n + 8) (.ref 647) [.ref 10 p10, .v (.int at'), .v (R.whil c).v] (RS none x i p11 p12 p13 σ) Q := by
  unfold RunAt at h10
  have f2 := hf.at'
  walk_at "F"
  dsimp only [R.v]
  walk_at "S"
  refine AP.fn (by k_is) (fn_worth (p2 := p2) (p12 := p12) (p14 := p14) (by walk_at "look") ?_)
  refine fn_lw_lt (x := x) (i := i) (by walk_at "look") ?_
  walk_at "S"
  refine AP.fn (by k_is) (fn_is_true ?_)
  by_cases hx : x < c
  · rw [if_pos hx, show (!((-1 : Int) == 0)) = true from rfl]
    rw [if_pos hx, if_pos hx] at q
    walk_at "S"
    refine AP.fn (by k_is) (fn_while_begin0 ?_)
    walk_at "S"
    exact q p13
  · rw [if_neg hx, show (!((0 : Int) == 0)) = false from rfl]
    rw [if_neg hx, if_neg hx] at q
    walk_at "S"
    refine AP.fn (by k_is) (fn_while_end0 ?_)
    walk_at "S"
    refine AP.fn (by k_is) (fn_end_of_while hf.rs hg ?_)
    walk_at "S"
    exact q p13
theorem fn_do_while1 {c : Int} {e : Nat} (h10 : RunAt σ p2 p10 p11 p12 p14) (hf : FlatAt b σ p2 rows places pairs loops) (hg : dget (at' : Int) pairs = some (nV e))
    (q : ∀ p13, Q (.v (.int ((if x < c then at' + 1 else e + 1 : Nat) : Int))) (RS (if x < c then some (.whil at') else none) x i p11 p12 p13 σ)) :
    FN b (n + 8) (.ref 647) [.ref 10 p10, .v (.int at'), .v (R.whil c).v] (RS (some (.whil at')) x i p11 p12 p13 σ) Q := by
  unfold RunAt at h10
  have f2 := hf.at'
  walk_at "F"
  dsimp only [R.v]
  walk_at "S"
  refine AP.fn (by k_is) (fn_worth (p2 := p2) (p12 := p12) (p14 := p14) (by walk_at "look") ?_)
  refine fn_lw_lt (x := x) (i := i) (by walk_at "look") ?_
  walk_at "S"
  refine AP.fn (by k_is) (fn_is_true ?_)
  by_cases hx : x < c
  · rw [if_pos hx, show (!((-1 : Int) == 0)) = true from rfl]
    rw [if_pos hx, if_pos hx] at q
    walk_at "S"
    refine AP.fn (by k_is) (fn_while_begin1 fun p13' => ?_)
    walk_at "S"
    exact q p13'
  · rw [if_neg hx, show (!((0 : Int) == 0)) = false from rfl]
    rw [if_neg hx, if_neg hx] at q
    walk_at "S"
    refine AP.fn (by k_is) (fn_while_end1 fun p13' => ?_)
    walk_at "S"
    refine AP.fn (by k_is) (fn_end_of_while hf.rs hg ?_)
    walk_at "S"
    exact q p13'
end
section
variable {b : Bas} {n : Nat} {σ : Store} {Q : W → Store → Prop}
variable {p2 p10 p11 p12 p13 p14 at' : Nat} {o : Option Fr} {x i : Int} {rows : List V} {places pairs loops : List (Int × V)}
theorem fn_do_for {l : Int} {r : Nat} {line : Int} (h10 : RunAt σ p2 p10 p11 p12 p14) (hf : FlatAt b σ p2 rows places pairs loops) (hg : dget (at' : Int) loops = some (.tup [nV r, nV 0])) (hr : rows[r]? = some (.tup [.int line, R.next.v]))
    (q : ∀ p13, Q (.v (.int ((if l < 1 then r + 1 else at' + 1 : Nat) : Int))) (RS (if l < 1 then none else some (.forr (at' + 1) l)) x 1 p11 p12 p13 σ)) :
    FN b (n + 7) (.ref 654) [.ref 10 p10, .v (.int at'), .v (R.forr l).v] (RS none x i p11 p12 p13 σ) Q := by
  unfold RunAt at h10
  have f2 := hf.at'
  walk_at "F"
  dsimp only [R.v]
  walk_at "S"
  refine AP.fn (by k_is) (fn_worth (p2 := p2) (p12 := p12) (p14 := p14) (by walk_at "look") ?_)
  refine fn_lw_whole ?_
  walk_at "S"
  refine AP.fn (by k_is) (fn_worth (p2 := p2) (p12 := p12) (p14 := p14) (by walk_at "look") ?_)
  refine fn_lw_whole ?_
  walk_at "S"
  refine FB.cons trivial ?_
  walk_at "S"
  refine FB.cons trivial ?_
  walk_at "S"
  refine FB.cons trivial ?_
  walk_at "S"
  refine FB.nil trivial ?_
  walk_at "S"
  refine AP.fn (by k_is) (fn_storeI (x := x) (i := i) (p2 := p2) (p12 := p12) (p14 := p14) (p11 := p11) (by walk_at "look") (by walk_at "look") ?_)
  walk_at "S"
  refine AP.fn (by k_is) (fn_valI (x := x) (i := 1) (p2 := p2) (p12 := p12) (p14 := p14) (p11 := p11) (by walk_at "look") (by walk_at "look") ?_)
  walk_at "S"
  refine AP.fn (by k_is) (fn_is_past ?_)
  rw [put_cons (k := 11) (by decide), put_cons (k := 11) (by decide), put_head]
  by_cases hl : l < 1
  · rw [decide_eq_true hl]
    rw [if_pos hl, if_pos hl] at q
    walk_at "S"
    refine AP.fn (by k_is) (fn_next_of_for (((hf.up (by decide)).up (by decide)).up (by decide)) hg ?_)
    walk_at "S"
    refine GI.nat rfl hr ?_ hf.len
    dsimp only [R.v]
    walk_at "S"
    refine EE.sliceFromA ?_
    walk_at "S"
    refine ⟨_, 1, rfl, rfl, by decide, by decide, ?_⟩
    walk_at "S"
    refine AP.fn (by k_is) (fn_next_nil (at' := r) ?_)
    walk_at "S"
    exact q p13
  · rw [decide_eq_false hl]
    rw [if_neg hl, if_neg hl] at q
    walk_at "S"
    refine AP.fn (by k_is) (fn_for_begin (p := at' + 1) ?_)
    walk_at "S"
    exact q p13
end
section
variable {b : Bas} {n : Nat} {σ : Store} {Q : W → Store → Prop}
variable {p2 p10 p11 p12 p13 p14 at' : Nat} {fr : Option Fr} {x i : Int}
theorem fn_flow_j {w : Str} {r : List V} (hs : shV (.str w) = true) (hw : ((pds [.str "IFNOT", .str "JUMP", .str "GOTO", .str "GOSUB", .str "ONGO", .str "RETURN"]).any fun y => PyData.eqv y (pd (.str w))) = true)
    (h : FN b n (.ref 640) [.ref 10 p10, .v (.int at'), .v (.tup (.str w :: r))] σ Q) :
    FN b (n + 1) (.ref 633) [.ref 10 p10, .v (.int at'), .v (.tup (.str w :: r))] σ Q := by
  walk_at "F"
  walk_at "S"
  refine AP.fn (by k_is) ?_
  exact h
theorem fn_flow_l {w : Str} {r : List V} (hs : shV (.str w) = true) (hw : ((pds [.str "IFNOT", .str "JUMP", .str "GOTO", .str "GOSUB", .str "ONGO", .str "RETURN"]).any fun y => PyData.eqv y (pd (.str w))) = false)
    (h : FN b n (.ref 647) [.ref 10 p10, .v (.int at'), .v (.tup (.str w :: r))] σ Q) :
    FN b (n + 1) (.ref 633) [.ref 10 p10, .v (.int at'), .v (.tup (.str w :: r))] σ Q := by
  walk_at "F"
  walk_at "S"
  refine AP.fn (by k_is) ?_
  exact h
theorem fn_do_loop_for {l : Int} (h : FN b n (.ref 654) [.ref 10 p10, .v (.int at'), .v (R.forr l).v] σ Q) : FN b (n + 1) (.ref 647) [.ref 10 p10, .v (.int at'), .v (R.forr l).v] σ Q := by
  walk_at "F"
  dsimp only [R.v]
  walk_at "S"
  refine AP.fn (by k_is) ?_
  exact h
theorem fn_do_flow {rows : List Row} {pls : List (Int × Nat)} {prs : List (Nat × Nat)} {lps : List (Nat × Nat × Nat)} {r : R} {a' : Nat} {i' : Int} {fr' : Option Fr}
    (h10 : RunAt σ p2 p10 p11 p12 p14) (hf : FlatAt b σ p2 (rows.map rowV) (plV pls) (prV prs) (lpV lps)) (e : flow (plc pls) (prc prs) (lpc lps) at' x i fr r = some (a', i', fr')) (ok : flowOk rows pls prs lps at' i fr r)
    (q : ∀ p13, Q (.v (.int (a' : Int))) (RS fr' x i' p11 p12 p13 σ)) : FN b (n + 9) (.ref 633) [.ref 10 p10, .v (.int at'), .v r.v] (RS fr x i p11 p12 p13 σ) Q := by
  have pl : ∀ g ∈ pls.map (·.1), dget g (plV pls) = some (nV (plc pls g)) := fun g hg => by
    refine ex1_2 (List.mem_map.mp hg) fun y hy zz1 => ?_
    subst zz1
    exact dget_mem hy
  cases r with
  | ifn c g =>
    cases e
    exact fn_flow_j (by kernel_rfl) rfl (fn_do_ifnot h10 (q p13))
  | jmp g =>
    cases e
    exact fn_flow_j (by kernel_rfl) rfl (fn_do_jmp h10 (q p13))
  | goto g =>
    cases e
    exact fn_flow_j (by kernel_rfl) rfl (fn_do_goto h10 hf (pl g ok) (q p13))
  | gosub =>
    cases fr with
    | none =>
      cases e
      exact fn_flow_j (by kernel_rfl) rfl (fn_do_gosub h10 hf (pl 9000 ok) (q p13))
    | some f => cases f <;> cases e
  | ret =>
    cases fr with
    | none => cases e
    | some f =>
      cases f with
      | gosub p =>
        cases e
        exact fn_flow_j (by kernel_rfl) rfl (fn_do_ret h10 q)
      | _ => cases e
  | forr l =>
    cases fr with
    | none =>
      cases e
      obtain ⟨h1, line, h2⟩ := ok
      exact fn_flow_l (by kernel_rfl) rfl (fn_do_loop_for (fn_do_for h10 hf h1 (by rw [List.getElem?_map, h2]; rfl) q))
    | some f => cases f <;> cases e
  | next =>
    cases fr with
    | none => cases e
    | some f =>
      cases f with
      | forr p l =>
        cases e
        by_cases hl : l < i + 1
        · rw [if_pos hl, if_pos hl] at q
          exact fn_flow_l (by kernel_rfl) rfl (fn_do_next_end h10 ok.1 ok.2 (decide_eq_true hl) q)
        · rw [if_neg hl, if_neg hl] at q
          exact fn_flow_l (by kernel_rfl) rfl (fn_do_next_on h10 ok.1 ok.2 (decide_eq_false hl) q)
      | _ => cases e
  | wend =>
    cases fr with
    | none => cases e
    | some f =>
      cases f with
      | whil p =>
        cases e
        refine ex0_2 (ok _ rfl) fun h1 h2 => ?_
        have h3 := dget_pr h1
        rw [h2] at h3
        exact fn_flow_l (by kernel_rfl) rfl (fn_do_wend h10 hf h3 q)
      | _ => cases e
  | whil c =>
    have h3 := dget_pr ok.1
    cases fr with
    | none =>
      cases e
      exact fn_flow_l (by kernel_rfl) rfl (fn_do_while0 h10 hf h3 q)
    | some f =>
      cases f with
      | whil p =>
        obtain rfl := ok.2 p rfl
        cases e
        exact fn_flow_l (by kernel_rfl) rfl (fn_do_while1 h10 hf h3 q)
      | _ => cases e
  | _ => cases fr with
    | none => cases e
    | some f => cases f <;> cases e
end
section
variable {b : Bas} {n : Nat} {σ : Store} {Q : W → Store → Prop}
variable {p2 p10 p11 p12 p13 p14 at' : Nat} {fr : Option Fr} {x i : Int} {rows : List Row} {pls : List (Int × Nat)} {prs : List (Nat × Nat)} {lps : List (Nat × Nat × Nat)}
noncomputable abbrev RN (s : PS) (p11 p12 p13 p14 : Nat) (σ : Store) : Store := RS s.fr s.x s.i p11 p12 p13 ((14, p14, .list (s.notes.map noteV)) :: σ)
theorem R.word {r : R} {fr : Option Fr} {a' : Nat} {i' : Int} {fr' : Option Fr} {pl : Int → Nat} {pr lp : Nat → Nat} (e : flow pl pr lp at' x i fr r = some (a', i', fr')) :
    ∃ w l, r.v = .tup (.str w :: l) ∧ (w == ("LET" : Str)) = false ∧ (w == ("REM" : Str)) = false ∧ (w == ("END" : Str)) = false := by
  cases r with
  | rem t => exfalso; cases fr with | none => cases e | some f => cases f <;> cases e
  | lt => exfalso; cases fr with | none => cases e | some f => cases f <;> cases e
  | endd => exfalso; cases fr with | none => cases e | some f => cases f <;> cases e
  | _ => exact ⟨_, _, rfl, rfl, rfl, rfl⟩
theorem fn_go {st : Nat → PS} {K : Nat} (h10 : RunAt σ p2 p10 p11 p12 p14) (hf : FlatAt b σ p2 (rows.map rowV) (plV pls) (prV prs) (lpV lps))
    (hst : ∀ k, k < K → Step rows pls prs lps (st k) (st (k + 1))) (hend : ∃ l, rows[(st K).at']? = some (l, .endd)) (hK : K < 600) (hn : ∀ k, (st k).notes.length ≤ k)
    (q : ∀ p13, Q (.v (.int rows.length)) (RN (st K) p11 p12 p13 p14 σ)) :
    FN b (n + 10) (.ref 717) [.ref 10 p10, .v (nV (st 0).at'), .v (.int 600)] (RN (st 0) p11 p12 p13 p14 σ) Q := by
  unfold RunAt at h10
  have f2 := hf.at'
  have hz : rows.length ≤ 1000 := by have := hf.len; rwa [List.length_map] at this
  walk_at "F"
  walk_at "S"
  refine IT.rangeN (m := 600) rfl (by decide) ?_
  refine FB.invL (fun k => [("self", .ref 10 p10), ("at", .v (nV (st k).at')), ("most", .v (.int 600))]) (fun k s => k ≤ K ∧ ∃ p13, s = RN (st k) p11 p12 p13 p14 σ) _ (fun k v s hx hI => ?_) (fun s hI => ?_) ⟨Nat.zero_le _, _, rfl⟩
  · obtain ⟨hk, p13, zz1⟩ := hI
    subst zz1
    refine ⟨trivial, ?_⟩
    have hr : ∃ l r, rows[(st k).at']? = some (l, r) := by
      by_cases h : k = K
      · subst h; exact ⟨_, _, hend.choose_spec⟩
      · exact (hst k (by lia)).row
    refine ex2_1 (hr) fun l r hr => ?_
    have hlt : (st k).at' < rows.length := (List.getElem?_eq_some_iff.mp hr).1
    have c1 : decide (((rows.map rowV).length : Int) ≤ ((st k).at' : Int)) = false := decide_eq_false (by rw [List.length_map]; lia)
    have hrV : (rows.map rowV)[(st k).at']? = some (.tup [.int l, r.v]) := by rw [List.getElem?_map, hr]; rfl
    walk_at "S"
    refine GI.nat rfl hrV ?_ hf.len
    walk_at "S"
    by_cases hkK : k = K
    · subst hkK
      refine ex1_1 (hend) fun l' he => ?_
      rw [hr] at he
      refine ex0_2 (Prod.mk.inj (Option.some.inj he)) fun zz2 zz3 => ?_
      subst zz2
      subst zz3
      dsimp only [R.v]
      walk_at "S"
      rw [List.length_map]
      exact q p13
    · have hs := hst k (by lia)
      have hn' := hn k
      have hk1 : k + 1 ≤ K := by lia
      generalize st (k + 1) = s' at hs ⊢
      generalize st k = s at hs hr hrV hlt c1 hn' ⊢
      cases hs with
      | rem h =>
        rw [hr] at h
        refine ex0_2 (Prod.mk.inj (Option.some.inj h)) fun zz4 zz5 => ?_
        subst zz4
        subst zz5
        dsimp only [R.v]
        walk_at "S"
        refine AP.fn (by k_is) (fn_valX (p2 := p2) (p11 := p11) (p12 := p12) (p14 := p14) (x := s.x) (i := s.i) (by walk_at "look") (by walk_at "look") ?_)
        walk_at "S"
        refine ⟨LSub.setR (x := "at") (y := .v (nV (s.at' + 1))) (ρ' := [("self", .ref 10 p10), ("at", .v (nV s.at')), ("most", .v (.int 600))]) LSub.refl.set.set, hk1, p13, ?_⟩
        rw [put_cons (k := 14) (by decide), put_cons (k := 14) (by decide), put_cons (k := 14) (by decide), put_head]
        show _ = RS s.fr s.x s.i p11 p12 p13 ((14, p14, .list ((s.notes ++ [_]).map noteV)) :: σ)
        rw [List.map_append]; rfl
      | lt h =>
        rw [hr] at h
        refine ex0_2 (Prod.mk.inj (Option.some.inj h)) fun zz6 zz7 => ?_
        subst zz6
        subst zz7
        dsimp only [R.v]
        walk_at "S"
        refine AP.fn (by k_is) (fn_worth (p2 := p2) (p12 := p12) (p14 := p14) (by walk_at "look") ?_)
        refine fn_lw_add (x := s.x) (i := s.i) (by walk_at "look") ?_
        walk_at "S"
        refine AP.fn (by k_is) (fn_storeX (p2 := p2) (p11 := p11) (p12 := p12) (p14 := p14) (x := s.x) (i := s.i) (by walk_at "look") (by walk_at "look") ?_)
        walk_at "S"
        refine ⟨LSub.setR (x := "at") (y := .v (nV (s.at' + 1))) (ρ' := [("self", .ref 10 p10), ("at", .v (nV s.at')), ("most", .v (.int 600))]) LSub.refl.set.set, hk1, p13, ?_⟩
        rw [put_cons (k := 11) (by decide), put_cons (k := 11) (by decide), put_head]
      | flow h e ok =>
        rw [hr] at h
        refine ex0_2 (Prod.mk.inj (Option.some.inj h)) fun zz8 zz9 => ?_
        subst zz8
        subst zz9
        refine ex2_4 (R.word e) fun w wl ew w1 w2 w3 => ?_
        rw [ew]
        walk_at "S"
        rw [← ew]
        refine AP.fn (by k_is) (fn_do_flow (p14 := p14) (at' := s.at') (x := s.x) (i := s.i) (fr := s.fr) (show RunAt _ _ _ _ _ _ from (lookup_cons_ne (by decide)).trans h10) (hf.up (by decide)) e ok fun p13' => ?_)
        walk_at "S"
        refine ⟨LSub.setR (x := "at") (y := .v (nV _)) (ρ' := [("self", .ref 10 p10), ("at", .v (nV s.at')), ("most", .v (.int 600))]) LSub.refl.set.set, hk1, p13', rfl⟩
  · refine ex0_2 (hI) fun hk _ => ?_
    rw [List.length_map, List.length_range] at hk
    lia
end
section
variable {b : Bas} {n : Nat} {σ : Store} {Q : W → Store → Prop}
variable {p2 p10 p11 p12 p13 p14 p15 p16 p17 p18 p19 p24 : Nat} {r : W} {a : OS} {os : List Od} {sv : List V}
noncomputable abbrev RO (a : OS) (p11 p12 p13 p14 p15 p16 p17 p18 p19 p24 : Nat) (r : W) (σ : Store) : Store := RS a.fr a.x a.i p11 p12 p13 ((14, p14, .list (a.notes.map noteV)) :: (18, p18, .list (a.pile.map .int)) :: (17, p17, .inst 853 (rrF p24 p15 p16 p18 r)) :: (19, p19, .list (List.replicate a.asked (.str "X"))) :: σ)
theorem fn_taken2 {u v : Int} (q : ∀ p18, Q (.v (.lst [.int u, .int v])) (RO { a with pile := [] } p11 p12 p13 p14 p15 p16 p17 p18 p19 p24 r σ)) :
    FN b (n + 1) (.ref 829) [.ref 17 p17, .v (.int 2)] (RO { a with pile := [u, v] } p11 p12 p13 p14 p15 p16 p17 p18 p19 p24 r σ) Q := by
  refine FN.sub ?_
  walk_at "F"
  walk_at "S"
  refine EE.sliceFromA ?_
  walk_at "S"
  refine ⟨_, 0, ListW.of (by walk_at "look"), rfl, Nat.zero_le _, Nat.le_of_ble_eq_true rfl, ?_⟩
  walk_at "S"
  refine EE.sliceToTA 18 ?_
  walk_at "S"
  refine ⟨_, 0, ListW.of (by walk_at "look"), rfl, Nat.le_of_ble_eq_true rfl, fun p => ?_⟩
  walk_at "S"
  exact ⟨_, Sub.renew (k := 18) [(13, p13, .list (pileV a.fr)), (12, p12, .inst 526 (ctlF p13)), (11, p11, .dS (vals a.x a.i)), (14, p14, .list (a.notes.map noteV))] rfl, q p⟩
structure OH (b : Bas) (σ : Store) (p2 p10 p11 p12 p14 p15 p16 p19 p24 : Nat) (rows : List Row) (pls : List (Int × Nat)) (prs : List (Nat × Nat)) (lps : List (Nat × Nat × Nat)) (os : List Od) (sv : List V) (y1 y4 : W) : Prop where
  h10 : RunAt σ p2 p10 p11 p12 p14
  hf : FlatAt b σ p2 (rows.map rowV) (plV pls) (prV prs) (lpV lps)
  h15 : σ.lookup 15 = some (p15, .inst 776 (hkF p11 p19))
  h16 : σ.lookup 16 = some (p16, .inst 797 (wyF y1 (.meth 703 10 p10) (.v .none) y4 (.v .none)))
  h24 : σ.lookup 24 = some (p24, .inst 350 (cdF os sv))
  os1 : os.length ≤ 1000
  sv1 : sv.length ≤ 1000
variable {rows : List Row} {pls : List (Int × Nat)} {prs : List (Nat × Nat)} {lps : List (Nat × Nat × Nat)} {y1 y4 : W}
theorem fn_of_var (H : OH b σ p2 p10 p11 p12 p14 p15 p16 p19 p24 rows pls prs lps os sv y1 y4) (ha : a.asked ≤ 10000) (q : Q (.v (.int a.x)) (RO { a with asked := a.asked + 1 } p11 p12 p13 p14 p15 p16 p17 p18 p19 p24 r σ)) :
    FN b (n + 2) (.ref 850) [.ref 17 p17, .v Od.var.v] (RO a p11 p12 p13 p14 p15 p16 p17 p18 p19 p24 r σ) Q := by
  have h15 := H.h15
  walk_at "F"
  dsimp only [Od.v]
  walk_at "S"
  refine AP.fn (by k_is) (fn_hkval (x := a.x) (i := a.i) (p11 := p11) (p19 := p19) (by walk_at "look") (by walk_at "look") (by walk_at "look") (by rw [List.length_replicate]; lia) ?_)
  walk_at "S"
  rw [put_cons (k := 19) (by decide), put_cons (k := 19) (by decide), put_cons (k := 19) (by decide), put_cons (k := 19) (by decide), put_cons (k := 19) (by decide), put_cons (k := 19) (by decide), put_head, ← List.replicate_succ']
  exact q
theorem fn_of_push {k : Int} (q : Q (.v (.int k)) (RO a p11 p12 p13 p14 p15 p16 p17 p18 p19 p24 r σ)) (H : OH b σ p2 p10 p11 p12 p14 p15 p16 p19 p24 rows pls prs lps os sv y1 y4) :
    FN b (n + 2) (.ref 850) [.ref 17 p17, .v (Od.push k).v] (RO a p11 p12 p13 p14 p15 p16 p17 p18 p19 p24 r σ) Q := by
  walk_at "F"
  dsimp only [Od.v]
  walk_at "S"
  exact q
theorem fn_of_add {u v : Int} (h1 : -32768 ≤ u + v) (h2 : u + v < 32768) (q : ∀ p18, Q (.v (.int (u + v))) (RO { a with pile := [] } p11 p12 p13 p14 p15 p16 p17 p18 p19 p24 r σ)) :
    FN b (n + 6) (.ref 850) [.ref 17 p17, .v Od.add.v] (RO { a with pile := [u, v] } p11 p12 p13 p14 p15 p16 p17 p18 p19 p24 r σ) Q := by
  walk_at "F"
  dsimp only [Od.v]
  walk_at "S"
  refine AP.fn (by k_is) (fn_taken2 fun p => ?_)
  walk_at "S"
  refine AP.fn (by k_is) (fn_worth_add h1 h2 ?_)
  walk_at "S"
  exact q p
theorem fn_of_lss {u v : Int} (q : ∀ p18, Q (.v (.int (if u < v then -1 else 0))) (RO { a with pile := [] } p11 p12 p13 p14 p15 p16 p17 p18 p19 p24 r σ)) :
    FN b (n + 6) (.ref 850) [.ref 17 p17, .v Od.lss.v] (RO { a with pile := [u, v] } p11 p12 p13 p14 p15 p16 p17 p18 p19 p24 r σ) Q := by
  walk_at "F"
  dsimp only [Od.v]
  walk_at "S"
  refine AP.fn (by k_is) (fn_taken2 fun p => ?_)
  walk_at "S"
  refine AP.fn (by k_is) (fn_worth_lt ?_)
  walk_at "S"
  rw [past_lt, show cond (decide (u < v)) (-1 : Int) 0 = if u < v then -1 else 0 by by_cases h : u < v <;> simp [h]]
  exact q p
end
section
variable {b : Bas} {n : Nat} {σ : Store} {Q : W → Store → Prop}
variable {p2 p10 p11 p12 p13 p14 p15 p16 p17 p18 p19 p24 : Nat} {r : W} {a : OS} {os : List Od} {sv : List V} {rows : List Row} {pls : List (Int × Nat)} {prs : List (Nat × Nat)} {lps : List (Nat × Nat × Nat)} {y1 y4 : W}
theorem fn_done_go {g : Nat} (q : Q (.v (nV g)) (RO a p11 p12 p13 p14 p15 p16 p17 p18 p19 p24 r σ)) :
    FN b (n + 7) (.ref 843) [.ref 17 p17, .v (Od.go g).v, .v (nV a.place)] (RO a p11 p12 p13 p14 p15 p16 p17 p18 p19 p24 r σ) Q := by
  walk_at "F"
  dsimp only [Od.v]
  walk_at "S"
  exact q
theorem fn_done_fls {g : Nat} {u : Int} (q : Q (.v (nV (if u = 0 then g else a.place + 1))) (RO { a with pile := [] } p11 p12 p13 p14 p15 p16 p17 p18 p19 p24 r σ)) :
    FN b (n + 7) (.ref 843) [.ref 17 p17, .v (Od.fls g).v, .v (nV a.place)] (RO { a with pile := [u] } p11 p12 p13 p14 p15 p16 p17 p18 p19 p24 r σ) Q := by
  walk_at "F"
  dsimp only [Od.v]
  walk_at "S"
  refine AP.fn (by k_is) (fn_is_true ?_)
  by_cases hu : u = 0
  · subst hu
    rw [if_pos rfl] at q
    rw [show (!((0 : Int) == 0)) = false from rfl]
    walk_at "S"
    exact q
  · rw [if_neg hu] at q
    rw [show (!(u == 0)) = true by simp [hu]]
    walk_at "S"
    exact q
theorem fn_done_store {u : Int} (H : OH b σ p2 p10 p11 p12 p14 p15 p16 p19 p24 rows pls prs lps os sv y1 y4) (q : Q (.v (nV (a.place + 1))) (RO { a with pile := [], x := u } p11 p12 p13 p14 p15 p16 p17 p18 p19 p24 r σ)) :
    FN b (n + 7) (.ref 843) [.ref 17 p17, .v Od.store.v, .v (nV a.place)] (RO { a with pile := [u] } p11 p12 p13 p14 p15 p16 p17 p18 p19 p24 r σ) Q := by
  have h16 := H.h16
  have h10 := H.h10
  unfold RunAt at h10
  walk_at "F"
  dsimp only [Od.v]
  walk_at "S"
  refine AP.meth (by k_is) (fn_storeX (p2 := p2) (p11 := p11) (p12 := p12) (p14 := p14) (x := a.x) (i := a.i) (by walk_at "look") (by walk_at "look") ?_)
  walk_at "S"
  exact q
theorem fn_done_var (H : OH b σ p2 p10 p11 p12 p14 p15 p16 p19 p24 rows pls prs lps os sv y1 y4) (ha : a.asked ≤ 10000) (q : Q (.v (nV (a.place + 1))) (RO { a with pile := [a.x], asked := a.asked + 1 } p11 p12 p13 p14 p15 p16 p17 p18 p19 p24 r σ)) :
    FN b (n + 7) (.ref 843) [.ref 17 p17, .v Od.var.v, .v (nV a.place)] (RO { a with pile := [] } p11 p12 p13 p14 p15 p16 p17 p18 p19 p24 r σ) Q := by
  walk_at "F"
  dsimp only [Od.v]
  walk_at "S"
  refine AP.fn (by k_is) (fn_of_var H ha ?_)
  walk_at "S"
  exact q
theorem fn_done_push {k : Int} (H : OH b σ p2 p10 p11 p12 p14 p15 p16 p19 p24 rows pls prs lps os sv y1 y4) (u : Int) (q : Q (.v (nV (a.place + 1))) (RO { a with pile := [u, k] } p11 p12 p13 p14 p15 p16 p17 p18 p19 p24 r σ)) :
    FN b (n + 7) (.ref 843) [.ref 17 p17, .v (Od.push k).v, .v (nV a.place)] (RO { a with pile := [u] } p11 p12 p13 p14 p15 p16 p17 p18 p19 p24 r σ) Q := by
  walk_at "F"
  dsimp only [Od.v]
  walk_at "S"
  refine AP.fn (by k_is) (fn_of_push ?_ H)
  walk_at "S"
  exact q
theorem fn_done_add {u v : Int} (h1 : -32768 ≤ u + v) (h2 : u + v < 32768) (q : ∀ p18, Q (.v (nV (a.place + 1))) (RO { a with pile := [u + v] } p11 p12 p13 p14 p15 p16 p17 p18 p19 p24 r σ)) :
    FN b (n + 7) (.ref 843) [.ref 17 p17, .v Od.add.v, .v (nV a.place)] (RO { a with pile := [u, v] } p11 p12 p13 p14 p15 p16 p17 p18 p19 p24 r σ) Q := by
  walk_at "F"
  dsimp only [Od.v]
  walk_at "S"
  refine AP.fn (by k_is) (fn_of_add h1 h2 fun p => ?_)
  walk_at "S"
  exact q p
theorem fn_done_lss {u v : Int} (q : ∀ p18, Q (.v (nV (a.place + 1))) (RO { a with pile := [if u < v then -1 else 0] } p11 p12 p13 p14 p15 p16 p17 p18 p19 p24 r σ)) :
    FN b (n + 7) (.ref 843) [.ref 17 p17, .v Od.lss.v, .v (nV a.place)] (RO { a with pile := [u, v] } p11 p12 p13 p14 p15 p16 p17 p18 p19 p24 r σ) Q := by
  walk_at "F"
  dsimp only [Od.v]
  walk_at "S"
  refine AP.fn (by k_is) (fn_of_lss fun p => ?_)
  walk_at "S"
  exact q p
end
section
variable {b : Bas} {n : Nat} {σ : Store} {Q : W → Store → Prop}
variable {p2 p10 p11 p12 p13 p14 p15 p16 p17 p18 p19 p24 : Nat} {r : W} {a : OS} {os : List Od} {sv : List V} {rows : List Row} {pls : List (Int × Nat)} {prs : List (Nat × Nat)} {lps : List (Nat × Nat × Nat)} {y1 y4 : W}
def BeginOk (b : Bas) (n : Nat) (y : W) (σ : Store) (p11 p12 p14 p15 p16 p17 p19 p24 : Nat) (rows : List Row) : Prop :=
  ∀ (a : OS) (k : Nat) (l : Int) (r : R) (p13 p18 : Nat) (w : W) (Q : W → Store → Prop), rows[k]? = some (l, r) → a.notes.length ≤ 10000 →
    Q (.v .none) (RO { a with notes := noted r a.x a.notes } p11 p12 p13 p14 p15 p16 p17 p18 p19 p24 w σ) → AP b n y [.v (nV k)] (RO a p11 p12 p13 p14 p15 p16 p17 p18 p19 p24 w σ) Q
def DoOk (b : Bas) (n : Nat) (y : W) (σ : Store) (p11 p12 p14 p15 p16 p17 p19 p24 : Nat) (rows : List Row) (pls : List (Int × Nat)) (prs : List (Nat × Nat)) (lps : List (Nat × Nat × Nat)) : Prop :=
  ∀ (a : OS) (k : Nat) (l : Int) (r : R) (p13 p18 : Nat) (w : W) (Q : W → Store → Prop) (a' : Nat) (i' : Int) (fr' : Option Fr), rows[k]? = some (l, r) → doAt rows pls prs lps k a.x a.i a.fr r a' i' fr' →
    (∀ p13, Q (.v (nV a')) (RO { a with i := i', fr := fr' } p11 p12 p13 p14 p15 p16 p17 p18 p19 p24 w σ)) → AP b n y [.v (nV k)] (RO a p11 p12 p13 p14 p15 p16 p17 p18 p19 p24 w σ) Q
theorem fn_done_row {k : Nat} {l : Int} {rr : R} (H : OH b σ p2 p10 p11 p12 p14 p15 p16 p19 p24 rows pls prs lps os sv y1 y4) (hb : BeginOk b n y1 σ p11 p12 p14 p15 p16 p17 p19 p24 rows) (h1 : handW y1 = true) (hr : rows[k]? = some (l, rr)) (hn : a.notes.length ≤ 10000)
    (q : ∀ r, Q (.v (nV (a.place + 1))) (RO { a with notes := noted rr a.x a.notes } p11 p12 p13 p14 p15 p16 p17 p18 p19 p24 r σ)) :
    FN b (n + 1) (.ref 843) [.ref 17 p17, .v (Od.row k).v, .v (nV a.place)] (RO a p11 p12 p13 p14 p15 p16 p17 p18 p19 p24 r σ) Q := by
  have h16 := H.h16
  have h24 := H.h24
  walk_at "F"
  dsimp only [Od.v]
  walk_at "S"
  refine hb a k l rr p13 p18 (.v (.int k)) _ hr hn ?_
  walk_at "S"
  exact q _
theorem fn_done_doo {k a' s : Nat} {l : Int} {rr : R} {i' : Int} {fr' : Option Fr} (H : OH b σ p2 p10 p11 p12 p14 p15 p16 p19 p24 rows pls prs lps os sv y1 y4) (hd : DoOk b (n + 1) y4 σ p11 p12 p14 p15 p16 p17 p19 p24 rows pls prs lps) (h1 : handW y4 = true) (hr : rows[k]? = some (l, rr))
    (he : doAt rows pls prs lps k a.x a.i a.fr rr a' i' fr') (hs : (a' < sv.length ∧ sv[a']? = some (nV s)) ∨ (a' = sv.length ∧ s = os.length - 1)) (l0 : 0 < os.length)
    (q : ∀ p13 r, Q (.v (nV s)) (RO { a with i := i', fr := fr' } p11 p12 p13 p14 p15 p16 p17 p18 p19 p24 r σ)) :
    FN b (n + 2) (.ref 843) [.ref 17 p17, .v (Od.doo k).v, .v (nV a.place)] (RO a p11 p12 p13 p14 p15 p16 p17 p18 p19 p24 r σ) Q := by
  have h16 := H.h16
  have h24 := H.h24
  walk_at "F"
  dsimp only [Od.v]
  walk_at "S"
  refine hd a k l rr p13 p18 (.v (.int k)) _ a' i' fr' hr he fun p13' => ?_
  walk_at "S"
  rcases hs with ⟨h2, h3⟩ | ⟨h2, h3⟩
  · refine AP.fn (by k_is) (fn_rrplace (r := .v (.int k)) (by walk_at "look") (by walk_at "look") h2 H.sv1 h3 ?_)
    walk_at "S"
    exact q p13' _
  · subst h3
    refine AP.fn (by k_is) (fn_rrplace_end (r := .v (.int k)) (by walk_at "look") (by walk_at "look") h2 H.sv1 l0 H.os1 ?_)
    walk_at "S"
    exact q p13' _
end
section
variable {b : Bas} {n : Nat} {σ : Store} {Q : W → Store → Prop}
variable {p2 p10 p11 p12 p13 p14 p15 p16 p17 p18 p19 p24 : Nat} {r : W} {a : OS} {os : List Od} {sv : List V} {rows : List Row} {pls : List (Int × Nat)} {prs : List (Nat × Nat)} {lps : List (Nat × Nat × Nat)} {y1 y4 : W}
theorem Od.word {o : Od} (h : o ≠ .endd) : ∃ w l, o.v = .tup (.str w :: l) ∧ (w != ("END" : Str)) = true := by
  cases o <;> first | exact absurd rfl h | exact ⟨_, _, rfl, rfl⟩
theorem fn_done {a' : OS} (H : OH b σ p2 p10 p11 p12 p14 p15 p16 p19 p24 rows pls prs lps os sv y1 y4) (hb : BeginOk b (n + 6) y1 σ p11 p12 p14 p15 p16 p17 p19 p24 rows) (hd : DoOk b (n + 6) y4 σ p11 p12 p14 p15 p16 p17 p19 p24 rows pls prs lps)
    (h1 : handW y1 = true) (h4 : handW y4 = true) {o : Od} (ho : os[a.place]? = some o) (h : OStep rows pls prs lps os sv a a') (q : ∀ p13 p18 r, Q (.v (nV a'.place)) (RO a' p11 p12 p13 p14 p15 p16 p17 p18 p19 p24 r σ)) :
    FN b (n + 7) (.ref 843) [.ref 17 p17, .v o.v, .v (nV a.place)] (RO a p11 p12 p13 p14 p15 p16 p17 p18 p19 p24 r σ) Q := by
  obtain ⟨place, x, i, fr, notes, pile, asked⟩ := a
  have l0 : 0 < os.length := Nat.lt_of_le_of_lt (Nat.zero_le _) (List.getElem?_eq_some_iff.mp ho).1
  cases h with
  | row e hr hn =>
    cases ho.symm.trans e
    exact fn_done_row H hb h1 hr hn (q _ _)
  | doo e hr he hs =>
    cases ho.symm.trans e
    exact fn_done_doo H hd h4 hr he hs l0 fun p13' r' => q p13' p18 r'
  | go e =>
    cases ho.symm.trans e
    exact fn_done_go (a := ⟨place, x, i, fr, notes, pile, asked⟩) (q _ _ _)
  | fls e hp =>
    cases ho.symm.trans e
    cases hp
    exact fn_done_fls (a := ⟨place, x, i, fr, notes, _, asked⟩) (q _ _ _)
  | store e hp =>
    cases ho.symm.trans e
    cases hp
    exact fn_done_store (a := ⟨place, x, i, fr, notes, _, asked⟩) H (q _ _ _)
  | var e hp ha =>
    cases ho.symm.trans e
    cases hp
    exact fn_done_var (a := ⟨place, x, i, fr, notes, _, asked⟩) H ha (q _ _ _)
  | push e hp =>
    cases ho.symm.trans e
    cases hp
    exact fn_done_push (a := ⟨place, x, i, fr, notes, _, asked⟩) H _ (q _ _ _)
  | add e hp b1 b2 =>
    cases ho.symm.trans e
    cases hp
    exact fn_done_add (a := ⟨place, x, i, fr, notes, _, asked⟩) b1 b2 fun p => q _ p _
  | lss e hp =>
    cases ho.symm.trans e
    cases hp
    exact fn_done_lss (a := ⟨place, x, i, fr, notes, _, asked⟩) fun p => q _ p _
theorem fn_go_from {z : OS} {m : Nat} (H : OH b σ p2 p10 p11 p12 p14 p15 p16 p19 p24 rows pls prs lps os sv y1 y4) (hb : BeginOk b (n + 6) y1 σ p11 p12 p14 p15 p16 p17 p19 p24 rows) (hd : DoOk b (n + 6) y4 σ p11 p12 p14 p15 p16 p17 p19 p24 rows pls prs lps)
    (h1 : handW y1 = true) (h4 : handW y4 = true) (hs0 : sv[0]? = some (nV a.place)) (hrun : ORun rows pls prs lps os sv a m z) (q : ∀ p13 p18 r, Q (.v .none) (RO z p11 p12 p13 p14 p15 p16 p17 p18 p19 p24 r σ)) :
    FN b (n + 8) (.ref 836) [.ref 17 p17, .v (nV 0)] (RO a p11 p12 p13 p14 p15 p16 p17 p18 p19 p24 r σ) Q := by
  have h24 := H.h24
  have lo1 : (os.map Od.v).length ≤ 1000 := by rw [List.length_map]; exact H.os1
  walk_at "F"
  walk_at "S"
  refine AP.fn (by k_is) (fn_rrplace (m := 0) (by walk_at "look") (by walk_at "look") (List.getElem?_eq_some_iff.mp hs0).1 H.sv1 hs0 ?_)
  walk_at "S"
  refine ES.whileL (α := OS × Nat) (fun s => [("self", .ref 17 p17), ("row", .v (nV 0)), ("place", .v (nV s.1.place))]) (fun s t => ORun rows pls prs lps os sv s.1 s.2 z ∧ ∃ p13 p18 r, t = RO s.1 p11 p12 p13 p14 p15 p16 p17 p18 p19 p24 r σ) (fun s => s.2) (a, m) LSub.refl ⟨hrun, _, _, _, rfl⟩ ?_
  rintro ⟨s, m⟩ t ⟨hr, p13, p18, r, rfl⟩
  dsimp only at hr ⊢
  cases hr with
  | done e =>
    have eV : (os.map Od.v)[z.place]? = some (.tup [.str "END"]) := by rw [List.getElem?_map, e]; rfl
    walk_at "S"
    refine GI.nat rfl eV ?_ lo1
    walk_at "S"
    exact q _ _ _
  | step hst hr =>
    refine ex1_2 (hst.at) fun o e ne => ?_
    refine ex2_2 (Od.word ne) fun w wl ew hw => ?_
    have eV : (os.map Od.v)[s.place]? = some (.tup (.str w :: wl)) := by rw [List.getElem?_map, e, ← ew]; rfl
    walk_at "S"
    refine GI.nat rfl eV ?_ lo1
    walk_at "S"
    refine GI.nat rfl eV ?_ lo1
    walk_at "S"
    rw [← ew]
    refine AP.fn (by k_is) (fn_done H hb hd h1 h4 e hst fun p13' p18' r' => ?_)
    walk_at "S"
    exact ⟨(_, _), Nat.lt_succ_self _, LSub.refl, hr, _, _, _, rfl⟩
end
section
variable {b : Bas} {n : Nat} {σ : Store} {Q : W → Store → Prop}
variable {p2 p10 p11 p12 p13 p14 p15 p16 p17 p18 p19 p24 : Nat} {a : OS} {rows : List Row} {pls : List (Int × Nat)} {prs : List (Nat × Nat)} {lps : List (Nat × Nat × Nat)}
theorem fn_by_orders (ht : Temps σ) (hk : ∀ k, 10 ≤ k → k ≤ 26 → σ.lookup k = none) (hf : FlatAt b σ p2 (rows.map rowV) (plV pls) (prV prs) (lpV lps)) (ok : ∀ r ∈ rows, RowOk (plV pls) r.2) (l2 : rows.length ≤ 100) (l2' : 0 < rows.length) (l3 : pls.length ≤ 100) (l4 : prs.length ≤ 100) (l5 : lps.length ≤ 100)
    {p40 : Nat} (h40 : σ.lookup 40 = none)
    {p0 m : Nat} {z : OS} (hs0 : (codeO rows pls prs lps).2[0]? = some (nV p0)) (hrun : ORun rows pls prs lps (codeO rows pls prs lps).1 (codeO rows pls prs lps).2 ⟨p0, 0, 0, none, [], [], 0⟩ m z)
    (q : ∀ p24 p14 ps, Q (pairW (.ref 24 p24) (.ref 14 p14)) ((14, p14, .list (z.notes.map noteV)) :: (24, p24, .inst 350 (cdF (codeO rows pls prs lps).1 (codeO rows pls prs lps).2)) :: (40, p40, .tab ps) :: σ)) : FN b (n + 30) (.ref 883) [.ref 2 p2] ((40, p40, .tab #[]) :: σ) Q := by
  have f2 := hf.at'
  refine FN.sub ?_
  refine' FN.intro2N ?ho ?eP ?eB ?eS ?hcd ?hb ?hn ?hl ?hk ?hfr ?hnd ?h ?c0 ?sp ?cf ?c1 ?c2 ?c3
  (case ho => k_is); (case eP => (conv => lhs; whnf)); (case eB => (conv => lhs; whnf); exact (List.take_append_drop 2 _).symm); (case eS => (conv => lhs; whnf)); (case hcd => k_is)
  (case hb => exact valsL (by (repeat intro _); rfl))
  (case hn => decide); (case hl => rfl); (case hk => rfl); (case hfr => rfl); (case hnd => decide)
  (case c0 => rfl); (case sp => rfl); (case cf => exact .inr rfl)
  (case c1 => rfl); (case c2 => rfl); (case c3 => rfl)
  dsimp only [List.map, List.zip, List.zipWith, List.take, List.drop]
  walk_at "S"
  have ol := ords_length (pl := plc pls) rows 0
  have cl := cOrds_length (plc pls) rows
  refine AP.fn (by k_is) (fn_compile (ht.cons (by decide)) ((lookup_cons_ne (by decide)).trans (hk 20 (by decide) (by decide))) ((lookup_cons_ne (by decide)).trans (hk 21 (by decide) (by decide))) ((lookup_cons_ne (by decide)).trans (hk 22 (by decide) (by decide))) (hf.up (by decide)) ok fun p22 => ?_)
  rw [placeF_pl]
  walk_at "S"
  refine AP.fn (by k_is) (fn_drop (st := strt (plc pls) 0 0 rows) (os := cOrds (plc pls) rows) ((ht.cons (by decide)).cons (by decide)) ((lookup_cons_ne (by decide)).trans ((lookup_cons_ne (by decide)).trans (hk 23 (by decide) (by decide)))) ((lookup_cons_ne (by decide)).trans ((lookup_cons_ne (by decide)).trans (hk 24 (by decide) (by decide)))) ((lookup_cons_ne (by decide)).trans ((lookup_cons_ne (by decide)).trans (hk 25 (by decide) (by decide)))) ((lookup_cons_ne (by decide)).trans ((lookup_cons_ne (by decide)).trans (hk 26 (by decide) (by decide))))
    ((hf.up (by decide)).up (by decide)) (by walk_at "look") (strt_length _ _ _) (fun a s h => by have := strt_at rows 0 0 a s h; lia) (cOrds_goal _ _) (by lia) (by lia) l2 l2' l3 l4 l5 fun p24 => ?_)
  walk_at "S"
  with_reducible refine EE.newDS2 11 ?hne ?qq
  case hne => decide +kernel
  intro p11
  walk_at "S"
  generalize hC : O.inst 350 _ = o24
  have hC' : o24 = .inst 350 (cdF (codeO rows pls prs lps).1 (codeO rows pls prs lps).2) := hC.symm
  subst hC'
  clear hC
  refine AP.new 10 (by k_is) (by k_is) (by k_is) (by k_is) fun p10 => fn_FlowRun (p11 := p11) fun p12 p13 p14 => ⟨rfl, ?_⟩
  walk_at "S"
  refine AP.new 15 (by k_is) (by k_is) (by k_is) (by k_is) fun p15 => fn_Hooks (p11 := p11) fun p19 => ⟨rfl, ?_⟩
  walk_at "S"
  refine ES.def 40 (p := p40) (ps := #[]) rfl (fun h => nomatch h) (by walk_at "look") rfl rfl rfl rfl (fun _ => rfl) rfl fun c1 => ?_
  walk_at "S"
  refine ES.def 40 (p := p40) rfl (fun h => nomatch h) (by walk_at "look") rfl rfl rfl rfl (fun _ => rfl) rfl fun c2 => ?_
  walk_at "S"
  refine EE.lst ?_
  walk_at "S"
  refine ⟨10, p10, 720, _, 703, rfl, by walk_at "look", rfl, clsOk_720, by k_is, by k_is, by k_is, by k_is, by decide, ?_⟩
  walk_at "S"
  refine AP.new 16 (by k_is) (by k_is) (by k_is) (by k_is) fun p16 => fn_Ways ⟨rfl, ?_⟩
  walk_at "S"
  refine AP.new 17 (by k_is) (by k_is) (by k_is) (by k_is) fun p17 => fn_RowRun (p15 := p15) (p16 := p16) (p24 := p24) fun p18 => ⟨rfl, ?_⟩
  walk_at "S"
  iterate 18 rw [put_cons (k := 40) (by decide)]
  rw [put_head, put_head]
  refine' AP.fn (by k_is) (FN.pre (σ' := RO ⟨p0, 0, 0, none, [], [], 0⟩ p11 p12 p13 p14 p15 p16 p17 p18 p19 p24 (.v (.int 0)) ((16, p16, .inst 797 (wyF _ (.meth 703 10 p10) (.v .none) _ (.v .none))) :: (15, p15, .inst 776 (hkF p11 p19)) :: (10, p10, .inst 720 (runF p2 p11 p12 p14)) :: (24, p24, .inst 350 (cdF (codeO rows pls prs lps).1 (codeO rows pls prs lps).2)) :: (40, p40, .tab _) :: σ)) ?sub ?go)
  case sub =>
    iterate 12 refine Sub.build (by walk_at "look") ?_
    iterate 12 refine Sub.skip ?_ (hk _ (by decide) (by decide))
    exact Sub.refl.skip h40
  have k1 := codeO_len1 rows pls prs lps
  have k2 := codeO_len2 rows pls prs lps
  refine fn_go_from (n := n + 21) ⟨by walk_at "look", (((((hf.up (by decide)).up (by decide)).up (by decide)).up (by decide)).up (by decide)), by walk_at "look", by walk_at "look", by walk_at "look", by lia, by lia⟩ ?_ ?_ rfl rfl hs0 hrun fun p13' p18' r => ?_
  · intro a k l r p13 p18 w Q hr hn q
    refine AP.clo (fun _ _ _ _ _ _ => valsL (by (repeat intro _); rfl)) (by decide) rfl rfl rfl rfl rfl ?_
    have hrV : (rows.map rowV)[k]? = some (.tup [.int l, r.v]) := by rw [List.getElem?_map, hr]; rfl
    walk_at "S"
    refine GI.nat rfl hrV ?_ hf.len
    walk_at "S"
    by_cases hrem : ∃ t, r = .rem t
    · refine ex1_1 (hrem) fun t zz1 => ?_
      subst zz1
      dsimp only [R.v]
      walk_at "S"
      refine GI.nat rfl hrV ?_ hf.len
      dsimp only [R.v]
      walk_at "S"
      refine AP.fn (by k_is) (fn_valX (p2 := p2) (p11 := p11) (p12 := p12) (p14 := p14) (x := a.x) (i := a.i) (by walk_at "look") (by walk_at "look") ?_)
      walk_at "S"
      have e : a.notes.map noteV ++ [V.tup [.str t, .int a.x]] = (noted (.rem t) a.x a.notes).map noteV := by
        show _ = (a.notes ++ [(t, a.x)]).map noteV
        rw [List.map_append]; rfl
      rw [e]
      exact q
    · obtain ⟨wd, wl, ew, hw⟩ := R.notRem (r := r) fun t h => hrem ⟨t, h⟩
      rw [ew]
      walk_at "S"
      have en : noted r a.x a.notes = a.notes := by
        cases r with
        | rem t => exact absurd ⟨t, rfl⟩ hrem
        | _ => rfl
      rw [en] at q
      exact q
  · intro a k l r p13 p18 w Q a' i' fr' hr he q
    refine AP.clo (fun _ _ _ _ _ _ => valsL (by (repeat intro _); rfl)) (by decide) rfl rfl rfl rfl rfl ?_
    have hrV : (rows.map rowV)[k]? = some (.tup [.int l, r.v]) := by rw [List.getElem?_map, hr]; rfl
    walk_at "S"
    refine GI.nat rfl hrV ?_ hf.len
    walk_at "S"
    rcases he with ⟨rfl, rfl, rfl, rfl⟩ | ⟨he, ok'⟩
    · dsimp only [R.v]
      walk_at "S"
      rw [List.length_map]
      exact q p13
    · refine ex2_4 (R.word he) fun wd wl ew w1 w2 w3 => ?_
      rw [ew]
      walk_at "S"
      rw [← ew]
      refine AP.fn (by k_is) (fn_do_flow (p14 := p14) (at' := k) (x := a.x) (i := a.i) (fr := a.fr) (by walk_at "look") ?_ he ok' fun p13' => ?_)
      · exact ⟨hf.len, by walk_at "look"⟩
      · walk_at "S"
        exact q p13'
  · walk_at "S"
    refine ⟨_, _, rfl, ?_⟩
    refine' ⟨_, ?sb, q p24 p14 _⟩
    case sb =>
      iterate 3 refine Sub.build (by walk_at "look") ?_
      iterate 11 refine Sub.skip ?_ (hk _ (by decide) (by decide))
      exact Sub.refl.skip h40
end
section
variable {b : Bas} {n : Nat} {σ : Store} {Q : W → Store → Prop}
variable {p0 : Nat} {L : List Int} {i m : Nat}
noncomputable abbrev coilV (L : List Int) (i : Nat) : List V := [.lst (L.map .int), nV i]
theorem fmod_nat {x : Int} {m : Nat} (hm : 0 < m) : ∃ r : Nat, r < m ∧ x.fmod m = (r : Int) := by
  have h1 := Int.fmod_nonneg_of_pos x (show (0 : Int) < m by lia)
  have h2 := Int.fmod_lt_of_pos x (show (0 : Int) < m by lia)
  exact ⟨(x.fmod m).toNat, by lia, by lia⟩
theorem fn_next (h0 : σ.lookup 0 = some (p0, .list (coilV L i))) (hL : L.length ≤ 40) (hi : i ≤ 60) (hm : 0 < m) (q : ∀ r, r < m → Q (.v (nV r)) (put 0 (.list (coilV L (i + 1))) σ)) : FN b (n + 1) (.ref 864) [.ref 0 p0, .v (nV m)] σ Q := by
  have hm' : ((m : Int)) ≠ 0 := by lia
  walk_at "F"
  walk_at "S"
  refine SI.list h0 (by decide) (show (1 : Int) < ((2 : Nat) : Int) by decide) (by decide) ?_
  have h0' : List.lookup 0 (put 0 (.list (coilV L (i + 1))) σ) = some (p0, .list (coilV L (i + 1))) := put_self h0
  show ESs b n _ _ _ (put 0 (.list (coilV L (i + 1))) σ) _
  have lL : (L.map V.int).length ≤ 1000 := by rw [List.length_map]; lia
  by_cases hc : i + 1 ≤ L.length
  · have c1 : decide (((i + 1 : Nat) : Int) ≤ ((L.map V.int).length : Int)) = true := decide_eq_true (by rw [List.length_map]; lia)
    obtain ⟨x, hx⟩ : ∃ x, L[i]? = some x := ⟨_, List.getElem?_eq_getElem hc⟩
    refine ex1_2 (fmod_nat (x := x) hm) fun r hr er => ?_
    walk_at "S"
    rw [show ((i + 1 : Nat) : Int) - 1 = ((i : Nat) : Int) by lia]
    refine GI.nat (y := .int x) rfl (by rw [List.getElem?_map, hx]; rfl) ?_ lL
    walk_at "S"
    rw [er]
    exact q r hr
  · have c1 : decide (((i + 1 : Nat) : Int) ≤ ((L.map V.int).length : Int)) = false := decide_eq_false (by rw [List.length_map]; lia)
    refine ex1_2 (fmod_nat (x := 5 * ((i + 1 : Nat) : Int) + ((i + 1 : Nat) : Int).fdiv 4) hm) fun r hr er => ?_
    walk_at "S"
    rw [er]
    exact q r hr
end
section
variable {b : Bas} {n : Nat} {σ : Store} {Q : W → Store → Prop}
variable {p0 : Nat} {L : List Int} {i m at' many : Nat}
theorem fn_part (h0 : σ.lookup 0 = some (p0, .list (coilV L i))) (hL : L.length ≤ 40) (hi : i ≤ 40) (ha : at' < many) (hm : many ≤ 4) (q : ∀ (P : PT) i', P.ok at' many → i' ≤ i + 3 → Q (.v (.lst ((P.lines at').map lineV))) (put 0 (.list (coilV L i')) σ)) :
    FN b (n + 2) (.ref 876) [.ref 0 p0, .v (nV at'), .v (nV many)] σ Q := by
  walk_at "F"
  walk_at "S"
  refine AP.fn (by k_is) (fn_next (m := 5) h0 hL (by lia) (by decide) fun r1 hr1 => ?_)
  have h1 : List.lookup 0 (put 0 (.list (coilV L (i + 1))) σ) = some (p0, .list (coilV L (i + 1))) := put_self h0
  walk_at "S"
  rw [show ((many : Int) - (at' : Int)) = ((many - at' : Nat) : Int) by lia]
  refine AP.fn (by k_is) (fn_next (m := many - at') h1 hL (by lia) (by lia) fun r2 hr2 => ?_)
  have h2 : List.lookup 0 (put 0 (.list (coilV L (i + 1 + 1))) (put 0 (.list (coilV L (i + 1))) σ)) = some (p0, .list (coilV L (i + 1 + 1))) := put_self h1
  rw [put_put] at h2 ⊢
  have eg : (100 * (((at' : Nat) : Int) + 2 + ((r2 : Nat) : Int))) = lno (at' + 1 + r2) := by unfold lno; lia
  walk_at "S"
  rw [eg]
  refine IT.rangeN (m := 4) rfl (by decide) ?_
  refine CB.map (fun x => match x with | .int s => .tup [.str "REM", .str (mk at' s.toNat)] | x => x) trivial _ _ (by simp) (fun x hx => ?_) ?_
  · refine ex1_2 (List.mem_map.mp hx) fun s hs zz1 => ?_
    subst zz1
    have hs4 : s < 4 := List.mem_range.mp hs
    refine ⟨_, rfl, ?_⟩
    walk_at "S"
    refine AP.strI (small_log (by lia) (by lia)) ?_
    walk_at "S"
  · rw [show ((List.range 4).map nV).map (fun x => match x with | .int s => V.tup [.str "REM", .str (mk at' s.toNat)] | x => x) = [(R.rem (mk at' 0)).v, (R.rem (mk at' 1)).v, (R.rem (mk at' 2)).v, (R.rem (mk at' 3)).v] from rfl]
    walk_at "S"
    obtain rfl | rfl | rfl | rfl | rfl : r1 = 0 ∨ r1 = 1 ∨ r1 = 2 ∨ r1 = 3 ∨ r1 = 4 := by lia
    · walk_at "S"
      repeat (refine EE.lst ?_; walk_at "S")
      exact q (.goto (at' + 1 + r2)) (i + 1 + 1) ⟨by lia, by lia⟩ (by lia)
    · walk_at "S"
      refine AP.fn (by k_is) (fn_next (m := 3) h2 hL (by lia) (by decide) fun r3 hr3 => ?_)
      rw [put_put]
      walk_at "S"
      repeat (refine EE.lst ?_; walk_at "S")
      exact q (.ifgo r3 (at' + 1 + r2)) (i + 1 + 1 + 1) ⟨hr3, by lia, by lia⟩ (by lia)
    · walk_at "S"
      refine AP.fn (by k_is) (fn_next (m := 4) h2 hL (by lia) (by decide) fun r3 hr3 => ?_)
      rw [put_put]
      walk_at "S"
      repeat (refine EE.lst ?_; walk_at "S")
      exact q (.forr r3) (i + 1 + 1 + 1) hr3 (by lia)
    · walk_at "S"
      refine AP.fn (by k_is) (fn_next (m := 3) h2 hL (by lia) (by decide) fun r3 hr3 => ?_)
      rw [put_put]
      walk_at "S"
      rw [show (1 + ((r3 : Nat) : Int)) = ((1 + r3 : Nat) : Int) by lia]
      repeat (refine EE.lst ?_; walk_at "S")
      exact q (.whil (1 + r3)) (i + 1 + 1 + 1) ⟨by lia, by lia⟩ (by lia)
    · walk_at "S"
      repeat (refine EE.lst ?_; walk_at "S")
      exact q .gosub (i + 1 + 1) trivial (by lia)
end
section
variable {b : Bas} {n : Nat} {σ : Store} {Q : W → Store → Prop}
variable {p40 : Nat} {script : List Int}
noncomputable abbrev runG (p2 p11 p12 p34 : Nat) : List (Str × W) := [("flat", .ref 2 p2), ("values", .ref 11 p11), ("worth_of", .v (.raw (.ref 871))), ("bits", .v (.int 16)), ("digits", .v (.int 9)), ("control", .ref 12 p12), ("notes", .ref 34 p34)]
theorem fn_law (good : ∀ ps : List PT, 1 ≤ ps.length → ps.length ≤ 4 → OkParts ps ps.length → Good ps) (hsc : script.length ≤ 63) (q : ∀ ps, Q (.v (.bool true)) [(40, p40, .tab ps)]) : FN b (n + 40) (.ref 888) [.v (.lst (script.map .int))] [(40, p40, .tab #[])] Q := by
  refine FN.sub ?_
  walk_at "F"
  walk_at "S"
  refine EE.newList 0 ?_
  walk_at "S"
  refine EE.sliceToA ?_
  walk_at "S"
  refine ⟨_, 40, rfl, rfl, by rw [List.length_map]; lia, ?_⟩
  walk_at "S"
  refine CB.map (fun x => match x with | .int i => .int (if i < 0 then -i else i) | x => x) trivial _ _ (by simp; lia) (fun x hx => ?_) ?_
  · refine ex1_2 (List.mem_map.mp (List.mem_of_mem_take hx)) fun s hs zz1 => ?_
    subst zz1
    refine ⟨_, rfl, ?_⟩
    walk_at "S"
  · rw [show [] ++ ((script.map V.int).take 40).map (fun x => match x with | .int i => V.int (if i < 0 then -i else i) | x => x) = ((script.take 40).map fun i => if i < 0 then -i else i).map V.int by
      rw [List.nil_append, ← List.map_take, List.map_map, List.map_map]; rfl]
    have hL : ((script.take 40).map fun i => if i < 0 then -i else i).length ≤ 40 := by rw [List.length_map, List.length_take]; lia
    generalize ((script.take 40).map fun i => if i < 0 then -i else i) = L at hL ⊢
    walk_at "S"
    intro p0
    walk_at "S"
    refine AP.fn (by k_is) (fn_next (L := L) (i := 0) (m := 4) (by walk_at "look") hL (by decide) (by decide) fun r hr => ?_)
    rw [put_head, show 0 + 1 = 1 from rfl]
    walk_at "S"
    rw [show (1 + ((r : Nat) : Int)) = ((1 + r : Nat) : Int) by lia]
    generalize hm : 1 + r = many
    have hm1 : 1 ≤ many ∧ many ≤ 4 := by lia
    clear hm hr
    refine EE.newList 1 ?_
    walk_at "S"
    intro p1
    walk_at "S"
    refine IT.rangeN (m := many) rfl (by lia) ?_
    refine FB.invL (fun _ => _) (fun k s => ∃ (ps : List PT) (i : Nat), ps.length = k ∧ OkParts ps many ∧ i ≤ 1 + 3 * k ∧ s = [(1, p1, .list ((linesFrom 0 ps).map lineV)), (0, p0, .list (coilV L i)), (40, p40, .tab #[])]) _ (fun k v s hx hI => ?_) (fun s hI => ?_) ⟨[], 1, rfl, OkParts.nil, Nat.le_refl _, rfl⟩
    · refine ex2_4 (hI) fun ps i hps hok hi zz2 => ?_
      subst zz2
      have hk : k < many := by have := (List.getElem?_eq_some_iff.mp hx).1; simpa using this
      rw [List.getElem?_map, List.getElem?_range hk] at hx
      cases hx
      refine ⟨trivial, ?_⟩
      have hl := linesFrom_length ps 0
      walk_at "S"
      refine AP.fn (by k_is) (fn_part (L := L) (i := i) (by walk_at "look") hL (by lia) hk hm1.2 fun P i' hP hi' => ?_)
      rw [put_cons (k := 0) (by decide), put_head]
      have hl3 := P.lines3 k
      walk_at "S"
      refine ⟨LSub.refl.set, ps ++ [P], i', by rw [List.length_append, hps]; rfl, hok.snoc (by rw [hps]; exact hP), by lia, ?_⟩
      rw [put_head, linesFrom_append, List.map_append, Nat.zero_add, hps]
    · refine ex2_4 (hI) fun ps i hps hok hi zz3 => ?_
      subst zz3
      rw [List.length_map, List.length_range] at hps
      subst hps
      refine ⟨trivial, ?_⟩
      have hl := linesFrom_length ps 0
      walk_at "S"
      repeat (refine EE.lst ?_; walk_at "S")
      generalize hX : List.map lineV (linesFrom 0 ps) ++ [V.tup _] ++ [V.tup _] = X
      have hX' : X = (linesOf ps).map lineV := by
        rw [← hX]; unfold linesOf; rw [List.map_append, List.map_append]; rfl
      subst hX'
      clear hX
      rw [put_head, put_head]
      have G := good ps hm1.1 hm1.2 hok
      have ll : (linesOf ps).length ≤ 14 := by unfold linesOf; rw [List.length_append, List.length_append]; show _ + 1 + 1 ≤ _; lia
      refine AP.fn (by k_is) (fn_flatten (lines := linesOf ps) (fun k hk => by rw [lookup_cons_ne (by lia), lookup_cons_ne (by lia), lookup_cons_ne (by lia)]; rfl) (by walk_at "look") (fun k h1 h2 => by rw [lookup_cons_ne (by lia), lookup_cons_ne (by lia), lookup_cons_ne (by lia)]; rfl) (by lia) G.hS G.grow G.l2 fun p2 => ?_)
      dsimp only
      walk_at "S"
      with_reducible refine EE.newDS2 11 ?hne ?qq
      case hne => decide +kernel
      intro p11
      walk_at "S"
      refine AP.new 10 (by k_is) (by k_is) (by k_is) (by k_is) fun p10 => fn_FlowRun (p11 := p11) fun p12 p13 p14 => ⟨rfl, ?_⟩
      walk_at "S"
      refine ex2_7 (G.run) fun st K s0 hst hend hK hn zz4 htx => ?_
      refine ex3_3 (zz4) fun p00 om oz hs0 hrun hnotes => ?_
      refine' AP.fn (by k_is) (FN.pre (σ' := RN ⟨0, 0, 0, none, []⟩ p11 p12 p13 p14 [(10, p10, .inst 720 (runF p2 p11 p12 p14)), (2, p2, .inst 428 (flatF b ((rowsOf ps).map rowV) (plV (plsOf ps)) (prV (prsOf ps)) (lpV (lpsOf ps)))), (1, p1, .list ((linesOf ps).map lineV)), (40, p40, .tab #[])]) ?sub ?go)
      case sub =>
        iterate 8 refine Sub.build (by walk_at "look") ?_
        exact fun _ _ h => nomatch h
      case go =>
      refine (fun (s : PS) (h : st 0 = s) => ?_ : ∀ s : PS, st 0 = s → FN b (n + 39) (.ref 717) [.ref 10 p10, .v (nV s.at'), .v (.int 600)] (RN s p11 p12 p13 p14 _) _) _ s0
      subst h
      refine fn_go (n := n + 29) (p2 := p2) (by walk_at "look") ⟨by rw [List.length_map]; exact Nat.le_trans G.l2 (by decide), by walk_at "look"⟩ hst hend hK hn fun p13' => ?_
      walk_at "S"
      have l2 := G.l2
      have c1 : (((rowsOf ps).length : Int) != (((rowsOf ps).map rowV).length : Int)) = false := by rw [List.length_map]; simp
      iterate 5 (walk_at "turn"; try dsimp only [List.cons_append, List.nil_append])
      refine ESs.pre (ρ' := [("flat", .ref 2 p2), ("plain", .ref 10 p10), ("lines", .ref 1 p1)]) (.build rfl (.build rfl (.build rfl (.nil rfl)))) ?_
      refine ESs.sub (σ' := [(10, p10, .inst 720 (runF p2 p11 p12 p14)), (14, p14, .list ((st K).notes.map noteV)), (2, p2, .inst 428 (flatF b ((rowsOf ps).map rowV) (plV (plsOf ps)) (prV (prsOf ps)) (lpV (lpsOf ps)))), (1, p1, .list ((linesOf ps).map lineV)), (40, p40, .tab #[])]) ?_ ?_
      · iterate 5 refine Sub.build (by walk_at "look") ?_
        exact fun _ _ h => nomatch h
      refine ESs.move 10 30 (p := p10) (o := .inst 720 (runF p2 p11 p12 p14)) lookup_cons_eq rfl (by decide) fun p30 => ?_
      have e1 : mvL 10 p10 30 p30 [("flat", .ref 2 p2), ("plain", .ref 10 p10), ("lines", .ref 1 p1)] = ([("flat", .ref 2 p2), ("plain", .ref 30 p30), ("lines", .ref 1 p1)] : Loc) := by simp [mvL, mvW]
      have e2 : mvS 10 p10 30 p30 [(10, p10, .inst 720 (runF p2 p11 p12 p14)), (14, p14, .list ((st K).notes.map noteV)), (2, p2, .inst 428 (flatF b ((rowsOf ps).map rowV) (plV (plsOf ps)) (prV (prsOf ps)) (lpV (lpsOf ps)))), (1, p1, .list ((linesOf ps).map lineV)), (40, p40, .tab #[])] =
        [(30, p30, .inst 720 (runF p2 p11 p12 p14)), (14, p14, .list ((st K).notes.map noteV)), (2, p2, .inst 428 (flatF b ((rowsOf ps).map rowV) (plV (plsOf ps)) (prV (prsOf ps)) (lpV (lpsOf ps)))), (1, p1, .list ((linesOf ps).map lineV)), (40, p40, .tab #[])] := by simp [mvS, mvO, mvW, mvW_fz]
      rw [e1, e2]
      clear e1 e2
      refine ESs.move 14 34 (p := p14) (o := .list ((st K).notes.map noteV)) (by walk_at "look") rfl (by decide) fun p34 => ?_
      have e1 : mvL 14 p14 34 p34 [("flat", .ref 2 p2), ("plain", .ref 30 p30), ("lines", .ref 1 p1)] = ([("flat", .ref 2 p2), ("plain", .ref 30 p30), ("lines", .ref 1 p1)] : Loc) := by simp [mvL, mvW]
      have e2 : mvS 14 p14 34 p34 [(30, p30, .inst 720 (runF p2 p11 p12 p14)), (14, p14, .list ((st K).notes.map noteV)), (2, p2, .inst 428 (flatF b ((rowsOf ps).map rowV) (plV (plsOf ps)) (prV (prsOf ps)) (lpV (lpsOf ps)))), (1, p1, .list ((linesOf ps).map lineV)), (40, p40, .tab #[])] =
        [(30, p30, .inst 720 (runG p2 p11 p12 p34)), (34, p34, .list ((st K).notes.map noteV)), (2, p2, .inst 428 (flatF b ((rowsOf ps).map rowV) (plV (plsOf ps)) (prV (prsOf ps)) (lpV (lpsOf ps)))), (1, p1, .list ((linesOf ps).map lineV)), (40, p40, .tab #[])] := by simp [mvS, mvO, mvW, mvW_fz]
      rw [e1, e2]
      clear e1 e2
      walk_at "S"
      refine' AP.fn (by k_is) (FN.pre (σ' := (40, p40, .tab #[]) :: [(30, p30, .inst 720 (runG p2 p11 p12 p34)), (34, p34, .list ((st K).notes.map noteV)), (2, p2, .inst 428 (flatF b ((rowsOf ps).map rowV) (plV (plsOf ps)) (prV (prsOf ps)) (lpV (lpsOf ps)))), (1, p1, .list ((linesOf ps).map lineV))]) ?sub2 ?go2)
      case sub2 =>
        iterate 5 refine Sub.build (by walk_at "look") ?_
        exact fun _ _ h => nomatch h
      case go2 =>
      refine fn_by_orders (n := n + 9) (rows := rowsOf ps) (pls := plsOf ps) (prs := prsOf ps) (lps := lpsOf ps) ?_ ?_ ⟨by rw [List.length_map]; exact Nat.le_trans l2 (by decide), by walk_at "look"⟩ G.okR l2 G.l0 G.l3 G.l4 G.l5 rfl hs0 hrun fun p24 p14' psT => ?_
      · intro k hk
        rw [lookup_cons_ne (by lia), lookup_cons_ne (by lia), lookup_cons_ne (by lia), lookup_cons_ne (by lia)]; rfl
      · intro k h1 h2
        rw [lookup_cons_ne (by lia), lookup_cons_ne (by lia), lookup_cons_ne (by lia), lookup_cons_ne (by lia)]; rfl
      rw [hnotes]
      refine AS.pair ?_
      walk_at "S"
      have k2 := codeO_len2 (rowsOf ps) (plsOf ps) (prsOf ps) (lpsOf ps)
      refine ⟨_, _, IsSrc.fz, ?_⟩
      refine CB.filter pNeg (fRow (rowsOf ps)) trivial _ _ (by rw [enumFrom_length, k2]; simp; lia) (fun x hx => ?_) ?_
      · refine ex1_1 (List.mem_iff_getElem?.mp hx) fun a ha => ?_
        refine ex1_2 (enumFrom_get ha) fun y hy zz5 => ?_
        subst zz5
        obtain ⟨hi, s, zz6, hs⟩ := codeO_sv hy
        subst zz6
        rw [Nat.zero_add]
        obtain ⟨rw', hr⟩ : ∃ r, (rowsOf ps)[a]? = some r := ⟨_, List.getElem?_eq_getElem hi⟩
        have hrV : ((rowsOf ps).map rowV)[a]? = some (.tup [.int rw'.1, rw'.2.v]) := by rw [List.getElem?_map, hr]; rfl
        refine ⟨_, rfl, ?_⟩
        walk_at "S"
        intro _
        walk_at "S"
        refine GI.nat rfl hrV ?_ (by rw [List.length_map]; lia)
        walk_at "S"
        refine ⟨?_, rfl⟩
        show _ = W.v (((rowsOf ps)[((a : Nat) : Int).toNat]?).getD (0, .endd)).2.v
        rw [Int.toNat_natCast, hr]; rfl
      · rw [List.nil_append, left_V]
        walk_at "S"
        have hsh := shV_notes (st K).notes fun e he => (htx e he).1
        refine Op2.neD (.inr ⟨_, ListW.of (by walk_at "look"), rfl⟩) (.inr ⟨_, ListW.of (by walk_at "look"), rfl⟩) hsh hsh ?_
        rw [PySem.SeqAt.eqv_refl _ (PySem.SeqAt.canLay_of_shaped (shV.at hsh).2)]
        walk_at "S"
        have hlay := lay_Rs (lftOf ps) G.texts
        have hn' := hn K
        refine CB.filter (fun _ => false) (fun x => x) (by walk_at "look") _ _ (by simp; lia) (fun x hx => ?_) ?_
        · refine ex1_2 (List.mem_map.mp hx) fun e he zz7 => ?_
          subst zz7
          refine ex0_2 (htx e he) fun h1 h2 => ?_
          refine ⟨_, rfl, ?_⟩
          walk_at "S"
          refine Op2.inL (u := (R.rem e.1).v) (.inl rfl) rfl (sh_rem h1) hlay.1 hlay.2 ?_
          rw [any_not h2]
          walk_at "S"
          exact nofun
        · rw [List.filter_eq_nil_iff.mpr fun _ _ h => Bool.false_ne_true h, List.map_nil, List.append_nil]
          walk_at "S"
          refine EE.lst ?_
          walk_at "S"
          refine Op2.neD (.inl rfl) (.inl rfl) rfl rfl ?_
          rw [show PyData.eqv (pd (V.lst [])) (pd (V.lst [])) = true from rfl]
          walk_at "S"
          have s91 := any_not G.stay1
          have s81 := any_not G.stay2
          refine ⟨_, _, IsSrc.tr (by walk_at "look"), ?_⟩
          refine FB.invL (fun _ => _) (fun k s => s = _) _ (fun k x s hx hI => ?_) (fun s hI => ?_) rfl
          · subst hI
            refine ex1_2 (enumFrom_get hx) fun y hy zz8 => ?_
            subst zz8
            rw [List.getElem?_map] at hy
            refine ex1_2 (Option.map_eq_some_iff.mp hy) fun zz9 hl zz10 => ?_
            subst zz10
            obtain ⟨ln, Ls⟩ := zz9
            have hLn := G.line (List.mem_of_getElem? hl)
            refine ⟨by walk_at "look", ?_⟩
            rcases hLn with ⟨s0, g, t, rfl, hm, ht⟩ | ⟨hne, hle⟩ | ⟨s0, s1, s2, w, wl, rfl, e1, e2⟩
            · rw [show lineV (ln, [s0, .p (.goto g), .p (.rem t)]) = .tup [.int ln, .lst [s0.v, .tup [.str "GOTO", .int g], (R.rem t).v]] from rfl]
              walk_at "S"
              refine Op2.notInL (u := (R.rem t).v) (.inl rfl) rfl (sh_rem ht) hlay.1 hlay.2 ?_
              rw [any_rem.mpr hm]
              walk_at "S"
              exact ⟨LSub.refl.set.set.set, rfl⟩
            · rw [show lineV (ln, Ls) = .tup [.int ln, .lst (Ls.map S.v)] from rfl]
              have hne' : Ls.length ≠ 3 := hne
              have hle' : Ls.length ≤ 3 := hle
              have c1 : (((Ls.map S.v).length : Int) == 3) = false := by rw [List.length_map]; exact beq_eq_false_iff_ne.mpr (by lia)
              walk_at "S"
              exact ⟨LSub.refl.set.set.set, rfl⟩
            · rw [show lineV (ln, [s0, s1, s2]) = .tup [.int ln, .lst [s0.v, s1.v, s2.v]] from rfl, e1]
              walk_at "S"
              exact ⟨LSub.refl.set.set.set, rfl⟩
          · subst hI
            refine ⟨by walk_at "look", ?_⟩
            walk_at "S"
            refine Op2.notInL (u := (R.rem "91").v) (.inl rfl) rfl (sh_rem (by kernel_rfl)) hlay.1 hlay.2 ?_
            rw [s91]
            walk_at "S"
            refine Op2.notInL (u := (R.rem "81").v) (.inl rfl) rfl (sh_rem (by kernel_rfl)) hlay.1 hlay.2 ?_
            rw [s81]
            walk_at "S"
            exact ⟨[(40, p40, .tab psT)], .build (by walk_at "look") (fun _ _ h => (nomatch h)), q psT⟩
end
section
open PySem PySem.W PyProof.Rows PySem.Calls
noncomputable def tabsL : List (Addr × Addr) := [(tabC, tabP)]
theorem cd_ok (P : Params) : codeHdIn (MineH.KF P) tabC tabP = true := by kernel_rfl
theorem tab_out (P : Params) : (MineH.KF P).lookup tabP = none := by kernel_rfl
theorem mg_law (P : Params) : nsIn (MineH.KF P) mainGlobals "law" = some (some (.ref 888)) := by kernel_rfl
theorem tabs_at {w : World} {h : Heap} (Y : MineH.hk.says w h) : TabsAt tabsL h := fun q hq => by
  rw [tabsL, List.mem_singleton] at hq
  subst hq
  exact ⟨codeHd_of_K (km_in_of Y) (cd_ok _), km_tabs_of Y 878 (List.mem_singleton.mpr rfl)⟩
noncomputable def basOf (w : World) (s₀ s₁ : Shared) (mg mb : Str → Option Value) (G : Ground MineH.vw MineH.loose [] (fun _ _ => True) w s₀ mg mb s₁.heap) (Y : MineH.hk.says w s₁.heap) : Bas where
  prog := PySem.Challenge.rw_pq0153_01.prog
  w := w
  h₀ := ghostOf s₁.heap tabsL
  os := s₁.os
  mg := mg
  mb := mb
  X := fun a o e => ghost_ne (km_in_of Y a o e) fun q => by
    rw [tabsL, List.map_cons, List.map_nil, List.mem_singleton] at q
    subst q
    rw [tab_out] at e; cases e
  g := ghost_ns (tabs_at Y) G.T.g
  bl := ghost_ns (tabs_at Y) G.T.b
  bb := G.T.builtins
  nolimit := let ⟨mc, a, r⟩ := G.T.nolimit; ⟨mc, ghost_ns (tabs_at Y) a, r⟩
  hid := hideAll_none _ (List.mem_singleton.mpr rfl)
  cdh := (ghost_code (tabs_at Y)).1
  bmain := let ⟨bm, ob, a1, a2, a3, a4, r⟩ := G.T.bmain; ⟨bm, ob, a1, a2, ghost_get (tabs_at Y) a3 (fun q => by rw [q] at a4; cases a4), a4, r⟩
noncomputable def tmTrue (o : Option WData) : Bool := match o with | some (.bool true) => true | _ => false
theorem tm_lt {xs : List WData} (h : less? (.int 63) (.int ((xs.length : Nat) : Int)) = some true) : WTm.value [] (.lt (.lit (.int 63)) (.len (.arg 0))) { args := [.list xs] } = some (.bool true) :=
  congrArg (fun o : Option Bool => o.map WData.bool) h
theorem tm_not {R : WRecords} {a : WTm} {e : WCtx} (h : WTm.value R a e = some (.bool true)) : WTm.value R (.not a) e = some (.bool false) :=
  congrArg (fun o : Option WData => match o with | some (.bool b) => some (WData.bool (!b)) | _ => none) h
theorem tm_and {R : WRecords} {a b : WTm} {e : WCtx} (h : WTm.value R a e = some (.bool false)) : WTm.value R (.and a b) e = some (.bool false) :=
  congrArg (fun o : Option WData => match o with
    | some (.bool false) => some (WData.bool false)
    | some (.bool true) => (match WTm.value R b e with
      | some (.bool x) => some (.bool x)
      | _ => none)
    | _ => none) h
theorem w_int {P : Params} {h : Heap} {v : Value} {i : Int} (x : Well P h v (.int i)) : ∃ t, v = .int i t := by cases x; exact ⟨_, rfl⟩
theorem w_list {P : Params} {h : Heap} {v : Value} {xs : List WData} (x : Well P h v (.list xs)) : ∃ a vs, v = .ref a ∧ h.get? a = some (listOf vs.toArray 0) ∧ WellAll P h vs xs := by cases x with | list hg hall => exact ⟨_, _, rfl, hg, hall⟩
theorem w_nil {P : Params} {h : Heap} {vs : List Value} (x : WellAll P h vs []) : vs = [] := by cases x; rfl
theorem ints_of {P : Params} {h : Heap} {xs : List WData} : ∀ {vs : List Value}, WShape.hasItems PySem.Challenge.rw_pq0153_01.row.toRowW.records xs .int = true → WellAll P h vs xs → ∃ script : List Int, script.length = xs.length ∧ ∀ (F : Addr → Prop) (h' : Heap), PVs F h' (script.map .int) vs := by
  induction xs with
  | nil => intro vs _ hv; obtain rfl := w_nil hv; exact ⟨[], rfl, fun _ _ => .nil⟩
  | cons x xs ih =>
    intro vs hx hv
    refine ex2_3 (wellAll_cons_inv hv) fun v vs' e v1 v2 => ?_
    subst e
    have hx' : WShape.has PySem.Challenge.rw_pq0153_01.row.toRowW.records x .int = true ∧ WShape.hasItems PySem.Challenge.rw_pq0153_01.row.toRowW.records xs .int = true := by simpa [WShape.hasItems] using hx
    obtain ⟨i, rfl⟩ := hasW_int hx'.1
    obtain ⟨t, rfl⟩ := w_int v1
    exact ex1_2 (ih hx'.2 v2) fun sc e1 e2 => ⟨i :: sc, congrArg (· + 1) e1, fun F h' => .cons (.int _ _) (e2 F h')⟩
theorem script_of {P : Params} {h : Heap} {args : List WData} {vals : List Value} (hp : PySem.Challenge.rw_pq0153_01.row.toRowW.claim.pre args = true) (hW : WellAll P h vals args) :
    ∃ (script : List Int) (la : Addr) (vs : List Value), script.length ≤ 63 ∧ vals = [.ref la] ∧ h.get? la = some (listOf vs.toArray 0) ∧ ∀ (F : Addr → Prop) (h' : Heap), PVs F h' (script.map .int) vs := by
  obtain ⟨h1, h2⟩ := pre_splitW hp
  obtain ⟨d, r, rfl, h3, h4⟩ := hasAllW_cons (es := []) h1
  obtain rfl := hasAllW_nil h4
  obtain ⟨xs, rfl, h5⟩ := hasW_list h3
  refine ex2_3 (wellAll_cons_inv hW) fun v vs' e w1 w2 => ?_
  subst e
  obtain rfl := w_nil w2
  refine ex2_3 (w_list w1) fun a vs e hg hall => ?_
  subst e
  refine ex1_2 (ints_of h5 hall) fun script e1 e2 => ?_
  refine ⟨script, a, vs, ?_, rfl, hg, e2⟩
  rw [e1]
  by_cases hl : xs.length ≤ 63
  · exact hl
  · exfalso
    have e : less? (.int 63) (.int ((xs.length : Nat) : Int)) = some true := by
      show some (decide ((63 : Int) < (xs.length : Int))) = some true
      rw [decide_eq_true (by lia)]
    have ha := tm_and (b := .lit (.bool true)) (tm_not (tm_lt (xs := xs) e))
    have h6 : tmTrue ((WTm.and (.not (.lt (.lit (.int 63)) (.len (.arg 0)))) (.lit (.bool true))).value [] { args := [.list xs] }) = true := h2
    rw [ha] at h6
    exact Bool.false_ne_true h6
noncomputable def gh0 (n : Nat) : Gh where
  al _ _ := tabP
  dx _ _ := tabP
  nv k := if k = 40 then 1 else 0
  F a := a < n ∧ a ≠ tabP
@[elab_as_elim] theorem one_e {k p : Nat} {o : O} {motive : Nat → Nat → O → Prop} (h : List.lookup k [((40 : Nat), ((0 : Nat), O.tab #[]))] = some (p, o)) (m : motive 40 0 (.tab #[])) : motive k p o := by
  by_cases e : k = 40
  · subst e; rw [lookup_cons_eq] at h; cases h; exact m
  · rw [lookup_cons_ne e] at h; cases h
theorem walk : WalkO MineH.vw MineH.loose (fun _ _ => True) MineH.hk.says PySem.Challenge.rw_pq0153_01.row.toRowW MineH.d0 [] fun f vs => PySem.call f vs := by
  intro w s₀ s₁ mg mb G Y a o pm cd doc dV kV h1 h2 h3 h4 h5 hgens args vals as hpre hlay hR hW hlow
  obtain ⟨script, la, vs, hsc, rfl, hla, hvs⟩ := script_of hpre hW
  let b := basOf w s₀ s₁ mg mb G Y
  have ea : a = 888 := by
    have e1 : mg "law" = some (.ref 888) := mg_of (km_in_of Y) G.T.g (mg_law _)
    have e2 : mg "law" = some (.ref a) := h5
    rw [e1] at e2
    cases e2; rfl
  subst ea
  have hP := km_tabs_of Y 878 (List.mem_singleton.mpr rfl)
  have nla : la ≠ tabP := fun q => by
    subst q
    rw [show s₁.heap.get? tabP = _ from hP] at hla
    cases hla
  have S : St b (gh0 s₁.heap.objs.size) [(40, 0, .tab #[])] s₁ := by
    refine ⟨fun a o e => of_hideAll _ e, hgens, rfl, fun a h n => ⟨?_, n⟩, fun a h => h.1, fun k p o h => ?_, fun k p o h => ?_, fun k k' p p' o o' h h' n => ?_, fun k p o h => ?_⟩
    · have e : (ghostOf s₁.heap tabsL).objs.size = s₁.heap.objs.size := hideAll_size _ _
      exact e ▸ h
    · exact one_e h Nat.zero_lt_one
    · exact one_e h ⟨fun q => q.2 rfl, fun q => q.2 rfl, Heap.lt_size hP, Heap.lt_size hP⟩
    · have e1 : k = 40 := one_e (motive := fun k _ _ => k = 40) h rfl
      have e2 : k' = 40 := one_e (motive := fun k _ _ => k = 40) h' rfl
      exact absurd (e1.trans e2.symm) n
    · exact one_e (motive := fun k p o => ObjAt b.prog b.w (gh0 s₁.heap.objs.size) [(40, 0, .tab #[])] s₁.heap k p o) h ⟨rfl, hP, by trivial⟩
  have rs : WRs (gh0 s₁.heap.objs.size) [(40, 0, .tab #[])] s₁.heap [.v (.lst (script.map .int))] [.ref la] :=
    ⟨PV.lst ⟨Heap.lt_size hla, nla⟩ ⟨0, hla⟩ (by rw [List.toList_toArray]; exact hvs _ _), trivial⟩
  have L := fn_law (b := b) (n := 0) (p40 := 0) (script := script) (Q := fun y σ' => y = .v (.bool true) ∧ ∃ ps, σ' = [(40, 0, .tab ps)]) (fun ps h1 h4 hok => good_of h1 h4 hok) hsc fun ps => ⟨rfl, ps, rfl⟩
  refine wpAny_call ?_
  have K := kn_post (s₁ := s₁) (cw := PySem.Challenge.rw_pq0153_01.row.toRowW.claim) (cl := classAt s₀.heap) (mean := ExcName.means s₀.heap) (args := args) (tabs_at Y) (fun _ _ => rfl) (codeAny_mono (L callerA s₁ _ _ ⟨by decide, by decide, rfl⟩ S rs) fun r s' z => ?_)
  · exact codeAny_mono K fun r s' z => by
      rcases r with e | f
      · exact z
      · cases f with
        | ret v => exact z
        | _ => rcases z.1 with ⟨_, _, _, h, _⟩ | ⟨_, _, _, h, _⟩ <;> cases h
  · rcases r with e | (v | _ | _ | _) <;> first | exact z.elim | skip
    obtain ⟨y, σ', γ', ⟨rfl, ps, rfl⟩, P, wr⟩ := z
    cases wr
    refine ⟨⟨.inl ⟨.bool true, .bool true, [], rfl, fun _ => rfl, .bool true, by kernel_rfl, fun _ => ⟨.nil, fun a h => (nomatch h)⟩⟩, P.st.base, P.st.os, P.st.gens⟩, ?_, trivial⟩
    obtain ⟨e1, e2, _⟩ := P.st.obj 40 0 _ lookup_cons_eq
    exact ⟨ps, by rw [← e1]; exact e2⟩
theorem done : PySem.Challenge.rw_pq0153_01.Holds := MineH.top walk
end
end Mine
theorem PySem.Challenge.cw_pq0153_01_holds : PySem.Challenge.rw_pq0153_01.Holds :=
  Mine.done
