/- Own texts of this proof: ThR5, ThR6, ThR7, ThR8, ThR9, ThR10, ThR11, ThR12. -/
import Derived.Test.YtcjmeaghecmgeaaGreatDoorLibE
import Derived.ProofKit
import Derived.OpenShut
import Derived.LaidMore
import Derived.Lay
import Derived.SevenTiedAt
import Derived.Stop.Joined
import Derived.Below
import Derived.ChangeSame
import Derived.HandedShaped
set_option autoImplicit true
set_option relaxedAutoImplicit true
set_option linter.all false
namespace Go.Th
noncomputable section

/-! Words of the shallow texts. -/
def chkE (h : Heap) (v : AV) (x : Option (AV × Heap)) : Bool := match x with | some r => sel (Nat.beq r.2.nx h.nx) (avEq 4 v r.1) false | none => false
def mkE : List (Nat × AV) → Env
  | [] => .lf
  | (t, v) :: l => (mkE l).set t (some v)
def fnAt (P : Program) (i : Nat) : Func := match P.funcs[i]? with | some f => f | none => default
def codeOf (f : Func) : Code := match f.body with | some c => c | none => .skip
def pa : Code → Code
  | .seq a _ => a
  | .cond _ a _ => a
  | .block _ c => c
  | .loop c => c
  | .rangeFunc _ _ a _ => a
  | _ => .skip
def pb : Code → Code
  | .seq _ b => b
  | .cond _ _ b => b
  | .rangeFunc _ _ _ b => b
  | _ => .skip
def noK : Nat → K := fun _ _ _ => none
/-- rounds, by a count -/
def lp {α : Type} (bot : α) (F : α → α) (n : Nat) : α := Nat.rec (motive := fun _ => α) bot (fun _ k => F k) n
theorem lp_zero {α : Type} (bot : α) (F : α → α) : lp bot F 0 = bot := rfl
theorem lp_succ {α : Type} (bot : α) (F : α → α) (n : Nat) : lp bot F (n + 1) = F (lp bot F n) := rfl
def b0 : Heap → Res := fun _ => none
theorem lp0_eq (F : K → K) (S : (Heap → Res) → Heap → Res) (hS : ∀ k : K, S (fun  h => k (mkE []) h) = fun  h => F k (mkE []) h) (n : Nat) : lp b0 S n = fun  h => loopK F n (mkE []) h := by
  induction n with
  | zero => rfl
  | succ n ih => rw [lp_succ, ih]; exact hS (loopK F n)
def b1 : AV → Heap → Res := fun _ _ => none
theorem lp1_eq (t0 : Nat) (F : K → K) (S : (AV → Heap → Res) → AV → Heap → Res) (hS : ∀ k : K, S (fun x0 h => k (mkE [(t0, x0)]) h) = fun x0 h => F k (mkE [(t0, x0)]) h) (n : Nat) : lp b1 S n = fun x0 h => loopK F n (mkE [(t0, x0)]) h := by
  induction n with
  | zero => rfl
  | succ n ih => rw [lp_succ, ih]; exact hS (loopK F n)
def b2 : AV → AV → Heap → Res := fun _ _ _ => none
theorem lp2_eq (t0 t1 : Nat) (F : K → K) (S : (AV → AV → Heap → Res) → AV → AV → Heap → Res) (hS : ∀ k : K, S (fun x0 x1 h => k (mkE [(t0, x0), (t1, x1)]) h) = fun x0 x1 h => F k (mkE [(t0, x0), (t1, x1)]) h) (n : Nat) : lp b2 S n = fun x0 x1 h => loopK F n (mkE [(t0, x0), (t1, x1)]) h := by
  induction n with
  | zero => rfl
  | succ n ih => rw [lp_succ, ih]; exact hS (loopK F n)
def b3 : AV → AV → AV → Heap → Res := fun _ _ _ _ => none
theorem lp3_eq (t0 t1 t2 : Nat) (F : K → K) (S : (AV → AV → AV → Heap → Res) → AV → AV → AV → Heap → Res) (hS : ∀ k : K, S (fun x0 x1 x2 h => k (mkE [(t0, x0), (t1, x1), (t2, x2)]) h) = fun x0 x1 x2 h => F k (mkE [(t0, x0), (t1, x1), (t2, x2)]) h) (n : Nat) : lp b3 S n = fun x0 x1 x2 h => loopK F n (mkE [(t0, x0), (t1, x1), (t2, x2)]) h := by
  induction n with
  | zero => rfl
  | succ n ih => rw [lp_succ, ih]; exact hS (loopK F n)
def b4 : AV → AV → AV → AV → Heap → Res := fun _ _ _ _ _ => none
theorem lp4_eq (t0 t1 t2 t3 : Nat) (F : K → K) (S : (AV → AV → AV → AV → Heap → Res) → AV → AV → AV → AV → Heap → Res) (hS : ∀ k : K, S (fun x0 x1 x2 x3 h => k (mkE [(t0, x0), (t1, x1), (t2, x2), (t3, x3)]) h) = fun x0 x1 x2 x3 h => F k (mkE [(t0, x0), (t1, x1), (t2, x2), (t3, x3)]) h) (n : Nat) : lp b4 S n = fun x0 x1 x2 x3 h => loopK F n (mkE [(t0, x0), (t1, x1), (t2, x2), (t3, x3)]) h := by
  induction n with
  | zero => rfl
  | succ n ih => rw [lp_succ, ih]; exact hS (loopK F n)
def b5 : AV → AV → AV → AV → AV → Heap → Res := fun _ _ _ _ _ _ => none
theorem lp5_eq (t0 t1 t2 t3 t4 : Nat) (F : K → K) (S : (AV → AV → AV → AV → AV → Heap → Res) → AV → AV → AV → AV → AV → Heap → Res) (hS : ∀ k : K, S (fun x0 x1 x2 x3 x4 h => k (mkE [(t0, x0), (t1, x1), (t2, x2), (t3, x3), (t4, x4)]) h) = fun x0 x1 x2 x3 x4 h => F k (mkE [(t0, x0), (t1, x1), (t2, x2), (t3, x3), (t4, x4)]) h) (n : Nat) : lp b5 S n = fun x0 x1 x2 x3 x4 h => loopK F n (mkE [(t0, x0), (t1, x1), (t2, x2), (t3, x3), (t4, x4)]) h := by
  induction n with
  | zero => rfl
  | succ n ih => rw [lp_succ, ih]; exact hS (loopK F n)
def b6 : AV → AV → AV → AV → AV → AV → Heap → Res := fun _ _ _ _ _ _ _ => none
theorem lp6_eq (t0 t1 t2 t3 t4 t5 : Nat) (F : K → K) (S : (AV → AV → AV → AV → AV → AV → Heap → Res) → AV → AV → AV → AV → AV → AV → Heap → Res) (hS : ∀ k : K, S (fun x0 x1 x2 x3 x4 x5 h => k (mkE [(t0, x0), (t1, x1), (t2, x2), (t3, x3), (t4, x4), (t5, x5)]) h) = fun x0 x1 x2 x3 x4 x5 h => F k (mkE [(t0, x0), (t1, x1), (t2, x2), (t3, x3), (t4, x4), (t5, x5)]) h) (n : Nat) : lp b6 S n = fun x0 x1 x2 x3 x4 x5 h => loopK F n (mkE [(t0, x0), (t1, x1), (t2, x2), (t3, x3), (t4, x4), (t5, x5)]) h := by
  induction n with
  | zero => rfl
  | succ n ih => rw [lp_succ, ih]; exact hS (loopK F n)
def b7 : AV → AV → AV → AV → AV → AV → AV → Heap → Res := fun _ _ _ _ _ _ _ _ => none
theorem lp7_eq (t0 t1 t2 t3 t4 t5 t6 : Nat) (F : K → K) (S : (AV → AV → AV → AV → AV → AV → AV → Heap → Res) → AV → AV → AV → AV → AV → AV → AV → Heap → Res) (hS : ∀ k : K, S (fun x0 x1 x2 x3 x4 x5 x6 h => k (mkE [(t0, x0), (t1, x1), (t2, x2), (t3, x3), (t4, x4), (t5, x5), (t6, x6)]) h) = fun x0 x1 x2 x3 x4 x5 x6 h => F k (mkE [(t0, x0), (t1, x1), (t2, x2), (t3, x3), (t4, x4), (t5, x5), (t6, x6)]) h) (n : Nat) : lp b7 S n = fun x0 x1 x2 x3 x4 x5 x6 h => loopK F n (mkE [(t0, x0), (t1, x1), (t2, x2), (t3, x3), (t4, x4), (t5, x5), (t6, x6)]) h := by
  induction n with
  | zero => rfl
  | succ n ih => rw [lp_succ, ih]; exact hS (loopK F n)
def b8 : AV → AV → AV → AV → AV → AV → AV → AV → Heap → Res := fun _ _ _ _ _ _ _ _ _ => none
theorem lp8_eq (t0 t1 t2 t3 t4 t5 t6 t7 : Nat) (F : K → K) (S : (AV → AV → AV → AV → AV → AV → AV → AV → Heap → Res) → AV → AV → AV → AV → AV → AV → AV → AV → Heap → Res) (hS : ∀ k : K, S (fun x0 x1 x2 x3 x4 x5 x6 x7 h => k (mkE [(t0, x0), (t1, x1), (t2, x2), (t3, x3), (t4, x4), (t5, x5), (t6, x6), (t7, x7)]) h) = fun x0 x1 x2 x3 x4 x5 x6 x7 h => F k (mkE [(t0, x0), (t1, x1), (t2, x2), (t3, x3), (t4, x4), (t5, x5), (t6, x6), (t7, x7)]) h) (n : Nat) : lp b8 S n = fun x0 x1 x2 x3 x4 x5 x6 x7 h => loopK F n (mkE [(t0, x0), (t1, x1), (t2, x2), (t3, x3), (t4, x4), (t5, x5), (t6, x6), (t7, x7)]) h := by
  induction n with
  | zero => rfl
  | succ n ih => rw [lp_succ, ih]; exact hS (loopK F n)
def b9 : AV → AV → AV → AV → AV → AV → AV → AV → AV → Heap → Res := fun _ _ _ _ _ _ _ _ _ _ => none
theorem lp9_eq (t0 t1 t2 t3 t4 t5 t6 t7 t8 : Nat) (F : K → K) (S : (AV → AV → AV → AV → AV → AV → AV → AV → AV → Heap → Res) → AV → AV → AV → AV → AV → AV → AV → AV → AV → Heap → Res) (hS : ∀ k : K, S (fun x0 x1 x2 x3 x4 x5 x6 x7 x8 h => k (mkE [(t0, x0), (t1, x1), (t2, x2), (t3, x3), (t4, x4), (t5, x5), (t6, x6), (t7, x7), (t8, x8)]) h) = fun x0 x1 x2 x3 x4 x5 x6 x7 x8 h => F k (mkE [(t0, x0), (t1, x1), (t2, x2), (t3, x3), (t4, x4), (t5, x5), (t6, x6), (t7, x7), (t8, x8)]) h) (n : Nat) : lp b9 S n = fun x0 x1 x2 x3 x4 x5 x6 x7 x8 h => loopK F n (mkE [(t0, x0), (t1, x1), (t2, x2), (t3, x3), (t4, x4), (t5, x5), (t6, x6), (t7, x7), (t8, x8)]) h := by
  induction n with
  | zero => rfl
  | succ n ih => rw [lp_succ, ih]; exact hS (loopK F n)
def b10 : AV → AV → AV → AV → AV → AV → AV → AV → AV → AV → Heap → Res := fun _ _ _ _ _ _ _ _ _ _ _ => none
theorem lp10_eq (t0 t1 t2 t3 t4 t5 t6 t7 t8 t9 : Nat) (F : K → K) (S : (AV → AV → AV → AV → AV → AV → AV → AV → AV → AV → Heap → Res) → AV → AV → AV → AV → AV → AV → AV → AV → AV → AV → Heap → Res) (hS : ∀ k : K, S (fun x0 x1 x2 x3 x4 x5 x6 x7 x8 x9 h => k (mkE [(t0, x0), (t1, x1), (t2, x2), (t3, x3), (t4, x4), (t5, x5), (t6, x6), (t7, x7), (t8, x8), (t9, x9)]) h) = fun x0 x1 x2 x3 x4 x5 x6 x7 x8 x9 h => F k (mkE [(t0, x0), (t1, x1), (t2, x2), (t3, x3), (t4, x4), (t5, x5), (t6, x6), (t7, x7), (t8, x8), (t9, x9)]) h) (n : Nat) : lp b10 S n = fun x0 x1 x2 x3 x4 x5 x6 x7 x8 x9 h => loopK F n (mkE [(t0, x0), (t1, x1), (t2, x2), (t3, x3), (t4, x4), (t5, x5), (t6, x6), (t7, x7), (t8, x8), (t9, x9)]) h := by
  induction n with
  | zero => rfl
  | succ n ih => rw [lp_succ, ih]; exact hS (loopK F n)
def b11 : AV → AV → AV → AV → AV → AV → AV → AV → AV → AV → AV → Heap → Res := fun _ _ _ _ _ _ _ _ _ _ _ _ => none
theorem lp11_eq (t0 t1 t2 t3 t4 t5 t6 t7 t8 t9 t10 : Nat) (F : K → K) (S : (AV → AV → AV → AV → AV → AV → AV → AV → AV → AV → AV → Heap → Res) → AV → AV → AV → AV → AV → AV → AV → AV → AV → AV → AV → Heap → Res) (hS : ∀ k : K, S (fun x0 x1 x2 x3 x4 x5 x6 x7 x8 x9 x10 h => k (mkE [(t0, x0), (t1, x1), (t2, x2), (t3, x3), (t4, x4), (t5, x5), (t6, x6), (t7, x7), (t8, x8), (t9, x9), (t10, x10)]) h) = fun x0 x1 x2 x3 x4 x5 x6 x7 x8 x9 x10 h => F k (mkE [(t0, x0), (t1, x1), (t2, x2), (t3, x3), (t4, x4), (t5, x5), (t6, x6), (t7, x7), (t8, x8), (t9, x9), (t10, x10)]) h) (n : Nat) : lp b11 S n = fun x0 x1 x2 x3 x4 x5 x6 x7 x8 x9 x10 h => loopK F n (mkE [(t0, x0), (t1, x1), (t2, x2), (t3, x3), (t4, x4), (t5, x5), (t6, x6), (t7, x7), (t8, x8), (t9, x9), (t10, x10)]) h := by
  induction n with
  | zero => rfl
  | succ n ih => rw [lp_succ, ih]; exact hS (loopK F n)
def b12 : AV → AV → AV → AV → AV → AV → AV → AV → AV → AV → AV → AV → Heap → Res := fun _ _ _ _ _ _ _ _ _ _ _ _ _ => none
theorem lp12_eq (t0 t1 t2 t3 t4 t5 t6 t7 t8 t9 t10 t11 : Nat) (F : K → K) (S : (AV → AV → AV → AV → AV → AV → AV → AV → AV → AV → AV → AV → Heap → Res) → AV → AV → AV → AV → AV → AV → AV → AV → AV → AV → AV → AV → Heap → Res) (hS : ∀ k : K, S (fun x0 x1 x2 x3 x4 x5 x6 x7 x8 x9 x10 x11 h => k (mkE [(t0, x0), (t1, x1), (t2, x2), (t3, x3), (t4, x4), (t5, x5), (t6, x6), (t7, x7), (t8, x8), (t9, x9), (t10, x10), (t11, x11)]) h) = fun x0 x1 x2 x3 x4 x5 x6 x7 x8 x9 x10 x11 h => F k (mkE [(t0, x0), (t1, x1), (t2, x2), (t3, x3), (t4, x4), (t5, x5), (t6, x6), (t7, x7), (t8, x8), (t9, x9), (t10, x10), (t11, x11)]) h) (n : Nat) : lp b12 S n = fun x0 x1 x2 x3 x4 x5 x6 x7 x8 x9 x10 x11 h => loopK F n (mkE [(t0, x0), (t1, x1), (t2, x2), (t3, x3), (t4, x4), (t5, x5), (t6, x6), (t7, x7), (t8, x8), (t9, x9), (t10, x10), (t11, x11)]) h := by
  induction n with
  | zero => rfl
  | succ n ih => rw [lp_succ, ih]; exact hS (loopK F n)
def b13 : AV → AV → AV → AV → AV → AV → AV → AV → AV → AV → AV → AV → AV → Heap → Res := fun _ _ _ _ _ _ _ _ _ _ _ _ _ _ => none
theorem lp13_eq (t0 t1 t2 t3 t4 t5 t6 t7 t8 t9 t10 t11 t12 : Nat) (F : K → K) (S : (AV → AV → AV → AV → AV → AV → AV → AV → AV → AV → AV → AV → AV → Heap → Res) → AV → AV → AV → AV → AV → AV → AV → AV → AV → AV → AV → AV → AV → Heap → Res) (hS : ∀ k : K, S (fun x0 x1 x2 x3 x4 x5 x6 x7 x8 x9 x10 x11 x12 h => k (mkE [(t0, x0), (t1, x1), (t2, x2), (t3, x3), (t4, x4), (t5, x5), (t6, x6), (t7, x7), (t8, x8), (t9, x9), (t10, x10), (t11, x11), (t12, x12)]) h) = fun x0 x1 x2 x3 x4 x5 x6 x7 x8 x9 x10 x11 x12 h => F k (mkE [(t0, x0), (t1, x1), (t2, x2), (t3, x3), (t4, x4), (t5, x5), (t6, x6), (t7, x7), (t8, x8), (t9, x9), (t10, x10), (t11, x11), (t12, x12)]) h) (n : Nat) : lp b13 S n = fun x0 x1 x2 x3 x4 x5 x6 x7 x8 x9 x10 x11 x12 h => loopK F n (mkE [(t0, x0), (t1, x1), (t2, x2), (t3, x3), (t4, x4), (t5, x5), (t6, x6), (t7, x7), (t8, x8), (t9, x9), (t10, x10), (t11, x11), (t12, x12)]) h := by
  induction n with
  | zero => rfl
  | succ n ih => rw [lp_succ, ih]; exact hS (loopK F n)
def b14 : AV → AV → AV → AV → AV → AV → AV → AV → AV → AV → AV → AV → AV → AV → Heap → Res := fun _ _ _ _ _ _ _ _ _ _ _ _ _ _ _ => none
theorem lp14_eq (t0 t1 t2 t3 t4 t5 t6 t7 t8 t9 t10 t11 t12 t13 : Nat) (F : K → K) (S : (AV → AV → AV → AV → AV → AV → AV → AV → AV → AV → AV → AV → AV → AV → Heap → Res) → AV → AV → AV → AV → AV → AV → AV → AV → AV → AV → AV → AV → AV → AV → Heap → Res) (hS : ∀ k : K, S (fun x0 x1 x2 x3 x4 x5 x6 x7 x8 x9 x10 x11 x12 x13 h => k (mkE [(t0, x0), (t1, x1), (t2, x2), (t3, x3), (t4, x4), (t5, x5), (t6, x6), (t7, x7), (t8, x8), (t9, x9), (t10, x10), (t11, x11), (t12, x12), (t13, x13)]) h) = fun x0 x1 x2 x3 x4 x5 x6 x7 x8 x9 x10 x11 x12 x13 h => F k (mkE [(t0, x0), (t1, x1), (t2, x2), (t3, x3), (t4, x4), (t5, x5), (t6, x6), (t7, x7), (t8, x8), (t9, x9), (t10, x10), (t11, x11), (t12, x12), (t13, x13)]) h) (n : Nat) : lp b14 S n = fun x0 x1 x2 x3 x4 x5 x6 x7 x8 x9 x10 x11 x12 x13 h => loopK F n (mkE [(t0, x0), (t1, x1), (t2, x2), (t3, x3), (t4, x4), (t5, x5), (t6, x6), (t7, x7), (t8, x8), (t9, x9), (t10, x10), (t11, x11), (t12, x12), (t13, x13)]) h := by
  induction n with
  | zero => rfl
  | succ n ih => rw [lp_succ, ih]; exact hS (loopK F n)
def b15 : AV → AV → AV → AV → AV → AV → AV → AV → AV → AV → AV → AV → AV → AV → AV → Heap → Res := fun _ _ _ _ _ _ _ _ _ _ _ _ _ _ _ _ => none
theorem lp15_eq (t0 t1 t2 t3 t4 t5 t6 t7 t8 t9 t10 t11 t12 t13 t14 : Nat) (F : K → K) (S : (AV → AV → AV → AV → AV → AV → AV → AV → AV → AV → AV → AV → AV → AV → AV → Heap → Res) → AV → AV → AV → AV → AV → AV → AV → AV → AV → AV → AV → AV → AV → AV → AV → Heap → Res) (hS : ∀ k : K, S (fun x0 x1 x2 x3 x4 x5 x6 x7 x8 x9 x10 x11 x12 x13 x14 h => k (mkE [(t0, x0), (t1, x1), (t2, x2), (t3, x3), (t4, x4), (t5, x5), (t6, x6), (t7, x7), (t8, x8), (t9, x9), (t10, x10), (t11, x11), (t12, x12), (t13, x13), (t14, x14)]) h) = fun x0 x1 x2 x3 x4 x5 x6 x7 x8 x9 x10 x11 x12 x13 x14 h => F k (mkE [(t0, x0), (t1, x1), (t2, x2), (t3, x3), (t4, x4), (t5, x5), (t6, x6), (t7, x7), (t8, x8), (t9, x9), (t10, x10), (t11, x11), (t12, x12), (t13, x13), (t14, x14)]) h) (n : Nat) : lp b15 S n = fun x0 x1 x2 x3 x4 x5 x6 x7 x8 x9 x10 x11 x12 x13 x14 h => loopK F n (mkE [(t0, x0), (t1, x1), (t2, x2), (t3, x3), (t4, x4), (t5, x5), (t6, x6), (t7, x7), (t8, x8), (t9, x9), (t10, x10), (t11, x11), (t12, x12), (t13, x13), (t14, x14)]) h := by
  induction n with
  | zero => rfl
  | succ n ih => rw [lp_succ, ih]; exact hS (loopK F n)
def b16 : AV → AV → AV → AV → AV → AV → AV → AV → AV → AV → AV → AV → AV → AV → AV → AV → Heap → Res := fun _ _ _ _ _ _ _ _ _ _ _ _ _ _ _ _ _ => none
theorem lp16_eq (t0 t1 t2 t3 t4 t5 t6 t7 t8 t9 t10 t11 t12 t13 t14 t15 : Nat) (F : K → K) (S : (AV → AV → AV → AV → AV → AV → AV → AV → AV → AV → AV → AV → AV → AV → AV → AV → Heap → Res) → AV → AV → AV → AV → AV → AV → AV → AV → AV → AV → AV → AV → AV → AV → AV → AV → Heap → Res) (hS : ∀ k : K, S (fun x0 x1 x2 x3 x4 x5 x6 x7 x8 x9 x10 x11 x12 x13 x14 x15 h => k (mkE [(t0, x0), (t1, x1), (t2, x2), (t3, x3), (t4, x4), (t5, x5), (t6, x6), (t7, x7), (t8, x8), (t9, x9), (t10, x10), (t11, x11), (t12, x12), (t13, x13), (t14, x14), (t15, x15)]) h) = fun x0 x1 x2 x3 x4 x5 x6 x7 x8 x9 x10 x11 x12 x13 x14 x15 h => F k (mkE [(t0, x0), (t1, x1), (t2, x2), (t3, x3), (t4, x4), (t5, x5), (t6, x6), (t7, x7), (t8, x8), (t9, x9), (t10, x10), (t11, x11), (t12, x12), (t13, x13), (t14, x14), (t15, x15)]) h) (n : Nat) : lp b16 S n = fun x0 x1 x2 x3 x4 x5 x6 x7 x8 x9 x10 x11 x12 x13 x14 x15 h => loopK F n (mkE [(t0, x0), (t1, x1), (t2, x2), (t3, x3), (t4, x4), (t5, x5), (t6, x6), (t7, x7), (t8, x8), (t9, x9), (t10, x10), (t11, x11), (t12, x12), (t13, x13), (t14, x14), (t15, x15)]) h := by
  induction n with
  | zero => rfl
  | succ n ih => rw [lp_succ, ih]; exact hS (loopK F n)
def b17 : AV → AV → AV → AV → AV → AV → AV → AV → AV → AV → AV → AV → AV → AV → AV → AV → AV → Heap → Res := fun _ _ _ _ _ _ _ _ _ _ _ _ _ _ _ _ _ _ => none
theorem lp17_eq (t0 t1 t2 t3 t4 t5 t6 t7 t8 t9 t10 t11 t12 t13 t14 t15 t16 : Nat) (F : K → K) (S : (AV → AV → AV → AV → AV → AV → AV → AV → AV → AV → AV → AV → AV → AV → AV → AV → AV → Heap → Res) → AV → AV → AV → AV → AV → AV → AV → AV → AV → AV → AV → AV → AV → AV → AV → AV → AV → Heap → Res) (hS : ∀ k : K, S (fun x0 x1 x2 x3 x4 x5 x6 x7 x8 x9 x10 x11 x12 x13 x14 x15 x16 h => k (mkE [(t0, x0), (t1, x1), (t2, x2), (t3, x3), (t4, x4), (t5, x5), (t6, x6), (t7, x7), (t8, x8), (t9, x9), (t10, x10), (t11, x11), (t12, x12), (t13, x13), (t14, x14), (t15, x15), (t16, x16)]) h) = fun x0 x1 x2 x3 x4 x5 x6 x7 x8 x9 x10 x11 x12 x13 x14 x15 x16 h => F k (mkE [(t0, x0), (t1, x1), (t2, x2), (t3, x3), (t4, x4), (t5, x5), (t6, x6), (t7, x7), (t8, x8), (t9, x9), (t10, x10), (t11, x11), (t12, x12), (t13, x13), (t14, x14), (t15, x15), (t16, x16)]) h) (n : Nat) : lp b17 S n = fun x0 x1 x2 x3 x4 x5 x6 x7 x8 x9 x10 x11 x12 x13 x14 x15 x16 h => loopK F n (mkE [(t0, x0), (t1, x1), (t2, x2), (t3, x3), (t4, x4), (t5, x5), (t6, x6), (t7, x7), (t8, x8), (t9, x9), (t10, x10), (t11, x11), (t12, x12), (t13, x13), (t14, x14), (t15, x15), (t16, x16)]) h := by
  induction n with
  | zero => rfl
  | succ n ih => rw [lp_succ, ih]; exact hS (loopK F n)
def b18 : AV → AV → AV → AV → AV → AV → AV → AV → AV → AV → AV → AV → AV → AV → AV → AV → AV → AV → Heap → Res := fun _ _ _ _ _ _ _ _ _ _ _ _ _ _ _ _ _ _ _ => none
theorem lp18_eq (t0 t1 t2 t3 t4 t5 t6 t7 t8 t9 t10 t11 t12 t13 t14 t15 t16 t17 : Nat) (F : K → K) (S : (AV → AV → AV → AV → AV → AV → AV → AV → AV → AV → AV → AV → AV → AV → AV → AV → AV → AV → Heap → Res) → AV → AV → AV → AV → AV → AV → AV → AV → AV → AV → AV → AV → AV → AV → AV → AV → AV → AV → Heap → Res) (hS : ∀ k : K, S (fun x0 x1 x2 x3 x4 x5 x6 x7 x8 x9 x10 x11 x12 x13 x14 x15 x16 x17 h => k (mkE [(t0, x0), (t1, x1), (t2, x2), (t3, x3), (t4, x4), (t5, x5), (t6, x6), (t7, x7), (t8, x8), (t9, x9), (t10, x10), (t11, x11), (t12, x12), (t13, x13), (t14, x14), (t15, x15), (t16, x16), (t17, x17)]) h) = fun x0 x1 x2 x3 x4 x5 x6 x7 x8 x9 x10 x11 x12 x13 x14 x15 x16 x17 h => F k (mkE [(t0, x0), (t1, x1), (t2, x2), (t3, x3), (t4, x4), (t5, x5), (t6, x6), (t7, x7), (t8, x8), (t9, x9), (t10, x10), (t11, x11), (t12, x12), (t13, x13), (t14, x14), (t15, x15), (t16, x16), (t17, x17)]) h) (n : Nat) : lp b18 S n = fun x0 x1 x2 x3 x4 x5 x6 x7 x8 x9 x10 x11 x12 x13 x14 x15 x16 x17 h => loopK F n (mkE [(t0, x0), (t1, x1), (t2, x2), (t3, x3), (t4, x4), (t5, x5), (t6, x6), (t7, x7), (t8, x8), (t9, x9), (t10, x10), (t11, x11), (t12, x12), (t13, x13), (t14, x14), (t15, x15), (t16, x16), (t17, x17)]) h := by
  induction n with
  | zero => rfl
  | succ n ih => rw [lp_succ, ih]; exact hS (loopK F n)
def b19 : AV → AV → AV → AV → AV → AV → AV → AV → AV → AV → AV → AV → AV → AV → AV → AV → AV → AV → AV → Heap → Res := fun _ _ _ _ _ _ _ _ _ _ _ _ _ _ _ _ _ _ _ _ => none
theorem lp19_eq (t0 t1 t2 t3 t4 t5 t6 t7 t8 t9 t10 t11 t12 t13 t14 t15 t16 t17 t18 : Nat) (F : K → K) (S : (AV → AV → AV → AV → AV → AV → AV → AV → AV → AV → AV → AV → AV → AV → AV → AV → AV → AV → AV → Heap → Res) → AV → AV → AV → AV → AV → AV → AV → AV → AV → AV → AV → AV → AV → AV → AV → AV → AV → AV → AV → Heap → Res) (hS : ∀ k : K, S (fun x0 x1 x2 x3 x4 x5 x6 x7 x8 x9 x10 x11 x12 x13 x14 x15 x16 x17 x18 h => k (mkE [(t0, x0), (t1, x1), (t2, x2), (t3, x3), (t4, x4), (t5, x5), (t6, x6), (t7, x7), (t8, x8), (t9, x9), (t10, x10), (t11, x11), (t12, x12), (t13, x13), (t14, x14), (t15, x15), (t16, x16), (t17, x17), (t18, x18)]) h) = fun x0 x1 x2 x3 x4 x5 x6 x7 x8 x9 x10 x11 x12 x13 x14 x15 x16 x17 x18 h => F k (mkE [(t0, x0), (t1, x1), (t2, x2), (t3, x3), (t4, x4), (t5, x5), (t6, x6), (t7, x7), (t8, x8), (t9, x9), (t10, x10), (t11, x11), (t12, x12), (t13, x13), (t14, x14), (t15, x15), (t16, x16), (t17, x17), (t18, x18)]) h) (n : Nat) : lp b19 S n = fun x0 x1 x2 x3 x4 x5 x6 x7 x8 x9 x10 x11 x12 x13 x14 x15 x16 x17 x18 h => loopK F n (mkE [(t0, x0), (t1, x1), (t2, x2), (t3, x3), (t4, x4), (t5, x5), (t6, x6), (t7, x7), (t8, x8), (t9, x9), (t10, x10), (t11, x11), (t12, x12), (t13, x13), (t14, x14), (t15, x15), (t16, x16), (t17, x17), (t18, x18)]) h := by
  induction n with
  | zero => rfl
  | succ n ih => rw [lp_succ, ih]; exact hS (loopK F n)
def b20 : AV → AV → AV → AV → AV → AV → AV → AV → AV → AV → AV → AV → AV → AV → AV → AV → AV → AV → AV → AV → Heap → Res := fun _ _ _ _ _ _ _ _ _ _ _ _ _ _ _ _ _ _ _ _ _ => none
theorem lp20_eq (t0 t1 t2 t3 t4 t5 t6 t7 t8 t9 t10 t11 t12 t13 t14 t15 t16 t17 t18 t19 : Nat) (F : K → K) (S : (AV → AV → AV → AV → AV → AV → AV → AV → AV → AV → AV → AV → AV → AV → AV → AV → AV → AV → AV → AV → Heap → Res) → AV → AV → AV → AV → AV → AV → AV → AV → AV → AV → AV → AV → AV → AV → AV → AV → AV → AV → AV → AV → Heap → Res) (hS : ∀ k : K, S (fun x0 x1 x2 x3 x4 x5 x6 x7 x8 x9 x10 x11 x12 x13 x14 x15 x16 x17 x18 x19 h => k (mkE [(t0, x0), (t1, x1), (t2, x2), (t3, x3), (t4, x4), (t5, x5), (t6, x6), (t7, x7), (t8, x8), (t9, x9), (t10, x10), (t11, x11), (t12, x12), (t13, x13), (t14, x14), (t15, x15), (t16, x16), (t17, x17), (t18, x18), (t19, x19)]) h) = fun x0 x1 x2 x3 x4 x5 x6 x7 x8 x9 x10 x11 x12 x13 x14 x15 x16 x17 x18 x19 h => F k (mkE [(t0, x0), (t1, x1), (t2, x2), (t3, x3), (t4, x4), (t5, x5), (t6, x6), (t7, x7), (t8, x8), (t9, x9), (t10, x10), (t11, x11), (t12, x12), (t13, x13), (t14, x14), (t15, x15), (t16, x16), (t17, x17), (t18, x18), (t19, x19)]) h) (n : Nat) : lp b20 S n = fun x0 x1 x2 x3 x4 x5 x6 x7 x8 x9 x10 x11 x12 x13 x14 x15 x16 x17 x18 x19 h => loopK F n (mkE [(t0, x0), (t1, x1), (t2, x2), (t3, x3), (t4, x4), (t5, x5), (t6, x6), (t7, x7), (t8, x8), (t9, x9), (t10, x10), (t11, x11), (t12, x12), (t13, x13), (t14, x14), (t15, x15), (t16, x16), (t17, x17), (t18, x18), (t19, x19)]) h := by
  induction n with
  | zero => rfl
  | succ n ih => rw [lp_succ, ih]; exact hS (loopK F n)
def b21 : AV → AV → AV → AV → AV → AV → AV → AV → AV → AV → AV → AV → AV → AV → AV → AV → AV → AV → AV → AV → AV → Heap → Res := fun _ _ _ _ _ _ _ _ _ _ _ _ _ _ _ _ _ _ _ _ _ _ => none
theorem lp21_eq (t0 t1 t2 t3 t4 t5 t6 t7 t8 t9 t10 t11 t12 t13 t14 t15 t16 t17 t18 t19 t20 : Nat) (F : K → K) (S : (AV → AV → AV → AV → AV → AV → AV → AV → AV → AV → AV → AV → AV → AV → AV → AV → AV → AV → AV → AV → AV → Heap → Res) → AV → AV → AV → AV → AV → AV → AV → AV → AV → AV → AV → AV → AV → AV → AV → AV → AV → AV → AV → AV → AV → Heap → Res) (hS : ∀ k : K, S (fun x0 x1 x2 x3 x4 x5 x6 x7 x8 x9 x10 x11 x12 x13 x14 x15 x16 x17 x18 x19 x20 h => k (mkE [(t0, x0), (t1, x1), (t2, x2), (t3, x3), (t4, x4), (t5, x5), (t6, x6), (t7, x7), (t8, x8), (t9, x9), (t10, x10), (t11, x11), (t12, x12), (t13, x13), (t14, x14), (t15, x15), (t16, x16), (t17, x17), (t18, x18), (t19, x19), (t20, x20)]) h) = fun x0 x1 x2 x3 x4 x5 x6 x7 x8 x9 x10 x11 x12 x13 x14 x15 x16 x17 x18 x19 x20 h => F k (mkE [(t0, x0), (t1, x1), (t2, x2), (t3, x3), (t4, x4), (t5, x5), (t6, x6), (t7, x7), (t8, x8), (t9, x9), (t10, x10), (t11, x11), (t12, x12), (t13, x13), (t14, x14), (t15, x15), (t16, x16), (t17, x17), (t18, x18), (t19, x19), (t20, x20)]) h) (n : Nat) : lp b21 S n = fun x0 x1 x2 x3 x4 x5 x6 x7 x8 x9 x10 x11 x12 x13 x14 x15 x16 x17 x18 x19 x20 h => loopK F n (mkE [(t0, x0), (t1, x1), (t2, x2), (t3, x3), (t4, x4), (t5, x5), (t6, x6), (t7, x7), (t8, x8), (t9, x9), (t10, x10), (t11, x11), (t12, x12), (t13, x13), (t14, x14), (t15, x15), (t16, x16), (t17, x17), (t18, x18), (t19, x19), (t20, x20)]) h := by
  induction n with
  | zero => rfl
  | succ n ih => rw [lp_succ, ih]; exact hS (loopK F n)
def b22 : AV → AV → AV → AV → AV → AV → AV → AV → AV → AV → AV → AV → AV → AV → AV → AV → AV → AV → AV → AV → AV → AV → Heap → Res := fun _ _ _ _ _ _ _ _ _ _ _ _ _ _ _ _ _ _ _ _ _ _ _ => none
theorem lp22_eq (t0 t1 t2 t3 t4 t5 t6 t7 t8 t9 t10 t11 t12 t13 t14 t15 t16 t17 t18 t19 t20 t21 : Nat) (F : K → K) (S : (AV → AV → AV → AV → AV → AV → AV → AV → AV → AV → AV → AV → AV → AV → AV → AV → AV → AV → AV → AV → AV → AV → Heap → Res) → AV → AV → AV → AV → AV → AV → AV → AV → AV → AV → AV → AV → AV → AV → AV → AV → AV → AV → AV → AV → AV → AV → Heap → Res) (hS : ∀ k : K, S (fun x0 x1 x2 x3 x4 x5 x6 x7 x8 x9 x10 x11 x12 x13 x14 x15 x16 x17 x18 x19 x20 x21 h => k (mkE [(t0, x0), (t1, x1), (t2, x2), (t3, x3), (t4, x4), (t5, x5), (t6, x6), (t7, x7), (t8, x8), (t9, x9), (t10, x10), (t11, x11), (t12, x12), (t13, x13), (t14, x14), (t15, x15), (t16, x16), (t17, x17), (t18, x18), (t19, x19), (t20, x20), (t21, x21)]) h) = fun x0 x1 x2 x3 x4 x5 x6 x7 x8 x9 x10 x11 x12 x13 x14 x15 x16 x17 x18 x19 x20 x21 h => F k (mkE [(t0, x0), (t1, x1), (t2, x2), (t3, x3), (t4, x4), (t5, x5), (t6, x6), (t7, x7), (t8, x8), (t9, x9), (t10, x10), (t11, x11), (t12, x12), (t13, x13), (t14, x14), (t15, x15), (t16, x16), (t17, x17), (t18, x18), (t19, x19), (t20, x20), (t21, x21)]) h) (n : Nat) : lp b22 S n = fun x0 x1 x2 x3 x4 x5 x6 x7 x8 x9 x10 x11 x12 x13 x14 x15 x16 x17 x18 x19 x20 x21 h => loopK F n (mkE [(t0, x0), (t1, x1), (t2, x2), (t3, x3), (t4, x4), (t5, x5), (t6, x6), (t7, x7), (t8, x8), (t9, x9), (t10, x10), (t11, x11), (t12, x12), (t13, x13), (t14, x14), (t15, x15), (t16, x16), (t17, x17), (t18, x18), (t19, x19), (t20, x20), (t21, x21)]) h := by
  induction n with
  | zero => rfl
  | succ n ih => rw [lp_succ, ih]; exact hS (loopK F n)
def b23 : AV → AV → AV → AV → AV → AV → AV → AV → AV → AV → AV → AV → AV → AV → AV → AV → AV → AV → AV → AV → AV → AV → AV → Heap → Res := fun _ _ _ _ _ _ _ _ _ _ _ _ _ _ _ _ _ _ _ _ _ _ _ _ => none
theorem lp23_eq (t0 t1 t2 t3 t4 t5 t6 t7 t8 t9 t10 t11 t12 t13 t14 t15 t16 t17 t18 t19 t20 t21 t22 : Nat) (F : K → K) (S : (AV → AV → AV → AV → AV → AV → AV → AV → AV → AV → AV → AV → AV → AV → AV → AV → AV → AV → AV → AV → AV → AV → AV → Heap → Res) → AV → AV → AV → AV → AV → AV → AV → AV → AV → AV → AV → AV → AV → AV → AV → AV → AV → AV → AV → AV → AV → AV → AV → Heap → Res) (hS : ∀ k : K, S (fun x0 x1 x2 x3 x4 x5 x6 x7 x8 x9 x10 x11 x12 x13 x14 x15 x16 x17 x18 x19 x20 x21 x22 h => k (mkE [(t0, x0), (t1, x1), (t2, x2), (t3, x3), (t4, x4), (t5, x5), (t6, x6), (t7, x7), (t8, x8), (t9, x9), (t10, x10), (t11, x11), (t12, x12), (t13, x13), (t14, x14), (t15, x15), (t16, x16), (t17, x17), (t18, x18), (t19, x19), (t20, x20), (t21, x21), (t22, x22)]) h) = fun x0 x1 x2 x3 x4 x5 x6 x7 x8 x9 x10 x11 x12 x13 x14 x15 x16 x17 x18 x19 x20 x21 x22 h => F k (mkE [(t0, x0), (t1, x1), (t2, x2), (t3, x3), (t4, x4), (t5, x5), (t6, x6), (t7, x7), (t8, x8), (t9, x9), (t10, x10), (t11, x11), (t12, x12), (t13, x13), (t14, x14), (t15, x15), (t16, x16), (t17, x17), (t18, x18), (t19, x19), (t20, x20), (t21, x21), (t22, x22)]) h) (n : Nat) : lp b23 S n = fun x0 x1 x2 x3 x4 x5 x6 x7 x8 x9 x10 x11 x12 x13 x14 x15 x16 x17 x18 x19 x20 x21 x22 h => loopK F n (mkE [(t0, x0), (t1, x1), (t2, x2), (t3, x3), (t4, x4), (t5, x5), (t6, x6), (t7, x7), (t8, x8), (t9, x9), (t10, x10), (t11, x11), (t12, x12), (t13, x13), (t14, x14), (t15, x15), (t16, x16), (t17, x17), (t18, x18), (t19, x19), (t20, x20), (t21, x21), (t22, x22)]) h := by
  induction n with
  | zero => rfl
  | succ n ih => rw [lp_succ, ih]; exact hS (loopK F n)
def b24 : AV → AV → AV → AV → AV → AV → AV → AV → AV → AV → AV → AV → AV → AV → AV → AV → AV → AV → AV → AV → AV → AV → AV → AV → Heap → Res := fun _ _ _ _ _ _ _ _ _ _ _ _ _ _ _ _ _ _ _ _ _ _ _ _ _ => none
theorem lp24_eq (t0 t1 t2 t3 t4 t5 t6 t7 t8 t9 t10 t11 t12 t13 t14 t15 t16 t17 t18 t19 t20 t21 t22 t23 : Nat) (F : K → K) (S : (AV → AV → AV → AV → AV → AV → AV → AV → AV → AV → AV → AV → AV → AV → AV → AV → AV → AV → AV → AV → AV → AV → AV → AV → Heap → Res) → AV → AV → AV → AV → AV → AV → AV → AV → AV → AV → AV → AV → AV → AV → AV → AV → AV → AV → AV → AV → AV → AV → AV → AV → Heap → Res) (hS : ∀ k : K, S (fun x0 x1 x2 x3 x4 x5 x6 x7 x8 x9 x10 x11 x12 x13 x14 x15 x16 x17 x18 x19 x20 x21 x22 x23 h => k (mkE [(t0, x0), (t1, x1), (t2, x2), (t3, x3), (t4, x4), (t5, x5), (t6, x6), (t7, x7), (t8, x8), (t9, x9), (t10, x10), (t11, x11), (t12, x12), (t13, x13), (t14, x14), (t15, x15), (t16, x16), (t17, x17), (t18, x18), (t19, x19), (t20, x20), (t21, x21), (t22, x22), (t23, x23)]) h) = fun x0 x1 x2 x3 x4 x5 x6 x7 x8 x9 x10 x11 x12 x13 x14 x15 x16 x17 x18 x19 x20 x21 x22 x23 h => F k (mkE [(t0, x0), (t1, x1), (t2, x2), (t3, x3), (t4, x4), (t5, x5), (t6, x6), (t7, x7), (t8, x8), (t9, x9), (t10, x10), (t11, x11), (t12, x12), (t13, x13), (t14, x14), (t15, x15), (t16, x16), (t17, x17), (t18, x18), (t19, x19), (t20, x20), (t21, x21), (t22, x22), (t23, x23)]) h) (n : Nat) : lp b24 S n = fun x0 x1 x2 x3 x4 x5 x6 x7 x8 x9 x10 x11 x12 x13 x14 x15 x16 x17 x18 x19 x20 x21 x22 x23 h => loopK F n (mkE [(t0, x0), (t1, x1), (t2, x2), (t3, x3), (t4, x4), (t5, x5), (t6, x6), (t7, x7), (t8, x8), (t9, x9), (t10, x10), (t11, x11), (t12, x12), (t13, x13), (t14, x14), (t15, x15), (t16, x16), (t17, x17), (t18, x18), (t19, x19), (t20, x20), (t21, x21), (t22, x22), (t23, x23)]) h := by
  induction n with
  | zero => rfl
  | succ n ih => rw [lp_succ, ih]; exact hS (loopK F n)
def b25 : AV → AV → AV → AV → AV → AV → AV → AV → AV → AV → AV → AV → AV → AV → AV → AV → AV → AV → AV → AV → AV → AV → AV → AV → AV → Heap → Res := fun _ _ _ _ _ _ _ _ _ _ _ _ _ _ _ _ _ _ _ _ _ _ _ _ _ _ => none
theorem lp25_eq (t0 t1 t2 t3 t4 t5 t6 t7 t8 t9 t10 t11 t12 t13 t14 t15 t16 t17 t18 t19 t20 t21 t22 t23 t24 : Nat) (F : K → K) (S : (AV → AV → AV → AV → AV → AV → AV → AV → AV → AV → AV → AV → AV → AV → AV → AV → AV → AV → AV → AV → AV → AV → AV → AV → AV → Heap → Res) → AV → AV → AV → AV → AV → AV → AV → AV → AV → AV → AV → AV → AV → AV → AV → AV → AV → AV → AV → AV → AV → AV → AV → AV → AV → Heap → Res) (hS : ∀ k : K, S (fun x0 x1 x2 x3 x4 x5 x6 x7 x8 x9 x10 x11 x12 x13 x14 x15 x16 x17 x18 x19 x20 x21 x22 x23 x24 h => k (mkE [(t0, x0), (t1, x1), (t2, x2), (t3, x3), (t4, x4), (t5, x5), (t6, x6), (t7, x7), (t8, x8), (t9, x9), (t10, x10), (t11, x11), (t12, x12), (t13, x13), (t14, x14), (t15, x15), (t16, x16), (t17, x17), (t18, x18), (t19, x19), (t20, x20), (t21, x21), (t22, x22), (t23, x23), (t24, x24)]) h) = fun x0 x1 x2 x3 x4 x5 x6 x7 x8 x9 x10 x11 x12 x13 x14 x15 x16 x17 x18 x19 x20 x21 x22 x23 x24 h => F k (mkE [(t0, x0), (t1, x1), (t2, x2), (t3, x3), (t4, x4), (t5, x5), (t6, x6), (t7, x7), (t8, x8), (t9, x9), (t10, x10), (t11, x11), (t12, x12), (t13, x13), (t14, x14), (t15, x15), (t16, x16), (t17, x17), (t18, x18), (t19, x19), (t20, x20), (t21, x21), (t22, x22), (t23, x23), (t24, x24)]) h) (n : Nat) : lp b25 S n = fun x0 x1 x2 x3 x4 x5 x6 x7 x8 x9 x10 x11 x12 x13 x14 x15 x16 x17 x18 x19 x20 x21 x22 x23 x24 h => loopK F n (mkE [(t0, x0), (t1, x1), (t2, x2), (t3, x3), (t4, x4), (t5, x5), (t6, x6), (t7, x7), (t8, x8), (t9, x9), (t10, x10), (t11, x11), (t12, x12), (t13, x13), (t14, x14), (t15, x15), (t16, x16), (t17, x17), (t18, x18), (t19, x19), (t20, x20), (t21, x21), (t22, x22), (t23, x23), (t24, x24)]) h := by
  induction n with
  | zero => rfl
  | succ n ih => rw [lp_succ, ih]; exact hS (loopK F n)

/-! The same in pieces: what stands behind branches that meet, and a loop's body, is asked for elsewhere. -/
abbrev RT := Code → Bool → Nat → (Nat → Nat) → K → (Nat → K) → K → K
def exitCnt (id : Nat) : Code → Nat := Code.rec (motive := fun _ => Nat) 0 (fun _ _ _ => 0) (fun _ _ ia ib => Nat.add ia ib) (fun _ _ _ ia ib => Nat.add ia ib) (fun _ _ ic => ic) (fun _ ic => ic) (fun _ _ _ _ ia ib => Nat.add ia ib) (fun i => sel (Nat.beq i id) 1 0) (fun _ ic => ic) (fun _ => 0) (fun _ => 0) 0 (fun _ => 0)
def leafCnt : Code → Nat := Code.rec (motive := fun _ => Nat) 1 (fun _ _ _ => 1) (fun _ _ ia ib => sel (Nat.beq ia 0) 0 ib) (fun _ _ _ ia ib => Nat.add ia ib) (fun id c ic => Nat.add ic (exitCnt id c)) (fun _ _ => 0) (fun _ _ _ _ _ _ => 1) (fun _ => 0) (fun _ _ => 0) (fun _ => 1) (fun _ => 0) 0 (fun _ => 0)
def hasLoop : Code → Bool := Code.rec (motive := fun _ => Bool) false (fun _ _ _ => false) (fun _ _ ia ib => sel ia true ib) (fun _ _ _ ia ib => sel ia true ib) (fun _ _ ic => ic) (fun _ _ => true) (fun _ _ _ _ _ _ => true) (fun _ => false) (fun _ _ => false) (fun _ => false) (fun _ => false) false (fun _ => false)
def guardCnt : List Oper → Nat := List.rec (motive := fun _ => Nat) 0 (fun o _ ih => Option.rec (motive := fun _ => Nat) ih (fun _ => Nat.succ ih) o.guard)
/-- does a region of many guards come first? -/
def bigGuard : Code → Bool := Code.rec (motive := fun _ => Bool) false (fun _ ops _ => Nat.ble 3 (guardCnt ops.toList)) (fun _ _ ia _ => ia) (fun _ _ _ _ _ => false) (fun _ _ ic => ic) (fun _ _ => false) (fun _ _ _ _ _ _ => false) (fun _ => false) (fun _ _ => false) (fun _ => false) (fun _ => false) false (fun _ => false)
def inlOk (a : Code) (na : Bool) : Bool := sel (straight a) true (sel (Nat.ble (leafCnt a) 1) (sel (hasLoop a) false (xnot na)) false)
def needsLift : Code → Bool := Code.rec (motive := fun _ => Bool) false (fun _ _ _ => false) (fun a b ia ib => sel (bigGuard b) true (sel (inlOk a ia) (sel ia true ib) true)) (fun _ _ _ ia ib => sel ia true ib) (fun _ _ ic => ic) (fun _ _ => false) (fun _ _ _ _ _ _ => false) (fun _ => false) (fun _ _ => false) (fun _ => false) (fun _ => false) false (fun _ => false)
def inl (a b : Code) : Bool := sel (bigGuard b) false (inlOk a (needsLift a))
def runS (R : RT) (P : Program) (G : Nat) (C : Nat → Fwd) (E : Ev) (N L : Nat) (rd : Option Nat) (rm : Nat) : Code → Nat → (Nat → Nat) → K → (Nat → K) → K → K := Code.rec (motive := fun _ => Nat → (Nat → Nat) → K → (Nat → K) → K → K)
  (fun lv _ kn _ _ e h => kn (cut lv e) h)
  (fun _ ops draw lv _ kn _ _ e h => regionA P G C E N ops draw e h fun e' h' => kn (cut lv e') h')
  (fun a b ia ib lv lx kn kx kr e h => ia (liveIn rm b lv lx) lx (sel (inl a b) (ib lv lx kn kx kr) (R b true lv lx kn kx kr)) kx kr e h)
  (fun c _ _ ia ib lv lx kn kx kr e h => obM (opdF c G e) fun v => pIf v (ia lv lx kn kx kr e h) (ib lv lx kn kx kr e h))
  (fun id _ ic lv lx kn kx kr e h => ic lv (fun i => sel (Nat.beq i id) lv (lx i)) kn (fun i => sel (Nat.beq i id) kn (kx i)) kr e h)
  (fun c _ _ lx _ kx kr e h => loopK (fun k => R c true (liveIn rm c 0 lx) lx k kx kr) L (cut (liveIn rm c 0 lx) e) h)
  (fun g ps assign body _ _ lv lx kn kx kr e h => rangeA P G C E N rd g ps assign body (kn (cut lv (cut (liveIn rm (.rangeFunc g ps assign body) lv lx) e))) (fun i => exitsK kx lx (exitsOf body) i (cut (liveIn rm (.rangeFunc g ps assign body) lv lx) e)) (kr (cut rm (cut (liveIn rm (.rangeFunc g ps assign body) lv lx) e))) (cut (liveIn rm (.rangeFunc g ps assign body) lv lx) e) h)
  (fun i _ lx _ kx _ e h => kx i (cut (lx i) e) h)
  (fun _ _ _ _ _ _ _ _ _ => none)
  (fun _ lv _ kn _ _ e h => kn (cut lv e) h)
  (fun _ _ _ _ _ _ _ _ => none)
  (fun _ _ _ _ kr e h => kr (cut rm e) h)
  (fun _ _ _ _ _ _ _ _ => none)
theorem runR_unf {P : Program} {G : Nat} {C : Nat → Fwd} {E : Ev} {N L : Nat} {rd : Option Nat} {rm : Nat} : ∀ (c : Code) (lv : Nat) (lx : Nat → Nat) (kn : K) (kx : Nat → K) (kr : K) (e : Env) (h : Heap),
    runR P G C E N L rd rm c true lv lx kn kx kr e h = runS (runR P G C E N L rd rm) P G C E N L rd rm c lv lx kn kx kr e h := by
  intro c
  induction c with
  | seq a b iha ihb =>
    intro lv lx kn kx kr e h
    refine (iha (liveIn rm b lv lx) lx (runR P G C E N L rd rm b true lv lx kn kx kr) kx kr e h).trans ?_
    have : runR P G C E N L rd rm b true lv lx kn kx kr = sel (inl a b) (runS (runR P G C E N L rd rm) P G C E N L rd rm b lv lx kn kx kr) (runR P G C E N L rd rm b true lv lx kn kx kr) := by
      cases inl a b with
      | false => rfl
      | true => funext e h; exact ihb lv lx kn kx kr e h
    exact congrArg (fun k => runS (runR P G C E N L rd rm) P G C E N L rd rm a (liveIn rm b lv lx) lx k kx kr e h) this
  | cond c a b iha ihb =>
    intro lv lx kn kx kr e h
    show (ob (opdF c G e) fun v => pIf v (runR P G C E N L rd rm a true lv lx kn kx kr e h) (runR P G C E N L rd rm b true lv lx kn kx kr e h)) = _
    rw [iha, ihb]
    rfl
  | block id c ih => intro lv lx kn kx kr e h; exact ih lv _ kn _ kr e h
  | _ => intro lv lx kn kx kr e h; rfl

/-- a function's place in the table -/
def tabOf (P : Program) : Tri Func := Tri.putRow P.funcs.toList .lf 0
theorem tabOf_at (P : Program) {f : Nat} {fn : Func} (h : (tabOf P).at f = some fn) : P.funcs[f]? = some fn := by
  unfold tabOf at h
  rw [Tri.at_putRow] at h
  split at h
  · simpa using h
  · cases h
theorem tabOf_fn (P : Program) {f : Nat} (h : Nat.blt f P.funcs.size = true) : (tabOf P).at f = some (fnAt P f) := by
  have h : f + 1 ≤ P.funcs.size := Nat.le_of_ble_eq_true h
  unfold tabOf fnAt
  rw [Tri.at_putRow, if_pos ⟨Nat.zero_le _, by simp only [Array.length_toList]; omega⟩]
  simp only [Nat.sub_zero, Array.getElem?_toList]
  rw [Array.getElem?_eq_getElem (by omega)]
theorem bodyR_unf {P : Program} {G : Nat} {C : Nat → Fwd} {E : Ev} {L : Nat} {fn : Func} {c : Code} (hc : fn.body = some c) {args : List AV} (hn : Nat.ble args.length fn.ntmps = true) {h : Heap} :
    xbodyR P G C E L fn args h = runS (runR P G C E fn.ntmps L none (resBits fn.results.toList)) P G C E fn.ntmps L none (resBits fn.results.toList) c (resBits fn.results.toList) (fun _ => 0) (xret P fn) noK (xret P fn) (cut (liveIn (resBits fn.results.toList) c (resBits fn.results.toList) (fun _ => 0)) (Tri.putRow args .lf 0)) h := by
  unfold xbodyR
  rw [hc]
  show sel (Nat.ble args.length fn.ntmps) _ none = _
  rw [hn, sel_true]
  exact runR_unf _ _ _ _ _ _ _ _
/-- a function's shallow text tells what it comes to -/
theorem ev_of_shallow {P : Program} {G : Nat} {C : Nat → Fwd} {L f : Nat} {M : Memo} {args : List AV} {h : Heap} {r : AV × Heap} {s : Res} (hf : Nat.blt f P.funcs.size = true) (hm : M f args h = none)
    (he : xbodyR P G C (ev P (tabOf P) G C L M) L (fnAt P f) args h = s) (hs : s = some r) : ev P (tabOf P) G C L M (.fn f) args h = some r :=
  ev_fn P (tabOf P) G C L M (tabOf_fn P hf) hm (he.trans hs)
end
end Go.Th

namespace Go.Th
noncomputable section
abbrev Sh := Ev → List AV → Heap → Res
def ap0 (s : Ev → Heap → Res) : Sh := fun E args h => match args with | [] => s E h | _ => none
theorem ap0_ok {P : Program} {G : Nat} {C : Nat → Fwd} {L : Nat} {fn : Func} {s : Ev → Heap → Res} (hs : ∀ E h, xbodyR P G C E L fn [] h = s E h) (E : Ev) (args : List AV) (h : Heap) (r : AV × Heap) (hx : ap0 s E args h = some r) : xbodyR P G C E L fn args h = some r := by
  unfold ap0 at hx
  split at hx
  · rw [hs]; exact hx
  · cases hx
def ap1 (s : Ev → AV → Heap → Res) : Sh := fun E args h => match args with | [x0] => s E x0 h | _ => none
theorem ap1_ok {P : Program} {G : Nat} {C : Nat → Fwd} {L : Nat} {fn : Func} {s : Ev → AV → Heap → Res} (hs : ∀ E x0 h, xbodyR P G C E L fn [x0] h = s E x0 h) (E : Ev) (args : List AV) (h : Heap) (r : AV × Heap) (hx : ap1 s E args h = some r) : xbodyR P G C E L fn args h = some r := by
  unfold ap1 at hx
  split at hx
  · rw [hs]; exact hx
  · cases hx
def ap2 (s : Ev → AV → AV → Heap → Res) : Sh := fun E args h => match args with | [x0, x1] => s E x0 x1 h | _ => none
theorem ap2_ok {P : Program} {G : Nat} {C : Nat → Fwd} {L : Nat} {fn : Func} {s : Ev → AV → AV → Heap → Res} (hs : ∀ E x0 x1 h, xbodyR P G C E L fn [x0, x1] h = s E x0 x1 h) (E : Ev) (args : List AV) (h : Heap) (r : AV × Heap) (hx : ap2 s E args h = some r) : xbodyR P G C E L fn args h = some r := by
  unfold ap2 at hx
  split at hx
  · rw [hs]; exact hx
  · cases hx
def ap3 (s : Ev → AV → AV → AV → Heap → Res) : Sh := fun E args h => match args with | [x0, x1, x2] => s E x0 x1 x2 h | _ => none
theorem ap3_ok {P : Program} {G : Nat} {C : Nat → Fwd} {L : Nat} {fn : Func} {s : Ev → AV → AV → AV → Heap → Res} (hs : ∀ E x0 x1 x2 h, xbodyR P G C E L fn [x0, x1, x2] h = s E x0 x1 x2 h) (E : Ev) (args : List AV) (h : Heap) (r : AV × Heap) (hx : ap3 s E args h = some r) : xbodyR P G C E L fn args h = some r := by
  unfold ap3 at hx
  split at hx
  · rw [hs]; exact hx
  · cases hx
def ap4 (s : Ev → AV → AV → AV → AV → Heap → Res) : Sh := fun E args h => match args with | [x0, x1, x2, x3] => s E x0 x1 x2 x3 h | _ => none
theorem ap4_ok {P : Program} {G : Nat} {C : Nat → Fwd} {L : Nat} {fn : Func} {s : Ev → AV → AV → AV → AV → Heap → Res} (hs : ∀ E x0 x1 x2 x3 h, xbodyR P G C E L fn [x0, x1, x2, x3] h = s E x0 x1 x2 x3 h) (E : Ev) (args : List AV) (h : Heap) (r : AV × Heap) (hx : ap4 s E args h = some r) : xbodyR P G C E L fn args h = some r := by
  unfold ap4 at hx
  split at hx
  · rw [hs]; exact hx
  · cases hx
def ap5 (s : Ev → AV → AV → AV → AV → AV → Heap → Res) : Sh := fun E args h => match args with | [x0, x1, x2, x3, x4] => s E x0 x1 x2 x3 x4 h | _ => none
theorem ap5_ok {P : Program} {G : Nat} {C : Nat → Fwd} {L : Nat} {fn : Func} {s : Ev → AV → AV → AV → AV → AV → Heap → Res} (hs : ∀ E x0 x1 x2 x3 x4 h, xbodyR P G C E L fn [x0, x1, x2, x3, x4] h = s E x0 x1 x2 x3 x4 h) (E : Ev) (args : List AV) (h : Heap) (r : AV × Heap) (hx : ap5 s E args h = some r) : xbodyR P G C E L fn args h = some r := by
  unfold ap5 at hx
  split at hx
  · rw [hs]; exact hx
  · cases hx
def ap6 (s : Ev → AV → AV → AV → AV → AV → AV → Heap → Res) : Sh := fun E args h => match args with | [x0, x1, x2, x3, x4, x5] => s E x0 x1 x2 x3 x4 x5 h | _ => none
theorem ap6_ok {P : Program} {G : Nat} {C : Nat → Fwd} {L : Nat} {fn : Func} {s : Ev → AV → AV → AV → AV → AV → AV → Heap → Res} (hs : ∀ E x0 x1 x2 x3 x4 x5 h, xbodyR P G C E L fn [x0, x1, x2, x3, x4, x5] h = s E x0 x1 x2 x3 x4 x5 h) (E : Ev) (args : List AV) (h : Heap) (r : AV × Heap) (hx : ap6 s E args h = some r) : xbodyR P G C E L fn args h = some r := by
  unfold ap6 at hx
  split at hx
  · rw [hs]; exact hx
  · cases hx
def ap7 (s : Ev → AV → AV → AV → AV → AV → AV → AV → Heap → Res) : Sh := fun E args h => match args with | [x0, x1, x2, x3, x4, x5, x6] => s E x0 x1 x2 x3 x4 x5 x6 h | _ => none
theorem ap7_ok {P : Program} {G : Nat} {C : Nat → Fwd} {L : Nat} {fn : Func} {s : Ev → AV → AV → AV → AV → AV → AV → AV → Heap → Res} (hs : ∀ E x0 x1 x2 x3 x4 x5 x6 h, xbodyR P G C E L fn [x0, x1, x2, x3, x4, x5, x6] h = s E x0 x1 x2 x3 x4 x5 x6 h) (E : Ev) (args : List AV) (h : Heap) (r : AV × Heap) (hx : ap7 s E args h = some r) : xbodyR P G C E L fn args h = some r := by
  unfold ap7 at hx
  split at hx
  · rw [hs]; exact hx
  · cases hx
def ap8 (s : Ev → AV → AV → AV → AV → AV → AV → AV → AV → Heap → Res) : Sh := fun E args h => match args with | [x0, x1, x2, x3, x4, x5, x6, x7] => s E x0 x1 x2 x3 x4 x5 x6 x7 h | _ => none
theorem ap8_ok {P : Program} {G : Nat} {C : Nat → Fwd} {L : Nat} {fn : Func} {s : Ev → AV → AV → AV → AV → AV → AV → AV → AV → Heap → Res} (hs : ∀ E x0 x1 x2 x3 x4 x5 x6 x7 h, xbodyR P G C E L fn [x0, x1, x2, x3, x4, x5, x6, x7] h = s E x0 x1 x2 x3 x4 x5 x6 x7 h) (E : Ev) (args : List AV) (h : Heap) (r : AV × Heap) (hx : ap8 s E args h = some r) : xbodyR P G C E L fn args h = some r := by
  unfold ap8 at hx
  split at hx
  · rw [hs]; exact hx
  · cases hx
def ap9 (s : Ev → AV → AV → AV → AV → AV → AV → AV → AV → AV → Heap → Res) : Sh := fun E args h => match args with | [x0, x1, x2, x3, x4, x5, x6, x7, x8] => s E x0 x1 x2 x3 x4 x5 x6 x7 x8 h | _ => none
theorem ap9_ok {P : Program} {G : Nat} {C : Nat → Fwd} {L : Nat} {fn : Func} {s : Ev → AV → AV → AV → AV → AV → AV → AV → AV → AV → Heap → Res} (hs : ∀ E x0 x1 x2 x3 x4 x5 x6 x7 x8 h, xbodyR P G C E L fn [x0, x1, x2, x3, x4, x5, x6, x7, x8] h = s E x0 x1 x2 x3 x4 x5 x6 x7 x8 h) (E : Ev) (args : List AV) (h : Heap) (r : AV × Heap) (hx : ap9 s E args h = some r) : xbodyR P G C E L fn args h = some r := by
  unfold ap9 at hx
  split at hx
  · rw [hs]; exact hx
  · cases hx
def ap10 (s : Ev → AV → AV → AV → AV → AV → AV → AV → AV → AV → AV → Heap → Res) : Sh := fun E args h => match args with | [x0, x1, x2, x3, x4, x5, x6, x7, x8, x9] => s E x0 x1 x2 x3 x4 x5 x6 x7 x8 x9 h | _ => none
theorem ap10_ok {P : Program} {G : Nat} {C : Nat → Fwd} {L : Nat} {fn : Func} {s : Ev → AV → AV → AV → AV → AV → AV → AV → AV → AV → AV → Heap → Res} (hs : ∀ E x0 x1 x2 x3 x4 x5 x6 x7 x8 x9 h, xbodyR P G C E L fn [x0, x1, x2, x3, x4, x5, x6, x7, x8, x9] h = s E x0 x1 x2 x3 x4 x5 x6 x7 x8 x9 h) (E : Ev) (args : List AV) (h : Heap) (r : AV × Heap) (hx : ap10 s E args h = some r) : xbodyR P G C E L fn args h = some r := by
  unfold ap10 at hx
  split at hx
  · rw [hs]; exact hx
  · cases hx
def ap11 (s : Ev → AV → AV → AV → AV → AV → AV → AV → AV → AV → AV → AV → Heap → Res) : Sh := fun E args h => match args with | [x0, x1, x2, x3, x4, x5, x6, x7, x8, x9, x10] => s E x0 x1 x2 x3 x4 x5 x6 x7 x8 x9 x10 h | _ => none
theorem ap11_ok {P : Program} {G : Nat} {C : Nat → Fwd} {L : Nat} {fn : Func} {s : Ev → AV → AV → AV → AV → AV → AV → AV → AV → AV → AV → AV → Heap → Res} (hs : ∀ E x0 x1 x2 x3 x4 x5 x6 x7 x8 x9 x10 h, xbodyR P G C E L fn [x0, x1, x2, x3, x4, x5, x6, x7, x8, x9, x10] h = s E x0 x1 x2 x3 x4 x5 x6 x7 x8 x9 x10 h) (E : Ev) (args : List AV) (h : Heap) (r : AV × Heap) (hx : ap11 s E args h = some r) : xbodyR P G C E L fn args h = some r := by
  unfold ap11 at hx
  split at hx
  · rw [hs]; exact hx
  · cases hx
def ap12 (s : Ev → AV → AV → AV → AV → AV → AV → AV → AV → AV → AV → AV → AV → Heap → Res) : Sh := fun E args h => match args with | [x0, x1, x2, x3, x4, x5, x6, x7, x8, x9, x10, x11] => s E x0 x1 x2 x3 x4 x5 x6 x7 x8 x9 x10 x11 h | _ => none
theorem ap12_ok {P : Program} {G : Nat} {C : Nat → Fwd} {L : Nat} {fn : Func} {s : Ev → AV → AV → AV → AV → AV → AV → AV → AV → AV → AV → AV → AV → Heap → Res} (hs : ∀ E x0 x1 x2 x3 x4 x5 x6 x7 x8 x9 x10 x11 h, xbodyR P G C E L fn [x0, x1, x2, x3, x4, x5, x6, x7, x8, x9, x10, x11] h = s E x0 x1 x2 x3 x4 x5 x6 x7 x8 x9 x10 x11 h) (E : Ev) (args : List AV) (h : Heap) (r : AV × Heap) (hx : ap12 s E args h = some r) : xbodyR P G C E L fn args h = some r := by
  unfold ap12 at hx
  split at hx
  · rw [hs]; exact hx
  · cases hx
def ap13 (s : Ev → AV → AV → AV → AV → AV → AV → AV → AV → AV → AV → AV → AV → AV → Heap → Res) : Sh := fun E args h => match args with | [x0, x1, x2, x3, x4, x5, x6, x7, x8, x9, x10, x11, x12] => s E x0 x1 x2 x3 x4 x5 x6 x7 x8 x9 x10 x11 x12 h | _ => none
theorem ap13_ok {P : Program} {G : Nat} {C : Nat → Fwd} {L : Nat} {fn : Func} {s : Ev → AV → AV → AV → AV → AV → AV → AV → AV → AV → AV → AV → AV → AV → Heap → Res} (hs : ∀ E x0 x1 x2 x3 x4 x5 x6 x7 x8 x9 x10 x11 x12 h, xbodyR P G C E L fn [x0, x1, x2, x3, x4, x5, x6, x7, x8, x9, x10, x11, x12] h = s E x0 x1 x2 x3 x4 x5 x6 x7 x8 x9 x10 x11 x12 h) (E : Ev) (args : List AV) (h : Heap) (r : AV × Heap) (hx : ap13 s E args h = some r) : xbodyR P G C E L fn args h = some r := by
  unfold ap13 at hx
  split at hx
  · rw [hs]; exact hx
  · cases hx

/-- shallow texts that are true to a program -/
def TabOk (P : Program) (G : Nat) (C : Nat → Fwd) (L : Nat) (T : Tri Sh) : Prop := ∀ f s, T.at f = some s → Nat.blt f P.funcs.size = true ∧ ∀ E args h r, s E args h = some r → xbodyR P G C E L (fnAt P f) args h = some r
theorem TabOk.lf (P : Program) (G : Nat) (C : Nat → Fwd) (L : Nat) : TabOk P G C L .lf := fun f s h => by cases h
theorem TabOk.set {P : Program} {G : Nat} {C : Nat → Fwd} {L : Nat} {T : Tri Sh} (hT : TabOk P G C L T) {f : Nat} {s : Sh} (hf : Nat.blt f P.funcs.size = true) (hs : ∀ E args h r, s E args h = some r → xbodyR P G C E L (fnAt P f) args h = some r) : TabOk P G C L (T.set f (some s)) := by
  intro g s' h
  rw [Tri.at_set] at h
  split at h
  · rename_i e; subst e; cases h; exact ⟨hf, hs⟩
  · exact hT g s' h
section
variable (P : Program) (G : Nat) (C : Nat → Fwd) (L : Nat) (M : Memo) (T : Tri Sh)
def sx : Nat → Ev := Nat.rec (motive := fun _ => Ev) (fun _ _ _ => none) (fun _ ih t => Tgt.rec (motive := fun _ => List AV → Heap → Res) (fun f args h => Option.rec (motive := fun _ => Res) (ob (T.at f) fun s => s ih args h) (fun r => some r) (M f args h)) (fun l args h => xroundR P G C ih L l args h) t)
theorem sx_ev (hT : TabOk P G C L T) : ∀ (k : Nat) (t : Tgt) (args : List AV) (h : Heap) (r : AV × Heap), sx P G C L M T k t args h = some r → ev P (tabOf P) G C L M t args h = some r := by
  intro k
  induction k with
  | zero => intro t args h r hx; cases hx
  | succ k ih =>
    intro t args h r hx
    have hl : Lim (sx P G C L M T k) (fun _ => ev P (tabOf P) G C L M) := fun t args h r q => ⟨0, fun _ _ => ih t args h r q⟩
    cases t with
    | fn f =>
      have hx : Option.rec (motive := fun _ => Res) (ob (T.at f) fun s => s (sx P G C L M T k) args h) (fun r => some r) (M f args h) = some r := hx
      cases hMf : M f args h with
      | some r' => rw [hMf] at hx; cases hx; exact ev_memo P (tabOf P) G C L M hMf
      | none =>
        rw [hMf] at hx
        have hx : (ob (T.at f) fun s => s (sx P G C L M T k) args h) = some r := hx
        replace hx := ob_eq hx
        obtain ⟨s, hs, hx⟩ := hx
        obtain ⟨hf, hs⟩ := hT f s hs
        obtain ⟨k0, q⟩ := xbodyR_cv hl (fnAt P f) args h r (hs _ _ _ _ hx)
        exact ev_fn P (tabOf P) G C L M (tabOf_fn P hf) hMf (q k0 (Nat.le_refl _))
    | yld l =>
      obtain ⟨k0, q⟩ := xroundR_cv hl l args h r hx
      exact ev_yld P (tabOf P) G C L M (q k0 (Nat.le_refl _))
end
end
end Go.Th

namespace Go.Th
noncomputable section

/-! A call that is known: what it comes to at an empty heap, laid at any. -/
def shB (n d b : Nat) : Nat := sel (Nat.blt b n) b (Nat.add b d)
mutual
def shV (n d : Nat) : AV → AV
  | .bool b => .bool b
  | .int k x => .int k x
  | .str l b => .str l b
  | .ptr b o => .ptr (shB n d b) o
  | .nilPtr => .nilPtr
  | .slice b o l c => .slice (shB n d b) o l c
  | .nilSlice => .nilSlice
  | .map r => .map (shB n d r)
  | .nilMap => .nilMap
  | .func f a b => .func f (shL n d a) (shL n d b)
  | .nilFunc => .nilFunc
  | .yield l => .yield (shB n d l)
  | .iface t v => .iface t (shV n d v)
  | .nilIface => .nilIface
  | .agg cs => .agg (shL n d cs)
  | .tuple cs => .tuple (shL n d cs)
def shL (n d : Nat) : List AV → List AV
  | [] => []
  | v :: l => shV n d v :: shL n d l
end
theorem shL_eq (n d : Nat) (l : List AV) : shL n d l = l.map (shV n d) := by
  induction l with
  | nil => simp [shL]
  | cons x l ih => simp [shL, ih]
mutual
theorem shV_conc {n d : Nat} {μ μ' : Mu} (h : ∀ b m, μ b = some m → μ' (shB n d b) = some m) : ∀ v, Ok μ v → conc μ' (shV n d v) = conc μ v ∧ Ok μ' (shV n d v)
  | .bool _, _ => ⟨by simp [conc, shV], by simp [Ok, shV]⟩
  | .int _ _, _ => ⟨by simp [conc, shV], by simp [Ok, shV]⟩
  | .str _ _, o => ⟨by simp [conc, shV], by simpa [Ok, shV] using o⟩
  | .ptr b off, o => by
    simp only [Ok] at o; obtain ⟨m, hm⟩ := o
    exact ⟨by simp [conc, shV, Mu.addr, hm, h b m hm], by simp only [Ok, shV]; exact ⟨m, h b m hm⟩⟩
  | .nilPtr, _ => ⟨by simp [conc, shV], by simp [Ok, shV]⟩
  | .slice b off len (some c), o => by
    unfold Ok at o; obtain ⟨m, hm, hc⟩ := o
    exact ⟨by simp [conc, shV, Mu.addr, hm, h b m hm], by unfold shV Ok; exact ⟨m, h b m hm, hc⟩⟩
  | .slice b off len none, o => by
    unfold Ok at o; obtain ⟨m, hm, hc⟩ := o
    exact ⟨by simp [conc, shV, Mu.addr, Mu.cap, hm, h b m hm], by unfold shV Ok; exact ⟨m, h b m hm, hc⟩⟩
  | .nilSlice, _ => ⟨by simp [conc, shV], by simp [Ok, shV]⟩
  | .map r, o => by
    simp only [Ok] at o; obtain ⟨m, hm⟩ := o
    exact ⟨by simp [conc, shV, Mu.blk, hm, h r m hm], by simp only [Ok, shV]; exact ⟨m, h r m hm⟩⟩
  | .nilMap, _ => ⟨by simp [conc, shV], by simp [Ok, shV]⟩
  | .func f a b, o => by
    simp only [Ok] at o
    obtain ⟨a1, a2⟩ := shL_conc h a o.1
    obtain ⟨b1, b2⟩ := shL_conc h b o.2
    exact ⟨by simp [conc, shV, a1, b1], by simp only [Ok, shV]; exact ⟨a2, b2⟩⟩
  | .nilFunc, _ => ⟨by simp [conc, shV], by simp [Ok, shV]⟩
  | .yield l, o => by
    simp only [Ok] at o; obtain ⟨m, hm⟩ := o
    exact ⟨by simp [conc, shV, Mu.blk, hm, h l m hm], by simp only [Ok, shV]; exact ⟨m, h l m hm⟩⟩
  | .iface t v, o => by
    simp only [Ok] at o
    obtain ⟨a1, a2⟩ := shV_conc h v o
    exact ⟨by simp [conc, shV, a1], by simp only [Ok, shV]; exact a2⟩
  | .nilIface, _ => ⟨by simp [conc, shV], by simp [Ok, shV]⟩
  | .agg cs, o => by
    simp only [Ok] at o
    obtain ⟨a1, a2⟩ := shL_conc h cs o
    exact ⟨by simp [conc, shV, a1], by simp only [Ok, shV]; exact a2⟩
  | .tuple cs, o => by
    simp only [Ok] at o
    obtain ⟨a1, a2⟩ := shL_conc h cs o
    exact ⟨by simp [conc, shV, a1], by simp only [Ok, shV]; exact a2⟩
theorem shL_conc {n d : Nat} {μ μ' : Mu} (h : ∀ b m, μ b = some m → μ' (shB n d b) = some m) : ∀ l, OkL μ l → concL μ' (shL n d l) = concL μ l ∧ OkL μ' (shL n d l)
  | [], _ => ⟨by simp [concL, shL], by simp [OkL, shL]⟩
  | v :: l, o => by
    simp only [OkL] at o
    obtain ⟨a1, a2⟩ := shV_conc h v o.1
    obtain ⟨b1, b2⟩ := shL_conc h l o.2
    exact ⟨by simp [concL, shL, a1, b1], by simp only [OkL, shL]; exact ⟨a2, b2⟩⟩
end

/-! Are two values one? -/
def avSameL (f : AV → AV → Bool) : List AV → List AV → Bool
  | [], [] => true
  | x :: l, y :: r => sel (f x y) (avSameL f l r) false
  | _, _ => false
def capSame : Option Nat → Option Nat → Bool
  | none, none => true
  | some a, some b => Nat.beq a b
  | _, _ => false
def avSame : Nat → AV → AV → Bool
  | 0, _, _ => false
  | d + 1, a, b => match a with
    | .bool x => (match b with | .bool y => sel x y (xnot y) | _ => false)
    | .int k x => (match b with | .int k' y => sel (kindEq k k') (xieq x y) false | _ => false)
    | .str l x => (match b with | .str l' y => sel (Nat.beq l l') (Nat.beq x y) false | _ => false)
    | .ptr x o => (match b with | .ptr y o' => sel (Nat.beq x y) (Nat.beq o o') false | _ => false)
    | .nilPtr => (match b with | .nilPtr => true | _ => false)
    | .slice x o l c => (match b with | .slice y o' l' c' => sel (Nat.beq x y) (sel (Nat.beq o o') (sel (Nat.beq l l') (capSame c c') false) false) false | _ => false)
    | .nilSlice => (match b with | .nilSlice => true | _ => false)
    | .map x => (match b with | .map y => Nat.beq x y | _ => false)
    | .nilMap => (match b with | .nilMap => true | _ => false)
    | .nilFunc => (match b with | .nilFunc => true | _ => false)
    | .func f x y => (match b with | .func f' x' y' => sel (Nat.beq f f') (sel (avSameL (avSame d) x x') (avSameL (avSame d) y y') false) false | _ => false)
    | .iface t x => (match b with | .iface t' y => sel (Nat.beq t t') (avSame d x y) false | _ => false)
    | .nilIface => (match b with | .nilIface => true | _ => false)
    | .agg x => (match b with | .agg y => avSameL (avSame d) x y | _ => false)
    | .tuple x => (match b with | .tuple y => avSameL (avSame d) x y | _ => false)
    | .yield _ => false
theorem sel_and {b c : Bool} (h : sel b c false = true) : b = true ∧ c = true := by cases b <;> cases c <;> first | exact ⟨rfl, rfl⟩ | cases h
theorem avSameL_eq {f : AV → AV → Bool} (hf : ∀ a b, f a b = true → a = b) : ∀ l r, avSameL f l r = true → l = r
  | [], [], _ => rfl
  | x :: l, y :: r, h => by
    unfold avSameL at h
    obtain ⟨h1, h2⟩ := sel_and h
    rw [hf _ _ h1, avSameL_eq hf l r h2]
  | [], _ :: _, h => by cases h
  | _ :: _, [], h => by cases h
theorem capSame_eq : ∀ a b, capSame a b = true → a = b
  | none, none, _ => rfl
  | some a, some b, h => by rw [Nat.eq_of_beq_eq_true h]
  | none, some _, h => by cases h
  | some _, none, h => by cases h
theorem avSame_eq : ∀ (d : Nat) (a b : AV), avSame d a b = true → a = b := by
  intro d
  induction d with
  | zero => intro a b h; cases h
  | succ d ih =>
    intro a b h
    unfold avSame at h
    cases a <;> cases b <;> (try simp only at h) <;> try (cases h; done)
    all_goals try rfl
    · rename_i x y; cases x <;> cases y <;> first | rfl | cases h
    · obtain ⟨h1, h2⟩ := sel_and h
      rw [xieq_eq] at h2
      rw [kindEq_eq h1, eq_of_beq h2]
    · obtain ⟨h1, h2⟩ := sel_and h
      rw [Nat.eq_of_beq_eq_true h1, Nat.eq_of_beq_eq_true h2]
    · obtain ⟨h1, h2⟩ := sel_and h
      rw [Nat.eq_of_beq_eq_true h1, Nat.eq_of_beq_eq_true h2]
    · obtain ⟨h1, h2⟩ := sel_and h
      obtain ⟨h2, h3⟩ := sel_and h2
      obtain ⟨h3, h4⟩ := sel_and h3
      rw [Nat.eq_of_beq_eq_true h1, Nat.eq_of_beq_eq_true h2, Nat.eq_of_beq_eq_true h3, capSame_eq _ _ h4]
    · rw [Nat.eq_of_beq_eq_true h]
    · obtain ⟨h1, h2⟩ := sel_and h
      obtain ⟨h2, h3⟩ := sel_and h2
      rw [Nat.eq_of_beq_eq_true h1, avSameL_eq ih _ _ h2, avSameL_eq ih _ _ h3]
    · obtain ⟨h1, h2⟩ := sel_and h
      rw [Nat.eq_of_beq_eq_true h1, ih _ _ h2]
    · rw [avSameL_eq ih _ _ h]
    · rw [avSameL_eq ih _ _ h]

/-! What is kept of a heap. -/
inductive So where
  | cells (elem : Nat) (cs : List AV) (ro dyn : Bool) (fz esz : Nat) (sish : Bool)
  | map (es : List (AV × AV))
def shP (n d : Nat) (e : AV × AV) : AV × AV := (shV n d e.1, shV n d e.2)
def So.ob (n d : Nat) : So → Ob
  | .cells elem cs ro dyn fz esz sish => .cells elem cs.length (Tri.putRow (shL n d cs) .lf 0) ro dyn fz esz sish
  | .map es => .map (es.map (shP n d))
def bSame (a b : Bool) : Bool := sel a b (xnot b)
theorem bSame_eq {a b : Bool} (h : bSame a b = true) : a = b := by cases a <;> cases b <;> first | rfl | cases h
def esSame : List (AV × AV) → List (AV × AV) → Bool
  | [], [] => true
  | x :: l, y :: r => sel (avSame 8 x.1 y.1) (sel (avSame 8 x.2 y.2) (esSame l r) false) false
  | _, _ => false
theorem esSame_eq : ∀ l r, esSame l r = true → l = r
  | [], [], _ => rfl
  | x :: l, y :: r, h => by
    unfold esSame at h
    obtain ⟨h1, h2⟩ := sel_and h
    obtain ⟨h2, h3⟩ := sel_and h2
    rw [esSame_eq l r h3, Prod.ext (avSame_eq _ _ _ h1) (avSame_eq _ _ _ h2)]
  | [], _ :: _, h => by cases h
  | _ :: _, [], h => by cases h
/-- does an object tell what is kept of it? -/
def So.fits (s : So) (o : Ob) : Bool := match s with
  | .cells elem cs ro dyn fz esz sish => (match o with
    | .cells elem' n t ro' dyn' fz' esz' sish' => sel (Nat.beq elem elem') (sel (Nat.beq n cs.length) (sel (bSame ro ro') (sel (bSame dyn dyn') (sel (Nat.beq fz fz') (sel (Nat.beq esz esz') (sel (bSame sish sish')
        (match t.row n 0 with | some l => avSameL (avSame 8) l cs | none => false) false) false) false) false) false) false) false
    | _ => false)
  | .map es => (match o with | .map es' => esSame es es' | _ => false)
theorem So.fits_rel {n d : Nat} {μ μ' : Mu} (hμ : ∀ b m, μ b = some m → μ' (shB n d b) = some m) {s : So} {o : Ob} (hf : s.fits o = true) {m : BM} {w : World} (h : ObRel μ m w o) : ObRel μ' m w (s.ob n d) ∧ (s.ob n d).ro = o.ro := by
  unfold So.fits at hf
  cases s with
  | cells elem cs ro dyn fz esz sish =>
    cases o <;> (try simp only at hf) <;> try (cases hf; done)
    rename_i elem' nn t ro' dyn' fz' esz' sish'
    obtain ⟨h1, f1⟩ := sel_and hf
    obtain ⟨h2, f2⟩ := sel_and f1
    obtain ⟨h3, f3⟩ := sel_and f2
    obtain ⟨h4, f4⟩ := sel_and f3
    obtain ⟨h5, f5⟩ := sel_and f4
    obtain ⟨h6, f6⟩ := sel_and f5
    obtain ⟨h7, f7⟩ := sel_and f6
    clear hf f1 f2 f3 f4 f5 f6
    have h1 := Nat.eq_of_beq_eq_true h1
    have h2 := Nat.eq_of_beq_eq_true h2
    have h3 := bSame_eq h3
    have h4 := bSame_eq h4
    have h5 := Nat.eq_of_beq_eq_true h5
    have h6 := Nat.eq_of_beq_eq_true h6
    have h7 := bSame_eq h7
    subst h1 h3 h4 h5 h6 h7
    cases hr : t.row nn 0 with
    | none => rw [hr] at f7; cases f7
    | some l =>
      rw [hr] at f7
      have hl := avSameL_eq (avSame_eq 8) _ _ f7
      subst hl
      obtain ⟨hlen, hat⟩ := Tri.row_spec t nn 0 l hr
      obtain ⟨c, elem'', lo, hi, q1, q2, q3⟩ := h
      refine ⟨⟨c, elem'', lo, hi, q1, fun i hi' => ?_, ?_⟩, rfl⟩
      · obtain ⟨v, v1, v2, v3⟩ := q2 i (by omega)
        have := hat i (by omega)
        rw [Nat.zero_add, v1] at this
        obtain ⟨e1, e2⟩ := shV_conc hμ v v2
        refine ⟨shV n d v, ?_, e2, by rw [e1]; exact v3⟩
        rw [Tri.at_putRow, if_pos ⟨Nat.zero_le _, by rw [shL_eq, List.length_map]; omega⟩, shL_eq, Nat.sub_zero, List.getElem?_map, ← this]; rfl
      · rw [← h2]; exact q3
  | map es =>
    cases o <;> (try simp only at hf) <;> try (cases hf; done)
    rename_i es'
    have := esSame_eq _ _ hf
    subst this
    obtain ⟨l, clock, q1, q2, q3⟩ := h
    refine ⟨⟨l, clock, q1, ?_, ?_⟩, rfl⟩
    · rw [q2, List.map_map]
      apply List.map_congr_left
      intro e he
      obtain ⟨o1, o2⟩ := q3 e he
      simp only [Function.comp, shP, (shV_conc hμ _ o1).1, (shV_conc hμ _ o2).1]
    · intro e he
      obtain ⟨e', he', rfl⟩ := List.mem_map.1 he
      obtain ⟨o1, o2⟩ := q3 e' he'
      exact ⟨(shV_conc hμ _ o1).2, (shV_conc hμ _ o2).2⟩

abbrev Snap := List (Nat × So)
def placeS (n d : Nat) : Snap → Tri Ob → Tri Ob
  | [], t => t
  | (b, s) :: l, t => placeS n d l (t.set (Nat.add b d) (some (s.ob n d)))
theorem placeS_at {n d : Nat} : ∀ (S : Snap) (t : Tri Ob) (b : Nat) (o : Ob), (placeS n d S t).at b = some o → (∃ p ∈ S, b = p.1 + d ∧ o = p.2.ob n d) ∨ t.at b = some o
  | [], t, b, o, h => .inr h
  | (b0, s) :: l, t, b, o, h => by
    rcases placeS_at l _ b o h with ⟨p, hp, h1⟩ | h
    · exact .inl ⟨p, List.mem_cons_of_mem _ hp, h1⟩
    · rw [Tri.at_set] at h
      split at h
      · rename_i e; cases h; exact .inl ⟨(b0, s), List.mem_cons_self, e, rfl⟩
      · exact .inr h
theorem placeS_old {n d : Nat} : ∀ (S : Snap) (t : Tri Ob) (b : Nat), (∀ p ∈ S, b ≠ p.1 + d) → (placeS n d S t).at b = t.at b
  | [], _, _, _ => rfl
  | (b0, s) :: l, t, b, h => by
    show (placeS n d l _).at b = _
    rw [placeS_old l _ b (fun p hp => h p (List.mem_cons_of_mem _ hp))]
    exact Tri.at_set_ne t (i := b0 + d) _ (h (b0, s) List.mem_cons_self)
/-- does a heap tell all that is kept, and is all that new? -/
def snapOk (n : Nat) : Snap → Heap → Bool
  | [], _ => true
  | (b, s) :: l, h => sel (Nat.ble n b) (match h.ob.at b with | some o => sel (s.fits o) (snapOk n l h) false | none => false) false
theorem snapOk_get {n : Nat} {h : Heap} : ∀ {S : Snap}, snapOk n S h = true → ∀ p ∈ S, n ≤ p.1 ∧ ∃ o, h.ob.at p.1 = some o ∧ p.2.fits o = true
  | [], _, p, hp => by cases hp
  | (b, s) :: l, hs, p, hp => by
    unfold snapOk at hs
    obtain ⟨h1, h2⟩ := sel_and hs
    cases ho : h.ob.at b with
    | none => rw [ho] at h2; cases h2
    | some o =>
      rw [ho] at h2
      obtain ⟨h2, h3⟩ := sel_and h2
      rcases List.mem_cons.1 hp with rfl | hp
      · exact ⟨Nat.le_of_ble_eq_true h1, o, ho, h2⟩
      · exact snapOk_get h3 p hp

/-- the heap at the start of a known call: what is laid, for reading alone -/
structure Base (G : Nat) (R0 : Nat → Option Obj) (h0 : Heap) : Prop where
  nx : h0.nx = G
  ro : ∀ b o, h0.ob.at b = some o → b < G ∧ o.ro = true ∧ ∃ X, R0 b = some X ∧ ∀ (μ : Mu) (m : BM) (w : World), m.β = b → m.δ = 0 → w.heap[b]? = some X → ObRel μ m w o
theorem known_ok {P : Program} {G : Nat} {C : Nat → Fwd} {E : Ev} {R0 : Nat → Option Obj} {h0 h1 : Heap} (hX : CxOk ⟨P, G, C, E⟩ R0) (hB : Base G R0 h0) {f : Nat} {args : List AV} {v : AV} (hx : E (.fn f) args h0 = some (v, h1))
    (ha : OkL (fun _ => none) args) {S : Snap} (hS : snapOk G S h1 = true) {h : Heap} (hG : G ≤ h.nx) (n : Nat) (μ : Mu) (w : World) (r : Rel μ h w) (hg : Glob G μ) (gd : Good R0 μ h w) :
    CallsIn Fence.wide n P f (concL μ args).toArray w (Post μ h w (shV G (h.nx - G) v) ⟨h1.nx + (h.nx - G), placeS G (h.nx - G) S h.ob⟩) := by
  let μb : Mu := fun b => if b < G then μ b else none
  have hub : ∀ b m, μb b = some m → b < G ∧ μ b = some m := by
    intro b m q
    by_cases hb : b < G
    · exact ⟨hb, by simpa [μb, hb] using q⟩
    · simp [μb, hb] at q
  have hre : ∀ b o, h0.ob.at b = some o → ∀ m, μb b = some m → ObRel μb m w o := by
    intro b o q m hm
    obtain ⟨hb, hm⟩ := hub b m hm
    obtain ⟨_, _, X, q1, q2⟩ := hB.ro b o q
    obtain ⟨m', k1, k2, k3⟩ := hg b hb
    rw [hm] at k1; cases k1
    exact q2 μb m w k2 k3 (gd.here b X q1)
  have r0 : Rel μb h0 w := by
    refine ⟨fun b o q => by rw [hB.nx]; exact (hB.ro b o q).1, fun b m q => by rw [hB.nx]; exact (hub b m q).1, fun b o m q hm => hre b o q m hm, ?_, fun b m q => r.bnd b m (hub b m q).2⟩
    intro b b' o o' m m' q q' hm hm' hβ
    obtain ⟨hb, hm⟩ := hub b m hm
    obtain ⟨hb', hm'⟩ := hub b' m' hm'
    obtain ⟨m1, k1, k2, _⟩ := hg b hb
    obtain ⟨m2, k3, k4, _⟩ := hg b' hb'
    rw [hm] at k1; cases k1
    rw [hm'] at k3; cases k3
    omega
  have hg0 : Glob G μb := fun g hlt => by
    obtain ⟨m, k1, k2, k3⟩ := hg g hlt
    exact ⟨m, by simp [μb, hlt, k1], k2, k3⟩
  have gd0 : Good R0 μb h0 w := ⟨gd.here, fun b o m q hro hm => by have := (hB.ro b o q).2.1; rw [hro] at this; cases this⟩
  have hl : ∀ μ : Mu, Mu.le (fun _ => none) μ := fun μ b m q => by cases q
  obtain ⟨a1, _⟩ := concL_le (hl μ) args ha
  obtain ⟨a2, a3⟩ := concL_le (hl μb) args ha
  have hc := hX.fn f args h0 v h1 hx n μb w r0 hg0 gd0 a3
  rw [a2, ← a1] at hc
  refine CallsIn.mono (F := Fence.wide) hc ?_
  intro en w' q
  obtain ⟨μ1, rfl, r1, x1, ok1⟩ := q
  -- all that was is as it was
  have keep : ∀ β, β < w.heap.size → w'.heap[β]? = w.heap[β]? := fun β hβ => x1.kept β hβ fun b o m q hro _ => by have := (hB.ro b o q).2.1; rw [hro] at this; cases this
  have fresh : ∀ b o m, G ≤ b → h1.ob.at b = some o → μ1 b = some m → w.heap.size ≤ m.β := by
    intro b o m hb q hm
    rcases x1.newb b o m (by rw [hB.nx]; exact hb) q hm with q | ⟨b0, o0, m0, q1, q2, _⟩
    · exact q
    · have := (hB.ro b0 o0 q1).2.1; rw [q2] at this; cases this
  have hmu1 : ∀ b, b < G → μ1 b = μ b := fun b hb => by rw [x1.mu b (by rw [hB.nx]; exact hb)]; simp [μb, hb]
  have hn1 : G ≤ h1.nx := by have := x1.nx; rw [hB.nx] at this; exact this
  let d := h.nx - G
  let μ' : Mu := fun b => if b < h.nx then μ b else μ1 (b - d)
  have hμ' : ∀ b m, μ1 b = some m → μ' (shB G d b) = some m := by
    intro b m hm
    unfold shB
    rw [blt_eq]
    by_cases hb : b < G
    · rw [decide_eq_true hb, sel_true]
      have : b < h.nx := by omega
      simp only [μ', this, if_true]
      rw [← hmu1 b hb]; exact hm
    · rw [decide_eq_false hb, sel_false]
      have h2 : ¬ (b + d < h.nx) := by simp only [d]; omega
      show (if b + d < h.nx then μ (b + d) else μ1 (b + d - d)) = some m
      rw [if_neg h2, Nat.add_sub_cancel]; exact hm
  have hle : μ.le μ' := fun b m hm => by
    have := r.mlt b m hm
    simp only [μ', this, if_true]; exact hm
  obtain ⟨v1, v2⟩ := shV_conc hμ' v ok1
  have hSg := fun p hp => snapOk_get hS p hp
  have old : ∀ b, b < h.nx → (placeS G d S h.ob).at b = h.ob.at b := fun b hb => placeS_old S h.ob b fun p hp => by have := (hSg p hp).1; simp only [d]; omega
  -- what is there, and where it came from
  have cases' : ∀ b o m, (placeS G d S h.ob).at b = some o → μ' b = some m → (b < h.nx ∧ h.ob.at b = some o ∧ μ b = some m) ∨ (h.nx ≤ b ∧ ∃ b0 s o0, b = b0 + d ∧ G ≤ b0 ∧ o = So.ob G d s ∧ h1.ob.at b0 = some o0 ∧ s.fits o0 = true ∧ μ1 b0 = some m) := by
    intro b o m q hm
    by_cases hb : b < h.nx
    · rw [old b hb] at q
      exact .inl ⟨hb, q, by simpa [μ', hb] using hm⟩
    · rcases placeS_at S h.ob b o q with ⟨p, hp, e1, e2⟩ | q
      · obtain ⟨g1, o0, g2, g3⟩ := hSg p hp
        refine .inr ⟨by omega, p.1, p.2, o0, e1, g1, e2, g2, g3, ?_⟩
        have hm2 : μ1 (b - d) = some m := by simpa [μ', hb] using hm
        rw [e1, Nat.add_sub_cancel] at hm2; exact hm2
      · exact absurd (r.lt b o q) hb
  refine ⟨μ', by rw [v1], ⟨?_, ?_, ?_, ?_, ?_⟩, ⟨?_, ?_, ?_, ?_, ?_, x1.size, ?_, x1.os, x1.tape, x1.output⟩, v2⟩
  · intro b o q
    show b < h1.nx + d
    rcases placeS_at S h.ob b o q with ⟨p, hp, e1, _⟩ | q
    · obtain ⟨_, o0, g2, _⟩ := hSg p hp
      have := r1.lt p.1 o0 g2
      omega
    · have := r.lt b o q
      simp only [d]; omega
  · intro b m hm
    show b < h1.nx + d
    by_cases hb : b < h.nx
    · simp only [d]; omega
    · have hm2 : μ1 (b - d) = some m := by simpa [μ', hb] using hm
      have := r1.mlt _ m hm2
      omega
  · intro b o m q hm
    rcases cases' b o m q hm with ⟨hb, q, hm⟩ | ⟨hb, b0, s, o0, rfl, g1, rfl, g2, g3, hm⟩
    · exact ObRel.mono hle (keep m.β (r.bnd b m hm)) (r.ok b o m q hm)
    · exact (So.fits_rel hμ' g3 (r1.ok b0 o0 m g2 hm)).1
  · intro b b' o o' m m' q q' hm hm' hβ
    rcases cases' b o m q hm with ⟨hb, q, hm⟩ | ⟨hb, b0, s, o0, rfl, g1, rfl, g2, g3, hm⟩
    · rcases cases' b' o' m' q' hm' with ⟨hb', q', hm'⟩ | ⟨hb', b0', s', o0', rfl, g1', rfl, g2', g3', hm'⟩
      · exact r.inj b b' o o' m m' q q' hm hm' hβ
      · have := fresh b0' o0' m' g1' g2' hm'
        have := r.bnd b m hm
        omega
    · rcases cases' b' o' m' q' hm' with ⟨hb', q', hm'⟩ | ⟨hb', b0', s', o0', rfl, g1', rfl, g2', g3', hm'⟩
      · have := fresh b0 o0 m g1 g2 hm
        have := r.bnd b' m' hm'
        omega
      · rw [r1.inj b0 b0' o0 o0' m m' g2 g2' hm hm' hβ]
  · intro b m hm
    by_cases hb : b < h.nx
    · have hm2 : μ b = some m := by simpa [μ', hb] using hm
      exact Nat.lt_of_lt_of_le (r.bnd b m hm2) x1.size
    · have hm2 : μ1 (b - d) = some m := by simpa [μ', hb] using hm
      exact r1.bnd _ m hm2
  · show h.nx ≤ h1.nx + d
    simp only [d]; omega
  · intro b hb; simp [μ', hb]
  · intro b hb _; exact old b hb
  · intro b o' hb q
    have q : (placeS G d S h.ob).at b = some o' := q
    rw [old b hb] at q
    exact ⟨o', q, rfl⟩
  · intro b o m hb q hm
    rcases cases' b o m q hm with ⟨hb', _, _⟩ | ⟨_, b0, s, o0, rfl, g1, rfl, g2, g3, hm⟩
    · omega
    · exact .inl (fresh b0 o0 m g1 g2 hm)
  · intro β hβ _; exact keep β hβ
end
end Go.Th

namespace Go.Th
noncomputable section

/-! Tables of known calls. -/
structure Known where
  args : List AV
  v : AV
  nx : Nat
  S : Snap
def findK (G : Nat) (args : List AV) (h : Heap) : List Known → Res
  | [] => none
  | k :: l => sel (avSameL (avSame 4) args k.args) (some (shV G (Nat.sub h.nx G) k.v, ⟨Nat.add k.nx (Nat.sub h.nx G), placeS G (Nat.sub h.nx G) k.S h.ob⟩)) (findK G args h l)
def memoT (G : Nat) (T : Tri (List Known)) : Memo := fun f args h => ob (T.at f) fun l => sel (Nat.ble G h.nx) (findK G args h l) none
def KnownOk (P : Program) (G : Nat) (C : Nat → Fwd) (R0 : Nat → Option Obj) (h0 : Heap) (f : Nat) (k : Known) : Prop :=
  ∃ E h1, CxOk ⟨P, G, C, E⟩ R0 ∧ E (.fn f) k.args h0 = some (k.v, h1) ∧ h1.nx = k.nx ∧ OkL (fun _ => none) k.args ∧ snapOk G k.S h1 = true
def KTabOk (P : Program) (G : Nat) (C : Nat → Fwd) (R0 : Nat → Option Obj) (h0 : Heap) (T : Tri (List Known)) : Prop := ∀ f l, T.at f = some l → ∀ k ∈ l, KnownOk P G C R0 h0 f k
section
variable {P : Program} {G : Nat} {C : Nat → Fwd} {R0 : Nat → Option Obj} {h0 : Heap}
theorem KTabOk.lf : KTabOk P G C R0 h0 .lf := fun f l h => by cases h
theorem KTabOk.set {T : Tri (List Known)} (hT : KTabOk P G C R0 h0 T) {f : Nat} {l : List Known} (hl : ∀ k ∈ l, KnownOk P G C R0 h0 f k) : KTabOk P G C R0 h0 (T.set f (some l)) := by
  intro g l' h
  rw [Tri.at_set] at h
  split at h
  · rename_i e; subst e; cases h; exact hl
  · exact hT g l' h
theorem memoT_ok (hB : Base G R0 h0) {T : Tri (List Known)} (hT : KTabOk P G C R0 h0 T) : MemoOk P G R0 (memoT G T) := by
  intro f args h v h' hx n μ w r hg gd oa
  have hx1 : (ob (T.at f) fun l => sel (Nat.ble G h.nx) (findK G args h l) none) = some (v, h') := hx
  clear hx
  obtain ⟨l, hl, hx2⟩ := ob_eq hx1
  clear hx1
  obtain ⟨hG0, hx⟩ := sel_some hx2
  clear hx2
  have hG := Nat.le_of_ble_eq_true hG0
  have hK := hT f l hl
  clear hl hG0
  induction l with
  | nil => cases hx
  | cons k l ih =>
    unfold findK at hx
    rw [sel_eq] at hx
    split at hx
    · rename_i he
      have := avSameL_eq (avSame_eq 4) _ _ he
      subst this
      cases hx
      obtain ⟨E, h1, q1, q2, q3, q4, q5⟩ := hK k List.mem_cons_self
      rw [← q3]
      exact known_ok q1 hB q2 q4 q5 hG n μ w r hg gd
    · exact ih hx fun k hk => hK k (List.mem_cons_of_mem _ hk)
/-- closed arguments -/
def closedA : AV → Bool
  | .bool _ => true
  | .int _ _ => true
  | .str n b => Nat.blt b (Nat.pow 256 n)
  | .nilPtr => true
  | .nilSlice => true
  | _ => false
def closedL : List AV → Bool
  | [] => true
  | v :: l => sel (closedA v) (closedL l) false
theorem closedA_ok {v : AV} (h : closedA v = true) : Ok (fun _ => none) v := by
  cases v <;> (try (cases h; done)) <;> simp only [Ok]
  rename_i n b
  have : Nat.blt b (Nat.pow 256 n) = true := h
  rw [blt_eq] at this
  exact of_decide_eq_true this
theorem closedL_ok : ∀ {l : List AV}, closedL l = true → OkL (fun _ => none) l
  | [], _ => by simp [OkL]
  | v :: l, h => by
    unfold closedL at h
    obtain ⟨h1, h2⟩ := sel_and h
    simp only [OkL]
    exact ⟨closedA_ok h1, closedL_ok h2⟩
/-- does a call come to what is said of it? -/
def chkK (G : Nat) (k : Known) (r : Res) : Bool := match r with
  | some (v, h) => sel (closedL k.args) (sel (avSame 8 v k.v) (sel (Nat.beq h.nx k.nx) (snapOk G k.S h) false) false) false
  | none => false
theorem known_of {E F : Ev} (hF : CxOk ⟨P, G, C, F⟩ R0) {f : Nat} {k : Known} (hEF : ∀ r, E (.fn f) k.args h0 = some r → F (.fn f) k.args h0 = some r) (hc : chkK G k (E (.fn f) k.args h0) = true) : KnownOk P G C R0 h0 f k := by
  cases hr : E (.fn f) k.args h0 with
  | none => rw [hr] at hc; cases hc
  | some r =>
    obtain ⟨v, h1⟩ := r
    rw [hr] at hc
    have hc1 : sel (closedL k.args) (sel (avSame 8 v k.v) (sel (Nat.beq h1.nx k.nx) (snapOk G k.S h1) false) false) false = true := hc
    obtain ⟨c1, hc2⟩ := sel_and hc1
    obtain ⟨c2, hc3⟩ := sel_and hc2
    obtain ⟨c3, hc4⟩ := sel_and hc3
    have := avSame_eq 8 _ _ c2
    exact ⟨F, h1, hF, by rw [← this]; exact hEF _ hr, Nat.eq_of_beq_eq_true c3, closedL_ok c1, hc4⟩
end
end
end Go.Th

namespace Go.Th
theorem callFunc_go {P : Program} {f : Nat} {fn : Func} (hf : P.funcs[f]? = some fn) (hn : (fn.name == "runtime.NumGoroutine") = false) (hb : fn.body.isNone = false) (args : Array Value) (w : World) :
    (callFunc f args).run P w = .ok (.enter f args) w := by
  unfold callFunc
  simp only [Sem.run_bind, run_program, Result.andThen_ok, hf]
  rw [if_neg (by simp [hn]), if_neg (by simp [hb])]
  rfl
def goAll (P : Program) (g : Nat → Bool) : Nat → Bool
  | 0 => true
  | n + 1 => (!g n || (match P.funcs[n]? with | some fn => !(fn.name == "runtime.NumGoroutine") && !fn.body.isNone | none => false)) && goAll P g n
theorem goAll_ok {P : Program} {g : Nat → Bool} : ∀ {n : Nat}, goAll P g n = true → ∀ f, f < n → g f = true → ∀ args w, (callFunc f args).run P w = .ok (.enter f args) w := by
  intro n
  induction n with
  | zero => intro _ f hf; omega
  | succ n ih =>
    intro h f hf hg
    unfold goAll at h
    rw [Bool.and_eq_true] at h
    by_cases e : f = n
    · subst e
      have h1 := h.1
      rw [hg] at h1
      simp only [Bool.not_true, Bool.false_or] at h1
      split at h1
      · rename_i fn hfn
        rw [Bool.and_eq_true] at h1
        exact callFunc_go hfn (by simpa using h1.1) (by simpa using h1.2)
      · cases h1
    · exact ih h.2 f (by omega) hg
end Go.Th
namespace Go.Th
noncomputable section
/-- which functions have a body, which are rows; and a table of conversions between integers behind them -/
def rowIn (f : Nat) : List (Nat × Fwd) → Fwd
  | [] => .other
  | (g, c) :: l => sel (Nat.beq f g) c (rowIn f l)
def ccOf (n gm im : Nat) (rows : List (Nat × Fwd)) (f : Nat) : Fwd := sel (Nat.ble 1000000 f)
  (sel (hasBit im (Nat.div (Nat.sub f 1000000) 1000)) (sel (hasBit im (Nat.mod f 1000)) .mkNoZero .other) .other)
  (sel (Nat.blt f n) (sel (hasBit gm f) .go (rowIn f rows)) .other)
def RowOk (P : Program) (f : Nat) (c : Fwd) : Prop := ∀ args w, (callFunc f args).run P w = ((entryOf c args).run P w).andThen fun v w' => .ok (.value v) w'
def rowLike : Fwd → Bool
  | .noEscape => true
  | .add64 => true
  | .sub64 => true
  | .idxByte => true
  | _ => false
theorem rowIn_mem {f : Nat} {c : Fwd} : ∀ {rows : List (Nat × Fwd)}, rowIn f rows = c → c = .other ∨ (f, c) ∈ rows
  | [], h => .inl h.symm
  | (g, c') :: l, h => by
    unfold rowIn at h
    rw [sel_eq] at h
    split at h
    · rename_i e
      have := Nat.eq_of_beq_eq_true e
      subst this; subst h
      exact .inr List.mem_cons_self
    · rcases rowIn_mem h with q | q
      · exact .inl q
      · exact .inr (List.mem_cons_of_mem _ q)
theorem ccOf_ok {P : Program} {n gm im : Nat} {rows : List (Nat × Fwd)} (hg : goAll P (hasBit gm) n = true) (hn : ∀ p ∈ rows, p.2 ≠ .go) (hr : ∀ p ∈ rows, rowLike p.2 = true → RowOk P p.1 p.2) : COk P (ccOf n gm im rows) := by
  have key : ∀ f c, ccOf n gm im rows f = c → c = .mkNoZero ∨ c = .other ∨ (c = .go ∧ f < n ∧ hasBit gm f = true) ∨ (f, c) ∈ rows := by
    intro f c h
    unfold ccOf at h
    rw [sel_eq, sel_eq, sel_eq, sel_eq, sel_eq] at h
    split at h
    · split at h
      · split at h
        · exact .inl h.symm
        · exact .inr (.inl h.symm)
      · exact .inr (.inl h.symm)
    · split at h
      · rename_i hb
        rw [blt_eq] at hb
        split at h
        · rename_i hm
          exact .inr (.inr (.inl ⟨h.symm, of_decide_eq_true hb, hm⟩))
        · rcases rowIn_mem h with q | q
          · exact .inr (.inl q)
          · exact .inr (.inr (.inr q))
      · exact .inr (.inl h.symm)
  refine ⟨fun f h args w => ?_, fun f h args w => ?_⟩
  · rcases key f .go h with q | q | ⟨_, q1, q2⟩ | q
    · cases q
    · cases q
    · exact goAll_ok hg f q1 q2 args w
    · exact absurd rfl (hn _ q)
  · have hl : rowLike (ccOf n gm im rows f) = true := by rcases h with h | h | h | h <;> rw [h] <;> rfl
    rcases key f _ rfl with q | q | ⟨q, _⟩ | q
    · rw [q] at hl; cases hl
    · rw [q] at hl; cases hl
    · rw [q] at hl; cases hl
    · exact hr _ q hl args w
end
end Go.Th

namespace Go.Th
noncomputable section
/-- package-level variables that are laid: a block, its type, its cells -/
structure LaidV where
  g : Nat
  t : Nat
  cs : List AV
def LaidV.obj (p : LaidV) : Obj := .cells (p.cs.map (conc fun _ => none)).toArray p.t (0, 0)
def LaidV.ob (p : LaidV) : Ob := .cells p.t p.cs.length (Tri.putRow p.cs .lf 0) true false 0 0 false
def r0Of : List LaidV → Nat → Option Obj
  | [], _ => none
  | p :: l, b => if b = p.g then some p.obj else r0Of l b
def obOf : List LaidV → Tri Ob
  | [] => .lf
  | p :: l => (obOf l).set p.g (some p.ob)
def h0Of (G : Nat) (l : List LaidV) : Heap := ⟨G, obOf l⟩
def laidOk (G : Nat) : List LaidV → Bool
  | [] => true
  | p :: l => sel (Nat.blt p.g G) (sel (closedL p.cs) (laidOk G l) false) false
theorem obOf_at {G : Nat} : ∀ {l : List LaidV}, laidOk G l = true → ∀ b o, (obOf l).at b = some o → ∃ p : LaidV, b = p.g ∧ o = p.ob ∧ r0Of l b = some p.obj ∧ p.g < G ∧ closedL p.cs = true
  | [], _, b, o, h => by cases h
  | p :: l, hl, b, o, h => by
    unfold laidOk at hl
    obtain ⟨h1, h2⟩ := sel_and hl
    obtain ⟨h3, h4⟩ := sel_and h2
    rw [blt_eq] at h1
    unfold obOf at h
    rw [Tri.at_set] at h
    unfold r0Of
    split at h
    · rename_i e
      cases h
      exact ⟨p, e, rfl, by rw [if_pos e], of_decide_eq_true h1, h3⟩
    · rename_i e
      obtain ⟨q, q1, q2, q3, q4⟩ := obOf_at h4 b o h
      exact ⟨q, q1, q2, by rw [if_neg e]; exact q3, q4⟩
theorem base_of {G : Nat} {l : List LaidV} (hl : laidOk G l = true) : Base G (r0Of l) (h0Of G l) where
  nx := rfl
  ro := fun b o h => by
    obtain ⟨p, rfl, rfl, h3, h4, h5⟩ := obOf_at hl b o h
    refine ⟨h4, rfl, p.obj, h3, fun μ m w hb hd hw => ?_⟩
    have hcl := closedL_ok h5
    rw [OkL_iff] at hcl
    refine ⟨_, _, _, _, by rw [hb]; exact hw, fun i hi => ?_, fun j _ _ q => by omega, (fun _ q => absurd rfl q), (fun q => by cases q), (fun _ => hd), rfl⟩
    have hi' : i < p.cs.length := hi
    have hle : Mu.le (fun _ => none) μ := fun b m q => by cases q
    have hm : p.cs[i] ∈ p.cs := List.getElem_mem hi'
    obtain ⟨c1, c2⟩ := conc_le hle p.cs[i] (hcl _ hm)
    refine ⟨p.cs[i], ?_, c2, ?_⟩
    · rw [Tri.at_putRow, if_pos ⟨Nat.zero_le _, by omega⟩, Nat.sub_zero]; exact List.getElem?_eq_getElem hi'
    · rw [hd, Nat.zero_add, c1]; simp [hi']
/-- how the globals are told at the start -/
def muG (G : Nat) : Mu := fun b => if b < G then some ⟨b, 0, 0, 0⟩ else none
theorem glob_muG (G : Nat) : Glob G (muG G) := fun g hg => ⟨⟨g, 0, 0, 0⟩, by simp [muG, hg], rfl, rfl⟩
/-- a world in which what is laid lies is told by the base heap -/
theorem rel_base {G : Nat} {l : List LaidV} (hl : laidOk G l = true) {w : World} (hG : G ≤ w.heap.size) (hw : ∀ b o, r0Of l b = some o → w.heap[b]? = some o) :
    Rel (muG G) (h0Of G l) w ∧ Good (r0Of l) (muG G) (h0Of G l) w := by
  have hB := base_of hl
  refine ⟨⟨fun b o h => (hB.ro b o h).1, fun b m h => ?_, fun b o m h hm => ?_, fun b b' o o' m m' h h' hm hm' hβ => ?_, fun b m h => ?_⟩, ⟨hw, fun b o m h hro => by have := (hB.ro b o h).2.1; rw [hro] at this; cases this⟩⟩
  · unfold muG at h
    split at h
    · assumption
    · cases h
  · obtain ⟨h1, _, X, h2, h3⟩ := hB.ro b o h
    unfold muG at hm
    rw [if_pos h1] at hm
    cases hm
    exact h3 _ _ w rfl rfl (hw b X h2)
  · obtain ⟨h1, _⟩ := hB.ro b o h
    obtain ⟨h2, _⟩ := hB.ro b' o' h'
    unfold muG at hm hm'
    rw [if_pos h1] at hm
    rw [if_pos h2] at hm'
    cases hm; cases hm'
    exact hβ
  · unfold muG at h
    split at h
    · cases h; show b < w.heap.size; omega
    · cases h
/-- a known or evaluated call at the start: what it comes to, in the plain words of a walk -/
theorem calls_base {P : Program} {G : Nat} {C : Nat → Fwd} {E : Ev} {l : List LaidV} (hX : CxOk ⟨P, G, C, E⟩ (r0Of l)) (hl : laidOk G l = true) {f : Nat} {args : List AV} {b : Bool} {h' : Heap} (hx : E (.fn f) args (h0Of G l) = some (.bool b, h'))
    (ha : closedL args = true) {w : World} (hG : G ≤ w.heap.size) (hw : ∀ b o, r0Of l b = some o → w.heap[b]? = some o) :
    Calls P f (concL (fun _ => none) args).toArray w fun e w' => e = .returned (.bool b) ∧ w.heap.size ≤ w'.heap.size ∧ (∀ β, β < w.heap.size → w'.heap[β]? = w.heap[β]?) ∧ w'.os = w.os ∧ w'.tape = w.tape ∧ w'.output = w.output := by
  obtain ⟨r, gd⟩ := rel_base hl hG hw
  have hle : Mu.le (fun _ => none) (muG G) := fun b m q => by cases q
  obtain ⟨c1, c2⟩ := concL_le hle args (closedL_ok ha)
  have := callsIn_wide.1 (hX.fn f args (h0Of G l) _ h' hx 0 (muG G) w r (glob_muG G) gd c2)
  rw [c1] at this
  refine Calls.mono this ?_
  intro e w' q
  obtain ⟨μ', rfl, _, x, _⟩ := q
  exact ⟨by simp [conc], x.size, (fun β hβ => x.kept β hβ fun b o m h hro _ => by have := ((base_of hl).ro b o h).2.1; rw [hro] at this; cases this), x.os, x.tape, x.output⟩
end
end Go.Th

namespace Go.Th
noncomputable section
/-- an evaluator, one function's calls of two arguments answered otherwise -/
def two (R : AV → AV → Heap → Res) (args : List AV) (h : Heap) : Res := match args with | [a, b] => R a b h | _ => none
def tokE (E : Ev) (f : Nat) (R : AV → AV → Heap → Res) : Ev := fun t args h => match t with
  | .fn g => sel (Nat.beq g f) (two R args h) (E (.fn g) args h)
  | .yld l => E (.yld l) args h
theorem tokE_lim {S E : Ev} (hS : ∀ t args h r, S t args h = some r → E t args h = some r) {f : Nat} {R2 R1 : AV → AV → Heap → Res} (hR : ∀ a b h r, R2 a b h = some r → R1 a b h = some r) : Lim (tokE S f R2) (fun _ => tokE E f R1) := by
  intro t args h r hx
  refine ⟨0, fun _ _ => ?_⟩
  cases t with
  | fn g =>
    have hx : sel (Nat.beq g f) (two R2 args h) (S (.fn g) args h) = some r := hx
    show sel (Nat.beq g f) (two R1 args h) (E (.fn g) args h) = some r
    cases hb : Nat.beq g f with
    | false => rw [hb] at hx; exact hS _ _ _ _ hx
    | true =>
      rw [hb] at hx
      have hx : two R2 args h = some r := hx
      show two R1 args h = some r
      unfold two at hx ⊢
      split at hx
      · exact hR _ _ _ _ hx
      · cases hx
  | yld l => exact hS _ _ _ _ hx
/-- two tokens stand for two numbers -/
def tok1 (E : Ev) (f : Nat) (k l : Int) (a b : AV) (h : Heap) : Res := match a with
  | .nilFunc => E (.fn f) [.int .i64 k, b] h
  | .nilIface => E (.fn f) [.int .i64 l, b] h
  | _ => E (.fn f) [a, b] h
def tok2 (n i m j : Nat) (a b : AV) (h : Heap) : Res := match a with
  | .nilFunc => (match b with | .int .i64 x => sel (xieq x (.ofNat n)) (some (.int .i64 (.ofNat i), h)) none | _ => none)
  | .nilIface => (match b with | .int .i64 x => sel (xieq x (.ofNat m)) (some (.int .i64 (.ofNat j), h)) none | _ => none)
  | _ => none
theorem tok2_tok1 {E : Ev} {f : Nat} {k l : Int} {n i m j : Nat} (hk : ∀ h, E (.fn f) [.int .i64 k, .int .i64 n] h = some (.int .i64 i, h)) (hl : ∀ h, E (.fn f) [.int .i64 l, .int .i64 m] h = some (.int .i64 j, h)) (a b : AV) (h : Heap) (r : AV × Heap)
    (hx : tok2 n i m j a b h = some r) : tok1 E f k l a b h = some r := by
  unfold tok2 at hx
  split at hx
  · split at hx
    · obtain ⟨q1, q2⟩ := sel_some hx
      rw [xieq_eq] at q1
      have := eq_of_beq q1
      subst this
      rw [← q2]; exact hk h
    · cases hx
  · split at hx
    · obtain ⟨q1, q2⟩ := sel_some hx
      rw [xieq_eq] at q1
      have := eq_of_beq q1
      subst this
      rw [← q2]; exact hl h
    · cases hx
  · cases hx
def isT (r : Res) : Bool := match r with | some (.bool b, _) => b | _ => false
theorem isT_ex {r : Res} (h : isT r = true) : ∃ h', r = some (.bool true, h') := by
  unfold isT at h
  split at h
  · rename_i b h'; subst h; exact ⟨h', rfl⟩
  · cases h
def allTo (p : Nat → Bool) : Nat → Bool
  | 0 => true
  | n + 1 => sel (p n) (allTo p n) false
theorem allTo_get {p : Nat → Bool} : ∀ {n : Nat}, allTo p n = true → ∀ i, i < n → p i = true
  | 0, _, i, hi => by omega
  | n + 1, h, i, hi => by
    unfold allTo at h
    obtain ⟨h1, h2⟩ := sel_and h
    by_cases e : i = n
    · subst e; exact h1
    · exact allTo_get h2 i (by omega)
end
end Go.Th

namespace Go.Th
open Go Go.RowKit Go.WideShapes Go.ChangeShapes
section
variable {H : Type} {enc : TypeId × Value → H}
/-- a law's row over laid variables, the world's shape at hand -/
theorem returns_laid {C : Checked} {os : Os} {f : FuncId} {fn : Func} {s : ChangeSpec} {conds : List PathCond} {apart fresh handsOn again : Bool} {X : World → Array Value → Prop}
    (hX : ∀ (w w' : World) (args : Array Value), w.heap = w'.heap → X w args → X w' args)
    (own : ownKnob C.prog.godebug = none) (started : os.Started) (noInit : C.prog.inits.idxOf? f = none) (hfn : C.prog.funcs[f]? = some fn)
    (witness : ∃ (w : World) (tape : Tape) (i : Input), w.os = os ∧ (w.forCall tape i).Shaped C.prog ∧ i.vars = [] ∧ Input.okWide C.prog (w.forCall tape i) .any w.heap.size f i ∧
      ((s.pre enc C.prog fn conds apart (w.forCall tape i).memory i.args ∧ X (w.forCall tape i).memory i.args) ∧ sizedMet enc C.prog fn (OpenSpec.ofChange s) apart (w.forCall tape i).memory i.args) ∧ ({} : Assume).holds C.prog (lone (Frame.enter C.prog f i.args .normal) [] (w.forCall tape i)))
    (contract : ∀ (W : World) (base : Nat) (args : Array Value) (ds gs : List (DataW H)) (before : List MemPlace),
      (∀ (j : Nat) t v, fn.params[j]? = some t → args[j]? = some v → Value.okWide C.prog W .any base t v) →
      DataW.Whole enc C.prog fn.params.toList s.vars apart W args.toList ds gs before → X W args → W.ShapedOpen C.prog →
      (DataW.weightsEach C.prog (fn.params.toList ++ s.plain.varTypes C.prog) (ds ++ gs)).all (· ≤ reachBytes) = true →
      Calls C.prog f args W fun e W' => ∃ v, e = .returned v ∧ s.post enc C.prog fn apart fresh handsOn again W args v W') :
    ReturnsInHanded {} C os f .any (fun w args => (s.pre enc C.prog fn conds apart w args ∧ X w args) ∧ sizedMet enc C.prog fn (OpenSpec.ofChange s) apart w args) (s.post enc C.prog fn apart fresh handsOn again) := by
  refine returnsInHanded_of_calls own started noInit witness ?_
  intro w tape i _ hsh _ hok hpre _
  obtain ⟨_, _, _, fn', hfn', _, _, _, _, hval⟩ := hok
  obtain rfl : fn' = fn := Option.some.inj (hfn'.symm.trans hfn)
  obtain ⟨⟨⟨ds, gs, before, hw, _⟩, hx⟩, hz⟩ := hpre
  refine (contract (w.forCall tape i) w.heap.size i.args ds gs before hval (DataW.Whole.of_heap (w' := w.forCall tape i) (by rfl) hw) (hX _ _ _ (by rfl) hx) hsh (hz.weights hw)).mono fun e W' ⟨v, he, hp⟩ => ?_
  subst he
  exact ChangeSpec.post_blind hp
variable {P : Program}
/-- a law's end: what was before is as it was -/
theorem post_below {f : Func} {s : ChangeSpec} {apart fresh handsOn again : Bool} {W W' : World} {args : Array Value} {v : Value} {ds gs : List (DataW H)} {before pa pv : List MemPlace}
    (hW : DataW.Whole enc P f.params.toList s.vars apart W args.toList ds gs before)
    (hres : ∀ (b : Nat) (sp : Nat → Bool) (hd : Bool), DataW.TrodAll enc P W' b sp hd f.resultTypes.toList (v.resultList f.resultTypes.size) (s.fn H (ds ++ gs)).results [])
    (hargs : ∀ sp : Nat → Bool, (∀ p ∈ before, sp p.block = true) → DataW.TrodAll enc P W' 0 sp true f.params.toList args.toList (s.fn H (ds ++ gs)).args pa)
    (hvars : ∀ sp : Nat → Bool, (∀ p ∈ before, sp p.block = true) → DataW.TrodVars enc P W' sp s.vars (s.fn H (ds ++ gs)).vars pv)
    (hps : before = pa ++ pv) (hb : Below W.heap.size W W')
    (hok : ∀ (j : Nat) (t : TypeId) (r : Value), f.resultTypes[j]? = some t → (v.resultList f.resultTypes.size)[j]? = some r → Value.okWide P W' .any 0 t r) :
    s.post enc P f apart fresh handsOn again W args v W' := by
  have lt : ∀ p ∈ before, p.block < W.heap.size := fun p hp => hW.lt p hp
  have sp1 : ∀ p ∈ before, (fun b => decide (b < W.heap.size)) p.block = true := fun p hp => decide_eq_true (lt p hp)
  refine ⟨ds, gs, before, [], pa, pv, hW, hres _ _ _, hargs _ sp1, hvars _ sp1, World.keptBut_mono (fun p hp => ⟨hp, ?_⟩) (hb.frame (· ∈ before)), fun _ => ?_⟩
  · rw [hps, List.mem_append] at hp; exact .inr hp
  · obtain ⟨_, _, _, _, _, hz, hn⟩ := hW
    refine ⟨hok, _, _, ([] ++ pa) ++ pv, ⟨[] ++ pa, pv, trodAll_append (hargs _ fun _ _ => rfl) (hres _ _ _), hvars _ fun _ _ => rfl, rfl, fun b off hp => ?_, fun ha => ?_⟩, ?_⟩
    · have hin : MemPlace.cell b off ∈ before := by rw [hps]; simpa using hp
      rw [hb.frozen (lt _ hin)]
      exact hz b off hin
    · have := hn ha
      rw [hps] at this
      simpa using this
    · intro p hp _
      rw [hps]; simpa using hp
end
end Go.Th
namespace Go.Th
open Go Go.RowKit Go.WideShapes Go.ChangeShapes
theorem laidVars_mem {P : Program} {w : World} : ∀ {l : List (String × DataW Unit)} {ps : List MemPlace}, DataW.LaidVars P w l ps → ∀ {n : String} {d : DataW Unit}, (n, d) ∈ l →
    ∃ g t cs fuel p, P.globalNamed n = some g ∧ (P.globals[g]?).map (·.type) = some t ∧ w.var? P n = some cs ∧ DataW.trod (fun _ => ()) P w 0 (fun _ => true) false fuel t cs.toList = some (d, p)
  | [], _, _, n, d, h => by cases h
  | (n', d') :: r, ps, hL, n, d, h => by
    obtain ⟨g, t, cs, fuel, p, q, h1, h2, h3, h4, h5, _⟩ := hL
    rcases List.mem_cons.1 h with e | h
    · cases e; exact ⟨g, t, cs, fuel, p, h1, h2, h3, h4⟩
    · exact laidVars_mem h5 h
/-- a table of numbers that is laid, in a world of the right shape: its very block -/
theorem laid_ints {P : Program} {W : World} {laid : List (String × DataW Unit)} (hp : (laid.filter fun x => x.2.handleName?.isSome) = []) (hL : laidMetH P laid W) (hs : W.ShapedOpen P)
    {n : String} {g t T E N : Nat} {k : IntKind} {zs : List Int} (hm : (n, DataW.agg (zs.map fun z => .lit (.int k z))) ∈ laid) (hg : P.globalNamed n = some g) (ht : (P.globals[g]?).map (·.type) = some t)
    (ut : P.underlying t = some (.array N E)) (ue : P.underlying E = some (.int k)) (cE : P.cellsOf E = 1) (hN : zs.length = N) (hgl : g < P.globals.size)
    (hrow : (((begin P (fun _ _ => 0) default).world.heap[g]?).bind Obj.row?).map (fun p => (p.1.size, p.2)) = some (N, T)) :
    W.heap[g]? = some (.cells (zs.map fun z => Value.int k z).toArray T (0, 0)) := by
  unfold laidMetH at hL
  rw [hp] at hL
  obtain ⟨ps, hV, _, _⟩ := hL
  obtain ⟨g', t', cs, fuel, p, e1, e2, e3, hd⟩ := laidVars_mem hV hm
  obtain rfl := Option.some.inj (hg.symm.trans e1)
  obtain rfl := Option.some.inj (ht.symm.trans e2)
  cases hr : ((begin P (fun _ _ => 0) default).world.heap[g]?).bind Obj.row? with
  | none => rw [hr] at hrow; cases hrow
  | some zt =>
    obtain ⟨zero, T'⟩ := zt
    rw [hr] at hrow
    simp only [Option.map_some, Option.some.injEq, Prod.mk.injEq] at hrow
    obtain ⟨hz, rfl⟩ := hrow
    obtain ⟨c, hc, hsz, _⟩ := hs.1 g zero T' hgl hr
    rw [hc]
    have hcs : cs = c := by
      unfold World.var? at e3
      rw [hg] at e3
      simp only [Option.bind_some, hc, Option.some.injEq] at e3
      exact e3.symm
    subst hcs
    obtain ⟨xs, m, _, ex, _, hl, hel⟩ := DataW.trod_array ut hd
    have e4 : xs.map (·.1) = zs.map fun z => .lit (.int k z) := (DataW.agg.inj (Prod.mk.inj ex).1).symm
    have hxl : xs.length = zs.length := by simpa using congrArg List.length e4
    have hcl : cs.size = zs.length := by omega
    have : cs = (zs.map fun z => Value.int k z).toArray := by
      apply Array.ext
      · simp [hcl]
      · intro r h1 h2
        have h3 : r < zs.length := by omega
        have hE := hel r (by omega)
        rw [cE, Nat.mul_one, List.getElem?_eq_getElem (by omega)] at hE
        obtain ⟨z, f1, f2, _⟩ := DataW.trod_int ue hE
        have f3 : (xs.map (·.1))[r]? = (zs.map fun z => (DataW.lit (.int k z) : DataW Unit))[r]? := by rw [e4]
        rw [List.getElem?_map, List.getElem?_map, List.getElem?_eq_getElem (by omega : r < xs.length), List.getElem?_eq_getElem h3, f2] at f3
        simp only [Option.map_some, Option.some.injEq, DataW.lit.injEq, Lit.int.injEq, true_and] at f3
        have h0 : ((cs.toList.drop r).take 1)[0]? = some (.int k z) := by rw [f1]; rfl
        have h4 : cs.toList[r]? = some (.int k z) := by simpa using h0
        have h5 : cs[r]? = some (.int k z) := by simpa using h4
        rw [Array.getElem?_eq_getElem h1] at h5
        rw [Option.some.inj h5, f3]; simp
    rw [this]
end Go.Th
