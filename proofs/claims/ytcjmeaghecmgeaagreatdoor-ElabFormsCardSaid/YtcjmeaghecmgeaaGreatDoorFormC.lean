/- Own texts of this proof: Form14c. -/
import Derived.Test.YtcjmeaghecmgeaaGreatDoorFormD
set_option autoImplicit true
set_option relaxedAutoImplicit true
set_option linter.all false
open Go Go.Th
set_option maxRecDepth 100000
namespace S14
noncomputable section
theorem form11_12 : allTo (fun n => formOk 11 (Nat.add n 12)) 6 = true := by kernel_rfl
theorem form11_18 : allTo (fun n => formOk 11 (Nat.add n 18)) 5 = true := by kernel_rfl
theorem form12_0 : allTo (fun n => formOk 12 (Nat.add n 0)) 6 = true := by kernel_rfl
theorem form12_6 : allTo (fun n => formOk 12 (Nat.add n 6)) 6 = true := by kernel_rfl
theorem form12_12 : allTo (fun n => formOk 12 (Nat.add n 12)) 6 = true := by kernel_rfl
theorem form12_18 : allTo (fun n => formOk 12 (Nat.add n 18)) 5 = true := by kernel_rfl
theorem form13_0 : allTo (fun n => formOk 13 (Nat.add n 0)) 6 = true := by kernel_rfl
theorem form13_6 : allTo (fun n => formOk 13 (Nat.add n 6)) 6 = true := by kernel_rfl
theorem form13_12 : allTo (fun n => formOk 13 (Nat.add n 12)) 6 = true := by kernel_rfl
theorem form13_18 : allTo (fun n => formOk 13 (Nat.add n 18)) 5 = true := by kernel_rfl
theorem form14_0 : allTo (fun n => formOk 14 (Nat.add n 0)) 6 = true := by kernel_rfl
theorem form14_6 : allTo (fun n => formOk 14 (Nat.add n 6)) 6 = true := by kernel_rfl
theorem form14_12 : allTo (fun n => formOk 14 (Nat.add n 12)) 6 = true := by kernel_rfl
theorem form14_18 : allTo (fun n => formOk 14 (Nat.add n 18)) 5 = true := by kernel_rfl
theorem form15_0 : allTo (fun n => formOk 15 (Nat.add n 0)) 6 = true := by kernel_rfl
theorem form15_6 : allTo (fun n => formOk 15 (Nat.add n 6)) 6 = true := by kernel_rfl
theorem form15_12 : allTo (fun n => formOk 15 (Nat.add n 12)) 6 = true := by kernel_rfl
theorem form15_18 : allTo (fun n => formOk 15 (Nat.add n 18)) 5 = true := by kernel_rfl
theorem form16_0 : allTo (fun n => formOk 16 (Nat.add n 0)) 6 = true := by kernel_rfl
theorem form16_6 : allTo (fun n => formOk 16 (Nat.add n 6)) 6 = true := by kernel_rfl
theorem form16_12 : allTo (fun n => formOk 16 (Nat.add n 12)) 6 = true := by kernel_rfl
theorem form16_18 : allTo (fun n => formOk 16 (Nat.add n 18)) 5 = true := by kernel_rfl
theorem form17_0 : allTo (fun n => formOk 17 (Nat.add n 0)) 6 = true := by kernel_rfl
end
end S14
