/- Own texts of this proof: Form14b. -/
import Derived.Test.YtcjmeaghecmgeaaGreatDoorFormD
set_option autoImplicit true
set_option relaxedAutoImplicit true
set_option linter.all false
open Go Go.Th
set_option maxRecDepth 100000
namespace S14
noncomputable section
theorem form5_18 : allTo (fun n => formOk 5 (Nat.add n 18)) 5 = true := by kernel_rfl
theorem form6_0 : allTo (fun n => formOk 6 (Nat.add n 0)) 6 = true := by kernel_rfl
theorem form6_6 : allTo (fun n => formOk 6 (Nat.add n 6)) 6 = true := by kernel_rfl
theorem form6_12 : allTo (fun n => formOk 6 (Nat.add n 12)) 6 = true := by kernel_rfl
theorem form6_18 : allTo (fun n => formOk 6 (Nat.add n 18)) 5 = true := by kernel_rfl
theorem form7_0 : allTo (fun n => formOk 7 (Nat.add n 0)) 6 = true := by kernel_rfl
theorem form7_6 : allTo (fun n => formOk 7 (Nat.add n 6)) 6 = true := by kernel_rfl
theorem form7_12 : allTo (fun n => formOk 7 (Nat.add n 12)) 6 = true := by kernel_rfl
theorem form7_18 : allTo (fun n => formOk 7 (Nat.add n 18)) 5 = true := by kernel_rfl
theorem form8_0 : allTo (fun n => formOk 8 (Nat.add n 0)) 6 = true := by kernel_rfl
theorem form8_6 : allTo (fun n => formOk 8 (Nat.add n 6)) 6 = true := by kernel_rfl
theorem form8_12 : allTo (fun n => formOk 8 (Nat.add n 12)) 6 = true := by kernel_rfl
theorem form8_18 : allTo (fun n => formOk 8 (Nat.add n 18)) 5 = true := by kernel_rfl
theorem form9_0 : allTo (fun n => formOk 9 (Nat.add n 0)) 6 = true := by kernel_rfl
theorem form9_6 : allTo (fun n => formOk 9 (Nat.add n 6)) 6 = true := by kernel_rfl
theorem form9_12 : allTo (fun n => formOk 9 (Nat.add n 12)) 6 = true := by kernel_rfl
theorem form9_18 : allTo (fun n => formOk 9 (Nat.add n 18)) 5 = true := by kernel_rfl
theorem form10_0 : allTo (fun n => formOk 10 (Nat.add n 0)) 6 = true := by kernel_rfl
theorem form10_6 : allTo (fun n => formOk 10 (Nat.add n 6)) 6 = true := by kernel_rfl
theorem form10_12 : allTo (fun n => formOk 10 (Nat.add n 12)) 6 = true := by kernel_rfl
theorem form10_18 : allTo (fun n => formOk 10 (Nat.add n 18)) 5 = true := by kernel_rfl
theorem form11_0 : allTo (fun n => formOk 11 (Nat.add n 0)) 6 = true := by kernel_rfl
theorem form11_6 : allTo (fun n => formOk 11 (Nat.add n 6)) 6 = true := by kernel_rfl
end
end S14
