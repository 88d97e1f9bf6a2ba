/- Own texts of this proof: Form14d. -/
import Derived.Test.YtcjmeaghecmgeaaGreatDoorFormD
set_option autoImplicit true
set_option relaxedAutoImplicit true
set_option linter.all false
open Go Go.Th
set_option maxRecDepth 100000
namespace S14
noncomputable section
theorem form17_6 : allTo (fun n => formOk 17 (Nat.add n 6)) 6 = true := by kernel_rfl
theorem form17_12 : allTo (fun n => formOk 17 (Nat.add n 12)) 6 = true := by kernel_rfl
theorem form17_18 : allTo (fun n => formOk 17 (Nat.add n 18)) 5 = true := by kernel_rfl
theorem form18_0 : allTo (fun n => formOk 18 (Nat.add n 0)) 6 = true := by kernel_rfl
theorem form18_6 : allTo (fun n => formOk 18 (Nat.add n 6)) 6 = true := by kernel_rfl
theorem form18_12 : allTo (fun n => formOk 18 (Nat.add n 12)) 6 = true := by kernel_rfl
theorem form18_18 : allTo (fun n => formOk 18 (Nat.add n 18)) 5 = true := by kernel_rfl
theorem form19_0 : allTo (fun n => formOk 19 (Nat.add n 0)) 6 = true := by kernel_rfl
theorem form19_6 : allTo (fun n => formOk 19 (Nat.add n 6)) 6 = true := by kernel_rfl
theorem form19_12 : allTo (fun n => formOk 19 (Nat.add n 12)) 6 = true := by kernel_rfl
theorem form19_18 : allTo (fun n => formOk 19 (Nat.add n 18)) 5 = true := by kernel_rfl
theorem form20_0 : allTo (fun n => formOk 20 (Nat.add n 0)) 6 = true := by kernel_rfl
theorem form20_6 : allTo (fun n => formOk 20 (Nat.add n 6)) 6 = true := by kernel_rfl
theorem form20_12 : allTo (fun n => formOk 20 (Nat.add n 12)) 6 = true := by kernel_rfl
theorem form20_18 : allTo (fun n => formOk 20 (Nat.add n 18)) 5 = true := by kernel_rfl
theorem form21_0 : allTo (fun n => formOk 21 (Nat.add n 0)) 6 = true := by kernel_rfl
theorem form21_6 : allTo (fun n => formOk 21 (Nat.add n 6)) 6 = true := by kernel_rfl
theorem form21_12 : allTo (fun n => formOk 21 (Nat.add n 12)) 6 = true := by kernel_rfl
theorem form21_18 : allTo (fun n => formOk 21 (Nat.add n 18)) 5 = true := by kernel_rfl
theorem form22_0 : allTo (fun n => formOk 22 (Nat.add n 0)) 6 = true := by kernel_rfl
theorem form22_6 : allTo (fun n => formOk 22 (Nat.add n 6)) 6 = true := by kernel_rfl
theorem form22_12 : allTo (fun n => formOk 22 (Nat.add n 12)) 6 = true := by kernel_rfl
theorem form22_18 : allTo (fun n => formOk 22 (Nat.add n 18)) 5 = true := by kernel_rfl
end
end S14
