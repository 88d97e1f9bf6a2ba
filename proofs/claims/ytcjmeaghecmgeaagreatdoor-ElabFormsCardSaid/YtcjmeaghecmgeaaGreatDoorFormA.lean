/- Own texts of this proof: Form14a. -/
import Derived.Test.YtcjmeaghecmgeaaGreatDoorFormD
set_option autoImplicit true
set_option relaxedAutoImplicit true
set_option linter.all false
open Go Go.Th
set_option maxRecDepth 100000
namespace S14
noncomputable section
theorem form0_0 : allTo (fun n => formOk 0 (Nat.add n 0)) 6 = true := by kernel_rfl
theorem form0_6 : allTo (fun n => formOk 0 (Nat.add n 6)) 6 = true := by kernel_rfl
theorem form0_12 : allTo (fun n => formOk 0 (Nat.add n 12)) 6 = true := by kernel_rfl
theorem form0_18 : allTo (fun n => formOk 0 (Nat.add n 18)) 5 = true := by kernel_rfl
theorem form1_0 : allTo (fun n => formOk 1 (Nat.add n 0)) 6 = true := by kernel_rfl
theorem form1_6 : allTo (fun n => formOk 1 (Nat.add n 6)) 6 = true := by kernel_rfl
theorem form1_12 : allTo (fun n => formOk 1 (Nat.add n 12)) 6 = true := by kernel_rfl
theorem form1_18 : allTo (fun n => formOk 1 (Nat.add n 18)) 5 = true := by kernel_rfl
theorem form2_0 : allTo (fun n => formOk 2 (Nat.add n 0)) 6 = true := by kernel_rfl
theorem form2_6 : allTo (fun n => formOk 2 (Nat.add n 6)) 6 = true := by kernel_rfl
theorem form2_12 : allTo (fun n => formOk 2 (Nat.add n 12)) 6 = true := by kernel_rfl
theorem form2_18 : allTo (fun n => formOk 2 (Nat.add n 18)) 5 = true := by kernel_rfl
theorem form3_0 : allTo (fun n => formOk 3 (Nat.add n 0)) 6 = true := by kernel_rfl
theorem form3_6 : allTo (fun n => formOk 3 (Nat.add n 6)) 6 = true := by kernel_rfl
theorem form3_12 : allTo (fun n => formOk 3 (Nat.add n 12)) 6 = true := by kernel_rfl
theorem form3_18 : allTo (fun n => formOk 3 (Nat.add n 18)) 5 = true := by kernel_rfl
theorem form4_0 : allTo (fun n => formOk 4 (Nat.add n 0)) 6 = true := by kernel_rfl
theorem form4_6 : allTo (fun n => formOk 4 (Nat.add n 6)) 6 = true := by kernel_rfl
theorem form4_12 : allTo (fun n => formOk 4 (Nat.add n 12)) 6 = true := by kernel_rfl
theorem form4_18 : allTo (fun n => formOk 4 (Nat.add n 18)) 5 = true := by kernel_rfl
theorem form5_0 : allTo (fun n => formOk 5 (Nat.add n 0)) 6 = true := by kernel_rfl
theorem form5_6 : allTo (fun n => formOk 5 (Nat.add n 6)) 6 = true := by kernel_rfl
theorem form5_12 : allTo (fun n => formOk 5 (Nat.add n 12)) 6 = true := by kernel_rfl
end
end S14
