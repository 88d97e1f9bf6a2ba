/- Own texts of this proof: FormD14. -/
import Derived.Test.YtcjmeaghecmgeaaGreatDoorMem
import Derived.Test.YtcjmeaghecmgeaaGreatDoorLibF
set_option autoImplicit true
set_option relaxedAutoImplicit true
set_option linter.all false
open Go Go.Th
set_option maxRecDepth 100000
namespace S14
noncomputable section
def formE (i j : Nat) : Ev := tokE (SXm M1 500) 8 (tok2 23 i 23 j)
def formOk (i j : Nat) : Bool := isT (s4 (formE i j) .nilFunc .nilIface H0)
end
end S14
