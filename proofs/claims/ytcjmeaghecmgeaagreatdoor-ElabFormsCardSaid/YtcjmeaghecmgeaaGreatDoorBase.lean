/- Own texts of this proof: Base14. -/
import Derived.Test.YtcjmeaghecmgeaaGreatDoorProg
import Derived.KernelRfl
import Derived.Test.YtcjmeaghecmgeaaGreatDoorLibF
import Derived.Laws.Externs
set_option autoImplicit true
set_option relaxedAutoImplicit true
set_option linter.all false
open Go Go.Th Go.Proofs
set_option maxRecDepth 100000
namespace S14
noncomputable section
noncomputable def PP : Program := Tryz.prog
noncomputable def GG : Nat := 18
noncomputable def CCrows : List (Nat × Fwd) := [(177, .add64), (191, .noEscape), (199, .idxStr), (209, .sub64), (221, .idxByte), (226, .mkNoZero)]
noncomputable def CC : Nat → Fwd := ccOf 277 121416805764121759214556389421230486023273873938172742726942247668486612370998689788 225279882694783603823699545440237571999442445136448353081551770184628045452444254947593571799148 CCrows
noncomputable def LL : Nat := 4611686018427387904
theorem row177 : RowOk PP 177 .add64 := fun args w => run_callFunc_extern (fn := fnAt PP 177) (by kernel_rfl) (by kernel_rfl) (by kernel_rfl) (by kernel_rfl) (by kernel_rfl) args w
theorem row191 : RowOk PP 191 .noEscape := fun args w => run_callFunc_extern (fn := fnAt PP 191) (by kernel_rfl) (by kernel_rfl) (by kernel_rfl) (by kernel_rfl) (by kernel_rfl) args w
theorem row209 : RowOk PP 209 .sub64 := fun args w => run_callFunc_extern (fn := fnAt PP 209) (by kernel_rfl) (by kernel_rfl) (by kernel_rfl) (by kernel_rfl) (by kernel_rfl) args w
theorem row221 : RowOk PP 221 .idxByte := fun args w => run_callFunc_extern (fn := fnAt PP 221) (by kernel_rfl) (by kernel_rfl) (by kernel_rfl) (by kernel_rfl) (by kernel_rfl) args w
theorem CC_ok : COk PP CC := ccOf_ok (by kernel_rfl) (by
  intro p hp h
  simp only [CCrows, List.mem_cons, List.mem_nil_iff, or_false] at hp
  rcases hp with rfl | rfl | rfl | rfl | rfl | rfl <;> cases h) (by
  intro p hp hl
  simp only [CCrows, List.mem_cons, List.mem_nil_iff, or_false] at hp
  rcases hp with rfl | rfl | rfl | rfl | rfl | rfl
  · exact row177
  · exact row191
  · cases hl
  · exact row209
  · exact row221
  · cases hl
  )
theorem PP_mixed : PP.follows .mixedOrders = true := by kernel_rfl
end
end S14
