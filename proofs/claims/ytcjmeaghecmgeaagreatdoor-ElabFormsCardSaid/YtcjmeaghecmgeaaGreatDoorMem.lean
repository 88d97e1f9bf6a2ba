/- Own texts of this proof: Mem14. -/
import Derived.Test.YtcjmeaghecmgeaaGreatDoorTab
import Derived.Test.YtcjmeaghecmgeaaGreatDoorLibF
set_option autoImplicit true
set_option relaxedAutoImplicit true
set_option linter.all false
open Go Go.Th
set_option maxRecDepth 100000
set_option linter.unusedVariables false
namespace S14
noncomputable section
def spaceCells : List AV := (List.range 256).map fun i => AV.int .u8 (Int.ofNat (sel (Nat.beq i 32) 1 (sel (Nat.ble 9 i) (sel (Nat.ble i 13) 1 0) 0)))
def LV : List LaidV := [⟨0, 132, spaceCells⟩]
theorem LV_ok : laidOk GG LV = true := by kernel_rfl
def R0c : Nat → Option Obj := r0Of LV
def H0 : Heap := h0Of GG LV
/-- strings.Fields s:set-logic set-option set-info declare-sort declare-fun def -/
def kn0 : Known := ⟨[(.str 127 319325319258326554093512196968256288761179978027433000396211036046690603159350028156705554932518661345157912835798036452311132234842031665166587278422141017737281782053426955363356972131573709467322872210257919729988138069728361038447141917517738918259867673574076508648298915106454587964108485694334461299)], (.slice 18 0 15 (some 15)), 19, [(18, .cells 9 [(.str 9 1833822825104238994803), (.str 10 521515500529936820888947), (.str 8 8027224783847712115), (.str 12 36038604990038409172318643556), (.str 11 133536241875146943192327524), (.str 10 521625944824775700800868), (.str 6 128034677158753), (.str 4 1752397168), (.str 3 7368560), (.str 9 2146844318733561063523), (.str 9 1999554446970838082919), (.str 9 1871582396404783670631), (.str 4 1869112165), (.str 5 499918267762), (.str 4 1953069157)] false false 0 0 false)]⟩
theorem kn0_chk : chkK GG kn0 (SX0 500 (.fn 41) kn0.args H0) = true := by kernel_rfl
theorem kn0_ok : KnownOk PP GG CC R0c H0 41 kn0 := known_of EV0_ok (fun r h => sx_of0 h) kn0_chk
/-- strings.Fields s:true false not and or => xor = distinct ite let + - * / <= -/
def kn1 : Known := ⟨[(.str 100 2979264086371278432919572328092243305837750632817776913804469502988164464830372063918115138735219755850161318952509741450305190720906660566727932541247083806060405202136942366418754848007894832361763076048500533038649710888471839426940858996)], (.slice 18 0 27 (some 27)), 19, [(18, .cells 9 [(.str 4 1702195828), (.str 5 435728179558), (.str 3 7630702), (.str 3 6581857), (.str 2 29295), (.str 2 15933), (.str 3 7499640), (.str 1 61), (.str 8 8386668330298337636), (.str 3 6648937), (.str 3 7628140), (.str 1 43), (.str 1 45), (.str 1 42), (.str 1 47), (.str 2 15676), (.str 1 60), (.str 2 15678), (.str 1 62), (.str 4 1819242306), (.str 4 1818322258), (.str 1 95), (.str 1 33), (.str 2 29537), (.str 6 126943989692517), (.str 6 119212747157350), (.str 3 7496048)] false false 0 0 false)]⟩
theorem kn1_chk : chkK GG kn1 (SX0 500 (.fn 41) kn1.args H0) = true := by kernel_rfl
theorem kn1_ok : KnownOk PP GG CC R0c H0 41 kn1 := known_of EV0_ok (fun r h => sx_of0 h) kn1_chk
/-- strings.Fields s:not and or => xor = distinct ite + - * / <= < >= > -/
def kn2 : Known := ⟨[(.str 50 626658932658519613438179258382518428236371876344723915106369893171513203014334302028362183388228254330737509715231928174)], (.slice 18 0 16 (some 16)), 19, [(18, .cells 9 [(.str 3 7630702), (.str 3 6581857), (.str 2 29295), (.str 2 15933), (.str 3 7499640), (.str 1 61), (.str 8 8386668330298337636), (.str 3 6648937), (.str 1 43), (.str 1 45), (.str 1 42), (.str 1 47), (.str 2 15676), (.str 1 60), (.str 2 15678), (.str 1 62)] false false 0 0 false)]⟩
theorem kn2_chk : chkK GG kn2 (SX0 500 (.fn 41) kn2.args H0) = true := by kernel_rfl
theorem kn2_ok : KnownOk PP GG CC R0c H0 41 kn2 := known_of EV0_ok (fun r h => sx_of0 h) kn2_chk
/-- theodolite/theodolitelaw14.fresh  -/
def kn3 : Known := ⟨[], (.tuple [(.ptr 269 0), (.bool true)]), 270, [(18, .cells 89 [(.slice 22 0 1 none), (.slice 253 0 10 none), .nilSlice] false false 0 0 false), (19, .cells 50 [(.slice 26 0 1 none), (.slice 263 0 10 none), .nilSlice] false false 0 0 false), (22, .cells 9 [(.str 1 85)] false true 0 1 false), (26, .cells 9 [(.str 1 85)] false true 0 1 false), (45, .cells 3 [] false false 0 0 false), (63, .cells 3 [] false false 0 0 false), (83, .cells 3 [] false false 0 0 false), (104, .cells 3 [] false false 0 0 false), (126, .cells 3 [] false false 0 0 false), (149, .cells 3 [] false false 0 0 false), (173, .cells 3 [] false false 0 0 false), (192, .cells 3 [(.int .i64 1)] false true 0 1 false), (202, .cells 3 [(.int .i64 1)] false true 0 1 false), (221, .cells 3 [(.int .i64 2), (.int .i64 1)] false true 0 1 false), (231, .cells 3 [(.int .i64 2), (.int .i64 1)] false true 0 1 false), (251, .cells 3 [(.int .i64 2)] false true 0 1 false), (253, .cells 56 [(.str 1 120), .nilSlice, (.int .i64 1), (.str 1 121), .nilSlice, (.int .i64 1), (.str 1 122), .nilSlice, (.int .i64 1), (.str 1 112), .nilSlice, (.int .i64 0), (.str 1 113), .nilSlice, (.int .i64 0), (.str 1 97), .nilSlice, (.int .i64 2), (.str 1 98), .nilSlice, (.int .i64 2), (.str 1 102), (.slice 192 0 1 none), (.int .i64 1), (.str 1 103), (.slice 221 0 2 none), (.int .i64 2), (.str 1 104), (.slice 251 0 1 none), (.int .i64 0)] false true 0 3 false), (261, .cells 3 [(.int .i64 2)] false true 0 1 false), (263, .cells 56 [(.str 1 120), (.slice 45 0 0 (some 0)), (.int .i64 1), (.str 1 121), (.slice 63 0 0 (some 0)), (.int .i64 1), (.str 1 122), (.slice 83 0 0 (some 0)), (.int .i64 1), (.str 1 112), (.slice 104 0 0 (some 0)), (.int .i64 0), (.str 1 113), (.slice 126 0 0 (some 0)), (.int .i64 0), (.str 1 97), (.slice 149 0 0 (some 0)), (.int .i64 2), (.str 1 98), (.slice 173 0 0 (some 0)), (.int .i64 2), (.str 1 102), (.slice 202 0 1 none), (.int .i64 1), (.str 1 103), (.slice 231 0 2 none), (.int .i64 2), (.str 1 104), (.slice 261 0 1 none), (.int .i64 0)] false true 0 3 false), (264, .map []), (265, .cells 100 [(.ptr 18 0), .nilSlice, .nilSlice, (.map 264), (.int .i64 0), (.int .i64 16384)] false false 0 0 false), (266, .cells 76 [.nilSlice, .nilSlice] false false 0 0 false), (267, .cells 63 [(.ptr 19 0), .nilSlice, (.int .i64 0)] false false 0 0 false), (268, .cells 66 [(.ptr 267 0), .nilSlice, .nilSlice, (.int .i64 0)] false false 0 0 false), (269, .cells 40 [(.ptr 18 0), (.ptr 265 0), (.ptr 266 0), (.ptr 268 0)] false false 0 0 false)]⟩
theorem kn3_chk : chkK GG kn3 (SX0 500 (.fn 7) kn3.args H0) = true := by kernel_rfl
theorem kn3_ok : KnownOk PP GG CC R0c H0 7 kn3 := known_of EV0_ok (fun r h => sx_of0 h) kn3_chk
/-- theodolite/theodolitelaw14.awake  -/
def kn4 : Known := ⟨[], (.bool true), 1809, []⟩
theorem kn4_chk : chkK GG kn4 (SX0 500 (.fn 6) kn4.args H0) = true := by kernel_rfl
theorem kn4_ok : KnownOk PP GG CC R0c H0 6 kn4 := known_of EV0_ok (fun r h => sx_of0 h) kn4_chk
def KT : Tri (List Known) := ((((((Tri.lf).set 41 (some [kn0, kn1, kn2]))).set 7 (some [kn3]))).set 6 (some [kn4]))
theorem KT_ok : KTabOk PP GG CC R0c H0 KT := ((((((KTabOk.lf).set (by
  intro k hk; simp only [List.mem_cons, List.mem_nil_iff, or_false] at hk
  rcases hk with rfl | rfl | rfl
  · exact kn0_ok
  · exact kn1_ok
  · exact kn2_ok))).set (by intro k hk; simp only [List.mem_cons, List.mem_nil_iff, or_false] at hk; rcases hk with rfl; exact kn3_ok))).set (by intro k hk; simp only [List.mem_cons, List.mem_nil_iff, or_false] at hk; rcases hk with rfl; exact kn4_ok))
def M1 : Memo := memoT GG KT
theorem M1_ok : MemoOk PP GG R0c M1 := memoT_ok (base_of LV_ok) KT_ok
end
end S14
