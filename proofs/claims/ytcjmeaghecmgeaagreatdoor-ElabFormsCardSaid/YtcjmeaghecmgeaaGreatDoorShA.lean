/- Own texts of this proof: Sh14a. -/
import Derived.Test.YtcjmeaghecmgeaaGreatDoorBase
set_option autoImplicit true
set_option relaxedAutoImplicit true
set_option linter.all false
open Go Go.Th Go.Proofs
set_option maxRecDepth 100000
set_option linter.unusedVariables false
namespace S14
noncomputable section
def fn4 : Func := fnAt PP 4
def R4 (E : Ev) : RT := runR PP GG CC E 78 LL none 16
theorem R4_unf (E : Ev) (c : Code) (lv : Nat) (lx : Nat → Nat) (kn : K) (kx : Nat → K) (kr : K) (e : Env) (h : Heap) : R4 E c true lv lx kn kx kr e h = runS (R4 E) PP GG CC E 78 LL none 16 c lv lx kn kx kr e h := runR_unf _ _ _ _ _ _ _ _
def r4 (x4 : AV) (h : Heap) : Res := some (x4, h)
theorem r4_eq : r4 = fun x4 h => xret PP fn4 (mkE [(4, x4)]) h := by kernel_rfl
def f4_1 (E : Ev) (kr : AV → Heap → Res) (x8 x9 x11 x12 x14 : AV) (h : Heap) : Res :=
  ob (xindexAddr PP 33 x8 x9) fun x60 =>
  ob (pLoad PP 29 x60 h) fun x61 =>
  ob (xbin PP .eql 29 false x12 x61) fun x62 =>
  ob (pWant x62 true) fun c =>
  ob (sel c (some x11) (some (.tuple []))) fun x64 =>
  ob (pWant x62 true) fun c_1 =>
  ob (sel c_1 (xbin PP .eql 3 true x64 (.int .i64 0)) (some (.tuple []))) fun x65 =>
  ob (pPick x62 (some x65) (some (.bool false))) fun x66 =>
  ob (pWant x66 true) fun c_2 =>
  ob (sel c_2 (some x14) (some (.tuple []))) fun x68 =>
  ob (pWant x66 true) fun c_3 =>
  ob (sel c_3 (some x8) (some (.tuple []))) fun x69 =>
  ob (pWant x66 true) fun c_4 =>
  ob (sel c_4 (some x9) (some (.tuple []))) fun x70 =>
  ob (pWant x66 true) fun c_5 =>
  ob (sel c_5 (xindexAddr PP 33 x69 x70) (some (.tuple []))) fun x71 =>
  ob (pWant x66 true) fun c_6 =>
  ob (sel c_6 (pLoad PP 29 x71 h) (some (.tuple []))) fun x72 =>
  ob (pWant x66 true) fun c_7 =>
  ob (sel c_7 (xbin PP .eql 29 false x68 x72) (some (.tuple []))) fun x73 =>
  ob (pPick x66 (some x73) (some (.bool false))) fun x74 =>
  ob (pWant x74 true) fun c_8 =>
  obP (sel c_8 (E (.fn 6) [] h) (some (.tuple [], h))) fun x76 h76 =>
  ob (pPick x74 (some x76) (some (.bool false))) fun x77 =>
  kr x77 h76
theorem f4_1_eq (E : Ev) (kn : K) (kx : Nat → K) (kr : K) : f4_1 E (fun y4 h => kr (mkE [(4, y4)]) h) = fun x8 x9 x11 x12 x14 h => R4 E (pb (pb (pb (pb (pb (pb (pb (pb (codeOf fn4))))))))) true 16 (fun _ => 0) kn kx kr (mkE [(8, x8), (9, x9), (11, x11), (12, x12), (14, x14)]) h := by
  funext x8 x9 x11 x12 x14 h
  unfold f4_1
  refine Eq.trans ?_ (R4_unf E _ _ _ _ _ _ _ _).symm
  generalize R4 E = R
  generalize LL = L
  generalize PP = P
  revert R L P
  refine id ?_
  intro R L P
  kernel_rfl
/-- theodolite/theodolitelaw14.ElabForms -/
def s4 (E : Ev) (x0 x1 : AV) (h : Heap) : Res :=
  obP (E (.fn 7) [] h) fun x16 h16 =>
  ob (pExtract 0 x16) fun x17 =>
  ob (pExtract 1 x16) fun x18 =>
  ob (xun .not x18) fun x20 =>
  pIf x20
   (r4 (.bool false) h16)
   (obP (pBuildSlice PP h16 27 23 [(0, (.str 5 178125830184)), (1, (.str 2 10536)), (2, (.str 7 11672553573984296)), (3, (.str 2 27450)), (4, (.str 3 2257954)), (5, (.str 6 133472272412526)), (6, (.str 10 195685401145821874843176)), (7, (.str 3 6581857)), (8, (.str 5 178046463016)), (9, (.str 13 3285531744271627436796888312872)), (10, (.str 21 60607363232534163605485125228434451361145406450728)), (11, (.str 17 14111251391594492359414518552305558973480)), (12, (.str 3 2713128)), (13, (.str 5 177974830632)), (14, (.str 7 11663757610593064)), (15, (.str 7 11672554564378920)), (16, (.str 3 2698024)), (17, (.str 21 60561691306445005230304485780833410242006569936424)), (18, (.str 1 102)), (19, (.str 7 11593390057598760)), (20, (.str 5 178047118888)), (21, (.str 12 12824438357186530670304388136)), (22, (.str 26 66144447720702261104754631095332129166536688017139514386770984))]) fun x21 h21 =>
   obP (pBuildSlice PP h21 33 23 [(0, (.int .i64 3)), (1, (.int .i64 2)), (2, (.int .i64 2)), (3, (.int .i64 2)), (4, (.int .i64 2)), (5, (.int .i64 5)), (6, (.int .i64 5)), (7, (.int .i64 2)), (8, (.int .i64 2)), (9, (.int .i64 2)), (10, (.int .i64 2)), (11, (.int .i64 2)), (12, (.int .i64 3)), (13, (.int .i64 3)), (14, (.int .i64 3)), (15, (.int .i64 3)), (16, (.int .i64 3)), (17, (.int .i64 2)), (18, (.int .i64 3)), (19, (.int .i64 3)), (20, (.int .i64 3)), (21, (.int .i64 3)), (22, (.int .i64 5))]) fun x22 h22 =>
   ob (xlen PP h22 27 x21) fun x25 =>
   obP (E (.fn 8) [x0, x25] h22) fun x26 h26 =>
   ob (xlen PP h26 27 x21) fun x29 =>
   obP (E (.fn 8) [x1, x29] h26) fun x30 h30 =>
   ob (xindexAddr PP 27 x21 x26) fun x35 =>
   ob (pLoad PP 9 x35 h30) fun x36 =>
   obP (E (.fn 9) [x17, x36] h30) fun x37 h37 =>
   ob (pExtract 0 x37) fun x38 =>
   ob (pExtract 1 x37) fun x39 =>
   ob (xindexAddr PP 27 x21 x26) fun x44 =>
   ob (pLoad PP 9 x44 h37) fun x45 =>
   ob (xbin PP .add 9 true (.str 7 9130483680960808) x45) fun x46 =>
   ob (xbin PP .add 9 true x46 (.str 1 32)) fun x47 =>
   ob (xindexAddr PP 27 x21 x30) fun x50 =>
   ob (pLoad PP 9 x50 h37) fun x51 =>
   ob (xbin PP .add 9 false x47 x51) fun x52 =>
   ob (xbin PP .add 9 true x52 (.str 1 41)) fun x53 =>
   sel (chkV x45 (pLoad PP 9 x44 h37)) (
   sel (chkV x51 (pLoad PP 9 x50 h37)) (
   obP (E (.fn 9) [x17, x53] h37) fun x54 h54 =>
   ob (pExtract 0 x54) fun x55 =>
   ob (pExtract 1 x54) fun x56 =>
   f4_1 E r4 x22 x26 x38 x39 x56 h54) none) none)
theorem s4_eq (E : Ev) (x0 x1 : AV) (h : Heap) : xbodyR PP GG CC E LL fn4 [x0, x1] h = s4 E x0 x1 h := by
  unfold s4
  rw [r4_eq, f4_1_eq E (xret PP fn4) noK (xret PP fn4)]
  refine (bodyR_unf (c := (codeOf fn4)) (by kernel_rfl) (by kernel_rfl)).trans ?_
  show runS (R4 E) PP GG CC E fn4.ntmps LL none (resBits fn4.results.toList) (codeOf fn4) _ _ _ _ _ _ _ = _
  generalize R4 E = R
  generalize LL = L
  generalize PP = P
  symm
  revert R L P
  refine id ?_
  intro R L P
  kernel_rfl
def fn6 : Func := fnAt PP 6
def R6 (E : Ev) : RT := runR PP GG CC E 142 LL none 1
theorem R6_unf (E : Ev) (c : Code) (lv : Nat) (lx : Nat → Nat) (kn : K) (kx : Nat → K) (kr : K) (e : Env) (h : Heap) : R6 E c true lv lx kn kx kr e h = runS (R6 E) PP GG CC E 142 LL none 1 c lv lx kn kx kr e h := runR_unf _ _ _ _ _ _ _ _
def r6 (x0 : AV) (h : Heap) : Res := some (x0, h)
theorem r6_eq : r6 = fun x0 h => xret PP fn6 (mkE [(0, x0)]) h := by kernel_rfl
def f6_1 (E : Ev) (kr : AV → Heap → Res) (x1 x3 x4 x5 x6 x7 x9 x11 x13 x15 x16 x17 x18 x19 x20 : AV) (h : Heap) : Res :=
  ob (xbin PP .eql 29 true x3 (.int .i64 0)) fun x72 =>
  ob (pWant x72 true) fun c =>
  ob (sel c (some x5) (some (.tuple []))) fun x74 =>
  ob (pWant x72 true) fun c_1 =>
  ob (sel c_1 (xbin PP .eql 29 true x74 (.int .i64 0)) (some (.tuple []))) fun x75 =>
  ob (pPick x72 (some x75) (some (.bool false))) fun x76 =>
  ob (pWant x76 true) fun c_2 =>
  ob (sel c_2 (some x7) (some (.tuple []))) fun x78 =>
  ob (pWant x76 true) fun c_3 =>
  ob (sel c_3 (xbin PP .eql 29 true x78 (.int .i64 0)) (some (.tuple []))) fun x79 =>
  ob (pPick x76 (some x79) (some (.bool false))) fun x80 =>
  ob (pWant x80 true) fun c_4 =>
  ob (sel c_4 (some x4) (some (.tuple []))) fun x82 =>
  ob (pWant x80 true) fun c_5 =>
  ob (sel c_5 (some x6) (some (.tuple []))) fun x83 =>
  ob (pWant x80 true) fun c_6 =>
  ob (sel c_6 (xbin PP .eql 3 false x82 x83) (some (.tuple []))) fun x84 =>
  ob (pPick x80 (some x84) (some (.bool false))) fun x85 =>
  ob (pWant x85 true) fun c_7 =>
  ob (sel c_7 (some x9) (some (.tuple []))) fun x87 =>
  ob (pWant x85 true) fun c_8 =>
  ob (sel c_8 (xbin PP .eql 29 true x87 (.int .i64 3)) (some (.tuple []))) fun x88 =>
  ob (pPick x85 (some x88) (some (.bool false))) fun x89 =>
  ob (pWant x89 true) fun c_9 =>
  ob (sel c_9 (some x11) (some (.tuple []))) fun x91 =>
  ob (pWant x89 true) fun c_10 =>
  ob (sel c_10 (xbin PP .eql 29 true x91 (.int .i64 5)) (some (.tuple []))) fun x92 =>
  ob (pPick x89 (some x92) (some (.bool false))) fun x93 =>
  ob (pWant x93 true) fun c_11 =>
  ob (sel c_11 (some x13) (some (.tuple []))) fun x95 =>
  ob (pWant x93 true) fun c_12 =>
  ob (sel c_12 (xbin PP .eql 29 true x95 (.int .i64 2)) (some (.tuple []))) fun x96 =>
  ob (pPick x93 (some x96) (some (.bool false))) fun x97 =>
  ob (pWant x97 true) fun c_13 =>
  ob (sel c_13 (some x15) (some (.tuple []))) fun x99 =>
  ob (pWant x97 true) fun c_14 =>
  ob (sel c_14 (xbin PP .eql 29 true x99 (.int .i64 3)) (some (.tuple []))) fun x100 =>
  ob (pPick x97 (some x100) (some (.bool false))) fun x101 =>
  ob (pWant x101 true) fun c_15 =>
  ob (sel c_15 (some x17) (some (.tuple []))) fun x103 =>
  ob (pWant x101 true) fun c_16 =>
  ob (sel c_16 (xbin PP .eql 29 true x103 (.int .i64 0)) (some (.tuple []))) fun x104 =>
  ob (pPick x101 (some x104) (some (.bool false))) fun x105 =>
  ob (pWant x105 true) fun c_17 =>
  ob (sel c_17 (some x19) (some (.tuple []))) fun x107 =>
  ob (pWant x105 true) fun c_18 =>
  ob (sel c_18 (xbin PP .eql 29 true x107 (.int .i64 0)) (some (.tuple []))) fun x108 =>
  ob (pPick x105 (some x108) (some (.bool false))) fun x109 =>
  ob (pWant x109 true) fun c_19 =>
  ob (sel c_19 (some x16) (some (.tuple []))) fun x111 =>
  ob (pWant x109 true) fun c_20 =>
  ob (sel c_20 (some x18) (some (.tuple []))) fun x112 =>
  ob (pWant x109 true) fun c_21 =>
  ob (sel c_21 (xbin PP .eql 3 false x111 x112) (some (.tuple []))) fun x113 =>
  ob (pPick x109 (some x113) (some (.bool false))) fun x114 =>
  ob (pWant x114 true) fun c_22 =>
  ob (sel c_22 (some x20) (some (.tuple []))) fun x116 =>
  ob (pWant x114 true) fun c_23 =>
  ob (sel c_23 (xbin PP .eql 29 true x116 (.int .i64 3)) (some (.tuple []))) fun x117 =>
  ob (pPick x114 (some x117) (some (.bool false))) fun x118 =>
  ob (pWant x118 true) fun c_24 =>
  ob (sel c_24 (some x1) (some (.tuple []))) fun x120 =>
  ob (pWant x118 true) fun c_25 =>
  ob (sel c_25 (pNil x120) (some (.tuple []))) fun x121 =>
  ob (pWant x118 true) fun c_26 =>
  ob (sel c_26 (pFieldAddr PP 40 2 x121) (some (.tuple []))) fun x122 =>
  ob (pWant x118 true) fun c_27 =>
  ob (sel c_27 (pLoad PP 37 x122 h) (some (.tuple []))) fun x123 =>
  ob (pWant x118 true) fun c_28 =>
  obP (sel c_28 (E (.fn 13) [x123, (.str 3 7305076)] h) (some (.tuple [], h))) fun x124 h124 =>
  ob (pPick x118 (some x124) (some (.bool false))) fun x125 =>
  ob (pWant x125 true) fun c_29 =>
  ob (sel c_29 (some x1) (some (.tuple []))) fun x127 =>
  ob (pWant x125 true) fun c_30 =>
  ob (sel c_30 (pNil x127) (some (.tuple []))) fun x128 =>
  ob (pWant x125 true) fun c_31 =>
  ob (sel c_31 (pFieldAddr PP 40 2 x128) (some (.tuple []))) fun x129 =>
  ob (pWant x125 true) fun c_32 =>
  ob (sel c_32 (pLoad PP 37 x129 h124) (some (.tuple []))) fun x130 =>
  ob (pWant x125 true) fun c_33 =>
  obP (sel c_33 (E (.fn 13) [x130, (.str 3 6578530)] h124) (some (.tuple [], h124))) fun x131 h131 =>
  ob (pWant x125 true) fun c_34 =>
  ob (sel c_34 (xun .not x131) (some (.tuple []))) fun x132 =>
  ob (pPick x125 (some x132) (some (.bool false))) fun x133 =>
  ob (pWant x133 true) fun c_35 =>
  ob (sel c_35 (some x1) (some (.tuple []))) fun x135 =>
  ob (pWant x133 true) fun c_36 =>
  ob (sel c_36 (pNil x135) (some (.tuple []))) fun x136 =>
  ob (pWant x133 true) fun c_37 =>
  ob (sel c_37 (pFieldAddr PP 40 2 x136) (some (.tuple []))) fun x137 =>
  ob (pWant x133 true) fun c_38 =>
  ob (sel c_38 (pLoad PP 37 x137 h131) (some (.tuple []))) fun x138 =>
  ob (pWant x133 true) fun c_39 =>
  obP (sel c_39 (E (.fn 12) [x138, (.int .i64 1)] h131) (some (.tuple [], h131))) fun x139 h139 =>
  ob (pWant x133 true) fun c_40 =>
  ob (sel c_40 (xbin PP .eql 29 true x139 (.int .i64 5)) (some (.tuple []))) fun x140 =>
  ob (pPick x133 (some x140) (some (.bool false))) fun x141 =>
  kr x141 h139
theorem f6_1_eq (E : Ev) (kn : K) (kx : Nat → K) (kr : K) : f6_1 E (fun y0 h => kr (mkE [(0, y0)]) h) = fun x1 x3 x4 x5 x6 x7 x9 x11 x13 x15 x16 x17 x18 x19 x20 h => R6 E (pb (pb (pb (pb (pb (pb (pb (pb (pb (pb (pb (pb (pb (codeOf fn6)))))))))))))) true 1 (fun _ => 0) kn kx kr (mkE [(1, x1), (3, x3), (4, x4), (5, x5), (6, x6), (7, x7), (9, x9), (11, x11), (13, x13), (15, x15), (16, x16), (17, x17), (18, x18), (19, x19), (20, x20)]) h := by
  funext x1 x3 x4 x5 x6 x7 x9 x11 x13 x15 x16 x17 x18 x19 x20 h
  unfold f6_1
  refine Eq.trans ?_ (R6_unf E _ _ _ _ _ _ _ _).symm
  generalize R6 E = R
  generalize LL = L
  generalize PP = P
  revert R L P
  refine id ?_
  intro R L P
  kernel_rfl
/-- theodolite/theodolitelaw14.awake -/
def s6 (E : Ev) (h : Heap) : Res :=
  obP (E (.fn 7) [] h) fun x22 h22 =>
  ob (pExtract 0 x22) fun x23 =>
  ob (pExtract 1 x22) fun x24 =>
  ob (xun .not x24) fun x26 =>
  pIf x26
   (r6 (.bool false) h22)
   (obP (E (.fn 11) [x23, (.str 40 343442881289640562586454096621071012753207854799973535772441992132865973855754110290198981338152)] h22) fun x28 h28 =>
   obP (E (.fn 9) [x23, (.str 29 1109697494474495555095598652523424636061234495941941663690091632356392)] h28) fun x31 h31 =>
   ob (pExtract 0 x31) fun x32 =>
   ob (pExtract 1 x31) fun x33 =>
   obP (E (.fn 9) [x23, (.str 15 213962798608044067910067234690579496)] h31) fun x36 h36 =>
   ob (pExtract 0 x36) fun x37 =>
   ob (pExtract 1 x36) fun x38 =>
   obP (E (.fn 9) [x23, (.str 7 11663758801775400)] h36) fun x41 h41 =>
   ob (pExtract 0 x41) fun x42 =>
   ob (pExtract 1 x41) fun x43 =>
   obP (E (.fn 9) [x23, (.str 10 195832975098411551256104)] h41) fun x46 h46 =>
   ob (pExtract 0 x46) fun x47 =>
   ob (pExtract 1 x46) fun x48 =>
   obP (E (.fn 9) [x23, (.str 10 195832952514103715654696)] h46) fun x51 h51 =>
   ob (pExtract 0 x51) fun x52 =>
   ob (pExtract 1 x51) fun x53 =>
   obP (E (.fn 9) [x23, (.str 5 177778614568)] h51) fun x56 h56 =>
   ob (pExtract 0 x56) fun x57 =>
   ob (pExtract 1 x56) fun x58 =>
   obP (E (.fn 9) [x23, (.str 7 11663758471356712)] h56) fun x61 h61 =>
   ob (pExtract 0 x61) fun x62 =>
   ob (pExtract 1 x61) fun x63 =>
   obP (E (.fn 9) [x23, (.str 1 112)] h61) fun x66 h66 =>
   ob (pExtract 0 x66) fun x67 =>
   ob (pExtract 1 x66) fun x68 =>
   obP (E (.fn 11) [x23, (.str 26 66588290227483822900639042035680387896336814197196279731545128)] h66) fun x70 h70 =>
   f6_1 E r6 x23 x28 x32 x33 x37 x38 x43 x48 x53 x58 x62 x63 x67 x68 x70 h70)
theorem s6_eq (E : Ev) (h : Heap) : xbodyR PP GG CC E LL fn6 [] h = s6 E h := by
  unfold s6
  rw [r6_eq, f6_1_eq E (xret PP fn6) noK (xret PP fn6)]
  refine (bodyR_unf (c := (codeOf fn6)) (by kernel_rfl) (by kernel_rfl)).trans ?_
  show runS (R6 E) PP GG CC E fn6.ntmps LL none (resBits fn6.results.toList) (codeOf fn6) _ _ _ _ _ _ _ = _
  generalize R6 E = R
  generalize LL = L
  generalize PP = P
  symm
  revert R L P
  refine id ?_
  intro R L P
  kernel_rfl
def fn7 : Func := fnAt PP 7
def R7 (E : Ev) : RT := runR PP GG CC E 59 LL none 3
theorem R7_unf (E : Ev) (c : Code) (lv : Nat) (lx : Nat → Nat) (kn : K) (kx : Nat → K) (kr : K) (e : Env) (h : Heap) : R7 E c true lv lx kn kx kr e h = runS (R7 E) PP GG CC E 59 LL none 3 c lv lx kn kx kr e h := runR_unf _ _ _ _ _ _ _ _
def r7 (x0 x1 : AV) (h : Heap) : Res := some (.tuple [x0, x1], h)
theorem r7_eq : r7 = fun x0 x1 h => xret PP fn7 (mkE [(0, x0), (1, x1)]) h := by kernel_rfl
def f7_2 (E : Ev) (kr : AV → AV → Heap → Res) (x6 : AV) (h : Heap) : Res :=
  ob (pNil x6) fun x48 =>
  ob (pFieldAddr PP 40 1 x48) fun x49 =>
  ob (pLoad PP 36 x49 h) fun x50 =>
  ob (xbin PP .neq 36 true x50 .nilPtr) fun x51 =>
  ob (pWant x51 true) fun c =>
  ob (sel c (some x6) (some (.tuple []))) fun x53 =>
  ob (pWant x51 true) fun c_1 =>
  ob (sel c_1 (pNil x53) (some (.tuple []))) fun x54 =>
  ob (pWant x51 true) fun c_2 =>
  ob (sel c_2 (pFieldAddr PP 40 2 x54) (some (.tuple []))) fun x55 =>
  ob (pWant x51 true) fun c_3 =>
  ob (sel c_3 (pLoad PP 37 x55 h) (some (.tuple []))) fun x56 =>
  ob (pWant x51 true) fun c_4 =>
  ob (sel c_4 (xbin PP .neq 37 true x56 .nilPtr) (some (.tuple []))) fun x57 =>
  ob (pPick x51 (some x57) (some (.bool false))) fun x58 =>
  sel (chkV x50 (pLoad PP 36 x49 h)) (
  ob (ob (pWant x51 true) fun c => some (sel c (chkV x56 (pLoad PP 37 x55 h)) true)) fun c_5 => sel c_5 (
  kr x6 x58 h) none) none
theorem f7_2_eq (E : Ev) (kn : K) (kx : Nat → K) (kr : K) : f7_2 E (fun y0 y1 h => kr (mkE [(0, y0), (1, y1)]) h) = fun x6 h => R7 E (pb (pb (pb (pb (pb (pb (pb (pb (pb (codeOf fn7)))))))))) true 3 (fun _ => 0) kn kx kr (mkE [(6, x6)]) h := by
  funext x6 h
  unfold f7_2
  refine Eq.trans ?_ (R7_unf E _ _ _ _ _ _ _ _).symm
  generalize R7 E = R
  generalize LL = L
  generalize PP = P
  revert R L P
  refine id ?_
  intro R L P
  kernel_rfl
def f7_1 (E : Ev) (kr : AV → AV → Heap → Res) (x2 x3 : AV) (h : Heap) : Res :=
  obP (E (.fn 20) [x2] h) fun x37 h37 =>
  obP (E (.fn 21) [] h37) fun x38 h38 =>
  ob (xbuild PP 63 [(0, x3)]) fun x40 =>
  obP (some (pNew h38 63 x40.cells)) fun x41 h41 =>
  ob (xbuild PP 66 [(0, x41)]) fun x42 =>
  obP (some (pNew h41 66 x42.cells)) fun x43 h43 =>
  ob (xbuild PP 40 [(0, x2), (1, x37), (2, x38), (3, x43)]) fun x44 =>
  obP (some (pNew h43 40 x44.cells)) fun x45 h45 =>
  f7_2 E kr x45 h45
theorem f7_1_eq (E : Ev) (kn : K) (kx : Nat → K) (kr : K) : f7_1 E (fun y0 y1 h => kr (mkE [(0, y0), (1, y1)]) h) = fun x2 x3 h => R7 E (pb (pb (pb (pb (pb (pb (pb (pb (codeOf fn7))))))))) true 3 (fun _ => 0) kn kx kr (mkE [(2, x2), (3, x3)]) h := by
  funext x2 x3 h
  unfold f7_1
  rw [f7_2_eq E kn kx kr]
  refine Eq.trans ?_ (R7_unf E _ _ _ _ _ _ _ _).symm
  generalize R7 E = R
  generalize LL = L
  generalize PP = P
  revert R L P
  refine id ?_
  intro R L P
  kernel_rfl
def f7_3 (E : Ev) (kn : AV → AV → AV → AV → Heap → Res) (k0 : AV → AV → Heap → Res) (x2 x3 x4 x5 : AV) (h : Heap) : Res :=
  ob (xlen PP h 47 x4) fun x19 =>
  ob (xbin PP .lss 3 false x5 x19) fun x20 =>
  pIf x20
   (ob (xindexAddr PP 47 x4 x5) fun x26 =>
   ob (pLoad PP 56 x26 h) fun x27 =>
   obP (E (.fn 18) [x2, x27] h) fun x28 h28 =>
   ob (xindexAddr PP 47 x4 x5) fun x32 =>
   ob (pLoad PP 56 x32 h28) fun x33 =>
   obP (E (.fn 19) [x3, x33] h28) fun x34 h34 =>
   ob (xbin PP .add 3 true x5 (.int .i64 1)) fun x22 =>
   kn x2 x3 x4 x22 h34)
   (k0 x2 x3 h)
theorem f7_3_eq (E : Ev) (kn : K) (kx : Nat → K) (kr : K) (e0 : K) (he0 : kx 0 = e0) : f7_3 E (fun y2 y3 y4 y5 h => kn (mkE [(2, y2), (3, y3), (4, y4), (5, y5)]) h) (fun y2 y3 h => e0 (mkE [(2, y2), (3, y3)]) h) = fun x2 x3 x4 x5 h => R7 E (pa (pa (pb (pa (pb (pb (pb (pb (pb (pb (pb (codeOf fn7)))))))))))) true 60 (fun i => sel (Nat.beq i 0) 12 ((fun _ => 0) i)) kn kx kr (mkE [(2, x2), (3, x3), (4, x4), (5, x5)]) h := by
  subst he0
  funext x2 x3 x4 x5 h
  unfold f7_3
  refine Eq.trans ?_ (R7_unf E _ _ _ _ _ _ _ _).symm
  generalize R7 E = R
  generalize LL = L
  generalize PP = P
  revert R L P
  refine id ?_
  intro R L P
  kernel_rfl
/-- theodolite/theodolitelaw14.fresh -/
def s7 (E : Ev) (h : Heap) : Res :=
  obP (E (.fn 14) [] h) fun x7 h7 =>
  ob (xbuild PP 50 []) fun x8 =>
  obP (some (pNew h7 50 x8.cells)) fun x9 h9 =>
  ob (xbin PP .eql 35 true x7 .nilPtr) fun x11 =>
  pIf x11
   (r7 .nilPtr (.bool false) h9)
   (obP (E (.fn 15) [x7, (.str 1 85)] h9) fun x13 h13 =>
   obP (E (.fn 16) [x9, (.str 1 85)] h13) fun x15 h15 =>
   obP (E (.fn 17) [] h15) fun x16 h16 =>
   lp b4 (fun k => f7_3 E k (f7_1 E r7)) LL x7 x9 x16 (.int .i64 0) h16)
theorem s7_eq (E : Ev) (h : Heap) : xbodyR PP GG CC E LL fn7 [] h = s7 E h := by
  unfold s7
  rw [r7_eq, f7_1_eq E (xret PP fn7) noK (xret PP fn7), lp4_eq 2 3 4 5 (fun k => (R7 E (pa (pa (pb (pa (pb (pb (pb (pb (pb (pb (pb (codeOf fn7)))))))))))) true 60 (fun i => sel (Nat.beq i 0) 12 ((fun _ => 0) i)) k (fun i => sel (Nat.beq i 0) (R7 E (pb (pb (pb (pb (pb (pb (pb (pb (codeOf fn7))))))))) true 3 (fun _ => 0) (xret PP fn7) noK (xret PP fn7)) (noK i)) (xret PP fn7))) (fun k => f7_3 E k (fun y2 y3 h => (R7 E (pb (pb (pb (pb (pb (pb (pb (pb (codeOf fn7))))))))) true 3 (fun _ => 0) (xret PP fn7) noK (xret PP fn7)) (mkE [(2, y2), (3, y3)]) h)) (fun k => f7_3_eq E k (fun i => sel (Nat.beq i 0) (R7 E (pb (pb (pb (pb (pb (pb (pb (pb (codeOf fn7))))))))) true 3 (fun _ => 0) (xret PP fn7) noK (xret PP fn7)) (noK i)) (xret PP fn7) (R7 E (pb (pb (pb (pb (pb (pb (pb (pb (codeOf fn7))))))))) true 3 (fun _ => 0) (xret PP fn7) noK (xret PP fn7)) rfl) LL]
  refine (bodyR_unf (c := (codeOf fn7)) (by kernel_rfl) (by kernel_rfl)).trans ?_
  show runS (R7 E) PP GG CC E fn7.ntmps LL none (resBits fn7.results.toList) (codeOf fn7) _ _ _ _ _ _ _ = _
  generalize R7 E = R
  generalize LL = L
  generalize PP = P
  symm
  revert R L P
  refine id ?_
  intro R L P
  kernel_rfl
def fn8 : Func := fnAt PP 8
def R8 (E : Ev) : RT := runR PP GG CC E 12 LL none 16
theorem R8_unf (E : Ev) (c : Code) (lv : Nat) (lx : Nat → Nat) (kn : K) (kx : Nat → K) (kr : K) (e : Env) (h : Heap) : R8 E c true lv lx kn kx kr e h = runS (R8 E) PP GG CC E 12 LL none 16 c lv lx kn kx kr e h := runR_unf _ _ _ _ _ _ _ _
def r8 (x4 : AV) (h : Heap) : Res := some (x4, h)
theorem r8_eq : r8 = fun x4 h => xret PP fn8 (mkE [(4, x4)]) h := by kernel_rfl
/-- theodolite/theodolitealike.Round -/
def s8 (E : Ev) (x0 x1 : AV) (h : Heap) : Res :=
  ob (xbin PP .rem 3 false x0 x1) fun x7 =>
  ob (xbin PP .add 3 false x7 x1) fun x9 =>
  ob (xbin PP .rem 3 false x9 x1) fun x11 =>
  r8 x11 h
theorem s8_eq (E : Ev) (x0 x1 : AV) (h : Heap) : xbodyR PP GG CC E LL fn8 [x0, x1] h = s8 E x0 x1 h := by
  unfold s8
  rw [r8_eq]
  refine (bodyR_unf (c := (codeOf fn8)) (by kernel_rfl) (by kernel_rfl)).trans ?_
  show runS (R8 E) PP GG CC E fn8.ntmps LL none (resBits fn8.results.toList) (codeOf fn8) _ _ _ _ _ _ _ = _
  generalize R8 E = R
  generalize LL = L
  generalize PP = P
  symm
  revert R L P
  refine id ?_
  intro R L P
  kernel_rfl
def fn9 : Func := fnAt PP 9
def R9 (E : Ev) : RT := runR PP GG CC E 30 LL none 48
theorem R9_unf (E : Ev) (c : Code) (lv : Nat) (lx : Nat → Nat) (kn : K) (kx : Nat → K) (kr : K) (e : Env) (h : Heap) : R9 E c true lv lx kn kx kr e h = runS (R9 E) PP GG CC E 30 LL none 48 c lv lx kn kx kr e h := runR_unf _ _ _ _ _ _ _ _
def r9 (x4 x5 : AV) (h : Heap) : Res := some (.tuple [x4, x5], h)
theorem r9_eq : r9 = fun x4 x5 h => xret PP fn9 (mkE [(4, x4), (5, x5)]) h := by kernel_rfl
/-- (*theodolite/theodolitelaw14.bench).term1 -/
def s9 (E : Ev) (x0 x1 : AV) (h : Heap) : Res :=
  obP (E (.fn 22) [x1] h) fun x8 h8 =>
  ob (xlen PP h8 67 x8) fun x10 =>
  ob (xbin PP .neq 3 true x10 (.int .i64 1)) fun x11 =>
  pIf x11
   (r9 (.int .i64 0) (.int .i64 5) h8)
   (ob (pNil x0) fun x13 =>
   ob (pFieldAddr PP 40 2 x13) fun x14 =>
   ob (pLoad PP 37 x14 h8) fun x15 =>
   ob (pNil x0) fun x17 =>
   ob (pFieldAddr PP 40 1 x17) fun x18 =>
   ob (pLoad PP 36 x18 h8) fun x19 =>
   ob (pNil x0) fun x21 =>
   ob (pFieldAddr PP 40 0 x21) fun x22 =>
   ob (pLoad PP 35 x22 h8) fun x23 =>
   ob (xindexAddr PP 67 x8 (.int .i64 0)) fun x25 =>
   ob (pLoad PP 73 x25 h8) fun x26 =>
   sel (chkV x15 (pLoad PP 37 x14 h8)) (
   sel (chkV x19 (pLoad PP 36 x18 h8)) (
   sel (chkV x23 (pLoad PP 35 x22 h8)) (
   sel (chkV x26 (pLoad PP 73 x25 h8)) (
   obP (E (.fn 23) [x15, x19, x23, x26] h8) fun x27 h27 =>
   ob (pExtract 0 x27) fun x28 =>
   ob (pExtract 1 x27) fun x29 =>
   r9 x28 x29 h27) none) none) none) none)
theorem s9_eq (E : Ev) (x0 x1 : AV) (h : Heap) : xbodyR PP GG CC E LL fn9 [x0, x1] h = s9 E x0 x1 h := by
  unfold s9
  rw [r9_eq]
  refine (bodyR_unf (c := (codeOf fn9)) (by kernel_rfl) (by kernel_rfl)).trans ?_
  show runS (R9 E) PP GG CC E fn9.ntmps LL none (resBits fn9.results.toList) (codeOf fn9) _ _ _ _ _ _ _ = _
  generalize R9 E = R
  generalize LL = L
  generalize PP = P
  symm
  revert R L P
  refine id ?_
  intro R L P
  kernel_rfl
def fn11 : Func := fnAt PP 11
def R11 (E : Ev) : RT := runR PP GG CC E 37 LL none 16
theorem R11_unf (E : Ev) (c : Code) (lv : Nat) (lx : Nat → Nat) (kn : K) (kx : Nat → K) (kr : K) (e : Env) (h : Heap) : R11 E c true lv lx kn kx kr e h = runS (R11 E) PP GG CC E 37 LL none 16 c lv lx kn kx kr e h := runR_unf _ _ _ _ _ _ _ _
def r11 (x4 : AV) (h : Heap) : Res := some (x4, h)
theorem r11_eq : r11 = fun x4 h => xret PP fn11 (mkE [(4, x4)]) h := by kernel_rfl
/-- (*theodolite/theodolitelaw14.bench).define -/
def s11 (E : Ev) (x0 x1 : AV) (h : Heap) : Res :=
  obP (E (.fn 22) [x1] h) fun x9 h9 =>
  ob (xlen PP h9 67 x9) fun x11 =>
  ob (xbin PP .neq 3 true x11 (.int .i64 1)) fun x12 =>
  pIf x12
   (r11 (.int .i64 5) h9)
   (ob (xindexAddr PP 67 x9 (.int .i64 0)) fun x15 =>
   ob (pLoad PP 73 x15 h9) fun x16 =>
   obP (E (.fn 24) [x16] h9) fun x17 h17 =>
   ob (pExtract 0 x17) fun x18 =>
   ob (pExtract 1 x17) fun x19 =>
   obP (ob (zeroC PP 79) fun z => some (pNew h17 79 z)) fun x6 h6 =>
   ob (pStore PP 79 x6 x18 h6) fun h0 =>
   ob (xbin PP .neq 29 true x19 (.int .i64 0)) fun x21 =>
   pIf x21
    (r11 x19 h0)
    (ob (pNil x0) fun x24 =>
    ob (pFieldAddr PP 40 2 x24) fun x25 =>
    ob (pLoad PP 37 x25 h0) fun x26 =>
    ob (pNil x0) fun x28 =>
    ob (pFieldAddr PP 40 1 x28) fun x29 =>
    ob (pLoad PP 36 x29 h0) fun x30 =>
    ob (pNil x0) fun x32 =>
    ob (pFieldAddr PP 40 0 x32) fun x33 =>
    ob (pLoad PP 35 x33 h0) fun x34 =>
    ob (pLoad PP 79 x6 h0) fun x35 =>
    sel (chkV x26 (pLoad PP 37 x25 h0)) (
    sel (chkV x30 (pLoad PP 36 x29 h0)) (
    sel (chkV x34 (pLoad PP 35 x33 h0)) (
    sel (chkV x35 (pLoad PP 79 x6 h0)) (
    obP (E (.fn 25) [x26, x30, x34, x35] h0) fun x36 h36 =>
    r11 x36 h36) none) none) none) none))
theorem s11_eq (E : Ev) (x0 x1 : AV) (h : Heap) : xbodyR PP GG CC E LL fn11 [x0, x1] h = s11 E x0 x1 h := by
  unfold s11
  rw [r11_eq]
  refine (bodyR_unf (c := (codeOf fn11)) (by kernel_rfl) (by kernel_rfl)).trans ?_
  show runS (R11 E) PP GG CC E fn11.ntmps LL none (resBits fn11.results.toList) (codeOf fn11) _ _ _ _ _ _ _ = _
  generalize R11 E = R
  generalize LL = L
  generalize PP = P
  symm
  revert R L P
  refine id ?_
  intro R L P
  kernel_rfl
def fn12 : Func := fnAt PP 12
def R12 (E : Ev) : RT := runR PP GG CC E 58 LL none 16
theorem R12_unf (E : Ev) (c : Code) (lv : Nat) (lx : Nat → Nat) (kn : K) (kx : Nat → K) (kr : K) (e : Env) (h : Heap) : R12 E c true lv lx kn kx kr e h = runS (R12 E) PP GG CC E 58 LL none 16 c lv lx kn kx kr e h := runR_unf _ _ _ _ _ _ _ _
def r12 (x4 : AV) (h : Heap) : Res := some (x4, h)
theorem r12_eq : r12 = fun x4 h => xret PP fn12 (mkE [(4, x4)]) h := by kernel_rfl
def f12_2 (E : Ev) (kr : AV → Heap → Res) (h : Heap) : Res :=
  kr (.int .i64 0) h
theorem f12_2_eq (E : Ev) (kn : K) (kx : Nat → K) (kr : K) : f12_2 E (fun y4 h => kr (mkE [(4, y4)]) h) = fun h => R12 E (pb (pb (pb (pb (codeOf fn12))))) true 16 (fun _ => 0) kn kx kr (mkE []) h := by
  funext h
  unfold f12_2
  refine Eq.trans ?_ (R12_unf E _ _ _ _ _ _ _ _).symm
  generalize R12 E = R
  generalize LL = L
  generalize PP = P
  revert R L P
  refine id ?_
  intro R L P
  kernel_rfl
def f12_1 (E : Ev) (kr : AV → Heap → Res) (x0 x1 x5 : AV) (h : Heap) : Res :=
  ob (xbin PP .lss 3 true x1 (.int .i64 0)) fun x16 =>
  pIf x16
   (kr (.int .i64 1) h)
   (ob (xbin PP .gtr 3 false x1 x5) fun x20 =>
   pIf x20
    (kr (.int .i64 5) h)
    (ob (xbin PP .gtr 3 true x1 (.int .i64 0)) fun x23 =>
    pIf x23
     (ob (xbin PP .sub 3 false x5 x1) fun x26 =>
     ob (pNil x0) fun x30 =>
     ob (pFieldAddr PP 76 0 x30) fun x31 =>
     ob (pLoad PP 74 x31 h) fun x32 =>
     ob (pNil x0) fun x34 =>
     ob (pFieldAddr PP 76 1 x34) fun x35 =>
     ob (pLoad PP 22 x35 h) fun x36 =>
     ob (xindexAddr PP 22 x36 x26) fun x38 =>
     ob (pLoad PP 3 x38 h) fun x39 =>
     ob (pNil x0) fun x41 =>
     ob (pFieldAddr PP 76 1 x41) fun x42 =>
     ob (pLoad PP 22 x42 h) fun x43 =>
     ob (xindexAddr PP 22 x43 x26) fun x45 =>
     ob (pLoad PP 3 x45 h) fun x46 =>
     obP (xslice PP h 74 x32 none (some x39) (some x46)) fun x47 h47 => sel (Nat.beq h47.nx h.nx) (
     ob (pNil x0) fun x49 =>
     ob (pFieldAddr PP 76 1 x49) fun x50 =>
     ob (pLoad PP 22 x50 h47) fun x51 =>
     obP (xslice PP h47 22 x51 none (some x26) none) fun x53 h53 => sel (Nat.beq h53.nx h47.nx) (
     ob (pNil x0) fun x54 =>
     ob (pFieldAddr PP 76 0 x54) fun x55 =>
     sel (chkV x32 (pLoad PP 74 x31 h53)) (
     sel (chkV x36 (pLoad PP 22 x35 h53)) (
     sel (chkV x39 (pLoad PP 3 x38 h53)) (
     sel (chkV x43 (pLoad PP 22 x42 h53)) (
     sel (chkV x46 (pLoad PP 3 x45 h53)) (
     sel (chkE h53 x47 (xslice PP h53 74 x32 none (some x39) (some x46))) (
     sel (chkV x51 (pLoad PP 22 x50 h53)) (
     sel (chkE h53 x53 (xslice PP h53 22 x51 none (some x26) none)) (
     ob (pStore PP 74 x55 x47 h53) fun h0 =>
     ob (pNil x0) fun x56 =>
     ob (pFieldAddr PP 76 1 x56) fun x57 =>
     sel (chkE h0 x53 (xslice PP h0 22 x51 none (some x26) none)) (
     ob (pStore PP 22 x57 x53 h0) fun h0_1 =>
     f12_2 E kr h0_1) none) none) none) none) none) none) none) none) none) none) none)
     (f12_2 E kr h)))
theorem f12_1_eq (E : Ev) (kn : K) (kx : Nat → K) (kr : K) : f12_1 E (fun y4 h => kr (mkE [(4, y4)]) h) = fun x0 x1 x5 h => R12 E (pb (pb (pb (codeOf fn12)))) true 16 (fun _ => 0) kn kx kr (mkE [(0, x0), (1, x1), (5, x5)]) h := by
  funext x0 x1 x5 h
  unfold f12_1
  rw [f12_2_eq E kn kx kr]
  refine Eq.trans ?_ (R12_unf E _ _ _ _ _ _ _ _).symm
  generalize R12 E = R
  generalize LL = L
  generalize PP = P
  revert R L P
  refine id ?_
  intro R L P
  kernel_rfl
/-- (*theodolite/elab.Defs).Pop -/
def s12 (E : Ev) (x0 x1 : AV) (h : Heap) : Res :=
  ob (xbin PP .neq 37 true x0 .nilPtr) fun x8 =>
  pIf x8
   (ob (pNil x0) fun x10 =>
   ob (pFieldAddr PP 76 1 x10) fun x11 =>
   ob (pLoad PP 22 x11 h) fun x12 =>
   ob (xlen PP h 22 x12) fun x13 =>
   f12_1 E r12 x0 x1 x13 h)
   (f12_1 E r12 x0 x1 (.int .i64 0) h)
theorem s12_eq (E : Ev) (x0 x1 : AV) (h : Heap) : xbodyR PP GG CC E LL fn12 [x0, x1] h = s12 E x0 x1 h := by
  unfold s12
  rw [r12_eq, f12_1_eq E (xret PP fn12) noK (xret PP fn12)]
  refine (bodyR_unf (c := (codeOf fn12)) (by kernel_rfl) (by kernel_rfl)).trans ?_
  show runS (R12 E) PP GG CC E fn12.ntmps LL none (resBits fn12.results.toList) (codeOf fn12) _ _ _ _ _ _ _ = _
  generalize R12 E = R
  generalize LL = L
  generalize PP = P
  symm
  revert R L P
  refine id ?_
  intro R L P
  kernel_rfl
def fn13 : Func := fnAt PP 13
def R13 (E : Ev) : RT := runR PP GG CC E 14 LL none 16
theorem R13_unf (E : Ev) (c : Code) (lv : Nat) (lx : Nat → Nat) (kn : K) (kx : Nat → K) (kr : K) (e : Env) (h : Heap) : R13 E c true lv lx kn kx kr e h = runS (R13 E) PP GG CC E 14 LL none 16 c lv lx kn kx kr e h := runR_unf _ _ _ _ _ _ _ _
def r13 (x4 : AV) (h : Heap) : Res := some (x4, h)
theorem r13_eq : r13 = fun x4 h => xret PP fn13 (mkE [(4, x4)]) h := by kernel_rfl
/-- (*theodolite/elab.Defs).Has -/
def s13 (E : Ev) (x0 x1 : AV) (h : Heap) : Res :=
  obP (E (.fn 26) [x0, x1] h) fun x10 h10 =>
  ob (pExtract 0 x10) fun x11 =>
  ob (pExtract 1 x10) fun x12 =>
  obP (ob (zeroC PP 84) fun z => some (pNew h10 84 z)) fun x5 h5 =>
  ob (pStore PP 84 x5 x11 h5) fun h0 =>
  r13 x12 h0
theorem s13_eq (E : Ev) (x0 x1 : AV) (h : Heap) : xbodyR PP GG CC E LL fn13 [x0, x1] h = s13 E x0 x1 h := by
  unfold s13
  rw [r13_eq]
  refine (bodyR_unf (c := (codeOf fn13)) (by kernel_rfl) (by kernel_rfl)).trans ?_
  show runS (R13 E) PP GG CC E fn13.ntmps LL none (resBits fn13.results.toList) (codeOf fn13) _ _ _ _ _ _ _ = _
  generalize R13 E = R
  generalize LL = L
  generalize PP = P
  symm
  revert R L P
  refine id ?_
  intro R L P
  kernel_rfl
def fn14 : Func := fnAt PP 14
def R14 (E : Ev) : RT := runR PP GG CC E 3 LL none 1
theorem R14_unf (E : Ev) (c : Code) (lv : Nat) (lx : Nat → Nat) (kn : K) (kx : Nat → K) (kr : K) (e : Env) (h : Heap) : R14 E c true lv lx kn kx kr e h = runS (R14 E) PP GG CC E 3 LL none 1 c lv lx kn kx kr e h := runR_unf _ _ _ _ _ _ _ _
def r14 (x0 : AV) (h : Heap) : Res := some (x0, h)
theorem r14_eq : r14 = fun x0 h => xret PP fn14 (mkE [(0, x0)]) h := by kernel_rfl
/-- theodolite/sorts.New -/
def s14 (E : Ev) (h : Heap) : Res :=
  ob (xbuild PP 89 []) fun x1 =>
  obP (some (pNew h 89 x1.cells)) fun x2 h2 =>
  r14 x2 h2
theorem s14_eq (E : Ev) (h : Heap) : xbodyR PP GG CC E LL fn14 [] h = s14 E h := by
  unfold s14
  rw [r14_eq]
  refine (bodyR_unf (c := (codeOf fn14)) (by kernel_rfl) (by kernel_rfl)).trans ?_
  show runS (R14 E) PP GG CC E fn14.ntmps LL none (resBits fn14.results.toList) (codeOf fn14) _ _ _ _ _ _ _ = _
  generalize R14 E = R
  generalize LL = L
  generalize PP = P
  symm
  revert R L P
  refine id ?_
  intro R L P
  kernel_rfl
def fn15 : Func := fnAt PP 15
def R15 (E : Ev) : RT := runR PP GG CC E 38 LL none 48
theorem R15_unf (E : Ev) (c : Code) (lv : Nat) (lx : Nat → Nat) (kn : K) (kx : Nat → K) (kr : K) (e : Env) (h : Heap) : R15 E c true lv lx kn kx kr e h = runS (R15 E) PP GG CC E 38 LL none 48 c lv lx kn kx kr e h := runR_unf _ _ _ _ _ _ _ _
def r15 (x4 x5 : AV) (h : Heap) : Res := some (.tuple [x4, x5], h)
theorem r15_eq : r15 = fun x4 x5 h => xret PP fn15 (mkE [(4, x4), (5, x5)]) h := by kernel_rfl
def f15_1 (E : Ev) (kr : AV → AV → Heap → Res) (x0 x1 : AV) (h : Heap) : Res :=
  ob (xbin PP .eql 35 true x0 .nilPtr) fun x7 =>
  ob (pWant x7 false) fun c =>
  ob (sel c (some x1) (some (.tuple []))) fun x9 =>
  ob (pWant x7 false) fun c_1 =>
  obP (sel c_1 (E (.fn 27) [x9] h) (some (.tuple [], h))) fun x10 h10 =>
  ob (pWant x7 false) fun c_2 =>
  ob (sel c_2 (xun .not x10) (some (.tuple []))) fun x11 =>
  ob (pPick x7 (some (.bool true)) (some x11)) fun x12 =>
  ob (pWant x12 false) fun c_3 =>
  ob (sel c_3 (some x0) (some (.tuple []))) fun x14 =>
  ob (pWant x12 false) fun c_4 =>
  ob (sel c_4 (pNil x14) (some (.tuple []))) fun x15 =>
  ob (pWant x12 false) fun c_5 =>
  ob (sel c_5 (pFieldAddr PP 89 0 x15) (some (.tuple []))) fun x16 =>
  ob (pWant x12 false) fun c_6 =>
  ob (sel c_6 (pLoad PP 27 x16 h10) (some (.tuple []))) fun x17 =>
  ob (pWant x12 false) fun c_7 =>
  ob (sel c_7 (some x1) (some (.tuple []))) fun x18 =>
  ob (pWant x12 false) fun c_8 =>
  obP (sel c_8 (E (.fn 28) [x17, x18] h10) (some (.tuple [], h10))) fun x19 h19 =>
  ob (pPick x12 (some (.bool true)) (some x19)) fun x20 =>
  pIf x20
   (kr (.int .i64 0) (.int .i64 1) h19)
   (ob (pNil x0) fun x23 =>
   ob (pFieldAddr PP 89 0 x23) fun x24 =>
   ob (pLoad PP 27 x24 h19) fun x25 =>
   obP (pBuildSlice PP h19 27 1 [(0, x1)]) fun x27 h27 =>
   obP (xappend PP h27 27 27 x25 x27) fun x28 h28 =>
   ob (pNil x0) fun x29 =>
   ob (pFieldAddr PP 89 0 x29) fun x30 =>
   ob (pStore PP 27 x30 x28 h28) fun h0 =>
   ob (pNil x0) fun x32 =>
   ob (pFieldAddr PP 89 0 x32) fun x33 =>
   ob (pLoad PP 27 x33 h0) fun x34 =>
   ob (xlen PP h0 27 x34) fun x35 =>
   ob (xbin PP .add 3 true (.int .i64 2) x35) fun x36 =>
   ob (xbin PP .sub 3 true x36 (.int .i64 1)) fun x37 =>
   kr x37 (.int .i64 0) h0)
theorem f15_1_eq (E : Ev) (kn : K) (kx : Nat → K) (kr : K) : f15_1 E (fun y4 y5 h => kr (mkE [(4, y4), (5, y5)]) h) = fun x0 x1 h => R15 E (pb (codeOf fn15)) true 48 (fun _ => 0) kn kx kr (mkE [(0, x0), (1, x1)]) h := by
  funext x0 x1 h
  unfold f15_1
  refine Eq.trans ?_ (R15_unf E _ _ _ _ _ _ _ _).symm
  generalize R15 E = R
  generalize LL = L
  generalize PP = P
  revert R L P
  refine id ?_
  intro R L P
  kernel_rfl
/-- (*theodolite/sorts.Table).Sort -/
def s15 (E : Ev) (x0 x1 : AV) (h : Heap) : Res :=
  f15_1 E r15 x0 x1 h
theorem s15_eq (E : Ev) (x0 x1 : AV) (h : Heap) : xbodyR PP GG CC E LL fn15 [x0, x1] h = s15 E x0 x1 h := by
  unfold s15
  rw [r15_eq, f15_1_eq E (xret PP fn15) noK (xret PP fn15)]
  refine (bodyR_unf (c := (codeOf fn15)) (by kernel_rfl) (by kernel_rfl)).trans ?_
  show runS (R15 E) PP GG CC E fn15.ntmps LL none (resBits fn15.results.toList) (codeOf fn15) _ _ _ _ _ _ _ = _
  generalize R15 E = R
  generalize LL = L
  generalize PP = P
  symm
  revert R L P
  refine id ?_
  intro R L P
  kernel_rfl
def fn16 : Func := fnAt PP 16
def R16 (E : Ev) : RT := runR PP GG CC E 38 LL none 48
theorem R16_unf (E : Ev) (c : Code) (lv : Nat) (lx : Nat → Nat) (kn : K) (kx : Nat → K) (kr : K) (e : Env) (h : Heap) : R16 E c true lv lx kn kx kr e h = runS (R16 E) PP GG CC E 38 LL none 48 c lv lx kn kx kr e h := runR_unf _ _ _ _ _ _ _ _
def r16 (x4 x5 : AV) (h : Heap) : Res := some (.tuple [x4, x5], h)
theorem r16_eq : r16 = fun x4 x5 h => xret PP fn16 (mkE [(4, x4), (5, x5)]) h := by kernel_rfl
/-- (*theodolite/theodoliteref6.Sorts).Sort -/
def s16 (E : Ev) (x0 x1 : AV) (h : Heap) : Res :=
  obP (E (.fn 29) [x0, x1] h) fun x11 h11 =>
  ob (pExtract 0 x11) fun x12 =>
  ob (pExtract 1 x11) fun x13 =>
  obP (E (.fn 30) [x1] h11) fun x15 h15 =>
  ob (xun .not x15) fun x16 =>
  ob (pWant x16 false) fun c =>
  ob (sel c (some x13) (some (.tuple []))) fun x18 =>
  ob (pPick x16 (some (.bool true)) (some x18)) fun x19 =>
  pIf x19
   (r16 (.int .i64 0) (.int .i64 1) h15)
   (obP (pBuildSlice PP h15 27 0 []) fun x21 h21 =>
   ob (pNil x0) fun x23 =>
   ob (pFieldAddr PP 50 0 x23) fun x24 =>
   ob (pLoad PP 27 x24 h21) fun x25 =>
   obP (xappend PP h21 27 27 x21 x25) fun x26 h26 =>
   obP (pBuildSlice PP h26 27 1 [(0, x1)]) fun x28 h28 =>
   obP (xappend PP h28 27 27 x26 x28) fun x29 h29 =>
   ob (pNil x0) fun x30 =>
   ob (pFieldAddr PP 50 0 x30) fun x31 =>
   ob (pStore PP 27 x31 x29 h29) fun h0 =>
   ob (pNil x0) fun x33 =>
   ob (pFieldAddr PP 50 0 x33) fun x34 =>
   ob (pLoad PP 27 x34 h0) fun x35 =>
   ob (xlen PP h0 27 x35) fun x36 =>
   ob (xbin PP .add 3 true x36 (.int .i64 1)) fun x37 =>
   r16 x37 (.int .i64 0) h0)
theorem s16_eq (E : Ev) (x0 x1 : AV) (h : Heap) : xbodyR PP GG CC E LL fn16 [x0, x1] h = s16 E x0 x1 h := by
  unfold s16
  rw [r16_eq]
  refine (bodyR_unf (c := (codeOf fn16)) (by kernel_rfl) (by kernel_rfl)).trans ?_
  show runS (R16 E) PP GG CC E fn16.ntmps LL none (resBits fn16.results.toList) (codeOf fn16) _ _ _ _ _ _ _ = _
  generalize R16 E = R
  generalize LL = L
  generalize PP = P
  symm
  revert R L P
  refine id ?_
  intro R L P
  kernel_rfl
def fn17 : Func := fnAt PP 17
def R17 (E : Ev) : RT := runR PP GG CC E 15 LL none 1
theorem R17_unf (E : Ev) (c : Code) (lv : Nat) (lx : Nat → Nat) (kn : K) (kx : Nat → K) (kr : K) (e : Env) (h : Heap) : R17 E c true lv lx kn kx kr e h = runS (R17 E) PP GG CC E 15 LL none 1 c lv lx kn kx kr e h := runR_unf _ _ _ _ _ _ _ _
def r17 (x0 : AV) (h : Heap) : Res := some (x0, h)
theorem r17_eq : r17 = fun x0 h => xret PP fn17 (mkE [(0, x0)]) h := by kernel_rfl
/-- theodolite/theodolitelaw14.declared -/
def s17 (E : Ev) (h : Heap) : Res :=
  ob (xbuild PP 56 [(0, (.str 1 120)), (2, (.int .i64 1))]) fun x1 =>
  ob (xbuild PP 56 [(0, (.str 1 121)), (2, (.int .i64 1))]) fun x2 =>
  ob (xbuild PP 56 [(0, (.str 1 122)), (2, (.int .i64 1))]) fun x3 =>
  ob (xbuild PP 56 [(0, (.str 1 112))]) fun x4 =>
  ob (xbuild PP 56 [(0, (.str 1 113))]) fun x5 =>
  ob (xbuild PP 56 [(0, (.str 1 97)), (2, (.int .i64 2))]) fun x6 =>
  ob (xbuild PP 56 [(0, (.str 1 98)), (2, (.int .i64 2))]) fun x7 =>
  obP (pBuildSlice PP h 22 1 [(0, (.int .i64 1))]) fun x8 h8 =>
  ob (xbuild PP 56 [(0, (.str 1 102)), (1, x8), (2, (.int .i64 1))]) fun x9 =>
  obP (pBuildSlice PP h8 22 2 [(0, (.int .i64 2)), (1, (.int .i64 1))]) fun x10 h10 =>
  ob (xbuild PP 56 [(0, (.str 1 103)), (1, x10), (2, (.int .i64 2))]) fun x11 =>
  obP (pBuildSlice PP h10 22 1 [(0, (.int .i64 2))]) fun x12 h12 =>
  ob (xbuild PP 56 [(0, (.str 1 104)), (1, x12)]) fun x13 =>
  obP (pBuildSlice PP h12 47 10 [(0, x1), (1, x2), (2, x3), (3, x4), (4, x5), (5, x6), (6, x7), (7, x9), (8, x11), (9, x13)]) fun x14 h14 =>
  r17 x14 h14
theorem s17_eq (E : Ev) (h : Heap) : xbodyR PP GG CC E LL fn17 [] h = s17 E h := by
  unfold s17
  rw [r17_eq]
  refine (bodyR_unf (c := (codeOf fn17)) (by kernel_rfl) (by kernel_rfl)).trans ?_
  show runS (R17 E) PP GG CC E fn17.ntmps LL none (resBits fn17.results.toList) (codeOf fn17) _ _ _ _ _ _ _ = _
  generalize R17 E = R
  generalize LL = L
  generalize PP = P
  symm
  revert R L P
  refine id ?_
  intro R L P
  kernel_rfl
def fn18 : Func := fnAt PP 18
def R18 (E : Ev) : RT := runR PP GG CC E 58 LL none 16
theorem R18_unf (E : Ev) (c : Code) (lv : Nat) (lx : Nat → Nat) (kn : K) (kx : Nat → K) (kr : K) (e : Env) (h : Heap) : R18 E c true lv lx kn kx kr e h = runS (R18 E) PP GG CC E 58 LL none 16 c lv lx kn kx kr e h := runR_unf _ _ _ _ _ _ _ _
def r18 (x4 : AV) (h : Heap) : Res := some (x4, h)
theorem r18_eq : r18 = fun x4 h => xret PP fn18 (mkE [(4, x4)]) h := by kernel_rfl
def f18_2 (E : Ev) (kr : AV → Heap → Res) (x0 x3 : AV) (h : Heap) : Res :=
  ob (pNil x0) fun x42 =>
  ob (pFieldAddr PP 89 1 x42) fun x43 =>
  ob (pLoad PP 47 x43 h) fun x44 =>
  ob (xlen PP h 47 x44) fun x45 =>
  ob (xbin PP .geq 3 true x45 (.int .i64 1000)) fun x46 =>
  pIf x46
   (kr (.int .i64 4) h)
   (ob (pNil x0) fun x49 =>
   ob (pFieldAddr PP 89 1 x49) fun x50 =>
   ob (pLoad PP 47 x50 h) fun x51 =>
   ob (pLoad PP 56 x3 h) fun x52 =>
   sel (chkV x51 (pLoad PP 47 x50 h)) (
   sel (chkV x52 (pLoad PP 56 x3 h)) (
   obP (E (.fn 33) [x52] h) fun x53 h53 =>
   obP (pBuildSlice PP h53 47 1 [(0, x53)]) fun x54 h54 =>
   sel (chkV x51 (pLoad PP 47 x50 h54)) (
   obP (xappend PP h54 47 47 x51 x54) fun x55 h55 =>
   ob (pNil x0) fun x56 =>
   ob (pFieldAddr PP 89 1 x56) fun x57 =>
   ob (pStore PP 47 x57 x55 h55) fun h0 =>
   kr (.int .i64 0) h0) none) none) none)
theorem f18_2_eq (E : Ev) (kn : K) (kx : Nat → K) (kr : K) : f18_2 E (fun y4 h => kr (mkE [(4, y4)]) h) = fun x0 x3 h => R18 E (pb (pb (pb (codeOf fn18)))) true 16 (fun _ => 0) kn kx kr (mkE [(0, x0), (3, x3)]) h := by
  funext x0 x3 h
  unfold f18_2
  refine Eq.trans ?_ (R18_unf E _ _ _ _ _ _ _ _).symm
  generalize R18 E = R
  generalize LL = L
  generalize PP = P
  revert R L P
  refine id ?_
  intro R L P
  kernel_rfl
def f18_4 (E : Ev) (kn : AV → AV → AV → AV → AV → Heap → Res) (x0 x3 x26 x27 x28 : AV) (h : Heap) : Res :=
  ob (xbin PP .add 3 true x28 (.int .i64 1)) fun x40 =>
  kn x0 x3 x26 x27 x40 h
theorem f18_4_eq (E : Ev) (kn : K) (kx : Nat → K) (kr : K) : f18_4 E (fun y0 y3 y26 y27 y28 h => kn (mkE [(0, y0), (3, y3), (26, y26), (27, y27), (28, y28)]) h) = fun x0 x3 x26 x27 x28 h => R18 E (pb (pb (pb (pa (pa (pb (pa (pb (pb (codeOf fn18)))))))))) true 469762057 (fun i => sel (Nat.beq i 0) 9 ((fun _ => 0) i)) kn kx kr (mkE [(0, x0), (3, x3), (26, x26), (27, x27), (28, x28)]) h := by
  funext x0 x3 x26 x27 x28 h
  unfold f18_4
  refine Eq.trans ?_ (R18_unf E _ _ _ _ _ _ _ _).symm
  generalize R18 E = R
  generalize LL = L
  generalize PP = P
  revert R L P
  refine id ?_
  intro R L P
  kernel_rfl
def f18_5 (E : Ev) (kn : AV → AV → AV → AV → AV → Heap → Res) (kr : AV → Heap → Res) (x0 x3 x6 x26 x27 x28 : AV) (h : Heap) : Res :=
  ob (xbin PP .eql 3 true x6 (.int .i64 0)) fun x33 =>
  ob (pWant x33 false) fun c =>
  ob (sel c (some x0) (some (.tuple []))) fun x35 =>
  ob (pWant x33 false) fun c_1 =>
  ob (sel c_1 (some x6) (some (.tuple []))) fun x36 =>
  ob (pWant x33 false) fun c_2 =>
  obP (sel c_2 (E (.fn 32) [x35, x36] h) (some (.tuple [], h))) fun x37 h37 =>
  ob (pWant x33 false) fun c_3 =>
  ob (sel c_3 (xun .not x37) (some (.tuple []))) fun x38 =>
  ob (pPick x33 (some (.bool true)) (some x38)) fun x39 =>
  pIf x39
   (kr (.int .i64 1) h37)
   (kn x0 x3 x26 x27 x28 h37)
theorem f18_5_eq (E : Ev) (kn : K) (kx : Nat → K) (kr : K) : f18_5 E (fun y0 y3 y26 y27 y28 h => kn (mkE [(0, y0), (3, y3), (26, y26), (27, y27), (28, y28)]) h) (fun y4 h => kr (mkE [(4, y4)]) h) = fun x0 x3 x6 x26 x27 x28 h => R18 E (pb (pa (pa (pb (pb (pa (pa (pb (pa (pb (pb (codeOf fn18)))))))))))) true 469762057 (fun i => sel (Nat.beq i 1) 469762057 ((fun i => sel (Nat.beq i 0) 9 ((fun _ => 0) i)) i)) kn kx kr (mkE [(0, x0), (3, x3), (6, x6), (26, x26), (27, x27), (28, x28)]) h := by
  funext x0 x3 x6 x26 x27 x28 h
  unfold f18_5
  refine Eq.trans ?_ (R18_unf E _ _ _ _ _ _ _ _).symm
  generalize R18 E = R
  generalize LL = L
  generalize PP = P
  revert R L P
  refine id ?_
  intro R L P
  kernel_rfl
def f18_3 (E : Ev) (kn : AV → AV → AV → AV → AV → Heap → Res) (k0 : AV → AV → Heap → Res) (kr : AV → Heap → Res) (x0 x3 x26 x27 x28 : AV) (h : Heap) : Res :=
  ob (xbin PP .lss 3 false x28 x27) fun x29 =>
  pIf x29
   (ob (xindexAddr PP 22 x26 x28) fun x30 =>
   ob (pLoad PP 3 x30 h) fun x31 =>
   f18_5 E (f18_4 E kn) kr x0 x3 x31 x26 x27 x28 h)
   (k0 x0 x3 h)
theorem f18_3_eq (E : Ev) (kn : K) (kx : Nat → K) (kr : K) (e0 : K) (he0 : kx 0 = e0) : f18_3 E (fun y0 y3 y26 y27 y28 h => kn (mkE [(0, y0), (3, y3), (26, y26), (27, y27), (28, y28)]) h) (fun y0 y3 h => e0 (mkE [(0, y0), (3, y3)]) h) (fun y4 h => kr (mkE [(4, y4)]) h) = fun x0 x3 x26 x27 x28 h => R18 E (pa (pa (pb (pa (pb (pb (codeOf fn18))))))) true 469762057 (fun i => sel (Nat.beq i 0) 9 ((fun _ => 0) i)) kn kx kr (mkE [(0, x0), (3, x3), (26, x26), (27, x27), (28, x28)]) h := by
  subst he0
  funext x0 x3 x26 x27 x28 h
  unfold f18_3
  rw [f18_4_eq E kn kx kr, f18_5_eq E (R18 E (pb (pb (pb (pa (pa (pb (pa (pb (pb (codeOf fn18)))))))))) true 469762057 (fun i => sel (Nat.beq i 0) 9 ((fun _ => 0) i)) kn kx kr) (fun i => sel (Nat.beq i 1) (R18 E (pb (pb (pb (pa (pa (pb (pa (pb (pb (codeOf fn18)))))))))) true 469762057 (fun i => sel (Nat.beq i 0) 9 ((fun _ => 0) i)) kn kx kr) (kx i)) kr]
  refine Eq.trans ?_ (R18_unf E _ _ _ _ _ _ _ _).symm
  generalize R18 E = R
  generalize LL = L
  generalize PP = P
  revert R L P
  refine id ?_
  intro R L P
  kernel_rfl
def f18_1 (E : Ev) (kr : AV → Heap → Res) (x0 x3 : AV) (h : Heap) : Res :=
  ob (pFieldAddr PP 56 0 x3) fun x8 =>
  ob (pLoad PP 9 x8 h) fun x9 =>
  obP (E (.fn 31) [x0, x9] h) fun x10 h10 =>
  ob (xun .not x10) fun x11 =>
  ob (pWant x11 false) fun c =>
  ob (sel c (pFieldAddr PP 56 1 x3) (some (.tuple []))) fun x13 =>
  ob (pWant x11 false) fun c_1 =>
  ob (sel c_1 (pLoad PP 22 x13 h10) (some (.tuple []))) fun x14 =>
  ob (pWant x11 false) fun c_2 =>
  ob (sel c_2 (xlen PP h10 22 x14) (some (.tuple []))) fun x15 =>
  ob (pWant x11 false) fun c_3 =>
  ob (sel c_3 (xbin PP .gtr 3 true x15 (.int .i64 64)) (some (.tuple []))) fun x16 =>
  ob (pPick x11 (some (.bool true)) (some x16)) fun x17 =>
  ob (pWant x17 false) fun c_4 =>
  ob (sel c_4 (some x0) (some (.tuple []))) fun x19 =>
  ob (pWant x17 false) fun c_5 =>
  ob (sel c_5 (pFieldAddr PP 56 2 x3) (some (.tuple []))) fun x20 =>
  ob (pWant x17 false) fun c_6 =>
  ob (sel c_6 (pLoad PP 3 x20 h10) (some (.tuple []))) fun x21 =>
  ob (pWant x17 false) fun c_7 =>
  obP (sel c_7 (E (.fn 32) [x19, x21] h10) (some (.tuple [], h10))) fun x22 h22 =>
  ob (pWant x17 false) fun c_8 =>
  ob (sel c_8 (xun .not x22) (some (.tuple []))) fun x23 =>
  ob (pPick x17 (some (.bool true)) (some x23)) fun x24 =>
  pIf x24
   (kr (.int .i64 1) h22)
   (ob (pFieldAddr PP 56 1 x3) fun x25 =>
   ob (pLoad PP 22 x25 h22) fun x26 =>
   ob (xlen PP h22 22 x26) fun x27 =>
   lp b5 (fun k => f18_3 E k (f18_2 E kr) kr) LL x0 x3 x26 x27 (.int .i64 0) h22)
theorem f18_1_eq (E : Ev) (kn : K) (kx : Nat → K) (kr : K) : f18_1 E (fun y4 h => kr (mkE [(4, y4)]) h) = fun x0 x3 h => R18 E (pb (codeOf fn18)) true 16 (fun _ => 0) kn kx kr (mkE [(0, x0), (3, x3)]) h := by
  funext x0 x3 h
  unfold f18_1
  rw [f18_2_eq E kn kx kr, lp5_eq 0 3 26 27 28 (fun k => (R18 E (pa (pa (pb (pa (pb (pb (codeOf fn18))))))) true 469762057 (fun i => sel (Nat.beq i 0) 9 ((fun _ => 0) i)) k (fun i => sel (Nat.beq i 0) (R18 E (pb (pb (pb (codeOf fn18)))) true 16 (fun _ => 0) kn kx kr) (kx i)) kr)) (fun k => f18_3 E k (fun y0 y3 h => (R18 E (pb (pb (pb (codeOf fn18)))) true 16 (fun _ => 0) kn kx kr) (mkE [(0, y0), (3, y3)]) h) (fun y4 h => kr (mkE [(4, y4)]) h)) (fun k => f18_3_eq E k (fun i => sel (Nat.beq i 0) (R18 E (pb (pb (pb (codeOf fn18)))) true 16 (fun _ => 0) kn kx kr) (kx i)) kr (R18 E (pb (pb (pb (codeOf fn18)))) true 16 (fun _ => 0) kn kx kr) rfl) LL]
  refine Eq.trans ?_ (R18_unf E _ _ _ _ _ _ _ _).symm
  generalize R18 E = R
  generalize LL = L
  generalize PP = P
  revert R L P
  refine id ?_
  intro R L P
  kernel_rfl
/-- (*theodolite/sorts.Table).Fun -/
def s18 (E : Ev) (x0 x1 : AV) (h : Heap) : Res :=
  obP (some (pNew h 56 x1.cells)) fun x3 h3 =>
  f18_1 E r18 x0 x3 h3
theorem s18_eq (E : Ev) (x0 x1 : AV) (h : Heap) : xbodyR PP GG CC E LL fn18 [x0, x1] h = s18 E x0 x1 h := by
  unfold s18
  rw [r18_eq, f18_1_eq E (xret PP fn18) noK (xret PP fn18)]
  refine (bodyR_unf (c := (codeOf fn18)) (by kernel_rfl) (by kernel_rfl)).trans ?_
  show runS (R18 E) PP GG CC E fn18.ntmps LL none (resBits fn18.results.toList) (codeOf fn18) _ _ _ _ _ _ _ = _
  generalize R18 E = R
  generalize LL = L
  generalize PP = P
  symm
  revert R L P
  refine id ?_
  intro R L P
  kernel_rfl
def fn19 : Func := fnAt PP 19
def R19 (E : Ev) : RT := runR PP GG CC E 84 LL none 16
theorem R19_unf (E : Ev) (c : Code) (lv : Nat) (lx : Nat → Nat) (kn : K) (kx : Nat → K) (kr : K) (e : Env) (h : Heap) : R19 E c true lv lx kn kx kr e h = runS (R19 E) PP GG CC E 84 LL none 16 c lv lx kn kx kr e h := runR_unf _ _ _ _ _ _ _ _
def r19 (x4 : AV) (h : Heap) : Res := some (x4, h)
theorem r19_eq : r19 = fun x4 h => xret PP fn19 (mkE [(4, x4)]) h := by kernel_rfl
def f19_2 (E : Ev) (kr : AV → Heap → Res) (x0 x3 : AV) (h : Heap) : Res :=
  ob (pNil x0) fun x59 =>
  ob (pFieldAddr PP 50 1 x59) fun x60 =>
  ob (pLoad PP 47 x60 h) fun x61 =>
  ob (xlen PP h 47 x61) fun x62 =>
  ob (xbin PP .geq 3 true x62 (.int .i64 1000)) fun x63 =>
  pIf x63
   (kr (.int .i64 4) h)
   (obP (pBuildSlice PP h 47 0 []) fun x65 h65 =>
   ob (pNil x0) fun x67 =>
   ob (pFieldAddr PP 50 1 x67) fun x68 =>
   ob (pLoad PP 47 x68 h65) fun x69 =>
   ob (pFieldAddr PP 56 0 x3) fun x71 =>
   ob (pLoad PP 9 x71 h65) fun x72 =>
   obP (pBuildSlice PP h65 22 0 []) fun x73 h73 =>
   ob (pFieldAddr PP 56 1 x3) fun x74 =>
   ob (pLoad PP 22 x74 h73) fun x75 =>
   ob (pFieldAddr PP 56 2 x3) fun x77 =>
   ob (pLoad PP 3 x77 h73) fun x78 =>
   sel (chkV x69 (pLoad PP 47 x68 h73)) (
   sel (chkV x72 (pLoad PP 9 x71 h73)) (
   sel (chkV x75 (pLoad PP 22 x74 h73)) (
   sel (chkV x78 (pLoad PP 3 x77 h73)) (
   obP (xappend PP h73 47 47 x65 x69) fun x70 h70 =>
   sel (chkV x72 (pLoad PP 9 x71 h70)) (
   sel (chkV x75 (pLoad PP 22 x74 h70)) (
   sel (chkV x78 (pLoad PP 3 x77 h70)) (
   obP (xappend PP h70 22 22 x73 x75) fun x76 h76 =>
   ob (xbuild PP 56 [(0, x72), (1, x76), (2, x78)]) fun x79 =>
   obP (pBuildSlice PP h76 47 1 [(0, x79)]) fun x80 h80 =>
   sel (chkV x72 (pLoad PP 9 x71 h80)) (
   sel (chkV x78 (pLoad PP 3 x77 h80)) (
   obP (xappend PP h80 47 47 x70 x80) fun x81 h81 =>
   ob (pNil x0) fun x82 =>
   ob (pFieldAddr PP 50 1 x82) fun x83 =>
   ob (pStore PP 47 x83 x81 h81) fun h0 =>
   kr (.int .i64 0) h0) none) none) none) none) none) none) none) none) none)
theorem f19_2_eq (E : Ev) (kn : K) (kx : Nat → K) (kr : K) : f19_2 E (fun y4 h => kr (mkE [(4, y4)]) h) = fun x0 x3 h => R19 E (pb (pb (pb (pb (codeOf fn19))))) true 16 (fun _ => 0) kn kx kr (mkE [(0, x0), (3, x3)]) h := by
  funext x0 x3 h
  unfold f19_2
  refine Eq.trans ?_ (R19_unf E _ _ _ _ _ _ _ _).symm
  generalize R19 E = R
  generalize LL = L
  generalize PP = P
  revert R L P
  refine id ?_
  intro R L P
  kernel_rfl
def f19_4 (E : Ev) (kn : AV → AV → AV → Heap → Res) (kr : AV → Heap → Res) (x0 x3 x7 : AV) (h : Heap) : Res :=
  ob (pFieldAddr PP 56 1 x3) fun x42 =>
  ob (pLoad PP 22 x42 h) fun x43 =>
  ob (xindexAddr PP 22 x43 x7) fun x45 =>
  ob (pLoad PP 3 x45 h) fun x46 =>
  ob (xbin PP .eql 3 true x46 (.int .i64 0)) fun x47 =>
  ob (pWant x47 false) fun c =>
  ob (sel c (some x0) (some (.tuple []))) fun x49 =>
  ob (pWant x47 false) fun c_1 =>
  ob (sel c_1 (pFieldAddr PP 56 1 x3) (some (.tuple []))) fun x50 =>
  ob (pWant x47 false) fun c_2 =>
  ob (sel c_2 (pLoad PP 22 x50 h) (some (.tuple []))) fun x51 =>
  ob (pWant x47 false) fun c_3 =>
  ob (sel c_3 (some x7) (some (.tuple []))) fun x52 =>
  ob (pWant x47 false) fun c_4 =>
  ob (sel c_4 (xindexAddr PP 22 x51 x52) (some (.tuple []))) fun x53 =>
  ob (pWant x47 false) fun c_5 =>
  ob (sel c_5 (pLoad PP 3 x53 h) (some (.tuple []))) fun x54 =>
  ob (pWant x47 false) fun c_6 =>
  obP (sel c_6 (E (.fn 35) [x49, x54] h) (some (.tuple [], h))) fun x55 h55 =>
  ob (pWant x47 false) fun c_7 =>
  ob (sel c_7 (xun .not x55) (some (.tuple []))) fun x56 =>
  ob (pPick x47 (some (.bool true)) (some x56)) fun x57 =>
  pIf x57
   (kr (.int .i64 1) h55)
   (ob (xbin PP .add 3 true x7 (.int .i64 1)) fun x41 =>
   kn x0 x3 x41 h55)
theorem f19_4_eq (E : Ev) (kn : K) (kx : Nat → K) (kr : K) : f19_4 E (fun y0 y3 y7 h => kn (mkE [(0, y0), (3, y3), (7, y7)]) h) (fun y4 h => kr (mkE [(4, y4)]) h) = fun x0 x3 x7 h => R19 E (pb (pa (pa (pb (pa (pb (pb (pb (codeOf fn19))))))))) true 137 (fun i => sel (Nat.beq i 0) 9 ((fun _ => 0) i)) kn kx kr (mkE [(0, x0), (3, x3), (7, x7)]) h := by
  funext x0 x3 x7 h
  unfold f19_4
  refine Eq.trans ?_ (R19_unf E _ _ _ _ _ _ _ _).symm
  generalize R19 E = R
  generalize LL = L
  generalize PP = P
  revert R L P
  refine id ?_
  intro R L P
  kernel_rfl
def f19_3 (E : Ev) (kn : AV → AV → AV → Heap → Res) (k0 : AV → AV → Heap → Res) (kr : AV → Heap → Res) (x0 x3 x7 : AV) (h : Heap) : Res :=
  ob (pFieldAddr PP 56 1 x3) fun x36 =>
  ob (pLoad PP 22 x36 h) fun x37 =>
  ob (xlen PP h 22 x37) fun x38 =>
  ob (xbin PP .lss 3 false x7 x38) fun x39 =>
  pIf x39
   (f19_4 E kn kr x0 x3 x7 h)
   (k0 x0 x3 h)
theorem f19_3_eq (E : Ev) (kn : K) (kx : Nat → K) (kr : K) (e0 : K) (he0 : kx 0 = e0) : f19_3 E (fun y0 y3 y7 h => kn (mkE [(0, y0), (3, y3), (7, y7)]) h) (fun y0 y3 h => e0 (mkE [(0, y0), (3, y3)]) h) (fun y4 h => kr (mkE [(4, y4)]) h) = fun x0 x3 x7 h => R19 E (pa (pa (pb (pa (pb (pb (pb (codeOf fn19)))))))) true 137 (fun i => sel (Nat.beq i 0) 9 ((fun _ => 0) i)) kn kx kr (mkE [(0, x0), (3, x3), (7, x7)]) h := by
  subst he0
  funext x0 x3 x7 h
  unfold f19_3
  rw [f19_4_eq E kn kx kr]
  refine Eq.trans ?_ (R19_unf E _ _ _ _ _ _ _ _).symm
  generalize R19 E = R
  generalize LL = L
  generalize PP = P
  revert R L P
  refine id ?_
  intro R L P
  kernel_rfl
def f19_1 (E : Ev) (kr : AV → Heap → Res) (x0 x3 x6 : AV) (h : Heap) : Res :=
  ob (pFieldAddr PP 56 0 x3) fun x15 =>
  ob (pLoad PP 9 x15 h) fun x16 =>
  obP (E (.fn 30) [x16] h) fun x17 h17 =>
  ob (xun .not x17) fun x18 =>
  ob (pWant x18 false) fun c =>
  ob (sel c (some x6) (some (.tuple []))) fun x20 =>
  ob (pPick x18 (some (.bool true)) (some x20)) fun x21 =>
  ob (pWant x21 false) fun c_1 =>
  ob (sel c_1 (pFieldAddr PP 56 1 x3) (some (.tuple []))) fun x23 =>
  ob (pWant x21 false) fun c_2 =>
  ob (sel c_2 (pLoad PP 22 x23 h17) (some (.tuple []))) fun x24 =>
  ob (pWant x21 false) fun c_3 =>
  ob (sel c_3 (xlen PP h17 22 x24) (some (.tuple []))) fun x25 =>
  ob (pWant x21 false) fun c_4 =>
  ob (sel c_4 (xbin PP .gtr 3 true x25 (.int .i64 64)) (some (.tuple []))) fun x26 =>
  ob (pPick x21 (some (.bool true)) (some x26)) fun x27 =>
  ob (pWant x27 false) fun c_5 =>
  ob (sel c_5 (some x0) (some (.tuple []))) fun x29 =>
  ob (pWant x27 false) fun c_6 =>
  ob (sel c_6 (pFieldAddr PP 56 2 x3) (some (.tuple []))) fun x30 =>
  ob (pWant x27 false) fun c_7 =>
  ob (sel c_7 (pLoad PP 3 x30 h17) (some (.tuple []))) fun x31 =>
  ob (pWant x27 false) fun c_8 =>
  obP (sel c_8 (E (.fn 35) [x29, x31] h17) (some (.tuple [], h17))) fun x32 h32 =>
  ob (pWant x27 false) fun c_9 =>
  ob (sel c_9 (xun .not x32) (some (.tuple []))) fun x33 =>
  ob (pPick x27 (some (.bool true)) (some x33)) fun x34 =>
  pIf x34
   (kr (.int .i64 1) h32)
   (lp b3 (fun k => f19_3 E k (f19_2 E kr) kr) LL x0 x3 (.int .i64 0) h32)
theorem f19_1_eq (E : Ev) (kn : K) (kx : Nat → K) (kr : K) : f19_1 E (fun y4 h => kr (mkE [(4, y4)]) h) = fun x0 x3 x6 h => R19 E (pb (pb (codeOf fn19))) true 16 (fun _ => 0) kn kx kr (mkE [(0, x0), (3, x3), (6, x6)]) h := by
  funext x0 x3 x6 h
  unfold f19_1
  rw [f19_2_eq E kn kx kr, lp3_eq 0 3 7 (fun k => (R19 E (pa (pa (pb (pa (pb (pb (pb (codeOf fn19)))))))) true 137 (fun i => sel (Nat.beq i 0) 9 ((fun _ => 0) i)) k (fun i => sel (Nat.beq i 0) (R19 E (pb (pb (pb (pb (codeOf fn19))))) true 16 (fun _ => 0) kn kx kr) (kx i)) kr)) (fun k => f19_3 E k (fun y0 y3 h => (R19 E (pb (pb (pb (pb (codeOf fn19))))) true 16 (fun _ => 0) kn kx kr) (mkE [(0, y0), (3, y3)]) h) (fun y4 h => kr (mkE [(4, y4)]) h)) (fun k => f19_3_eq E k (fun i => sel (Nat.beq i 0) (R19 E (pb (pb (pb (pb (codeOf fn19))))) true 16 (fun _ => 0) kn kx kr) (kx i)) kr (R19 E (pb (pb (pb (pb (codeOf fn19))))) true 16 (fun _ => 0) kn kx kr) rfl) LL]
  refine Eq.trans ?_ (R19_unf E _ _ _ _ _ _ _ _).symm
  generalize R19 E = R
  generalize LL = L
  generalize PP = P
  revert R L P
  refine id ?_
  intro R L P
  kernel_rfl
/-- (*theodolite/theodoliteref6.Sorts).Fun -/
def s19 (E : Ev) (x0 x1 : AV) (h : Heap) : Res :=
  obP (some (pNew h 56 x1.cells)) fun x3 h3 =>
  ob (pFieldAddr PP 56 0 x3) fun x10 =>
  ob (pLoad PP 9 x10 h3) fun x11 =>
  obP (E (.fn 34) [x0, x11] h3) fun x12 h12 =>
  ob (pExtract 0 x12) fun x13 =>
  ob (pExtract 1 x12) fun x14 =>
  obP (ob (zeroC PP 56) fun z => some (pNew h12 56 z)) fun x5 h5 =>
  ob (pStore PP 56 x5 x13 h5) fun h0 =>
  f19_1 E r19 x0 x3 x14 h0
theorem s19_eq (E : Ev) (x0 x1 : AV) (h : Heap) : xbodyR PP GG CC E LL fn19 [x0, x1] h = s19 E x0 x1 h := by
  unfold s19
  rw [r19_eq, f19_1_eq E (xret PP fn19) noK (xret PP fn19)]
  refine (bodyR_unf (c := (codeOf fn19)) (by kernel_rfl) (by kernel_rfl)).trans ?_
  show runS (R19 E) PP GG CC E fn19.ntmps LL none (resBits fn19.results.toList) (codeOf fn19) _ _ _ _ _ _ _ = _
  generalize R19 E = R
  generalize LL = L
  generalize PP = P
  symm
  revert R L P
  refine id ?_
  intro R L P
  kernel_rfl
def fn20 : Func := fnAt PP 20
def R20 (E : Ev) : RT := runR PP GG CC E 7 LL none 4
theorem R20_unf (E : Ev) (c : Code) (lv : Nat) (lx : Nat → Nat) (kn : K) (kx : Nat → K) (kr : K) (e : Env) (h : Heap) : R20 E c true lv lx kn kx kr e h = runS (R20 E) PP GG CC E 7 LL none 4 c lv lx kn kx kr e h := runR_unf _ _ _ _ _ _ _ _
def r20 (x2 : AV) (h : Heap) : Res := some (x2, h)
theorem r20_eq : r20 = fun x2 h => xret PP fn20 (mkE [(2, x2)]) h := by kernel_rfl
/-- theodolite/term.New -/
def s20 (E : Ev) (x0 : AV) (h : Heap) : Res :=
  obP (some (pMakeMap h)) fun x4 h4 =>
  ob (xbuild PP 100 [(0, x0), (3, x4), (5, (.int .i64 16384))]) fun x5 =>
  obP (some (pNew h4 100 x5.cells)) fun x6 h6 =>
  r20 x6 h6
theorem s20_eq (E : Ev) (x0 : AV) (h : Heap) : xbodyR PP GG CC E LL fn20 [x0] h = s20 E x0 h := by
  unfold s20
  rw [r20_eq]
  refine (bodyR_unf (c := (codeOf fn20)) (by kernel_rfl) (by kernel_rfl)).trans ?_
  show runS (R20 E) PP GG CC E fn20.ntmps LL none (resBits fn20.results.toList) (codeOf fn20) _ _ _ _ _ _ _ = _
  generalize R20 E = R
  generalize LL = L
  generalize PP = P
  symm
  revert R L P
  refine id ?_
  intro R L P
  kernel_rfl
def fn21 : Func := fnAt PP 21
def R21 (E : Ev) : RT := runR PP GG CC E 3 LL none 1
theorem R21_unf (E : Ev) (c : Code) (lv : Nat) (lx : Nat → Nat) (kn : K) (kx : Nat → K) (kr : K) (e : Env) (h : Heap) : R21 E c true lv lx kn kx kr e h = runS (R21 E) PP GG CC E 3 LL none 1 c lv lx kn kx kr e h := runR_unf _ _ _ _ _ _ _ _
def r21 (x0 : AV) (h : Heap) : Res := some (x0, h)
theorem r21_eq : r21 = fun x0 h => xret PP fn21 (mkE [(0, x0)]) h := by kernel_rfl
/-- theodolite/elab.New -/
def s21 (E : Ev) (h : Heap) : Res :=
  ob (xbuild PP 76 []) fun x1 =>
  obP (some (pNew h 76 x1.cells)) fun x2 h2 =>
  r21 x2 h2
theorem s21_eq (E : Ev) (h : Heap) : xbodyR PP GG CC E LL fn21 [] h = s21 E h := by
  unfold s21
  rw [r21_eq]
  refine (bodyR_unf (c := (codeOf fn21)) (by kernel_rfl) (by kernel_rfl)).trans ?_
  show runS (R21 E) PP GG CC E fn21.ntmps LL none (resBits fn21.results.toList) (codeOf fn21) _ _ _ _ _ _ _ = _
  generalize R21 E = R
  generalize LL = L
  generalize PP = P
  symm
  revert R L P
  refine id ?_
  intro R L P
  kernel_rfl
def fn22 : Func := fnAt PP 22
def R22 (E : Ev) : RT := runR PP GG CC E 35 LL none 4
theorem R22_unf (E : Ev) (c : Code) (lv : Nat) (lx : Nat → Nat) (kn : K) (kx : Nat → K) (kr : K) (e : Env) (h : Heap) : R22 E c true lv lx kn kx kr e h = runS (R22 E) PP GG CC E 35 LL none 4 c lv lx kn kx kr e h := runR_unf _ _ _ _ _ _ _ _
def r22 (x2 : AV) (h : Heap) : Res := some (x2, h)
theorem r22_eq : r22 = fun x2 h => xret PP fn22 (mkE [(2, x2)]) h := by kernel_rfl
def f22_1 (E : Ev) (kr : AV → Heap → Res) (x5 : AV) (h : Heap) : Res :=
  kr x5 h
theorem f22_1_eq (E : Ev) (kn : K) (kx : Nat → K) (kr : K) : f22_1 E (fun y2 h => kr (mkE [(2, y2)]) h) = fun x5 h => R22 E (pb (pb (pb (pb (codeOf fn22))))) true 4 (fun _ => 0) kn kx kr (mkE [(5, x5)]) h := by
  funext x5 h
  unfold f22_1
  refine Eq.trans ?_ (R22_unf E _ _ _ _ _ _ _ _).symm
  generalize R22 E = R
  generalize LL = L
  generalize PP = P
  revert R L P
  refine id ?_
  intro R L P
  kernel_rfl
def f22_3 (E : Ev) (kn : AV → AV → AV → Heap → Res) (x3 x5 x8 : AV) (h : Heap) : Res :=
  kn x3 x5 x8 h
theorem f22_3_eq (E : Ev) (kn : K) (kx : Nat → K) (kr : K) : f22_3 E (fun y3 y5 y6 h => kn (mkE [(3, y3), (5, y5), (6, y6)]) h) = fun x3 x5 x8 h => R22 E (pb (pb (pa (pb (pa (pa (pb (pa (pb (pb (pb (codeOf fn22)))))))))))) true 104 (fun i => sel (Nat.beq i 1) 104 ((fun i => sel (Nat.beq i 0) 32 ((fun _ => 0) i)) i)) kn kx kr (mkE [(3, x3), (5, x5), (8, x8)]) h := by
  funext x3 x5 x8 h
  unfold f22_3
  refine Eq.trans ?_ (R22_unf E _ _ _ _ _ _ _ _).symm
  generalize R22 E = R
  generalize LL = L
  generalize PP = P
  revert R L P
  refine id ?_
  intro R L P
  kernel_rfl
def f22_2 (E : Ev) (kn : AV → AV → AV → Heap → Res) (k0 : AV → Heap → Res) (x3 x5 x6 : AV) (h : Heap) : Res :=
  ob (xlen PP h 101 x3) fun x18 =>
  ob (xbin PP .lss 3 false x6 x18) fun x19 =>
  pIf x19
   (obP (E (.fn 37) [x3, x6] h) fun x23 h23 =>
   ob (pExtract 0 x23) fun x24 =>
   ob (pExtract 1 x23) fun x25 =>
   ob (pExtract 2 x23) fun x26 =>
   obP (ob (zeroC PP 73) fun z => some (pNew h23 73 z)) fun x7 h7 =>
   ob (pStore PP 73 x7 x24 h7) fun h0 =>
   ob (xbin PP .eql 3 true x26 (.int .i64 0)) fun x28 =>
   pIf x28
    (ob (pLoad PP 73 x7 h0) fun x30 =>
    obP (pBuildSlice PP h0 67 1 [(0, x30)]) fun x31 h31 =>
    obP (xappend PP h31 67 67 x5 x31) fun x32 h32 =>
    f22_3 E kn x3 x32 x25 h32)
    (f22_3 E kn x3 x5 x25 h0))
   (k0 x5 h)
theorem f22_2_eq (E : Ev) (kn : K) (kx : Nat → K) (kr : K) (e0 : K) (he0 : kx 0 = e0) : f22_2 E (fun y3 y5 y6 h => kn (mkE [(3, y3), (5, y5), (6, y6)]) h) (fun y5 h => e0 (mkE [(5, y5)]) h) = fun x3 x5 x6 h => R22 E (pa (pa (pb (pa (pb (pb (pb (codeOf fn22)))))))) true 104 (fun i => sel (Nat.beq i 0) 32 ((fun _ => 0) i)) kn kx kr (mkE [(3, x3), (5, x5), (6, x6)]) h := by
  subst he0
  funext x3 x5 x6 h
  unfold f22_2
  rw [f22_3_eq E kn (fun i => sel (Nat.beq i 1) kn (kx i)) kr]
  refine Eq.trans ?_ (R22_unf E _ _ _ _ _ _ _ _).symm
  generalize R22 E = R
  generalize LL = L
  generalize PP = P
  revert R L P
  refine id ?_
  intro R L P
  kernel_rfl
/-- theodolite/theodolitelaw14.trees -/
def s22 (E : Ev) (x0 : AV) (h : Heap) : Res :=
  obP (pConv PP h 9 41 x0) fun x12 h12 =>
  obP (E (.fn 36) [x12] h12) fun x13 h13 =>
  ob (pExtract 0 x13) fun x14 =>
  ob (pExtract 1 x13) fun x15 =>
  lp b3 (fun k => f22_2 E k (f22_1 E r22)) LL x14 .nilSlice (.int .i64 0) h13
theorem s22_eq (E : Ev) (x0 : AV) (h : Heap) : xbodyR PP GG CC E LL fn22 [x0] h = s22 E x0 h := by
  unfold s22
  rw [r22_eq, f22_1_eq E (xret PP fn22) noK (xret PP fn22), lp3_eq 3 5 6 (fun k => (R22 E (pa (pa (pb (pa (pb (pb (pb (codeOf fn22)))))))) true 104 (fun i => sel (Nat.beq i 0) 32 ((fun _ => 0) i)) k (fun i => sel (Nat.beq i 0) (R22 E (pb (pb (pb (pb (codeOf fn22))))) true 4 (fun _ => 0) (xret PP fn22) noK (xret PP fn22)) (noK i)) (xret PP fn22))) (fun k => f22_2 E k (fun y5 h => (R22 E (pb (pb (pb (pb (codeOf fn22))))) true 4 (fun _ => 0) (xret PP fn22) noK (xret PP fn22)) (mkE [(5, y5)]) h)) (fun k => f22_2_eq E k (fun i => sel (Nat.beq i 0) (R22 E (pb (pb (pb (pb (codeOf fn22))))) true 4 (fun _ => 0) (xret PP fn22) noK (xret PP fn22)) (noK i)) (xret PP fn22) (R22 E (pb (pb (pb (pb (codeOf fn22))))) true 4 (fun _ => 0) (xret PP fn22) noK (xret PP fn22)) rfl) LL]
  refine (bodyR_unf (c := (codeOf fn22)) (by kernel_rfl) (by kernel_rfl)).trans ?_
  show runS (R22 E) PP GG CC E fn22.ntmps LL none (resBits fn22.results.toList) (codeOf fn22) _ _ _ _ _ _ _ = _
  generalize R22 E = R
  generalize LL = L
  generalize PP = P
  symm
  revert R L P
  refine id ?_
  intro R L P
  kernel_rfl
def fn23 : Func := fnAt PP 23
def R23 (E : Ev) : RT := runR PP GG CC E 29 LL none 768
theorem R23_unf (E : Ev) (c : Code) (lv : Nat) (lx : Nat → Nat) (kn : K) (kx : Nat → K) (kr : K) (e : Env) (h : Heap) : R23 E c true lv lx kn kx kr e h = runS (R23 E) PP GG CC E 29 LL none 768 c lv lx kn kx kr e h := runR_unf _ _ _ _ _ _ _ _
def r23 (x8 x9 : AV) (h : Heap) : Res := some (.tuple [x8, x9], h)
theorem r23_eq : r23 = fun x8 x9 h => xret PP fn23 (mkE [(8, x8), (9, x9)]) h := by kernel_rfl
def f23_1 (E : Ev) (kr : AV → AV → Heap → Res) (x0 x1 x2 x7 : AV) (h : Heap) : Res :=
  ob (xbin PP .eql 36 true x1 .nilPtr) fun x11 =>
  ob (pWant x11 false) fun c =>
  ob (sel c (some x2) (some (.tuple []))) fun x13 =>
  ob (pWant x11 false) fun c_1 =>
  ob (sel c_1 (xbin PP .eql 35 true x13 .nilPtr) (some (.tuple []))) fun x14 =>
  ob (pPick x11 (some (.bool true)) (some x14)) fun x15 =>
  ob (pWant x15 false) fun c_2 =>
  ob (sel c_2 (some x0) (some (.tuple []))) fun x17 =>
  ob (pWant x15 false) fun c_3 =>
  ob (sel c_3 (xbin PP .eql 37 true x17 .nilPtr) (some (.tuple []))) fun x18 =>
  ob (pPick x15 (some (.bool true)) (some x18)) fun x19 =>
  pIf x19
   (kr (.int .i64 0) (.int .i64 1) h)
   (ob (xbuild PP 109 [(0, x1), (1, x2), (2, x0)]) fun x23 =>
   obP (some (pNew h 109 x23.cells)) fun x24 h24 =>
   ob (pLoad PP 73 x7 h24) fun x25 =>
   obP (E (.fn 38) [x24, x25] h24) fun x26 h26 =>
   ob (pExtract 0 x26) fun x27 =>
   ob (pExtract 1 x26) fun x28 =>
   kr x27 x28 h26)
theorem f23_1_eq (E : Ev) (kn : K) (kx : Nat → K) (kr : K) : f23_1 E (fun y8 y9 h => kr (mkE [(8, y8), (9, y9)]) h) = fun x0 x1 x2 x7 h => R23 E (pb (codeOf fn23)) true 768 (fun _ => 0) kn kx kr (mkE [(0, x0), (1, x1), (2, x2), (7, x7)]) h := by
  funext x0 x1 x2 x7 h
  unfold f23_1
  refine Eq.trans ?_ (R23_unf E _ _ _ _ _ _ _ _).symm
  generalize R23 E = R
  generalize LL = L
  generalize PP = P
  revert R L P
  refine id ?_
  intro R L P
  kernel_rfl
/-- (*theodolite/elab.Defs).Term -/
def s23 (E : Ev) (x0 x1 x2 x3 : AV) (h : Heap) : Res :=
  obP (some (pNew h 73 x3.cells)) fun x7 h7 =>
  f23_1 E r23 x0 x1 x2 x7 h7
theorem s23_eq (E : Ev) (x0 x1 x2 x3 : AV) (h : Heap) : xbodyR PP GG CC E LL fn23 [x0, x1, x2, x3] h = s23 E x0 x1 x2 x3 h := by
  unfold s23
  rw [r23_eq, f23_1_eq E (xret PP fn23) noK (xret PP fn23)]
  refine (bodyR_unf (c := (codeOf fn23)) (by kernel_rfl) (by kernel_rfl)).trans ?_
  show runS (R23 E) PP GG CC E fn23.ntmps LL none (resBits fn23.results.toList) (codeOf fn23) _ _ _ _ _ _ _ = _
  generalize R23 E = R
  generalize LL = L
  generalize PP = P
  symm
  revert R L P
  refine id ?_
  intro R L P
  kernel_rfl
def fn24 : Func := fnAt PP 24
def R24 (E : Ev) : RT := runR PP GG CC E 55 LL none 12
theorem R24_unf (E : Ev) (c : Code) (lv : Nat) (lx : Nat → Nat) (kn : K) (kx : Nat → K) (kr : K) (e : Env) (h : Heap) : R24 E c true lv lx kn kx kr e h = runS (R24 E) PP GG CC E 55 LL none 12 c lv lx kn kx kr e h := runR_unf _ _ _ _ _ _ _ _
def r24 (x2 x3 : AV) (h : Heap) : Res := ob (ob (pLoad PP 79 x2 h) fun v => ob (ob (some x3) fun v => some [v]) fun vs => some (v :: vs)) fun vs => some (one vs, h)
theorem r24_eq : r24 = fun x2 x3 h => xret PP fn24 (mkE [(2, x2), (3, x3)]) h := by kernel_rfl
def f24_2 (E : Ev) (kr : AV → AV → Heap → Res) (x2 x5 x6 : AV) (h : Heap) : Res :=
  ob (xun .not x5) fun x52 =>
  pIf x52
   (ob (xbuild PP 79 []) fun x53 =>
   ob (pStore PP 79 x2 x53 h) fun h0 =>
   kr x2 (.int .i64 2) h0)
   (ob (pLoad PP 79 x6 h) fun x54 =>
   ob (pStore PP 79 x2 x54 h) fun h0 =>
   kr x2 (.int .i64 0) h0)
theorem f24_2_eq (E : Ev) (kn : K) (kx : Nat → K) (kr : K) : f24_2 E (fun y2 y3 h => kr (mkE [(2, y2), (3, y3)]) h) = fun x2 x5 x6 h => R24 E (pb (pb (pb (pb (pb (codeOf fn24)))))) true 12 (fun _ => 0) kn kx kr (mkE [(2, x2), (5, x5), (6, x6)]) h := by
  funext x2 x5 x6 h
  unfold f24_2
  refine Eq.trans ?_ (R24_unf E _ _ _ _ _ _ _ _).symm
  generalize R24 E = R
  generalize LL = L
  generalize PP = P
  revert R L P
  refine id ?_
  intro R L P
  kernel_rfl
def f24_1 (E : Ev) (kr : AV → AV → Heap → Res) (x1 x2 : AV) (h : Heap) : Res :=
  ob (pFieldAddr PP 73 0 x1) fun x7 =>
  ob (pLoad PP 4 x7 h) fun x8 =>
  ob (xun .not x8) fun x9 =>
  ob (pWant x9 false) fun c =>
  ob (sel c (pFieldAddr PP 73 2 x1) (some (.tuple []))) fun x11 =>
  ob (pWant x9 false) fun c_1 =>
  ob (sel c_1 (pLoad PP 67 x11 h) (some (.tuple []))) fun x12 =>
  ob (pWant x9 false) fun c_2 =>
  ob (sel c_2 (xlen PP h 67 x12) (some (.tuple []))) fun x13 =>
  ob (pWant x9 false) fun c_3 =>
  ob (sel c_3 (xbin PP .eql 3 true x13 (.int .i64 0)) (some (.tuple []))) fun x14 =>
  ob (pPick x9 (some (.bool true)) (some x14)) fun x15 =>
  pIf x15
   (ob (xbuild PP 79 []) fun x16 =>
   ob (pStore PP 79 x2 x16 h) fun h0 =>
   kr x2 (.int .i64 2) h0)
   (ob (pFieldAddr PP 73 2 x1) fun x18 =>
   ob (pLoad PP 67 x18 h) fun x19 =>
   ob (xindexAddr PP 67 x19 (.int .i64 0)) fun x20 =>
   ob (pLoad PP 73 x20 h) fun x21 =>
   obP (E (.fn 39) [x21] h) fun x22 h22 =>
   ob (pExtract 0 x22) fun x23 =>
   ob (pExtract 1 x22) fun x24 =>
   obP (E (.fn 41) [(.str 127 319325319258326554093512196968256288761179978027433000396211036046690603159350028156705554932518661345157912835798036452311132234842031665166587278422141017737281782053426955363356972131573709467322872210257919729988138069728361038447141917517738918259867673574076508648298915106454587964108485694334461299)] h22) fun x25 h25 =>
   obP (E (.fn 40) [x25, x23] h25) fun x27 h27 =>
   ob (xbin PP .add 3 true x27 (.int .i64 1)) fun x28 =>
   ob (xbuild PP 79 [(0, x28)]) fun x29 =>
   obP (ob (zeroC PP 79) fun z => some (pNew h27 79 z)) fun x6 h6 =>
   ob (pStore PP 79 x6 x29 h6) fun h0 =>
   ob (pWant x24 true) fun c_4 =>
   ob (sel c_4 (some x23) (some (.tuple []))) fun x40 =>
   ob (pWant x24 true) fun c_5 =>
   ob (sel c_5 (xbin PP .eql 9 true x40 (.str 13 9226191135636453861258640450916)) (some (.tuple []))) fun x41 =>
   ob (pPick x24 (some x41) (some (.bool false))) fun x42 =>
   pIf x42
    (ob (pFieldAddr PP 73 2 x1) fun x43 =>
    ob (pLoad PP 67 x43 h0) fun x44 =>
    obP (xslice PP h0 67 x44 (some (.int .i64 1)) none none) fun x45 h45 =>
    obP (E (.fn 42) [x6, x45] h45) fun x46 h46 =>
    f24_2 E kr x2 x46 x6 h46)
    (ob (pFieldAddr PP 79 0 x6) fun x48 =>
    ob (pLoad PP 3 x48 h0) fun x49 =>
    ob (xbin PP .eql 3 true x49 (.int .i64 0)) fun x50 =>
    pIf x50
     (f24_2 E kr x2 (.bool false) x6 h0)
     (ob (pWant x24 true) fun c_6 =>
     ob (sel c_6 (pFieldAddr PP 73 2 x1) (some (.tuple []))) fun x32 =>
     ob (pWant x24 true) fun c_7 =>
     ob (sel c_7 (pLoad PP 67 x32 h0) (some (.tuple []))) fun x33 =>
     ob (pWant x24 true) fun c_8 =>
     obP (sel c_8 (xslice PP h0 67 x33 (some (.int .i64 1)) none none) (some (.tuple [], h0))) fun x34 h34 =>
     ob (pWant x24 true) fun c_9 =>
     obP (sel c_9 (E (.fn 43) [x6, x34] h34) (some (.tuple [], h34))) fun x35 h35 =>
     ob (pPick x24 (some x35) (some (.bool false))) fun x36 =>
     f24_2 E kr x2 x36 x6 h35)))
theorem f24_1_eq (E : Ev) (kn : K) (kx : Nat → K) (kr : K) : f24_1 E (fun y2 y3 h => kr (mkE [(2, y2), (3, y3)]) h) = fun x1 x2 h => R24 E (pb (codeOf fn24)) true 12 (fun _ => 0) kn kx kr (mkE [(1, x1), (2, x2)]) h := by
  funext x1 x2 h
  unfold f24_1
  rw [f24_2_eq E kn kx kr]
  refine Eq.trans ?_ (R24_unf E _ _ _ _ _ _ _ _).symm
  generalize R24 E = R
  generalize LL = L
  generalize PP = P
  revert R L P
  refine id ?_
  intro R L P
  kernel_rfl
/-- theodolite/script.Parse -/
def s24 (E : Ev) (x0 : AV) (h : Heap) : Res :=
  obP (some (pNew h 73 x0.cells)) fun x1 h1 =>
  obP (ob (zeroC PP 79) fun z => some (pNew h1 79 z)) fun x2 h2 =>
  f24_1 E r24 x1 x2 h2
theorem s24_eq (E : Ev) (x0 : AV) (h : Heap) : xbodyR PP GG CC E LL fn24 [x0] h = s24 E x0 h := by
  unfold s24
  rw [r24_eq, f24_1_eq E (xret PP fn24) noK (xret PP fn24)]
  refine (bodyR_unf (c := (codeOf fn24)) (by kernel_rfl) (by kernel_rfl)).trans ?_
  show runS (R24 E) PP GG CC E fn24.ntmps LL none (resBits fn24.results.toList) (codeOf fn24) _ _ _ _ _ _ _ = _
  generalize R24 E = R
  generalize LL = L
  generalize PP = P
  symm
  revert R L P
  refine id ?_
  intro R L P
  kernel_rfl
def fn25 : Func := fnAt PP 25
def R25 (E : Ev) : RT := runR PP GG CC E 170 LL none 256
theorem R25_unf (E : Ev) (c : Code) (lv : Nat) (lx : Nat → Nat) (kn : K) (kx : Nat → K) (kr : K) (e : Env) (h : Heap) : R25 E c true lv lx kn kx kr e h = runS (R25 E) PP GG CC E 170 LL none 256 c lv lx kn kx kr e h := runR_unf _ _ _ _ _ _ _ _
def r25 (x8 : AV) (h : Heap) : Res := some (x8, h)
theorem r25_eq : r25 = fun x8 h => xret PP fn25 (mkE [(8, x8)]) h := by kernel_rfl
def f25_3 (E : Ev) (kr : AV → Heap → Res) (x0 x1 x7 x9 x11 x16 : AV) (h : Heap) : Res :=
  ob (pFieldAddr PP 79 4 x7) fun x141 =>
  ob (pLoad PP 73 x141 h) fun x142 =>
  obP (E (.fn 38) [x16, x142] h) fun x143 h143 =>
  ob (pExtract 0 x143) fun x144 =>
  ob (pExtract 1 x143) fun x145 =>
  ob (xbin PP .neq 29 true x145 (.int .i64 0)) fun x147 =>
  pIf x147
   (kr x145 h143)
   (obP (E (.fn 47) [x1, x144] h143) fun x152 h152 =>
   ob (pExtract 0 x152) fun x153 =>
   ob (pExtract 1 x152) fun x154 =>
   ob (xbin PP .neq 3 false x153 x9) fun x157 =>
   pIf x157
    (kr (.int .i64 3) h152)
    (ob (pFieldAddr PP 84 3 x11) fun x159 =>
    ob (pStore PP 3 x159 x144 h152) fun h0 =>
    ob (pNil x0) fun x162 =>
    ob (pFieldAddr PP 76 0 x162) fun x163 =>
    ob (pLoad PP 74 x163 h0) fun x164 =>
    ob (pLoad PP 84 x11 h0) fun x165 =>
    obP (pBuildSlice PP h0 74 1 [(0, x165)]) fun x166 h166 =>
    sel (chkV x164 (pLoad PP 74 x163 h166)) (
    sel (chkV x165 (pLoad PP 84 x11 h166)) (
    obP (xappend PP h166 74 74 x164 x166) fun x167 h167 =>
    ob (pNil x0) fun x168 =>
    ob (pFieldAddr PP 76 0 x168) fun x169 =>
    ob (pStore PP 74 x169 x167 h167) fun h0_1 =>
    kr (.int .i64 0) h0_1) none) none))
theorem f25_3_eq (E : Ev) (kn : K) (kx : Nat → K) (kr : K) : f25_3 E (fun y8 h => kr (mkE [(8, y8)]) h) = fun x0 x1 x7 x9 x11 x16 h => R25 E (pb (pb (pb (pb (pb (pb (pb (pb (codeOf fn25))))))))) true 256 (fun _ => 0) kn kx kr (mkE [(0, x0), (1, x1), (7, x7), (9, x9), (11, x11), (16, x16)]) h := by
  funext x0 x1 x7 x9 x11 x16 h
  unfold f25_3
  refine Eq.trans ?_ (R25_unf E _ _ _ _ _ _ _ _).symm
  generalize R25 E = R
  generalize LL = L
  generalize PP = P
  revert R L P
  refine id ?_
  intro R L P
  kernel_rfl
def f25_4 (E : Ev) (kn : AV → AV → AV → AV → AV → AV → AV → AV → AV → Heap → Res) (k2 : AV → AV → AV → AV → AV → AV → Heap → Res) (kr : AV → Heap → Res) (x0 x1 x7 x9 x11 x16 x96 x97 x98 : AV) (h : Heap) : Res :=
  ob (xbin PP .lss 3 false x98 x97) fun x99 =>
  pIf x99
   (ob (xindexAddr PP 77 x96 x98) fun x101 =>
   ob (pLoad PP 117 x101 h) fun x102 =>
   obP (ob (zeroC PP 117) fun z => some (pNew h 117 z)) fun x18 h18 =>
   ob (pStore PP 117 x18 x102 h18) fun h0 =>
   ob (pFieldAddr PP 117 0 x18) fun x103 =>
   ob (pLoad PP 9 x103 h0) fun x104 =>
   obP (E (.fn 45) [x104] h0) fun x105 h105 =>
   pIf x105
    (kr (.int .i64 2) h105)
    (ob (pFieldAddr PP 84 2 x11) fun x108 =>
    ob (pLoad PP 22 x108 h105) fun x109 =>
    ob (xindexAddr PP 22 x109 x98) fun x111 =>
    ob (pLoad PP 3 x111 h105) fun x112 =>
    obP (E (.fn 46) [x1, x112] h105) fun x113 h113 =>
    ob (pExtract 0 x113) fun x114 =>
    ob (pExtract 1 x113) fun x115 =>
    ob (xbin PP .neq 29 true x115 (.int .i64 0)) fun x117 =>
    pIf x117
     (kr x115 h113)
     (ob (pFieldAddr PP 84 1 x11) fun x119 =>
     ob (pLoad PP 22 x119 h113) fun x120 =>
     obP (pBuildSlice PP h113 22 1 [(0, x114)]) fun x122 h122 =>
     obP (xappend PP h122 22 22 x120 x122) fun x123 h123 =>
     ob (pFieldAddr PP 84 1 x11) fun x124 =>
     ob (pStore PP 22 x124 x123 h123) fun h0_1 =>
     ob (pNil x16) fun x127 =>
     ob (pFieldAddr PP 109 3 x127) fun x128 =>
     ob (pLoad PP 107 x128 h0_1) fun x129 =>
     ob (pFieldAddr PP 117 0 x18) fun x130 =>
     ob (pLoad PP 9 x130 h0_1) fun x131 =>
     ob (xbuild PP 120 [(0, x131), (1, x114)]) fun x133 =>
     obP (pBuildSlice PP h0_1 107 1 [(0, x133)]) fun x134 h134 =>
     sel (chkV x129 (pLoad PP 107 x128 h134)) (
     sel (chkV x131 (pLoad PP 9 x130 h134)) (
     obP (xappend PP h134 107 107 x129 x134) fun x135 h135 =>
     ob (pNil x16) fun x136 =>
     ob (pFieldAddr PP 109 3 x136) fun x137 =>
     ob (pStore PP 107 x137 x135 h135) fun h0_2 =>
     ob (xbin PP .add 3 true x98 (.int .i64 1)) fun x138 =>
     kn x0 x1 x7 x9 x11 x16 x96 x97 x138 h0_2) none) none)))
   (k2 x0 x1 x7 x9 x11 x16 h)
theorem f25_4_eq (E : Ev) (kn : K) (kx : Nat → K) (kr : K) (e2 : K) (he2 : kx 2 = e2) : f25_4 E (fun y0 y1 y7 y9 y11 y16 y96 y97 y98 h => kn (mkE [(0, y0), (1, y1), (7, y7), (9, y9), (11, y11), (16, y16), (96, y96), (97, y97), (98, y98)]) h) (fun y0 y1 y7 y9 y11 y16 h => e2 (mkE [(0, y0), (1, y1), (7, y7), (9, y9), (11, y11), (16, y16)]) h) (fun y8 h => kr (mkE [(8, y8)]) h) = fun x0 x1 x7 x9 x11 x16 x96 x97 x98 h => R25 E (pa (pa (pb (pa (pb (pb (pb (pb (pb (pb (pb (codeOf fn25)))))))))))) true 554597137599850363154807720579 (fun i => sel (Nat.beq i 2) 68227 ((fun _ => 0) i)) kn kx kr (mkE [(0, x0), (1, x1), (7, x7), (9, x9), (11, x11), (16, x16), (96, x96), (97, x97), (98, x98)]) h := by
  subst he2
  funext x0 x1 x7 x9 x11 x16 x96 x97 x98 h
  unfold f25_4
  refine Eq.trans ?_ (R25_unf E _ _ _ _ _ _ _ _).symm
  generalize R25 E = R
  generalize LL = L
  generalize PP = P
  revert R L P
  refine id ?_
  intro R L P
  kernel_rfl
def f25_2 (E : Ev) (kr : AV → Heap → Res) (x0 x1 x2 x7 x9 x10 x11 : AV) (h : Heap) : Res :=
  ob (xun .not x10) fun x89 =>
  pIf x89
   (kr (.int .i64 1) h)
   (ob (xbuild PP 109 [(0, x1), (1, x2), (2, x0)]) fun x93 =>
   obP (some (pNew h 109 x93.cells)) fun x94 h94 =>
   ob (pFieldAddr PP 79 2 x7) fun x95 =>
   ob (pLoad PP 77 x95 h94) fun x96 =>
   ob (xlen PP h94 77 x96) fun x97 =>
   lp b9 (fun k => f25_4 E k (f25_3 E kr) kr) LL x0 x1 x7 x9 x11 x94 x96 x97 (.int .i64 0) h94)
theorem f25_2_eq (E : Ev) (kn : K) (kx : Nat → K) (kr : K) : f25_2 E (fun y8 h => kr (mkE [(8, y8)]) h) = fun x0 x1 x2 x7 x9 x10 x11 h => R25 E (pb (pb (pb (pb (pb (codeOf fn25)))))) true 256 (fun _ => 0) kn kx kr (mkE [(0, x0), (1, x1), (2, x2), (7, x7), (9, x9), (10, x10), (11, x11)]) h := by
  funext x0 x1 x2 x7 x9 x10 x11 h
  unfold f25_2
  rw [f25_3_eq E kn kx kr, lp9_eq 0 1 7 9 11 16 96 97 98 (fun k => (R25 E (pa (pa (pb (pa (pb (pb (pb (pb (pb (pb (pb (codeOf fn25)))))))))))) true 554597137599850363154807720579 (fun i => sel (Nat.beq i 2) 68227 ((fun _ => 0) i)) k (fun i => sel (Nat.beq i 2) (R25 E (pb (pb (pb (pb (pb (pb (pb (pb (codeOf fn25))))))))) true 256 (fun _ => 0) kn kx kr) (kx i)) kr)) (fun k => f25_4 E k (fun y0 y1 y7 y9 y11 y16 h => (R25 E (pb (pb (pb (pb (pb (pb (pb (pb (codeOf fn25))))))))) true 256 (fun _ => 0) kn kx kr) (mkE [(0, y0), (1, y1), (7, y7), (9, y9), (11, y11), (16, y16)]) h) (fun y8 h => kr (mkE [(8, y8)]) h)) (fun k => f25_4_eq E k (fun i => sel (Nat.beq i 2) (R25 E (pb (pb (pb (pb (pb (pb (pb (pb (codeOf fn25))))))))) true 256 (fun _ => 0) kn kx kr) (kx i)) kr (R25 E (pb (pb (pb (pb (pb (pb (pb (pb (codeOf fn25))))))))) true 256 (fun _ => 0) kn kx kr) rfl) LL]
  refine Eq.trans ?_ (R25_unf E _ _ _ _ _ _ _ _).symm
  generalize R25 E = R
  generalize LL = L
  generalize PP = P
  revert R L P
  refine id ?_
  intro R L P
  kernel_rfl
def f25_5 (E : Ev) (kn : AV → AV → AV → AV → AV → AV → AV → AV → AV → AV → Heap → Res) (k0 : AV → AV → AV → AV → AV → AV → AV → Heap → Res) (x0 x1 x2 x7 x9 x10 x11 x64 x65 x66 : AV) (h : Heap) : Res :=
  ob (xbin PP .lss 3 false x66 x65) fun x67 =>
  pIf x67
   (ob (xindexAddr PP 77 x64 x66) fun x68 =>
   ob (pLoad PP 117 x68 h) fun x69 =>
   obP (ob (zeroC PP 117) fun z => some (pNew h 117 z)) fun x13 h13 =>
   ob (pStore PP 117 x13 x69 h13) fun h0 =>
   ob (pFieldAddr PP 117 1 x13) fun x72 =>
   ob (pLoad PP 9 x72 h0) fun x73 =>
   obP (E (.fn 44) [x2, x73] h0) fun x74 h74 =>
   ob (pExtract 0 x74) fun x75 =>
   ob (pExtract 1 x74) fun x76 =>
   ob (pWant x10 true) fun c =>
   ob (sel c (some x76) (some (.tuple []))) fun x79 =>
   ob (pPick x10 (some x79) (some (.bool false))) fun x80 =>
   ob (pFieldAddr PP 84 2 x11) fun x81 =>
   ob (pLoad PP 22 x81 h74) fun x82 =>
   obP (pBuildSlice PP h74 22 1 [(0, x75)]) fun x84 h84 =>
   obP (xappend PP h84 22 22 x82 x84) fun x85 h85 =>
   ob (pFieldAddr PP 84 2 x11) fun x86 =>
   ob (pStore PP 22 x86 x85 h85) fun h0_1 =>
   ob (xbin PP .add 3 true x66 (.int .i64 1)) fun x87 =>
   kn x0 x1 x2 x7 x9 x80 x11 x64 x65 x87 h0_1)
   (k0 x0 x1 x2 x7 x9 x10 x11 h)
theorem f25_5_eq (E : Ev) (kn : K) (kx : Nat → K) (kr : K) (e0 : K) (he0 : kx 0 = e0) : f25_5 E (fun y0 y1 y2 y7 y9 y10 y11 y64 y65 y66 h => kn (mkE [(0, y0), (1, y1), (2, y2), (7, y7), (9, y9), (10, y10), (11, y11), (64, y64), (65, y65), (66, y66)]) h) (fun y0 y1 y2 y7 y9 y10 y11 h => e0 (mkE [(0, y0), (1, y1), (2, y2), (7, y7), (9, y9), (10, y10), (11, y11)]) h) = fun x0 x1 x2 x7 x9 x10 x11 x64 x65 x66 h => R25 E (pa (pa (pb (pa (pb (pb (pb (pb (codeOf fn25))))))))) true 129127208515966865031 (fun i => sel (Nat.beq i 0) 3719 ((fun _ => 0) i)) kn kx kr (mkE [(0, x0), (1, x1), (2, x2), (7, x7), (9, x9), (10, x10), (11, x11), (64, x64), (65, x65), (66, x66)]) h := by
  subst he0
  funext x0 x1 x2 x7 x9 x10 x11 x64 x65 x66 h
  unfold f25_5
  refine Eq.trans ?_ (R25_unf E _ _ _ _ _ _ _ _).symm
  generalize R25 E = R
  generalize LL = L
  generalize PP = P
  revert R L P
  refine id ?_
  intro R L P
  kernel_rfl
def f25_1 (E : Ev) (kr : AV → Heap → Res) (x0 x1 x2 x7 : AV) (h : Heap) : Res :=
  ob (xbin PP .eql 36 true x1 .nilPtr) fun x26 =>
  ob (pWant x26 false) fun c =>
  ob (sel c (some x2) (some (.tuple []))) fun x28 =>
  ob (pWant x26 false) fun c_1 =>
  ob (sel c_1 (xbin PP .eql 35 true x28 .nilPtr) (some (.tuple []))) fun x29 =>
  ob (pPick x26 (some (.bool true)) (some x29)) fun x30 =>
  ob (pWant x30 false) fun c_2 =>
  ob (sel c_2 (some x0) (some (.tuple []))) fun x32 =>
  ob (pWant x30 false) fun c_3 =>
  ob (sel c_3 (xbin PP .eql 37 true x32 .nilPtr) (some (.tuple []))) fun x33 =>
  ob (pPick x30 (some (.bool true)) (some x33)) fun x34 =>
  ob (pWant x34 false) fun c_4 =>
  ob (sel c_4 (pFieldAddr PP 79 0 x7) (some (.tuple []))) fun x36 =>
  ob (pWant x34 false) fun c_5 =>
  ob (sel c_5 (pLoad PP 3 x36 h) (some (.tuple []))) fun x37 =>
  ob (pWant x34 false) fun c_6 =>
  ob (sel c_6 (xbin PP .neq 3 true x37 (.int .i64 6)) (some (.tuple []))) fun x38 =>
  ob (pPick x34 (some (.bool true)) (some x38)) fun x39 =>
  ob (pWant x39 false) fun c_7 =>
  ob (sel c_7 (some x2) (some (.tuple []))) fun x41 =>
  ob (pWant x39 false) fun c_8 =>
  ob (sel c_8 (pFieldAddr PP 79 1 x7) (some (.tuple []))) fun x42 =>
  ob (pWant x39 false) fun c_9 =>
  ob (sel c_9 (pLoad PP 9 x42 h) (some (.tuple []))) fun x43 =>
  ob (pWant x39 false) fun c_10 =>
  obP (sel c_10 (E (.fn 31) [x41, x43] h) (some (.tuple [], h))) fun x44 h44 =>
  ob (pWant x39 false) fun c_11 =>
  ob (sel c_11 (xun .not x44) (some (.tuple []))) fun x45 =>
  ob (pPick x39 (some (.bool true)) (some x45)) fun x46 =>
  ob (pWant x46 false) fun c_12 =>
  ob (sel c_12 (some x0) (some (.tuple []))) fun x48 =>
  ob (pWant x46 false) fun c_13 =>
  ob (sel c_13 (pFieldAddr PP 79 1 x7) (some (.tuple []))) fun x49 =>
  ob (pWant x46 false) fun c_14 =>
  ob (sel c_14 (pLoad PP 9 x49 h44) (some (.tuple []))) fun x50 =>
  ob (pWant x46 false) fun c_15 =>
  obP (sel c_15 (E (.fn 13) [x48, x50] h44) (some (.tuple [], h44))) fun x51 h51 =>
  ob (pPick x46 (some (.bool true)) (some x51)) fun x52 =>
  pIf x52
   (kr (.int .i64 1) h51)
   (ob (pFieldAddr PP 79 3 x7) fun x55 =>
   ob (pLoad PP 9 x55 h51) fun x56 =>
   obP (E (.fn 44) [x2, x56] h51) fun x57 h57 =>
   ob (pExtract 0 x57) fun x58 =>
   ob (pExtract 1 x57) fun x59 =>
   ob (pFieldAddr PP 79 1 x7) fun x60 =>
   ob (pLoad PP 9 x60 h57) fun x61 =>
   ob (xbuild PP 84 [(0, x61)]) fun x62 =>
   obP (ob (zeroC PP 84) fun z => some (pNew h57 84 z)) fun x11 h11 =>
   ob (pStore PP 84 x11 x62 h11) fun h0 =>
   ob (pFieldAddr PP 79 2 x7) fun x63 =>
   ob (pLoad PP 77 x63 h0) fun x64 =>
   ob (xlen PP h0 77 x64) fun x65 =>
   lp b10 (fun k => f25_5 E k (f25_2 E kr)) LL x0 x1 x2 x7 x58 x59 x11 x64 x65 (.int .i64 0) h0)
theorem f25_1_eq (E : Ev) (kn : K) (kx : Nat → K) (kr : K) : f25_1 E (fun y8 h => kr (mkE [(8, y8)]) h) = fun x0 x1 x2 x7 h => R25 E (pb (codeOf fn25)) true 256 (fun _ => 0) kn kx kr (mkE [(0, x0), (1, x1), (2, x2), (7, x7)]) h := by
  funext x0 x1 x2 x7 h
  unfold f25_1
  rw [f25_2_eq E kn kx kr, lp10_eq 0 1 2 7 9 10 11 64 65 66 (fun k => (R25 E (pa (pa (pb (pa (pb (pb (pb (pb (codeOf fn25))))))))) true 129127208515966865031 (fun i => sel (Nat.beq i 0) 3719 ((fun _ => 0) i)) k (fun i => sel (Nat.beq i 0) (R25 E (pb (pb (pb (pb (pb (codeOf fn25)))))) true 256 (fun _ => 0) kn kx kr) (kx i)) kr)) (fun k => f25_5 E k (fun y0 y1 y2 y7 y9 y10 y11 h => (R25 E (pb (pb (pb (pb (pb (codeOf fn25)))))) true 256 (fun _ => 0) kn kx kr) (mkE [(0, y0), (1, y1), (2, y2), (7, y7), (9, y9), (10, y10), (11, y11)]) h)) (fun k => f25_5_eq E k (fun i => sel (Nat.beq i 0) (R25 E (pb (pb (pb (pb (pb (codeOf fn25)))))) true 256 (fun _ => 0) kn kx kr) (kx i)) kr (R25 E (pb (pb (pb (pb (pb (codeOf fn25)))))) true 256 (fun _ => 0) kn kx kr) rfl) LL]
  refine Eq.trans ?_ (R25_unf E _ _ _ _ _ _ _ _).symm
  generalize R25 E = R
  generalize LL = L
  generalize PP = P
  revert R L P
  refine id ?_
  intro R L P
  kernel_rfl
/-- (*theodolite/elab.Defs).Define -/
def s25 (E : Ev) (x0 x1 x2 x3 : AV) (h : Heap) : Res :=
  obP (some (pNew h 79 x3.cells)) fun x7 h7 =>
  f25_1 E r25 x0 x1 x2 x7 h7
theorem s25_eq (E : Ev) (x0 x1 x2 x3 : AV) (h : Heap) : xbodyR PP GG CC E LL fn25 [x0, x1, x2, x3] h = s25 E x0 x1 x2 x3 h := by
  unfold s25
  rw [r25_eq, f25_1_eq E (xret PP fn25) noK (xret PP fn25)]
  refine (bodyR_unf (c := (codeOf fn25)) (by kernel_rfl) (by kernel_rfl)).trans ?_
  show runS (R25 E) PP GG CC E fn25.ntmps LL none (resBits fn25.results.toList) (codeOf fn25) _ _ _ _ _ _ _ = _
  generalize R25 E = R
  generalize LL = L
  generalize PP = P
  symm
  revert R L P
  refine id ?_
  intro R L P
  kernel_rfl
def fn26 : Func := fnAt PP 26
def R26 (E : Ev) : RT := runR PP GG CC E 26 LL none 48
theorem R26_unf (E : Ev) (c : Code) (lv : Nat) (lx : Nat → Nat) (kn : K) (kx : Nat → K) (kr : K) (e : Env) (h : Heap) : R26 E c true lv lx kn kx kr e h = runS (R26 E) PP GG CC E 26 LL none 48 c lv lx kn kx kr e h := runR_unf _ _ _ _ _ _ _ _
def r26 (x4 x5 : AV) (h : Heap) : Res := ob (ob (pLoad PP 84 x4 h) fun v => ob (ob (some x5) fun v => some [v]) fun vs => some (v :: vs)) fun vs => some (one vs, h)
theorem r26_eq : r26 = fun x4 x5 h => xret PP fn26 (mkE [(4, x4), (5, x5)]) h := by kernel_rfl
/-- (*theodolite/elab.Defs).find -/
def s26 (E : Ev) (x0 x1 : AV) (h : Heap) : Res :=
  obP (some (pNew h 9 x1.cells)) fun x3 h3 =>
  obP (ob (zeroC PP 84) fun z => some (pNew h3 84 z)) fun x4 h4 =>
  ob (xbin PP .eql 37 true x0 .nilPtr) fun x8 =>
  pIf x8
   (ob (xbuild PP 84 []) fun x9 =>
   ob (pStore PP 84 x4 x9 h4) fun h0 =>
   r26 x4 (.bool false) h0)
   (ob (pNil x0) fun x11 =>
   ob (pFieldAddr PP 76 0 x11) fun x12 =>
   ob (pLoad PP 74 x12 h4) fun x13 =>
   obP (E (.fn 48) [x13, (.func 49 [] [x3])] h4) fun x15 h15 =>
   ob (xbin PP .lss 3 true x15 (.int .i64 0)) fun x17 =>
   pIf x17
    (ob (xbuild PP 84 []) fun x18 =>
    ob (pStore PP 84 x4 x18 h15) fun h0 =>
    r26 x4 (.bool false) h0)
    (ob (pNil x0) fun x20 =>
    ob (pFieldAddr PP 76 0 x20) fun x21 =>
    ob (pLoad PP 74 x21 h15) fun x22 =>
    ob (xindexAddr PP 74 x22 x15) fun x24 =>
    ob (pLoad PP 84 x24 h15) fun x25 =>
    ob (pStore PP 84 x4 x25 h15) fun h0 =>
    r26 x4 (.bool true) h0))
theorem s26_eq (E : Ev) (x0 x1 : AV) (h : Heap) : xbodyR PP GG CC E LL fn26 [x0, x1] h = s26 E x0 x1 h := by
  unfold s26
  rw [r26_eq]
  refine (bodyR_unf (c := (codeOf fn26)) (by kernel_rfl) (by kernel_rfl)).trans ?_
  show runS (R26 E) PP GG CC E fn26.ntmps LL none (resBits fn26.results.toList) (codeOf fn26) _ _ _ _ _ _ _ = _
  generalize R26 E = R
  generalize LL = L
  generalize PP = P
  symm
  revert R L P
  refine id ?_
  intro R L P
  kernel_rfl
def fn27 : Func := fnAt PP 27
def R27 (E : Ev) : RT := runR PP GG CC E 15 LL none 4
theorem R27_unf (E : Ev) (c : Code) (lv : Nat) (lx : Nat → Nat) (kn : K) (kx : Nat → K) (kr : K) (e : Env) (h : Heap) : R27 E c true lv lx kn kx kr e h = runS (R27 E) PP GG CC E 15 LL none 4 c lv lx kn kx kr e h := runR_unf _ _ _ _ _ _ _ _
def r27 (x2 : AV) (h : Heap) : Res := some (x2, h)
theorem r27_eq : r27 = fun x2 h => xret PP fn27 (mkE [(2, x2)]) h := by kernel_rfl
def f27_1 (E : Ev) (kr : AV → Heap → Res) (x0 : AV) (h : Heap) : Res :=
  ob (xbin PP .neq 9 true x0 (.str 0 0)) fun x4 =>
  ob (pWant x4 true) fun c =>
  ob (sel c (some x0) (some (.tuple []))) fun x6 =>
  ob (pWant x4 true) fun c_1 =>
  ob (sel c_1 (xlen PP h 9 x6) (some (.tuple []))) fun x7 =>
  ob (pWant x4 true) fun c_2 =>
  ob (sel c_2 (xbin PP .leq 3 true x7 (.int .i64 200)) (some (.tuple []))) fun x8 =>
  ob (pPick x4 (some x8) (some (.bool false))) fun x9 =>
  ob (pWant x9 true) fun c_3 =>
  ob (sel c_3 (some x0) (some (.tuple []))) fun x11 =>
  ob (pWant x9 true) fun c_4 =>
  obP (sel c_4 (E (.fn 45) [x11] h) (some (.tuple [], h))) fun x12 h12 =>
  ob (pWant x9 true) fun c_5 =>
  ob (sel c_5 (xun .not x12) (some (.tuple []))) fun x13 =>
  ob (pPick x9 (some x13) (some (.bool false))) fun x14 =>
  kr x14 h12
theorem f27_1_eq (E : Ev) (kn : K) (kx : Nat → K) (kr : K) : f27_1 E (fun y2 h => kr (mkE [(2, y2)]) h) = fun x0 h => R27 E (pb (codeOf fn27)) true 4 (fun _ => 0) kn kx kr (mkE [(0, x0)]) h := by
  funext x0 h
  unfold f27_1
  refine Eq.trans ?_ (R27_unf E _ _ _ _ _ _ _ _).symm
  generalize R27 E = R
  generalize LL = L
  generalize PP = P
  revert R L P
  refine id ?_
  intro R L P
  kernel_rfl
/-- theodolite/sorts.may -/
def s27 (E : Ev) (x0 : AV) (h : Heap) : Res :=
  f27_1 E r27 x0 h
theorem s27_eq (E : Ev) (x0 : AV) (h : Heap) : xbodyR PP GG CC E LL fn27 [x0] h = s27 E x0 h := by
  unfold s27
  rw [r27_eq, f27_1_eq E (xret PP fn27) noK (xret PP fn27)]
  refine (bodyR_unf (c := (codeOf fn27)) (by kernel_rfl) (by kernel_rfl)).trans ?_
  show runS (R27 E) PP GG CC E fn27.ntmps LL none (resBits fn27.results.toList) (codeOf fn27) _ _ _ _ _ _ _ = _
  generalize R27 E = R
  generalize LL = L
  generalize PP = P
  symm
  revert R L P
  refine id ?_
  intro R L P
  kernel_rfl
def fn28 : Func := fnAt PP 28
def R28 (E : Ev) : RT := runR PP GG CC E 9 LL none 16
theorem R28_unf (E : Ev) (c : Code) (lv : Nat) (lx : Nat → Nat) (kn : K) (kx : Nat → K) (kr : K) (e : Env) (h : Heap) : R28 E c true lv lx kn kx kr e h = runS (R28 E) PP GG CC E 9 LL none 16 c lv lx kn kx kr e h := runR_unf _ _ _ _ _ _ _ _
def r28 (x4 : AV) (h : Heap) : Res := some (x4, h)
theorem r28_eq : r28 = fun x4 h => xret PP fn28 (mkE [(4, x4)]) h := by kernel_rfl
/-- slices.Contains[[]string,string] -/
def s28 (E : Ev) (x0 x1 : AV) (h : Heap) : Res :=
  obP (E (.fn 40) [x0, x1] h) fun x7 h7 =>
  ob (xbin PP .geq 3 true x7 (.int .i64 0)) fun x8 =>
  r28 x8 h7
theorem s28_eq (E : Ev) (x0 x1 : AV) (h : Heap) : xbodyR PP GG CC E LL fn28 [x0, x1] h = s28 E x0 x1 h := by
  unfold s28
  rw [r28_eq]
  refine (bodyR_unf (c := (codeOf fn28)) (by kernel_rfl) (by kernel_rfl)).trans ?_
  show runS (R28 E) PP GG CC E fn28.ntmps LL none (resBits fn28.results.toList) (codeOf fn28) _ _ _ _ _ _ _ = _
  generalize R28 E = R
  generalize LL = L
  generalize PP = P
  symm
  revert R L P
  refine id ?_
  intro R L P
  kernel_rfl
def fn29 : Func := fnAt PP 29
def R29 (E : Ev) : RT := runR PP GG CC E 32 LL none 48
theorem R29_unf (E : Ev) (c : Code) (lv : Nat) (lx : Nat → Nat) (kn : K) (kx : Nat → K) (kr : K) (e : Env) (h : Heap) : R29 E c true lv lx kn kx kr e h = runS (R29 E) PP GG CC E 32 LL none 48 c lv lx kn kx kr e h := runR_unf _ _ _ _ _ _ _ _
def r29 (x4 x5 : AV) (h : Heap) : Res := some (.tuple [x4, x5], h)
theorem r29_eq : r29 = fun x4 x5 h => xret PP fn29 (mkE [(4, x4), (5, x5)]) h := by kernel_rfl
def f29_1 (E : Ev) (kr : AV → AV → Heap → Res) (h : Heap) : Res :=
  kr (.int .i64 0) (.bool false) h
theorem f29_1_eq (E : Ev) (kn : K) (kx : Nat → K) (kr : K) : f29_1 E (fun y4 y5 h => kr (mkE [(4, y4), (5, y5)]) h) = fun h => R29 E (pb (pb (pb (codeOf fn29)))) true 48 (fun _ => 0) kn kx kr (mkE []) h := by
  funext h
  unfold f29_1
  refine Eq.trans ?_ (R29_unf E _ _ _ _ _ _ _ _).symm
  generalize R29 E = R
  generalize LL = L
  generalize PP = P
  revert R L P
  refine id ?_
  intro R L P
  kernel_rfl
def f29_2 (E : Ev) (kn : AV → AV → AV → Heap → Res) (k1 : Heap → Res) (kr : AV → AV → Heap → Res) (x0 x1 x6 : AV) (h : Heap) : Res :=
  ob (pNil x0) fun x14 =>
  ob (pFieldAddr PP 50 0 x14) fun x15 =>
  ob (pLoad PP 27 x15 h) fun x16 =>
  ob (xlen PP h 27 x16) fun x17 =>
  ob (xbin PP .lss 3 false x6 x17) fun x18 =>
  pIf x18
   (ob (pNil x0) fun x22 =>
   ob (pFieldAddr PP 50 0 x22) fun x23 =>
   ob (pLoad PP 27 x23 h) fun x24 =>
   ob (xindexAddr PP 27 x24 x6) fun x26 =>
   ob (pLoad PP 9 x26 h) fun x27 =>
   ob (xbin PP .eql 9 false x27 x1) fun x29 =>
   pIf x29
    (ob (xbin PP .add 3 true x6 (.int .i64 2)) fun x31 =>
    kr x31 (.bool true) h)
    (ob (xbin PP .add 3 true x6 (.int .i64 1)) fun x20 =>
    kn x0 x1 x20 h))
   (k1 h)
theorem f29_2_eq (E : Ev) (kn : K) (kx : Nat → K) (kr : K) (e1 : K) (he1 : kx 1 = e1) : f29_2 E (fun y0 y1 y6 h => kn (mkE [(0, y0), (1, y1), (6, y6)]) h) (fun h => e1 (mkE []) h) (fun y4 y5 h => kr (mkE [(4, y4), (5, y5)]) h) = fun x0 x1 x6 h => R29 E (pa (pa (pb (pa (pb (pb (codeOf fn29))))))) true 67 (fun i => sel (Nat.beq i 1) 0 ((fun _ => 0) i)) kn kx kr (mkE [(0, x0), (1, x1), (6, x6)]) h := by
  subst he1
  funext x0 x1 x6 h
  unfold f29_2
  refine Eq.trans ?_ (R29_unf E _ _ _ _ _ _ _ _).symm
  generalize R29 E = R
  generalize LL = L
  generalize PP = P
  revert R L P
  refine id ?_
  intro R L P
  kernel_rfl
/-- (*theodolite/theodoliteref6.Sorts).FindSort -/
def s29 (E : Ev) (x0 x1 : AV) (h : Heap) : Res :=
  ob (xbin PP .eql 9 true x1 (.str 4 1819242306)) fun x9 =>
  pIf x9
   (r29 (.int .i64 0) (.bool true) h)
   (ob (xbin PP .eql 9 true x1 (.str 4 1818322258)) fun x11 =>
   pIf x11
    (r29 (.int .i64 1) (.bool true) h)
    (lp b3 (fun k => f29_2 E k (f29_1 E r29) r29) LL x0 x1 (.int .i64 0) h))
theorem s29_eq (E : Ev) (x0 x1 : AV) (h : Heap) : xbodyR PP GG CC E LL fn29 [x0, x1] h = s29 E x0 x1 h := by
  unfold s29
  rw [r29_eq, f29_1_eq E (xret PP fn29) noK (xret PP fn29), lp3_eq 0 1 6 (fun k => (R29 E (pa (pa (pb (pa (pb (pb (codeOf fn29))))))) true 67 (fun i => sel (Nat.beq i 1) 0 ((fun _ => 0) i)) k (fun i => sel (Nat.beq i 1) (R29 E (pb (pb (pb (codeOf fn29)))) true 48 (fun _ => 0) (xret PP fn29) noK (xret PP fn29)) (noK i)) (xret PP fn29))) (fun k => f29_2 E k (fun h => (R29 E (pb (pb (pb (codeOf fn29)))) true 48 (fun _ => 0) (xret PP fn29) noK (xret PP fn29)) (mkE []) h) (fun y4 y5 h => (xret PP fn29) (mkE [(4, y4), (5, y5)]) h)) (fun k => f29_2_eq E k (fun i => sel (Nat.beq i 1) (R29 E (pb (pb (pb (codeOf fn29)))) true 48 (fun _ => 0) (xret PP fn29) noK (xret PP fn29)) (noK i)) (xret PP fn29) (R29 E (pb (pb (pb (codeOf fn29)))) true 48 (fun _ => 0) (xret PP fn29) noK (xret PP fn29)) rfl) LL]
  refine (bodyR_unf (c := (codeOf fn29)) (by kernel_rfl) (by kernel_rfl)).trans ?_
  show runS (R29 E) PP GG CC E fn29.ntmps LL none (resBits fn29.results.toList) (codeOf fn29) _ _ _ _ _ _ _ = _
  generalize R29 E = R
  generalize LL = L
  generalize PP = P
  symm
  revert R L P
  refine id ?_
  intro R L P
  kernel_rfl
def fn30 : Func := fnAt PP 30
def R30 (E : Ev) : RT := runR PP GG CC E 16 LL none 4
theorem R30_unf (E : Ev) (c : Code) (lv : Nat) (lx : Nat → Nat) (kn : K) (kx : Nat → K) (kr : K) (e : Env) (h : Heap) : R30 E c true lv lx kn kx kr e h = runS (R30 E) PP GG CC E 16 LL none 4 c lv lx kn kx kr e h := runR_unf _ _ _ _ _ _ _ _
def r30 (x2 : AV) (h : Heap) : Res := some (x2, h)
theorem r30_eq : r30 = fun x2 h => xret PP fn30 (mkE [(2, x2)]) h := by kernel_rfl
def f30_1 (E : Ev) (kr : AV → Heap → Res) (x0 : AV) (h : Heap) : Res :=
  ob (xlen PP h 9 x0) fun x4 =>
  ob (xbin PP .geq 3 true x4 (.int .i64 1)) fun x5 =>
  ob (pWant x5 true) fun c =>
  ob (sel c (some x0) (some (.tuple []))) fun x7 =>
  ob (pWant x5 true) fun c_1 =>
  ob (sel c_1 (xlen PP h 9 x7) (some (.tuple []))) fun x8 =>
  ob (pWant x5 true) fun c_2 =>
  ob (sel c_2 (xbin PP .leq 3 true x8 (.int .i64 200)) (some (.tuple []))) fun x9 =>
  ob (pPick x5 (some x9) (some (.bool false))) fun x10 =>
  ob (pWant x10 true) fun c_3 =>
  ob (sel c_3 (some x0) (some (.tuple []))) fun x12 =>
  ob (pWant x10 true) fun c_4 =>
  obP (sel c_4 (E (.fn 50) [x12] h) (some (.tuple [], h))) fun x13 h13 =>
  ob (pWant x10 true) fun c_5 =>
  ob (sel c_5 (xun .not x13) (some (.tuple []))) fun x14 =>
  ob (pPick x10 (some x14) (some (.bool false))) fun x15 =>
  kr x15 h13
theorem f30_1_eq (E : Ev) (kn : K) (kx : Nat → K) (kr : K) : f30_1 E (fun y2 h => kr (mkE [(2, y2)]) h) = fun x0 h => R30 E (pb (codeOf fn30)) true 4 (fun _ => 0) kn kx kr (mkE [(0, x0)]) h := by
  funext x0 h
  unfold f30_1
  refine Eq.trans ?_ (R30_unf E _ _ _ _ _ _ _ _).symm
  generalize R30 E = R
  generalize LL = L
  generalize PP = P
  revert R L P
  refine id ?_
  intro R L P
  kernel_rfl
/-- theodolite/theodoliteref6.name -/
def s30 (E : Ev) (x0 : AV) (h : Heap) : Res :=
  f30_1 E r30 x0 h
theorem s30_eq (E : Ev) (x0 : AV) (h : Heap) : xbodyR PP GG CC E LL fn30 [x0] h = s30 E x0 h := by
  unfold s30
  rw [r30_eq, f30_1_eq E (xret PP fn30) noK (xret PP fn30)]
  refine (bodyR_unf (c := (codeOf fn30)) (by kernel_rfl) (by kernel_rfl)).trans ?_
  show runS (R30 E) PP GG CC E fn30.ntmps LL none (resBits fn30.results.toList) (codeOf fn30) _ _ _ _ _ _ _ = _
  generalize R30 E = R
  generalize LL = L
  generalize PP = P
  symm
  revert R L P
  refine id ?_
  intro R L P
  kernel_rfl
def fn31 : Func := fnAt PP 31
def R31 (E : Ev) : RT := runR PP GG CC E 23 LL none 16
theorem R31_unf (E : Ev) (c : Code) (lv : Nat) (lx : Nat → Nat) (kn : K) (kx : Nat → K) (kr : K) (e : Env) (h : Heap) : R31 E c true lv lx kn kx kr e h = runS (R31 E) PP GG CC E 23 LL none 16 c lv lx kn kx kr e h := runR_unf _ _ _ _ _ _ _ _
def r31 (x4 : AV) (h : Heap) : Res := some (x4, h)
theorem r31_eq : r31 = fun x4 h => xret PP fn31 (mkE [(4, x4)]) h := by kernel_rfl
def f31_1 (E : Ev) (kr : AV → Heap → Res) (x0 x1 x6 : AV) (h : Heap) : Res :=
  ob (xbin PP .neq 35 true x0 .nilPtr) fun x14 =>
  ob (pWant x14 true) fun c =>
  ob (sel c (some x1) (some (.tuple []))) fun x16 =>
  ob (pWant x14 true) fun c_1 =>
  obP (sel c_1 (E (.fn 27) [x16] h) (some (.tuple [], h))) fun x17 h17 =>
  ob (pPick x14 (some x17) (some (.bool false))) fun x18 =>
  ob (pWant x18 true) fun c_2 =>
  ob (sel c_2 (some x6) (some (.tuple []))) fun x20 =>
  ob (pWant x18 true) fun c_3 =>
  ob (sel c_3 (xun .not x20) (some (.tuple []))) fun x21 =>
  ob (pPick x18 (some x21) (some (.bool false))) fun x22 =>
  kr x22 h17
theorem f31_1_eq (E : Ev) (kn : K) (kx : Nat → K) (kr : K) : f31_1 E (fun y4 h => kr (mkE [(4, y4)]) h) = fun x0 x1 x6 h => R31 E (pb (pb (codeOf fn31))) true 16 (fun _ => 0) kn kx kr (mkE [(0, x0), (1, x1), (6, x6)]) h := by
  funext x0 x1 x6 h
  unfold f31_1
  refine Eq.trans ?_ (R31_unf E _ _ _ _ _ _ _ _).symm
  generalize R31 E = R
  generalize LL = L
  generalize PP = P
  revert R L P
  refine id ?_
  intro R L P
  kernel_rfl
/-- (*theodolite/sorts.Table).MayFun -/
def s31 (E : Ev) (x0 x1 : AV) (h : Heap) : Res :=
  obP (E (.fn 51) [x0, x1] h) fun x10 h10 =>
  ob (pExtract 0 x10) fun x11 =>
  ob (pExtract 1 x10) fun x12 =>
  obP (ob (zeroC PP 56) fun z => some (pNew h10 56 z)) fun x5 h5 =>
  ob (pStore PP 56 x5 x11 h5) fun h0 =>
  f31_1 E r31 x0 x1 x12 h0
theorem s31_eq (E : Ev) (x0 x1 : AV) (h : Heap) : xbodyR PP GG CC E LL fn31 [x0, x1] h = s31 E x0 x1 h := by
  unfold s31
  rw [r31_eq, f31_1_eq E (xret PP fn31) noK (xret PP fn31)]
  refine (bodyR_unf (c := (codeOf fn31)) (by kernel_rfl) (by kernel_rfl)).trans ?_
  show runS (R31 E) PP GG CC E fn31.ntmps LL none (resBits fn31.results.toList) (codeOf fn31) _ _ _ _ _ _ _ = _
  generalize R31 E = R
  generalize LL = L
  generalize PP = P
  symm
  revert R L P
  refine id ?_
  intro R L P
  kernel_rfl
def fn32 : Func := fnAt PP 32
def R32 (E : Ev) : RT := runR PP GG CC E 21 LL none 16
theorem R32_unf (E : Ev) (c : Code) (lv : Nat) (lx : Nat → Nat) (kn : K) (kx : Nat → K) (kr : K) (e : Env) (h : Heap) : R32 E c true lv lx kn kx kr e h = runS (R32 E) PP GG CC E 21 LL none 16 c lv lx kn kx kr e h := runR_unf _ _ _ _ _ _ _ _
def r32 (x4 : AV) (h : Heap) : Res := some (x4, h)
theorem r32_eq : r32 = fun x4 h => xret PP fn32 (mkE [(4, x4)]) h := by kernel_rfl
def f32_1 (E : Ev) (kr : AV → Heap → Res) (x0 x1 : AV) (h : Heap) : Res :=
  ob (xbin PP .neq 35 true x0 .nilPtr) fun x6 =>
  ob (pWant x6 true) fun c =>
  ob (sel c (some x1) (some (.tuple []))) fun x8 =>
  ob (pWant x6 true) fun c_1 =>
  ob (sel c_1 (xbin PP .geq 3 true x8 (.int .i64 0)) (some (.tuple []))) fun x9 =>
  ob (pPick x6 (some x9) (some (.bool false))) fun x10 =>
  ob (pWant x10 true) fun c_2 =>
  ob (sel c_2 (some x1) (some (.tuple []))) fun x12 =>
  ob (pWant x10 true) fun c_3 =>
  ob (sel c_3 (some x0) (some (.tuple []))) fun x13 =>
  ob (pWant x10 true) fun c_4 =>
  ob (sel c_4 (pNil x13) (some (.tuple []))) fun x14 =>
  ob (pWant x10 true) fun c_5 =>
  ob (sel c_5 (pFieldAddr PP 89 0 x14) (some (.tuple []))) fun x15 =>
  ob (pWant x10 true) fun c_6 =>
  ob (sel c_6 (pLoad PP 27 x15 h) (some (.tuple []))) fun x16 =>
  ob (pWant x10 true) fun c_7 =>
  ob (sel c_7 (xlen PP h 27 x16) (some (.tuple []))) fun x17 =>
  ob (pWant x10 true) fun c_8 =>
  ob (sel c_8 (xbin PP .add 3 true (.int .i64 2) x17) (some (.tuple []))) fun x18 =>
  ob (pWant x10 true) fun c_9 =>
  ob (sel c_9 (xbin PP .lss 3 false x12 x18) (some (.tuple []))) fun x19 =>
  ob (pPick x10 (some x19) (some (.bool false))) fun x20 =>
  kr x20 h
theorem f32_1_eq (E : Ev) (kn : K) (kx : Nat → K) (kr : K) : f32_1 E (fun y4 h => kr (mkE [(4, y4)]) h) = fun x0 x1 h => R32 E (pb (codeOf fn32)) true 16 (fun _ => 0) kn kx kr (mkE [(0, x0), (1, x1)]) h := by
  funext x0 x1 h
  unfold f32_1
  refine Eq.trans ?_ (R32_unf E _ _ _ _ _ _ _ _).symm
  generalize R32 E = R
  generalize LL = L
  generalize PP = P
  revert R L P
  refine id ?_
  intro R L P
  kernel_rfl
/-- (*theodolite/sorts.Table).Is -/
def s32 (E : Ev) (x0 x1 : AV) (h : Heap) : Res :=
  f32_1 E r32 x0 x1 h
theorem s32_eq (E : Ev) (x0 x1 : AV) (h : Heap) : xbodyR PP GG CC E LL fn32 [x0, x1] h = s32 E x0 x1 h := by
  unfold s32
  rw [r32_eq, f32_1_eq E (xret PP fn32) noK (xret PP fn32)]
  refine (bodyR_unf (c := (codeOf fn32)) (by kernel_rfl) (by kernel_rfl)).trans ?_
  show runS (R32 E) PP GG CC E fn32.ntmps LL none (resBits fn32.results.toList) (codeOf fn32) _ _ _ _ _ _ _ = _
  generalize R32 E = R
  generalize LL = L
  generalize PP = P
  symm
  revert R L P
  refine id ?_
  intro R L P
  kernel_rfl
def fn33 : Func := fnAt PP 33
def R33 (E : Ev) : RT := runR PP GG CC E 8 LL none 4
theorem R33_unf (E : Ev) (c : Code) (lv : Nat) (lx : Nat → Nat) (kn : K) (kx : Nat → K) (kr : K) (e : Env) (h : Heap) : R33 E c true lv lx kn kx kr e h = runS (R33 E) PP GG CC E 8 LL none 4 c lv lx kn kx kr e h := runR_unf _ _ _ _ _ _ _ _
def r33 (x2 : AV) (h : Heap) : Res := ob (ob (pLoad PP 56 x2 h) fun v => some [v]) fun vs => some (one vs, h)
theorem r33_eq : r33 = fun x2 h => xret PP fn33 (mkE [(2, x2)]) h := by kernel_rfl
/-- theodolite/sorts.own -/
def s33 (E : Ev) (x0 : AV) (h : Heap) : Res :=
  obP (some (pNew h 56 x0.cells)) fun x1 h1 =>
  obP (ob (zeroC PP 56) fun z => some (pNew h1 56 z)) fun x2 h2 =>
  ob (pFieldAddr PP 56 1 x1) fun x3 =>
  ob (pLoad PP 22 x3 h2) fun x4 =>
  obP (E (.fn 52) [x4] h2) fun x5 h5 =>
  ob (pFieldAddr PP 56 1 x1) fun x6 =>
  ob (pStore PP 22 x6 x5 h5) fun h0 =>
  ob (pLoad PP 56 x1 h0) fun x7 =>
  ob (pStore PP 56 x2 x7 h0) fun h0_1 =>
  r33 x2 h0_1
theorem s33_eq (E : Ev) (x0 : AV) (h : Heap) : xbodyR PP GG CC E LL fn33 [x0] h = s33 E x0 h := by
  unfold s33
  rw [r33_eq]
  refine (bodyR_unf (c := (codeOf fn33)) (by kernel_rfl) (by kernel_rfl)).trans ?_
  show runS (R33 E) PP GG CC E fn33.ntmps LL none (resBits fn33.results.toList) (codeOf fn33) _ _ _ _ _ _ _ = _
  generalize R33 E = R
  generalize LL = L
  generalize PP = P
  symm
  revert R L P
  refine id ?_
  intro R L P
  kernel_rfl
def fn34 : Func := fnAt PP 34
def R34 (E : Ev) : RT := runR PP GG CC E 34 LL none 48
theorem R34_unf (E : Ev) (c : Code) (lv : Nat) (lx : Nat → Nat) (kn : K) (kx : Nat → K) (kr : K) (e : Env) (h : Heap) : R34 E c true lv lx kn kx kr e h = runS (R34 E) PP GG CC E 34 LL none 48 c lv lx kn kx kr e h := runR_unf _ _ _ _ _ _ _ _
def r34 (x4 x5 : AV) (h : Heap) : Res := ob (ob (pLoad PP 56 x4 h) fun v => ob (ob (some x5) fun v => some [v]) fun vs => some (v :: vs)) fun vs => some (one vs, h)
theorem r34_eq : r34 = fun x4 x5 h => xret PP fn34 (mkE [(4, x4), (5, x5)]) h := by kernel_rfl
def f34_1 (E : Ev) (kr : AV → AV → Heap → Res) (x4 : AV) (h : Heap) : Res :=
  ob (xbuild PP 56 []) fun x33 =>
  ob (pStore PP 56 x4 x33 h) fun h0 =>
  kr x4 (.bool false) h0
theorem f34_1_eq (E : Ev) (kn : K) (kx : Nat → K) (kr : K) : f34_1 E (fun y4 y5 h => kr (mkE [(4, y4), (5, y5)]) h) = fun x4 h => R34 E (pb (pb (codeOf fn34))) true 48 (fun _ => 0) kn kx kr (mkE [(4, x4)]) h := by
  funext x4 h
  unfold f34_1
  refine Eq.trans ?_ (R34_unf E _ _ _ _ _ _ _ _).symm
  generalize R34 E = R
  generalize LL = L
  generalize PP = P
  revert R L P
  refine id ?_
  intro R L P
  kernel_rfl
def f34_2 (E : Ev) (kn : AV → AV → AV → AV → Heap → Res) (k0 : AV → Heap → Res) (kr : AV → AV → Heap → Res) (x0 x1 x4 x6 : AV) (h : Heap) : Res :=
  ob (pNil x0) fun x9 =>
  ob (pFieldAddr PP 50 1 x9) fun x10 =>
  ob (pLoad PP 47 x10 h) fun x11 =>
  ob (xlen PP h 47 x11) fun x12 =>
  ob (xbin PP .lss 3 false x6 x12) fun x13 =>
  pIf x13
   (ob (pNil x0) fun x17 =>
   ob (pFieldAddr PP 50 1 x17) fun x18 =>
   ob (pLoad PP 47 x18 h) fun x19 =>
   ob (xindexAddr PP 47 x19 x6) fun x21 =>
   ob (pFieldAddr PP 56 0 x21) fun x22 =>
   ob (pLoad PP 9 x22 h) fun x23 =>
   ob (xbin PP .eql 9 false x23 x1) fun x25 =>
   pIf x25
    (ob (pNil x0) fun x27 =>
    ob (pFieldAddr PP 50 1 x27) fun x28 =>
    ob (pLoad PP 47 x28 h) fun x29 =>
    ob (xindexAddr PP 47 x29 x6) fun x31 =>
    ob (pLoad PP 56 x31 h) fun x32 =>
    ob (pStore PP 56 x4 x32 h) fun h0 =>
    kr x4 (.bool true) h0)
    (ob (xbin PP .add 3 true x6 (.int .i64 1)) fun x15 =>
    kn x0 x1 x4 x15 h))
   (k0 x4 h)
theorem f34_2_eq (E : Ev) (kn : K) (kx : Nat → K) (kr : K) (e0 : K) (he0 : kx 0 = e0) : f34_2 E (fun y0 y1 y4 y6 h => kn (mkE [(0, y0), (1, y1), (4, y4), (6, y6)]) h) (fun y4 h => e0 (mkE [(4, y4)]) h) (fun y4 y5 h => kr (mkE [(4, y4), (5, y5)]) h) = fun x0 x1 x4 x6 h => R34 E (pa (pa (pb (pa (pb (codeOf fn34)))))) true 83 (fun i => sel (Nat.beq i 0) 16 ((fun _ => 0) i)) kn kx kr (mkE [(0, x0), (1, x1), (4, x4), (6, x6)]) h := by
  subst he0
  funext x0 x1 x4 x6 h
  unfold f34_2
  refine Eq.trans ?_ (R34_unf E _ _ _ _ _ _ _ _).symm
  generalize R34 E = R
  generalize LL = L
  generalize PP = P
  revert R L P
  refine id ?_
  intro R L P
  kernel_rfl
/-- (*theodolite/theodoliteref6.Sorts).Find -/
def s34 (E : Ev) (x0 x1 : AV) (h : Heap) : Res :=
  obP (ob (zeroC PP 56) fun z => some (pNew h 56 z)) fun x4 h4 =>
  lp b4 (fun k => f34_2 E k (f34_1 E r34) r34) LL x0 x1 x4 (.int .i64 0) h4
theorem s34_eq (E : Ev) (x0 x1 : AV) (h : Heap) : xbodyR PP GG CC E LL fn34 [x0, x1] h = s34 E x0 x1 h := by
  unfold s34
  rw [r34_eq, f34_1_eq E (xret PP fn34) noK (xret PP fn34), lp4_eq 0 1 4 6 (fun k => (R34 E (pa (pa (pb (pa (pb (codeOf fn34)))))) true 83 (fun i => sel (Nat.beq i 0) 16 ((fun _ => 0) i)) k (fun i => sel (Nat.beq i 0) (R34 E (pb (pb (codeOf fn34))) true 48 (fun _ => 0) (xret PP fn34) noK (xret PP fn34)) (noK i)) (xret PP fn34))) (fun k => f34_2 E k (fun y4 h => (R34 E (pb (pb (codeOf fn34))) true 48 (fun _ => 0) (xret PP fn34) noK (xret PP fn34)) (mkE [(4, y4)]) h) (fun y4 y5 h => (xret PP fn34) (mkE [(4, y4), (5, y5)]) h)) (fun k => f34_2_eq E k (fun i => sel (Nat.beq i 0) (R34 E (pb (pb (codeOf fn34))) true 48 (fun _ => 0) (xret PP fn34) noK (xret PP fn34)) (noK i)) (xret PP fn34) (R34 E (pb (pb (codeOf fn34))) true 48 (fun _ => 0) (xret PP fn34) noK (xret PP fn34)) rfl) LL]
  refine (bodyR_unf (c := (codeOf fn34)) (by kernel_rfl) (by kernel_rfl)).trans ?_
  show runS (R34 E) PP GG CC E fn34.ntmps LL none (resBits fn34.results.toList) (codeOf fn34) _ _ _ _ _ _ _ = _
  generalize R34 E = R
  generalize LL = L
  generalize PP = P
  symm
  revert R L P
  refine id ?_
  intro R L P
  kernel_rfl
def fn35 : Func := fnAt PP 35
def R35 (E : Ev) : RT := runR PP GG CC E 17 LL none 16
theorem R35_unf (E : Ev) (c : Code) (lv : Nat) (lx : Nat → Nat) (kn : K) (kx : Nat → K) (kr : K) (e : Env) (h : Heap) : R35 E c true lv lx kn kx kr e h = runS (R35 E) PP GG CC E 17 LL none 16 c lv lx kn kx kr e h := runR_unf _ _ _ _ _ _ _ _
def r35 (x4 : AV) (h : Heap) : Res := some (x4, h)
theorem r35_eq : r35 = fun x4 h => xret PP fn35 (mkE [(4, x4)]) h := by kernel_rfl
def f35_1 (E : Ev) (kr : AV → Heap → Res) (x0 x1 : AV) (h : Heap) : Res :=
  ob (xbin PP .geq 3 true x1 (.int .i64 0)) fun x6 =>
  ob (pWant x6 true) fun c =>
  ob (sel c (some x1) (some (.tuple []))) fun x8 =>
  ob (pWant x6 true) fun c_1 =>
  ob (sel c_1 (some x0) (some (.tuple []))) fun x9 =>
  ob (pWant x6 true) fun c_2 =>
  ob (sel c_2 (pNil x9) (some (.tuple []))) fun x10 =>
  ob (pWant x6 true) fun c_3 =>
  ob (sel c_3 (pFieldAddr PP 50 0 x10) (some (.tuple []))) fun x11 =>
  ob (pWant x6 true) fun c_4 =>
  ob (sel c_4 (pLoad PP 27 x11 h) (some (.tuple []))) fun x12 =>
  ob (pWant x6 true) fun c_5 =>
  ob (sel c_5 (xlen PP h 27 x12) (some (.tuple []))) fun x13 =>
  ob (pWant x6 true) fun c_6 =>
  ob (sel c_6 (xbin PP .add 3 true x13 (.int .i64 2)) (some (.tuple []))) fun x14 =>
  ob (pWant x6 true) fun c_7 =>
  ob (sel c_7 (xbin PP .lss 3 false x8 x14) (some (.tuple []))) fun x15 =>
  ob (pPick x6 (some x15) (some (.bool false))) fun x16 =>
  kr x16 h
theorem f35_1_eq (E : Ev) (kn : K) (kx : Nat → K) (kr : K) : f35_1 E (fun y4 h => kr (mkE [(4, y4)]) h) = fun x0 x1 h => R35 E (pb (codeOf fn35)) true 16 (fun _ => 0) kn kx kr (mkE [(0, x0), (1, x1)]) h := by
  funext x0 x1 h
  unfold f35_1
  refine Eq.trans ?_ (R35_unf E _ _ _ _ _ _ _ _).symm
  generalize R35 E = R
  generalize LL = L
  generalize PP = P
  revert R L P
  refine id ?_
  intro R L P
  kernel_rfl
/-- (*theodolite/theodoliteref6.Sorts).Is -/
def s35 (E : Ev) (x0 x1 : AV) (h : Heap) : Res :=
  f35_1 E r35 x0 x1 h
theorem s35_eq (E : Ev) (x0 x1 : AV) (h : Heap) : xbodyR PP GG CC E LL fn35 [x0, x1] h = s35 E x0 x1 h := by
  unfold s35
  rw [r35_eq, f35_1_eq E (xret PP fn35) noK (xret PP fn35)]
  refine (bodyR_unf (c := (codeOf fn35)) (by kernel_rfl) (by kernel_rfl)).trans ?_
  show runS (R35 E) PP GG CC E fn35.ntmps LL none (resBits fn35.results.toList) (codeOf fn35) _ _ _ _ _ _ _ = _
  generalize R35 E = R
  generalize LL = L
  generalize PP = P
  symm
  revert R L P
  refine id ?_
  intro R L P
  kernel_rfl
def fn36 : Func := fnAt PP 36
def R36 (E : Ev) : RT := runR PP GG CC E 63 LL none 12
theorem R36_unf (E : Ev) (c : Code) (lv : Nat) (lx : Nat → Nat) (kn : K) (kx : Nat → K) (kr : K) (e : Env) (h : Heap) : R36 E c true lv lx kn kx kr e h = runS (R36 E) PP GG CC E 63 LL none 12 c lv lx kn kx kr e h := runR_unf _ _ _ _ _ _ _ _
def r36 (x2 x3 : AV) (h : Heap) : Res := some (.tuple [x2, x3], h)
theorem r36_eq : r36 = fun x2 x3 h => xret PP fn36 (mkE [(2, x2), (3, x3)]) h := by kernel_rfl
def f36_1 (E : Ev) (kr : AV → AV → Heap → Res) (x4 : AV) (h : Heap) : Res :=
  kr x4 (.int .i64 0) h
theorem f36_1_eq (E : Ev) (kn : K) (kx : Nat → K) (kr : K) : f36_1 E (fun y2 y3 h => kr (mkE [(2, y2), (3, y3)]) h) = fun x4 h => R36 E (pb (pb (pb (pb (codeOf fn36))))) true 12 (fun _ => 0) kn kx kr (mkE [(4, x4)]) h := by
  funext x4 h
  unfold f36_1
  refine Eq.trans ?_ (R36_unf E _ _ _ _ _ _ _ _).symm
  generalize R36 E = R
  generalize LL = L
  generalize PP = P
  revert R L P
  refine id ?_
  intro R L P
  kernel_rfl
def f36_3 (E : Ev) (kn : AV → AV → AV → Heap → Res) (kr : AV → AV → Heap → Res) (x0 x4 x5 : AV) (h : Heap) : Res :=
  obP (E (.fn 54) [x0, x5] h) fun x51 h51 =>
  ob (pExtract 0 x51) fun x52 =>
  ob (pExtract 1 x51) fun x53 =>
  ob (pExtract 2 x51) fun x54 =>
  obP (ob (zeroC PP 71) fun z => some (pNew h51 71 z)) fun x6 h6 =>
  ob (pStore PP 71 x6 x52 h6) fun h0 =>
  ob (xun .not x54) fun x56 =>
  pIf x56
   (kr .nilSlice (.int .i64 2) h0)
   (ob (pLoad PP 71 x6 h0) fun x58 =>
   obP (pBuildSlice PP h0 101 1 [(0, x58)]) fun x59 h59 =>
   obP (xappend PP h59 101 101 x4 x59) fun x60 h60 =>
   kn x0 x60 x53 h60)
theorem f36_3_eq (E : Ev) (kn : K) (kx : Nat → K) (kr : K) : f36_3 E (fun y0 y4 y5 h => kn (mkE [(0, y0), (4, y4), (5, y5)]) h) (fun y2 y3 h => kr (mkE [(2, y2), (3, y3)]) h) = fun x0 x4 x5 h => R36 E (pb (pb (pa (pb (pa (pa (pb (pa (pb (pb (pb (codeOf fn36)))))))))))) true 49 (fun i => sel (Nat.beq i 1) 49 ((fun i => sel (Nat.beq i 0) 16 ((fun _ => 0) i)) i)) kn kx kr (mkE [(0, x0), (4, x4), (5, x5)]) h := by
  funext x0 x4 x5 h
  unfold f36_3
  refine Eq.trans ?_ (R36_unf E _ _ _ _ _ _ _ _).symm
  generalize R36 E = R
  generalize LL = L
  generalize PP = P
  revert R L P
  refine id ?_
  intro R L P
  kernel_rfl
def f36_4 (E : Ev) (k1 : AV → AV → AV → Heap → Res) (x0 x4 x5 : AV) (h : Heap) : Res :=
  k1 x0 x4 x5 h
theorem f36_4_eq (E : Ev) (kn : K) (kx : Nat → K) (kr : K) (e1 : K) (he1 : kx 1 = e1) : f36_4 E (fun y0 y4 y5 h => e1 (mkE [(0, y0), (4, y4), (5, y5)]) h) = fun x0 x4 x5 h => R36 E (pb (pa (pb (pa (pb (pa (pb (pa (pa (pb (pa (pb (pb (pb (codeOf fn36))))))))))))))) true 49 (fun i => sel (Nat.beq i 1) 49 ((fun i => sel (Nat.beq i 0) 16 ((fun _ => 0) i)) i)) kn kx kr (mkE [(0, x0), (4, x4), (5, x5)]) h := by
  subst he1
  funext x0 x4 x5 h
  unfold f36_4
  refine Eq.trans ?_ (R36_unf E _ _ _ _ _ _ _ _).symm
  generalize R36 E = R
  generalize LL = L
  generalize PP = P
  revert R L P
  refine id ?_
  intro R L P
  kernel_rfl
def f36_5 (E : Ev) (kn : AV → AV → AV → Heap → Res) (k2 : AV → AV → AV → Heap → Res) (x0 x4 x5 : AV) (h : Heap) : Res :=
  ob (xlen PP h 41 x0) fun x30 =>
  ob (xbin PP .lss 3 false x5 x30) fun x31 =>
  ob (pWant x31 true) fun c =>
  ob (sel c (some x0) (some (.tuple []))) fun x33 =>
  ob (pWant x31 true) fun c_1 =>
  ob (sel c_1 (some x5) (some (.tuple []))) fun x34 =>
  ob (pWant x31 true) fun c_2 =>
  ob (sel c_2 (xindexAddr PP 41 x33 x34) (some (.tuple []))) fun x35 =>
  ob (pWant x31 true) fun c_3 =>
  ob (sel c_3 (pLoad PP 5 x35 h) (some (.tuple []))) fun x36 =>
  ob (pWant x31 true) fun c_4 =>
  ob (sel c_4 (xbin PP .neq 5 true x36 (.int .u8 10)) (some (.tuple []))) fun x37 =>
  ob (pPick x31 (some x37) (some (.bool false))) fun x38 =>
  ob (pWant x38 true) fun c_5 =>
  ob (sel c_5 (some x0) (some (.tuple []))) fun x40 =>
  ob (pWant x38 true) fun c_6 =>
  ob (sel c_6 (some x5) (some (.tuple []))) fun x41 =>
  ob (pWant x38 true) fun c_7 =>
  ob (sel c_7 (xindexAddr PP 41 x40 x41) (some (.tuple []))) fun x42 =>
  ob (pWant x38 true) fun c_8 =>
  ob (sel c_8 (pLoad PP 5 x42 h) (some (.tuple []))) fun x43 =>
  ob (pWant x38 true) fun c_9 =>
  ob (sel c_9 (xbin PP .neq 5 true x43 (.int .u8 13)) (some (.tuple []))) fun x44 =>
  ob (pPick x38 (some x44) (some (.bool false))) fun x45 =>
  pIf x45
   (ob (xbin PP .add 3 true x5 (.int .i64 1)) fun x47 =>
   kn x0 x4 x47 h)
   (k2 x0 x4 x5 h)
theorem f36_5_eq (E : Ev) (kn : K) (kx : Nat → K) (kr : K) (e2 : K) (he2 : kx 2 = e2) : f36_5 E (fun y0 y4 y5 h => kn (mkE [(0, y0), (4, y4), (5, y5)]) h) (fun y0 y4 y5 h => e2 (mkE [(0, y0), (4, y4), (5, y5)]) h) = fun x0 x4 x5 h => R36 E (pa (pa (pa (pa (pb (pa (pb (pa (pb (pa (pa (pb (pa (pb (pb (pb (codeOf fn36))))))))))))))))) true 49 (fun i => sel (Nat.beq i 2) 49 ((fun i => sel (Nat.beq i 1) 49 ((fun i => sel (Nat.beq i 0) 16 ((fun _ => 0) i)) i)) i)) kn kx kr (mkE [(0, x0), (4, x4), (5, x5)]) h := by
  subst he2
  funext x0 x4 x5 h
  unfold f36_5
  refine Eq.trans ?_ (R36_unf E _ _ _ _ _ _ _ _).symm
  generalize R36 E = R
  generalize LL = L
  generalize PP = P
  revert R L P
  refine id ?_
  intro R L P
  kernel_rfl
def f36_2 (E : Ev) (kn : AV → AV → AV → Heap → Res) (k0 : AV → Heap → Res) (kr : AV → AV → Heap → Res) (x0 x4 x5 : AV) (h : Heap) : Res :=
  ob (xlen PP h 41 x0) fun x14 =>
  ob (xbin PP .lss 3 false x5 x14) fun x15 =>
  pIf x15
   (ob (xindexAddr PP 41 x0 x5) fun x18 =>
   ob (pLoad PP 5 x18 h) fun x19 =>
   obP (E (.fn 53) [x19] h) fun x20 h20 =>
   pIf x20
    (ob (xbin PP .add 3 true x5 (.int .i64 1)) fun x22 =>
    kn x0 x4 x22 h20)
    (ob (xindexAddr PP 41 x0 x5) fun x25 =>
    ob (pLoad PP 5 x25 h20) fun x26 =>
    ob (xbin PP .eql 5 true x26 (.int .u8 59)) fun x27 =>
    pIf x27
     (lp b3 (fun k => f36_5 E k (f36_4 E kn)) LL x0 x4 x5 h20)
     (f36_3 E kn kr x0 x4 x5 h20)))
   (k0 x4 h)
theorem f36_2_eq (E : Ev) (kn : K) (kx : Nat → K) (kr : K) (e0 : K) (he0 : kx 0 = e0) : f36_2 E (fun y0 y4 y5 h => kn (mkE [(0, y0), (4, y4), (5, y5)]) h) (fun y4 h => e0 (mkE [(4, y4)]) h) (fun y2 y3 h => kr (mkE [(2, y2), (3, y3)]) h) = fun x0 x4 x5 h => R36 E (pa (pa (pb (pa (pb (pb (pb (codeOf fn36)))))))) true 49 (fun i => sel (Nat.beq i 0) 16 ((fun _ => 0) i)) kn kx kr (mkE [(0, x0), (4, x4), (5, x5)]) h := by
  subst he0
  funext x0 x4 x5 h
  unfold f36_2
  rw [f36_3_eq E kn (fun i => sel (Nat.beq i 1) kn (kx i)) kr, f36_4_eq E (R36 E (pb (pb (pa (pb (pa (pa (pb (pa (pb (pb (pb (codeOf fn36)))))))))))) true 49 (fun i => sel (Nat.beq i 1) 49 ((fun i => sel (Nat.beq i 0) 16 ((fun _ => 0) i)) i)) kn (fun i => sel (Nat.beq i 1) kn (kx i)) kr) (fun i => sel (Nat.beq i 1) kn (kx i)) kr kn rfl, lp3_eq 0 4 5 (fun k => (R36 E (pa (pa (pa (pa (pb (pa (pb (pa (pb (pa (pa (pb (pa (pb (pb (pb (codeOf fn36))))))))))))))))) true 49 (fun i => sel (Nat.beq i 2) 49 ((fun i => sel (Nat.beq i 1) 49 ((fun i => sel (Nat.beq i 0) 16 ((fun _ => 0) i)) i)) i)) k (fun i => sel (Nat.beq i 2) (R36 E (pb (pa (pb (pa (pb (pa (pb (pa (pa (pb (pa (pb (pb (pb (codeOf fn36))))))))))))))) true 49 (fun i => sel (Nat.beq i 1) 49 ((fun i => sel (Nat.beq i 0) 16 ((fun _ => 0) i)) i)) (R36 E (pb (pb (pa (pb (pa (pa (pb (pa (pb (pb (pb (codeOf fn36)))))))))))) true 49 (fun i => sel (Nat.beq i 1) 49 ((fun i => sel (Nat.beq i 0) 16 ((fun _ => 0) i)) i)) kn (fun i => sel (Nat.beq i 1) kn (kx i)) kr) (fun i => sel (Nat.beq i 1) kn (kx i)) kr) ((fun i => sel (Nat.beq i 1) kn (kx i)) i)) kr)) (fun k => f36_5 E k (fun y0 y4 y5 h => (R36 E (pb (pa (pb (pa (pb (pa (pb (pa (pa (pb (pa (pb (pb (pb (codeOf fn36))))))))))))))) true 49 (fun i => sel (Nat.beq i 1) 49 ((fun i => sel (Nat.beq i 0) 16 ((fun _ => 0) i)) i)) (R36 E (pb (pb (pa (pb (pa (pa (pb (pa (pb (pb (pb (codeOf fn36)))))))))))) true 49 (fun i => sel (Nat.beq i 1) 49 ((fun i => sel (Nat.beq i 0) 16 ((fun _ => 0) i)) i)) kn (fun i => sel (Nat.beq i 1) kn (kx i)) kr) (fun i => sel (Nat.beq i 1) kn (kx i)) kr) (mkE [(0, y0), (4, y4), (5, y5)]) h)) (fun k => f36_5_eq E k (fun i => sel (Nat.beq i 2) (R36 E (pb (pa (pb (pa (pb (pa (pb (pa (pa (pb (pa (pb (pb (pb (codeOf fn36))))))))))))))) true 49 (fun i => sel (Nat.beq i 1) 49 ((fun i => sel (Nat.beq i 0) 16 ((fun _ => 0) i)) i)) (R36 E (pb (pb (pa (pb (pa (pa (pb (pa (pb (pb (pb (codeOf fn36)))))))))))) true 49 (fun i => sel (Nat.beq i 1) 49 ((fun i => sel (Nat.beq i 0) 16 ((fun _ => 0) i)) i)) kn (fun i => sel (Nat.beq i 1) kn (kx i)) kr) (fun i => sel (Nat.beq i 1) kn (kx i)) kr) ((fun i => sel (Nat.beq i 1) kn (kx i)) i)) kr (R36 E (pb (pa (pb (pa (pb (pa (pb (pa (pa (pb (pa (pb (pb (pb (codeOf fn36))))))))))))))) true 49 (fun i => sel (Nat.beq i 1) 49 ((fun i => sel (Nat.beq i 0) 16 ((fun _ => 0) i)) i)) (R36 E (pb (pb (pa (pb (pa (pa (pb (pa (pb (pb (pb (codeOf fn36)))))))))))) true 49 (fun i => sel (Nat.beq i 1) 49 ((fun i => sel (Nat.beq i 0) 16 ((fun _ => 0) i)) i)) kn (fun i => sel (Nat.beq i 1) kn (kx i)) kr) (fun i => sel (Nat.beq i 1) kn (kx i)) kr) rfl) LL]
  refine Eq.trans ?_ (R36_unf E _ _ _ _ _ _ _ _).symm
  generalize R36 E = R
  generalize LL = L
  generalize PP = P
  revert R L P
  refine id ?_
  intro R L P
  kernel_rfl
/-- theodolite/theodoliteref11.Words -/
def s36 (E : Ev) (x0 : AV) (h : Heap) : Res :=
  ob (xlen PP h 41 x0) fun x10 =>
  ob (xbin PP .gtr 3 true x10 (.int .i64 65536)) fun x11 =>
  pIf x11
   (r36 .nilSlice (.int .i64 4) h)
   (lp b3 (fun k => f36_2 E k (f36_1 E r36) r36) LL x0 .nilSlice (.int .i64 0) h)
theorem s36_eq (E : Ev) (x0 : AV) (h : Heap) : xbodyR PP GG CC E LL fn36 [x0] h = s36 E x0 h := by
  unfold s36
  rw [r36_eq, f36_1_eq E (xret PP fn36) noK (xret PP fn36), lp3_eq 0 4 5 (fun k => (R36 E (pa (pa (pb (pa (pb (pb (pb (codeOf fn36)))))))) true 49 (fun i => sel (Nat.beq i 0) 16 ((fun _ => 0) i)) k (fun i => sel (Nat.beq i 0) (R36 E (pb (pb (pb (pb (codeOf fn36))))) true 12 (fun _ => 0) (xret PP fn36) noK (xret PP fn36)) (noK i)) (xret PP fn36))) (fun k => f36_2 E k (fun y4 h => (R36 E (pb (pb (pb (pb (codeOf fn36))))) true 12 (fun _ => 0) (xret PP fn36) noK (xret PP fn36)) (mkE [(4, y4)]) h) (fun y2 y3 h => (xret PP fn36) (mkE [(2, y2), (3, y3)]) h)) (fun k => f36_2_eq E k (fun i => sel (Nat.beq i 0) (R36 E (pb (pb (pb (pb (codeOf fn36))))) true 12 (fun _ => 0) (xret PP fn36) noK (xret PP fn36)) (noK i)) (xret PP fn36) (R36 E (pb (pb (pb (pb (codeOf fn36))))) true 12 (fun _ => 0) (xret PP fn36) noK (xret PP fn36)) rfl) LL]
  refine (bodyR_unf (c := (codeOf fn36)) (by kernel_rfl) (by kernel_rfl)).trans ?_
  show runS (R36 E) PP GG CC E fn36.ntmps LL none (resBits fn36.results.toList) (codeOf fn36) _ _ _ _ _ _ _ = _
  generalize R36 E = R
  generalize LL = L
  generalize PP = P
  symm
  revert R L P
  refine id ?_
  intro R L P
  kernel_rfl
def fn37 : Func := fnAt PP 37
def R37 (E : Ev) : RT := runR PP GG CC E 49 LL none 112
theorem R37_unf (E : Ev) (c : Code) (lv : Nat) (lx : Nat → Nat) (kn : K) (kx : Nat → K) (kr : K) (e : Env) (h : Heap) : R37 E c true lv lx kn kx kr e h = runS (R37 E) PP GG CC E 49 LL none 112 c lv lx kn kx kr e h := runR_unf _ _ _ _ _ _ _ _
def r37 (x4 x5 x6 : AV) (h : Heap) : Res := ob (ob (pLoad PP 73 x4 h) fun v => ob (ob (some x5) fun v => ob (ob (some x6) fun v => some [v]) fun vs => some (v :: vs)) fun vs => some (v :: vs)) fun vs => some (one vs, h)
theorem r37_eq : r37 = fun x4 x5 x6 h => xret PP fn37 (mkE [(4, x4), (5, x5), (6, x6)]) h := by kernel_rfl
def f37_1 (E : Ev) (kr : AV → AV → AV → Heap → Res) (x0 x1 x4 : AV) (h : Heap) : Res :=
  ob (xbin PP .lss 3 true x1 (.int .i64 0)) fun x12 =>
  ob (pWant x12 false) fun c =>
  ob (sel c (some x1) (some (.tuple []))) fun x14 =>
  ob (pWant x12 false) fun c_1 =>
  ob (sel c_1 (some x0) (some (.tuple []))) fun x15 =>
  ob (pWant x12 false) fun c_2 =>
  ob (sel c_2 (xlen PP h 101 x15) (some (.tuple []))) fun x16 =>
  ob (pWant x12 false) fun c_3 =>
  ob (sel c_3 (xbin PP .geq 3 false x14 x16) (some (.tuple []))) fun x17 =>
  ob (pPick x12 (some (.bool true)) (some x17)) fun x18 =>
  pIf x18
   (ob (xbuild PP 73 []) fun x19 =>
   ob (pStore PP 73 x4 x19 h) fun h0 =>
   kr x4 (.int .i64 0) (.int .i64 1) h0)
   (ob (xindexAddr PP 101 x0 x1) fun x22 =>
   ob (pFieldAddr PP 71 0 x22) fun x23 =>
   ob (pLoad PP 3 x23 h) fun x24 =>
   ob (xbin PP .eql 3 true x24 (.int .i64 2)) fun x25 =>
   pIf x25
    (ob (xbuild PP 73 []) fun x26 =>
    ob (xbin PP .add 3 true x1 (.int .i64 1)) fun x28 =>
    ob (pStore PP 73 x4 x26 h) fun h0 =>
    kr x4 x28 (.int .i64 2) h0)
    (obP (E (.fn 55) [x0, x1] h) fun x32 h32 =>
    ob (pExtract 0 x32) fun x33 =>
    ob (pExtract 1 x32) fun x34 =>
    ob (pExtract 2 x32) fun x35 =>
    ob (pExtract 3 x32) fun x36 =>
    obP (ob (zeroC PP 73) fun z => some (pNew h32 73 z)) fun x7 h7 =>
    ob (pStore PP 73 x7 x33 h7) fun h0 =>
    ob (xbin PP .gtr 3 true x35 (.int .i64 200)) fun x39 =>
    pIf x39
     (ob (xbuild PP 73 []) fun x40 =>
     ob (pStore PP 73 x4 x40 h0) fun h0_1 =>
     kr x4 x34 (.int .i64 4) h0_1)
     (ob (xun .not x36) fun x44 =>
     pIf x44
      (ob (xbuild PP 73 []) fun x45 =>
      ob (pStore PP 73 x4 x45 h0) fun h0_1 =>
      kr x4 x34 (.int .i64 2) h0_1)
      (ob (pLoad PP 73 x7 h0) fun x47 =>
      ob (pStore PP 73 x4 x47 h0) fun h0_1 =>
      kr x4 x34 (.int .i64 0) h0_1))))
theorem f37_1_eq (E : Ev) (kn : K) (kx : Nat → K) (kr : K) : f37_1 E (fun y4 y5 y6 h => kr (mkE [(4, y4), (5, y5), (6, y6)]) h) = fun x0 x1 x4 h => R37 E (pb (codeOf fn37)) true 112 (fun _ => 0) kn kx kr (mkE [(0, x0), (1, x1), (4, x4)]) h := by
  funext x0 x1 x4 h
  unfold f37_1
  refine Eq.trans ?_ (R37_unf E _ _ _ _ _ _ _ _).symm
  generalize R37 E = R
  generalize LL = L
  generalize PP = P
  revert R L P
  refine id ?_
  intro R L P
  kernel_rfl
/-- theodolite/theodoliteref11.Next -/
def s37 (E : Ev) (x0 x1 : AV) (h : Heap) : Res :=
  obP (ob (zeroC PP 73) fun z => some (pNew h 73 z)) fun x4 h4 =>
  f37_1 E r37 x0 x1 x4 h4
theorem s37_eq (E : Ev) (x0 x1 : AV) (h : Heap) : xbodyR PP GG CC E LL fn37 [x0, x1] h = s37 E x0 x1 h := by
  unfold s37
  rw [r37_eq, f37_1_eq E (xret PP fn37) noK (xret PP fn37)]
  refine (bodyR_unf (c := (codeOf fn37)) (by kernel_rfl) (by kernel_rfl)).trans ?_
  show runS (R37 E) PP GG CC E fn37.ntmps LL none (resBits fn37.results.toList) (codeOf fn37) _ _ _ _ _ _ _ = _
  generalize R37 E = R
  generalize LL = L
  generalize PP = P
  symm
  revert R L P
  refine id ?_
  intro R L P
  kernel_rfl
def fn38 : Func := fnAt PP 38
def R38 (E : Ev) : RT := runR PP GG CC E 36 LL none 48
theorem R38_unf (E : Ev) (c : Code) (lv : Nat) (lx : Nat → Nat) (kn : K) (kx : Nat → K) (kr : K) (e : Env) (h : Heap) : R38 E c true lv lx kn kx kr e h = runS (R38 E) PP GG CC E 36 LL none 48 c lv lx kn kx kr e h := runR_unf _ _ _ _ _ _ _ _
def r38 (x4 x5 : AV) (h : Heap) : Res := some (.tuple [x4, x5], h)
theorem r38_eq : r38 = fun x4 x5 h => xret PP fn38 (mkE [(4, x4), (5, x5)]) h := by kernel_rfl
def f38_1 (E : Ev) (kr : AV → AV → Heap → Res) (h : Heap) : Res :=
  kr (.int .i64 0) (.int .i64 2) h
theorem f38_1_eq (E : Ev) (kn : K) (kx : Nat → K) (kr : K) : f38_1 E (fun y4 y5 h => kr (mkE [(4, y4), (5, y5)]) h) = fun h => R38 E (pb (pb (pb (codeOf fn38)))) true 48 (fun _ => 0) kn kx kr (mkE []) h := by
  funext h
  unfold f38_1
  refine Eq.trans ?_ (R38_unf E _ _ _ _ _ _ _ _).symm
  generalize R38 E = R
  generalize LL = L
  generalize PP = P
  revert R L P
  refine id ?_
  intro R L P
  kernel_rfl
def f38_2 (E : Ev) (kn : Heap → Res) (kr : AV → AV → Heap → Res) (x0 x3 x16 x17 : AV) (h : Heap) : Res :=
  pIf x17
   (ob (pFieldAddr PP 73 1 x3) fun x21 =>
   ob (pFieldAddr PP 71 1 x21) fun x22 =>
   ob (pLoad PP 9 x22 h) fun x23 =>
   obP (E (.fn 57) [x0, x23] h) fun x24 h24 =>
   ob (pExtract 0 x24) fun x25 =>
   ob (pExtract 1 x24) fun x26 =>
   kr x25 x26 h24)
   (ob (xbin PP .eql 3 true x16 (.int .i64 3)) fun x28 =>
   pIf x28
    (ob (pFieldAddr PP 73 1 x3) fun x30 =>
    ob (pFieldAddr PP 71 1 x30) fun x31 =>
    ob (pLoad PP 9 x31 h) fun x32 =>
    obP (E (.fn 58) [x0, x32] h) fun x33 h33 =>
    ob (pExtract 0 x33) fun x34 =>
    ob (pExtract 1 x33) fun x35 =>
    kr x34 x35 h33)
    (kn h))
theorem f38_2_eq (E : Ev) (kn : K) (kx : Nat → K) (kr : K) : f38_2 E (fun h => kn (mkE []) h) (fun y4 y5 h => kr (mkE [(4, y4), (5, y5)]) h) = fun x0 x3 x16 x17 h => R38 E (pb (pa (pb (pa (pb (pb (codeOf fn38))))))) true 0 (fun i => sel (Nat.beq i 0) 0 ((fun _ => 0) i)) kn kx kr (mkE [(0, x0), (3, x3), (16, x16), (17, x17)]) h := by
  funext x0 x3 x16 x17 h
  unfold f38_2
  refine Eq.trans ?_ (R38_unf E _ _ _ _ _ _ _ _).symm
  generalize R38 E = R
  generalize LL = L
  generalize PP = P
  revert R L P
  refine id ?_
  intro R L P
  kernel_rfl
/-- (*theodolite/elab.maker).of -/
def s38 (E : Ev) (x0 x1 : AV) (h : Heap) : Res :=
  obP (some (pNew h 73 x1.cells)) fun x3 h3 =>
  ob (pFieldAddr PP 73 0 x3) fun x6 =>
  ob (pLoad PP 4 x6 h3) fun x7 =>
  pIf x7
   (ob (pFieldAddr PP 73 2 x3) fun x9 =>
   ob (pLoad PP 67 x9 h3) fun x10 =>
   obP (E (.fn 56) [x0, x10] h3) fun x11 h11 =>
   ob (pExtract 0 x11) fun x12 =>
   ob (pExtract 1 x11) fun x13 =>
   r38 x12 x13 h11)
   (ob (pFieldAddr PP 73 1 x3) fun x14 =>
   ob (pFieldAddr PP 71 0 x14) fun x15 =>
   ob (pLoad PP 3 x15 h3) fun x16 =>
   ob (xbin PP .eql 3 true x16 (.int .i64 5)) fun x18 =>
   pIf x18
    (f38_2 E (f38_1 E r38) r38 x0 x3 x16 x18 h3)
    (ob (xbin PP .eql 3 true x16 (.int .i64 6)) fun x19 =>
    f38_2 E (f38_1 E r38) r38 x0 x3 x16 x19 h3))
theorem s38_eq (E : Ev) (x0 x1 : AV) (h : Heap) : xbodyR PP GG CC E LL fn38 [x0, x1] h = s38 E x0 x1 h := by
  unfold s38
  rw [r38_eq, f38_1_eq E (xret PP fn38) noK (xret PP fn38), f38_2_eq E (R38 E (pb (pb (pb (codeOf fn38)))) true 48 (fun _ => 0) (xret PP fn38) noK (xret PP fn38)) (fun i => sel (Nat.beq i 0) (R38 E (pb (pb (pb (codeOf fn38)))) true 48 (fun _ => 0) (xret PP fn38) noK (xret PP fn38)) (noK i)) (xret PP fn38)]
  refine (bodyR_unf (c := (codeOf fn38)) (by kernel_rfl) (by kernel_rfl)).trans ?_
  show runS (R38 E) PP GG CC E fn38.ntmps LL none (resBits fn38.results.toList) (codeOf fn38) _ _ _ _ _ _ _ = _
  generalize R38 E = R
  generalize LL = L
  generalize PP = P
  symm
  revert R L P
  refine id ?_
  intro R L P
  kernel_rfl
def fn39 : Func := fnAt PP 39
def R39 (E : Ev) : RT := runR PP GG CC E 10 LL none 12
theorem R39_unf (E : Ev) (c : Code) (lv : Nat) (lx : Nat → Nat) (kn : K) (kx : Nat → K) (kr : K) (e : Env) (h : Heap) : R39 E c true lv lx kn kx kr e h = runS (R39 E) PP GG CC E 10 LL none 12 c lv lx kn kx kr e h := runR_unf _ _ _ _ _ _ _ _
def r39 (x2 x3 : AV) (h : Heap) : Res := some (.tuple [x2, x3], h)
theorem r39_eq : r39 = fun x2 x3 h => xret PP fn39 (mkE [(2, x2), (3, x3)]) h := by kernel_rfl
/-- theodolite/script.symbol -/
def s39 (E : Ev) (x0 : AV) (h : Heap) : Res :=
  obP (some (pNew h 73 x0.cells)) fun x1 h1 =>
  ob (pLoad PP 73 x1 h1) fun x4 =>
  obP (E (.fn 59) [x4, (.int .i64 3)] h1) fun x5 h5 =>
  ob (xun .not x5) fun x6 =>
  pIf x6
   (r39 (.str 0 0) (.bool false) h5)
   (ob (pFieldAddr PP 73 1 x1) fun x7 =>
   ob (pFieldAddr PP 71 1 x7) fun x8 =>
   ob (pLoad PP 9 x8 h5) fun x9 =>
   r39 x9 (.bool true) h5)
theorem s39_eq (E : Ev) (x0 : AV) (h : Heap) : xbodyR PP GG CC E LL fn39 [x0] h = s39 E x0 h := by
  unfold s39
  rw [r39_eq]
  refine (bodyR_unf (c := (codeOf fn39)) (by kernel_rfl) (by kernel_rfl)).trans ?_
  show runS (R39 E) PP GG CC E fn39.ntmps LL none (resBits fn39.results.toList) (codeOf fn39) _ _ _ _ _ _ _ = _
  generalize R39 E = R
  generalize LL = L
  generalize PP = P
  symm
  revert R L P
  refine id ?_
  intro R L P
  kernel_rfl
def fn40 : Func := fnAt PP 40
def R40 (E : Ev) : RT := runR PP GG CC E 19 LL none 16
theorem R40_unf (E : Ev) (c : Code) (lv : Nat) (lx : Nat → Nat) (kn : K) (kx : Nat → K) (kr : K) (e : Env) (h : Heap) : R40 E c true lv lx kn kx kr e h = runS (R40 E) PP GG CC E 19 LL none 16 c lv lx kn kx kr e h := runR_unf _ _ _ _ _ _ _ _
def r40 (x4 : AV) (h : Heap) : Res := some (x4, h)
theorem r40_eq : r40 = fun x4 h => xret PP fn40 (mkE [(4, x4)]) h := by kernel_rfl
def f40_1 (E : Ev) (kr : AV → Heap → Res) (h : Heap) : Res :=
  kr (.int .i64 (-1)) h
theorem f40_1_eq (E : Ev) (kn : K) (kx : Nat → K) (kr : K) : f40_1 E (fun y4 h => kr (mkE [(4, y4)]) h) = fun h => R40 E (pb (pb (codeOf fn40))) true 16 (fun _ => 0) kn kx kr (mkE []) h := by
  funext h
  unfold f40_1
  refine Eq.trans ?_ (R40_unf E _ _ _ _ _ _ _ _).symm
  generalize R40 E = R
  generalize LL = L
  generalize PP = P
  revert R L P
  refine id ?_
  intro R L P
  kernel_rfl
def f40_2 (E : Ev) (kn : AV → AV → AV → AV → Heap → Res) (k0 : Heap → Res) (kr : AV → Heap → Res) (x0 x1 x7 x8 : AV) (h : Heap) : Res :=
  ob (xbin PP .lss 3 false x8 x7) fun x9 =>
  pIf x9
   (ob (xindexAddr PP 27 x0 x8) fun x14 =>
   ob (pLoad PP 9 x14 h) fun x15 =>
   ob (xbin PP .eql 9 false x1 x15) fun x16 =>
   pIf x16
    (kr x8 h)
    (ob (xbin PP .add 3 true x8 (.int .i64 1)) fun x18 =>
    kn x0 x1 x7 x18 h))
   (k0 h)
theorem f40_2_eq (E : Ev) (kn : K) (kx : Nat → K) (kr : K) (e0 : K) (he0 : kx 0 = e0) : f40_2 E (fun y0 y1 y7 y8 h => kn (mkE [(0, y0), (1, y1), (7, y7), (8, y8)]) h) (fun h => e0 (mkE []) h) (fun y4 h => kr (mkE [(4, y4)]) h) = fun x0 x1 x7 x8 h => R40 E (pa (pa (pb (pa (pb (codeOf fn40)))))) true 387 (fun i => sel (Nat.beq i 0) 0 ((fun _ => 0) i)) kn kx kr (mkE [(0, x0), (1, x1), (7, x7), (8, x8)]) h := by
  subst he0
  funext x0 x1 x7 x8 h
  unfold f40_2
  refine Eq.trans ?_ (R40_unf E _ _ _ _ _ _ _ _).symm
  generalize R40 E = R
  generalize LL = L
  generalize PP = P
  revert R L P
  refine id ?_
  intro R L P
  kernel_rfl
/-- slices.Index[[]string,string] -/
def s40 (E : Ev) (x0 x1 : AV) (h : Heap) : Res :=
  ob (xlen PP h 27 x0) fun x7 =>
  lp b4 (fun k => f40_2 E k (f40_1 E r40) r40) LL x0 x1 x7 (.int .i64 0) h
theorem s40_eq (E : Ev) (x0 x1 : AV) (h : Heap) : xbodyR PP GG CC E LL fn40 [x0, x1] h = s40 E x0 x1 h := by
  unfold s40
  rw [r40_eq, f40_1_eq E (xret PP fn40) noK (xret PP fn40), lp4_eq 0 1 7 8 (fun k => (R40 E (pa (pa (pb (pa (pb (codeOf fn40)))))) true 387 (fun i => sel (Nat.beq i 0) 0 ((fun _ => 0) i)) k (fun i => sel (Nat.beq i 0) (R40 E (pb (pb (codeOf fn40))) true 16 (fun _ => 0) (xret PP fn40) noK (xret PP fn40)) (noK i)) (xret PP fn40))) (fun k => f40_2 E k (fun h => (R40 E (pb (pb (codeOf fn40))) true 16 (fun _ => 0) (xret PP fn40) noK (xret PP fn40)) (mkE []) h) (fun y4 h => (xret PP fn40) (mkE [(4, y4)]) h)) (fun k => f40_2_eq E k (fun i => sel (Nat.beq i 0) (R40 E (pb (pb (codeOf fn40))) true 16 (fun _ => 0) (xret PP fn40) noK (xret PP fn40)) (noK i)) (xret PP fn40) (R40 E (pb (pb (codeOf fn40))) true 16 (fun _ => 0) (xret PP fn40) noK (xret PP fn40)) rfl) LL]
  refine (bodyR_unf (c := (codeOf fn40)) (by kernel_rfl) (by kernel_rfl)).trans ?_
  show runS (R40 E) PP GG CC E fn40.ntmps LL none (resBits fn40.results.toList) (codeOf fn40) _ _ _ _ _ _ _ = _
  generalize R40 E = R
  generalize LL = L
  generalize PP = P
  symm
  revert R L P
  refine id ?_
  intro R L P
  kernel_rfl
def fn41 : Func := fnAt PP 41
def R41 (E : Ev) : RT := runR PP GG CC E 106 LL none 4
theorem R41_unf (E : Ev) (c : Code) (lv : Nat) (lx : Nat → Nat) (kn : K) (kx : Nat → K) (kr : K) (e : Env) (h : Heap) : R41 E c true lv lx kn kx kr e h = runS (R41 E) PP GG CC E 106 LL none 4 c lv lx kn kx kr e h := runR_unf _ _ _ _ _ _ _ _
def r41 (x2 : AV) (h : Heap) : Res := some (x2, h)
theorem r41_eq : r41 = fun x2 h => xret PP fn41 (mkE [(2, x2)]) h := by kernel_rfl
def f41_4 (E : Ev) (kr : AV → Heap → Res) (x9 : AV) (h : Heap) : Res :=
  kr x9 h
theorem f41_4_eq (E : Ev) (kn : K) (kx : Nat → K) (kr : K) : f41_4 E (fun y2 h => kr (mkE [(2, y2)]) h) = fun x9 h => R41 E (pb (pb (pb (pb (pb (pb (pb (pb (pb (pb (pb (pb (pb (pb (codeOf fn41))))))))))))))) true 4 (fun _ => 0) kn kx kr (mkE [(9, x9)]) h := by
  funext x9 h
  unfold f41_4
  refine Eq.trans ?_ (R41_unf E _ _ _ _ _ _ _ _).symm
  generalize R41 E = R
  generalize LL = L
  generalize PP = P
  revert R L P
  refine id ?_
  intro R L P
  kernel_rfl
def f41_3 (E : Ev) (kr : AV → Heap → Res) (x0 x9 x10 x11 : AV) (h : Heap) : Res :=
  ob (xlen PP h 9 x0) fun x97 =>
  ob (xbin PP .lss 3 false x11 x97) fun x98 =>
  pIf x98
   (obP (xslice PP h 9 x0 (some x11) none none) fun x103 h103 =>
   ob (xindexAddr PP 27 x9 x10) fun x104 =>
   ob (pStore PP 9 x104 x103 h103) fun h0 =>
   f41_4 E kr x9 h0)
   (f41_4 E kr x9 h)
theorem f41_3_eq (E : Ev) (kn : K) (kx : Nat → K) (kr : K) : f41_3 E (fun y2 h => kr (mkE [(2, y2)]) h) = fun x0 x9 x10 x11 h => R41 E (pb (pb (pb (pb (pb (pb (pb (pb (pb (pb (pb (pb (pb (codeOf fn41)))))))))))))) true 4 (fun _ => 0) kn kx kr (mkE [(0, x0), (9, x9), (10, x10), (11, x11)]) h := by
  funext x0 x9 x10 x11 h
  unfold f41_3
  rw [f41_4_eq E kn kx kr]
  refine Eq.trans ?_ (R41_unf E _ _ _ _ _ _ _ _).symm
  generalize R41 E = R
  generalize LL = L
  generalize PP = P
  revert R L P
  refine id ?_
  intro R L P
  kernel_rfl
def f41_6 (E : Ev) (kn : AV → AV → AV → AV → AV → Heap → Res) (x0 x9 x10 x12 : AV) (h : Heap) : Res :=
  kn x0 x9 x10 x12 x12 h
theorem f41_6_eq (E : Ev) (kn : K) (kx : Nat → K) (kr : K) : f41_6 E (fun y0 y9 y10 y11 y12 h => kn (mkE [(0, y0), (9, y9), (10, y10), (11, y11), (12, y12)]) h) = fun x0 x9 x10 x12 h => R41 E (pb (pb (pb (pb (pb (pa (pb (pa (pa (pa (pb (pb (pb (pb (pb (pb (pb (pb (pb (pb (pb (pb (codeOf fn41))))))))))))))))))))))) true 7681 (fun i => sel (Nat.beq i 5) 7681 ((fun i => sel (Nat.beq i 4) 3585 ((fun _ => 0) i)) i)) kn kx kr (mkE [(0, x0), (9, x9), (10, x10), (12, x12)]) h := by
  funext x0 x9 x10 x12 h
  unfold f41_6
  refine Eq.trans ?_ (R41_unf E _ _ _ _ _ _ _ _).symm
  generalize R41 E = R
  generalize LL = L
  generalize PP = P
  revert R L P
  refine id ?_
  intro R L P
  kernel_rfl
def f41_7 (E : Ev) (kn : AV → AV → AV → AV → Heap → Res) (k6 : AV → AV → AV → AV → Heap → Res) (x0 x9 x10 x12 : AV) (h : Heap) : Res :=
  ob (xlen PP h 9 x0) fun x82 =>
  ob (xbin PP .lss 3 false x12 x82) fun x83 =>
  ob (pWant x83 true) fun c =>
  ob (sel c (some x0) (some (.tuple []))) fun x85 =>
  ob (pWant x83 true) fun c_1 =>
  ob (sel c_1 (some x12) (some (.tuple []))) fun x86 =>
  ob (pWant x83 true) fun c_2 =>
  ob (sel c_2 (xindex PP 9 x85 x86) (some (.tuple []))) fun x87 =>
  ob (pWant x83 true) fun c_3 =>
  ob (sel c_3 (xindexAddr PP 132 (.ptr 0 0) x87) (some (.tuple []))) fun x88 =>
  ob (pWant x83 true) fun c_4 =>
  ob (sel c_4 (pLoad PP 5 x88 h) (some (.tuple []))) fun x89 =>
  ob (pWant x83 true) fun c_5 =>
  ob (sel c_5 (xbin PP .neq 5 true x89 (.int .u8 0)) (some (.tuple []))) fun x90 =>
  ob (pPick x83 (some x90) (some (.bool false))) fun x91 =>
  pIf x91
   (ob (xbin PP .add 3 true x12 (.int .i64 1)) fun x93 =>
   kn x0 x9 x10 x93 h)
   (k6 x0 x9 x10 x12 h)
theorem f41_7_eq (E : Ev) (kn : K) (kx : Nat → K) (kr : K) (e6 : K) (he6 : kx 6 = e6) : f41_7 E (fun y0 y9 y10 y12 h => kn (mkE [(0, y0), (9, y9), (10, y10), (12, y12)]) h) (fun y0 y9 y10 y12 h => e6 (mkE [(0, y0), (9, y9), (10, y10), (12, y12)]) h) = fun x0 x9 x10 x12 h => R41 E (pa (pa (pa (pb (pb (pb (pb (pa (pb (pa (pa (pa (pb (pb (pb (pb (pb (pb (pb (pb (pb (pb (pb (pb (codeOf fn41))))))))))))))))))))))))) true 5633 (fun i => sel (Nat.beq i 6) 5633 ((fun i => sel (Nat.beq i 5) 7681 ((fun i => sel (Nat.beq i 4) 3585 ((fun _ => 0) i)) i)) i)) kn kx kr (mkE [(0, x0), (9, x9), (10, x10), (12, x12)]) h := by
  subst he6
  funext x0 x9 x10 x12 h
  unfold f41_7
  refine Eq.trans ?_ (R41_unf E _ _ _ _ _ _ _ _).symm
  generalize R41 E = R
  generalize LL = L
  generalize PP = P
  revert R L P
  refine id ?_
  intro R L P
  kernel_rfl
def f41_5 (E : Ev) (kn : AV → AV → AV → AV → AV → Heap → Res) (k4 : AV → AV → AV → AV → Heap → Res) (x0 x9 x10 x11 x12 : AV) (h : Heap) : Res :=
  ob (xlen PP h 9 x0) fun x59 =>
  ob (xbin PP .lss 3 false x12 x59) fun x60 =>
  pIf x60
   (ob (xindex PP 9 x0 x12) fun x63 =>
   ob (xindexAddr PP 132 (.ptr 0 0) x63) fun x64 =>
   ob (pLoad PP 5 x64 h) fun x65 =>
   ob (xbin PP .eql 5 true x65 (.int .u8 0)) fun x66 =>
   pIf x66
    (ob (xbin PP .add 3 true x12 (.int .i64 1)) fun x68 =>
    kn x0 x9 x10 x11 x68 h)
    (obP (xslice PP h 9 x0 (some x11) (some x12) none) fun x74 h74 =>
    ob (xindexAddr PP 27 x9 x10) fun x75 =>
    ob (pStore PP 9 x75 x74 h74) fun h0 =>
    ob (xbin PP .add 3 true x10 (.int .i64 1)) fun x77 =>
    ob (xbin PP .add 3 true x12 (.int .i64 1)) fun x79 =>
    lp b4 (fun k => f41_7 E k (f41_6 E kn)) LL x0 x9 x77 x79 h0))
   (k4 x0 x9 x10 x11 h)
theorem f41_5_eq (E : Ev) (kn : K) (kx : Nat → K) (kr : K) (e4 : K) (he4 : kx 4 = e4) : f41_5 E (fun y0 y9 y10 y11 y12 h => kn (mkE [(0, y0), (9, y9), (10, y10), (11, y11), (12, y12)]) h) (fun y0 y9 y10 y11 h => e4 (mkE [(0, y0), (9, y9), (10, y10), (11, y11)]) h) = fun x0 x9 x10 x11 x12 h => R41 E (pa (pa (pa (pb (pb (pb (pb (pb (pb (pb (pb (pb (pb (pb (pb (codeOf fn41)))))))))))))))) true 7681 (fun i => sel (Nat.beq i 4) 3585 ((fun _ => 0) i)) kn kx kr (mkE [(0, x0), (9, x9), (10, x10), (11, x11), (12, x12)]) h := by
  subst he4
  funext x0 x9 x10 x11 x12 h
  unfold f41_5
  rw [f41_6_eq E kn (fun i => sel (Nat.beq i 5) kn (kx i)) kr, lp4_eq 0 9 10 12 (fun k => (R41 E (pa (pa (pa (pb (pb (pb (pb (pa (pb (pa (pa (pa (pb (pb (pb (pb (pb (pb (pb (pb (pb (pb (pb (pb (codeOf fn41))))))))))))))))))))))))) true 5633 (fun i => sel (Nat.beq i 6) 5633 ((fun i => sel (Nat.beq i 5) 7681 ((fun i => sel (Nat.beq i 4) 3585 ((fun _ => 0) i)) i)) i)) k (fun i => sel (Nat.beq i 6) (R41 E (pb (pb (pb (pb (pb (pa (pb (pa (pa (pa (pb (pb (pb (pb (pb (pb (pb (pb (pb (pb (pb (pb (codeOf fn41))))))))))))))))))))))) true 7681 (fun i => sel (Nat.beq i 5) 7681 ((fun i => sel (Nat.beq i 4) 3585 ((fun _ => 0) i)) i)) kn (fun i => sel (Nat.beq i 5) kn (kx i)) kr) ((fun i => sel (Nat.beq i 5) kn (kx i)) i)) kr)) (fun k => f41_7 E k (fun y0 y9 y10 y12 h => (R41 E (pb (pb (pb (pb (pb (pa (pb (pa (pa (pa (pb (pb (pb (pb (pb (pb (pb (pb (pb (pb (pb (pb (codeOf fn41))))))))))))))))))))))) true 7681 (fun i => sel (Nat.beq i 5) 7681 ((fun i => sel (Nat.beq i 4) 3585 ((fun _ => 0) i)) i)) kn (fun i => sel (Nat.beq i 5) kn (kx i)) kr) (mkE [(0, y0), (9, y9), (10, y10), (12, y12)]) h)) (fun k => f41_7_eq E k (fun i => sel (Nat.beq i 6) (R41 E (pb (pb (pb (pb (pb (pa (pb (pa (pa (pa (pb (pb (pb (pb (pb (pb (pb (pb (pb (pb (pb (pb (codeOf fn41))))))))))))))))))))))) true 7681 (fun i => sel (Nat.beq i 5) 7681 ((fun i => sel (Nat.beq i 4) 3585 ((fun _ => 0) i)) i)) kn (fun i => sel (Nat.beq i 5) kn (kx i)) kr) ((fun i => sel (Nat.beq i 5) kn (kx i)) i)) kr (R41 E (pb (pb (pb (pb (pb (pa (pb (pa (pa (pa (pb (pb (pb (pb (pb (pb (pb (pb (pb (pb (pb (pb (codeOf fn41))))))))))))))))))))))) true 7681 (fun i => sel (Nat.beq i 5) 7681 ((fun i => sel (Nat.beq i 4) 3585 ((fun _ => 0) i)) i)) kn (fun i => sel (Nat.beq i 5) kn (kx i)) kr) rfl) LL]
  refine Eq.trans ?_ (R41_unf E _ _ _ _ _ _ _ _).symm
  generalize R41 E = R
  generalize LL = L
  generalize PP = P
  revert R L P
  refine id ?_
  intro R L P
  kernel_rfl
def f41_2 (E : Ev) (kr : AV → Heap → Res) (x0 x9 x10 x12 : AV) (h : Heap) : Res :=
  lp b5 (fun k => f41_5 E k (f41_3 E kr)) LL x0 x9 x10 x12 x12 h
theorem f41_2_eq (E : Ev) (kn : K) (kx : Nat → K) (kr : K) : f41_2 E (fun y2 h => kr (mkE [(2, y2)]) h) = fun x0 x9 x10 x12 h => R41 E (pb (pb (pb (pb (pb (pb (pb (pb (pb (pb (pb (codeOf fn41)))))))))))) true 4 (fun _ => 0) kn kx kr (mkE [(0, x0), (9, x9), (10, x10), (12, x12)]) h := by
  funext x0 x9 x10 x12 h
  unfold f41_2
  rw [f41_3_eq E kn kx kr, lp5_eq 0 9 10 11 12 (fun k => (R41 E (pa (pa (pa (pb (pb (pb (pb (pb (pb (pb (pb (pb (pb (pb (pb (codeOf fn41)))))))))))))))) true 7681 (fun i => sel (Nat.beq i 4) 3585 ((fun _ => 0) i)) k (fun i => sel (Nat.beq i 4) (R41 E (pb (pb (pb (pb (pb (pb (pb (pb (pb (pb (pb (pb (pb (codeOf fn41)))))))))))))) true 4 (fun _ => 0) kn kx kr) (kx i)) kr)) (fun k => f41_5 E k (fun y0 y9 y10 y11 h => (R41 E (pb (pb (pb (pb (pb (pb (pb (pb (pb (pb (pb (pb (pb (codeOf fn41)))))))))))))) true 4 (fun _ => 0) kn kx kr) (mkE [(0, y0), (9, y9), (10, y10), (11, y11)]) h)) (fun k => f41_5_eq E k (fun i => sel (Nat.beq i 4) (R41 E (pb (pb (pb (pb (pb (pb (pb (pb (pb (pb (pb (pb (pb (codeOf fn41)))))))))))))) true 4 (fun _ => 0) kn kx kr) (kx i)) kr (R41 E (pb (pb (pb (pb (pb (pb (pb (pb (pb (pb (pb (pb (pb (codeOf fn41)))))))))))))) true 4 (fun _ => 0) kn kx kr) rfl) LL]
  refine Eq.trans ?_ (R41_unf E _ _ _ _ _ _ _ _).symm
  generalize R41 E = R
  generalize LL = L
  generalize PP = P
  revert R L P
  refine id ?_
  intro R L P
  kernel_rfl
def f41_8 (E : Ev) (kn : AV → AV → AV → AV → Heap → Res) (k2 : AV → AV → AV → AV → Heap → Res) (x0 x9 x10 x12 : AV) (h : Heap) : Res :=
  ob (xlen PP h 9 x0) fun x44 =>
  ob (xbin PP .lss 3 false x12 x44) fun x45 =>
  ob (pWant x45 true) fun c =>
  ob (sel c (some x0) (some (.tuple []))) fun x47 =>
  ob (pWant x45 true) fun c_1 =>
  ob (sel c_1 (some x12) (some (.tuple []))) fun x48 =>
  ob (pWant x45 true) fun c_2 =>
  ob (sel c_2 (xindex PP 9 x47 x48) (some (.tuple []))) fun x49 =>
  ob (pWant x45 true) fun c_3 =>
  ob (sel c_3 (xindexAddr PP 132 (.ptr 0 0) x49) (some (.tuple []))) fun x50 =>
  ob (pWant x45 true) fun c_4 =>
  ob (sel c_4 (pLoad PP 5 x50 h) (some (.tuple []))) fun x51 =>
  ob (pWant x45 true) fun c_5 =>
  ob (sel c_5 (xbin PP .neq 5 true x51 (.int .u8 0)) (some (.tuple []))) fun x52 =>
  ob (pPick x45 (some x52) (some (.bool false))) fun x53 =>
  pIf x53
   (ob (xbin PP .add 3 true x12 (.int .i64 1)) fun x55 =>
   kn x0 x9 x10 x55 h)
   (k2 x0 x9 x10 x12 h)
theorem f41_8_eq (E : Ev) (kn : K) (kx : Nat → K) (kr : K) (e2 : K) (he2 : kx 2 = e2) : f41_8 E (fun y0 y9 y10 y12 h => kn (mkE [(0, y0), (9, y9), (10, y10), (12, y12)]) h) (fun y0 y9 y10 y12 h => e2 (mkE [(0, y0), (9, y9), (10, y10), (12, y12)]) h) = fun x0 x9 x10 x12 h => R41 E (pa (pa (pa (pb (pb (pb (pb (pb (pb (pb (pb (pb (pb (codeOf fn41)))))))))))))) true 5633 (fun i => sel (Nat.beq i 2) 5633 ((fun _ => 0) i)) kn kx kr (mkE [(0, x0), (9, x9), (10, x10), (12, x12)]) h := by
  subst he2
  funext x0 x9 x10 x12 h
  unfold f41_8
  refine Eq.trans ?_ (R41_unf E _ _ _ _ _ _ _ _).symm
  generalize R41 E = R
  generalize LL = L
  generalize PP = P
  revert R L P
  refine id ?_
  intro R L P
  kernel_rfl
def f41_1 (E : Ev) (kr : AV → Heap → Res) (x0 x3 x5 : AV) (h : Heap) : Res :=
  ob (xbin PP .geq 5 true x5 (.int .u8 128)) fun x37 =>
  pIf x37
   (obP (E (.fn 60) [x0, (.func 61 [] [])] h) fun x39 h39 =>
   kr x39 h39)
   (obP (xmake PP h 27 x3 x3) fun x41 h41 =>
   lp b4 (fun k => f41_8 E k (f41_2 E kr)) LL x0 x41 (.int .i64 0) (.int .i64 0) h41)
theorem f41_1_eq (E : Ev) (kn : K) (kx : Nat → K) (kr : K) : f41_1 E (fun y2 h => kr (mkE [(2, y2)]) h) = fun x0 x3 x5 h => R41 E (pb (pb (pb (pb (pb (codeOf fn41)))))) true 4 (fun _ => 0) kn kx kr (mkE [(0, x0), (3, x3), (5, x5)]) h := by
  funext x0 x3 x5 h
  unfold f41_1
  rw [f41_2_eq E kn kx kr, lp4_eq 0 9 10 12 (fun k => (R41 E (pa (pa (pa (pb (pb (pb (pb (pb (pb (pb (pb (pb (pb (codeOf fn41)))))))))))))) true 5633 (fun i => sel (Nat.beq i 2) 5633 ((fun _ => 0) i)) k (fun i => sel (Nat.beq i 2) (R41 E (pb (pb (pb (pb (pb (pb (pb (pb (pb (pb (pb (codeOf fn41)))))))))))) true 4 (fun _ => 0) kn kx kr) (kx i)) kr)) (fun k => f41_8 E k (fun y0 y9 y10 y12 h => (R41 E (pb (pb (pb (pb (pb (pb (pb (pb (pb (pb (pb (codeOf fn41)))))))))))) true 4 (fun _ => 0) kn kx kr) (mkE [(0, y0), (9, y9), (10, y10), (12, y12)]) h)) (fun k => f41_8_eq E k (fun i => sel (Nat.beq i 2) (R41 E (pb (pb (pb (pb (pb (pb (pb (pb (pb (pb (pb (codeOf fn41)))))))))))) true 4 (fun _ => 0) kn kx kr) (kx i)) kr (R41 E (pb (pb (pb (pb (pb (pb (pb (pb (pb (pb (pb (codeOf fn41)))))))))))) true 4 (fun _ => 0) kn kx kr) rfl) LL]
  refine Eq.trans ?_ (R41_unf E _ _ _ _ _ _ _ _).symm
  generalize R41 E = R
  generalize LL = L
  generalize PP = P
  revert R L P
  refine id ?_
  intro R L P
  kernel_rfl
def f41_9 (E : Ev) (kn : AV → AV → AV → AV → AV → Heap → Res) (k0 : AV → AV → AV → Heap → Res) (x0 x3 x4 x5 x6 : AV) (h : Heap) : Res :=
  ob (xlen PP h 9 x0) fun x15 =>
  ob (xbin PP .lss 3 false x6 x15) fun x16 =>
  pIf x16
   (ob (xindex PP 9 x0 x6) fun x21 =>
   ob (xbin PP .or 5 false x5 x21) fun x24 =>
   ob (xindexAddr PP 132 (.ptr 0 0) x21) fun x26 =>
   ob (pLoad PP 5 x26 h) fun x27 =>
   ob (pInt PP 5 3 x27) fun x28 =>
   ob (xun .xor x28) fun x32 =>
   ob (xbin PP .and 3 false x4 x32) fun x33 =>
   ob (xbin PP .add 3 false x3 x33) fun x34 =>
   ob (xbin PP .add 3 true x6 (.int .i64 1)) fun x18 =>
   kn x0 x34 x28 x24 x18 h)
   (k0 x0 x3 x5 h)
theorem f41_9_eq (E : Ev) (kn : K) (kx : Nat → K) (kr : K) (e0 : K) (he0 : kx 0 = e0) : f41_9 E (fun y0 y3 y4 y5 y6 h => kn (mkE [(0, y0), (3, y3), (4, y4), (5, y5), (6, y6)]) h) (fun y0 y3 y5 h => e0 (mkE [(0, y0), (3, y3), (5, y5)]) h) = fun x0 x3 x4 x5 x6 h => R41 E (pa (pa (pb (pa (pb (pb (pb (pb (codeOf fn41))))))))) true 121 (fun i => sel (Nat.beq i 0) 41 ((fun _ => 0) i)) kn kx kr (mkE [(0, x0), (3, x3), (4, x4), (5, x5), (6, x6)]) h := by
  subst he0
  funext x0 x3 x4 x5 x6 h
  unfold f41_9
  refine Eq.trans ?_ (R41_unf E _ _ _ _ _ _ _ _).symm
  generalize R41 E = R
  generalize LL = L
  generalize PP = P
  revert R L P
  refine id ?_
  intro R L P
  kernel_rfl
/-- strings.Fields -/
def s41 (E : Ev) (x0 : AV) (h : Heap) : Res :=
  lp b5 (fun k => f41_9 E k (f41_1 E r41)) LL x0 (.int .i64 0) (.int .i64 1) (.int .u8 0) (.int .i64 0) h
theorem s41_eq (E : Ev) (x0 : AV) (h : Heap) : xbodyR PP GG CC E LL fn41 [x0] h = s41 E x0 h := by
  unfold s41
  rw [r41_eq, f41_1_eq E (xret PP fn41) noK (xret PP fn41), lp5_eq 0 3 4 5 6 (fun k => (R41 E (pa (pa (pb (pa (pb (pb (pb (pb (codeOf fn41))))))))) true 121 (fun i => sel (Nat.beq i 0) 41 ((fun _ => 0) i)) k (fun i => sel (Nat.beq i 0) (R41 E (pb (pb (pb (pb (pb (codeOf fn41)))))) true 4 (fun _ => 0) (xret PP fn41) noK (xret PP fn41)) (noK i)) (xret PP fn41))) (fun k => f41_9 E k (fun y0 y3 y5 h => (R41 E (pb (pb (pb (pb (pb (codeOf fn41)))))) true 4 (fun _ => 0) (xret PP fn41) noK (xret PP fn41)) (mkE [(0, y0), (3, y3), (5, y5)]) h)) (fun k => f41_9_eq E k (fun i => sel (Nat.beq i 0) (R41 E (pb (pb (pb (pb (pb (codeOf fn41)))))) true 4 (fun _ => 0) (xret PP fn41) noK (xret PP fn41)) (noK i)) (xret PP fn41) (R41 E (pb (pb (pb (pb (pb (codeOf fn41)))))) true 4 (fun _ => 0) (xret PP fn41) noK (xret PP fn41)) rfl) LL]
  refine (bodyR_unf (c := (codeOf fn41)) (by kernel_rfl) (by kernel_rfl)).trans ?_
  show runS (R41 E) PP GG CC E fn41.ntmps LL none (resBits fn41.results.toList) (codeOf fn41) _ _ _ _ _ _ _ = _
  generalize R41 E = R
  generalize LL = L
  generalize PP = P
  symm
  revert R L P
  refine id ?_
  intro R L P
  kernel_rfl
def fn43 : Func := fnAt PP 43
def R43 (E : Ev) : RT := runR PP GG CC E 97 LL none 16
theorem R43_unf (E : Ev) (c : Code) (lv : Nat) (lx : Nat → Nat) (kn : K) (kx : Nat → K) (kr : K) (e : Env) (h : Heap) : R43 E c true lv lx kn kx kr e h = runS (R43 E) PP GG CC E 97 LL none 16 c lv lx kn kx kr e h := runR_unf _ _ _ _ _ _ _ _
def r43 (x4 : AV) (h : Heap) : Res := some (x4, h)
theorem r43_eq : r43 = fun x4 h => xret PP fn43 (mkE [(4, x4)]) h := by kernel_rfl
def f43_1 (E : Ev) (kr : AV → Heap → Res) (x1 : AV) (h : Heap) : Res :=
  ob (xlen PP h 67 x1) fun x95 =>
  ob (xbin PP .eql 3 true x95 (.int .i64 0)) fun x96 =>
  kr x96 h
theorem f43_1_eq (E : Ev) (kn : K) (kx : Nat → K) (kr : K) : f43_1 E (fun y4 h => kr (mkE [(4, y4)]) h) = fun x1 h => R43 E (pb (pb (codeOf fn43))) true 16 (fun _ => 0) kn kx kr (mkE [(1, x1)]) h := by
  funext x1 h
  unfold f43_1
  refine Eq.trans ?_ (R43_unf E _ _ _ _ _ _ _ _).symm
  generalize R43 E = R
  generalize LL = L
  generalize PP = P
  revert R L P
  refine id ?_
  intro R L P
  kernel_rfl
def f43_2 (E : Ev) (kr : AV → Heap → Res) (x4 : AV) (h : Heap) : Res :=
  kr x4 h
theorem f43_2_eq (E : Ev) (kn : K) (kx : Nat → K) (kr : K) : f43_2 E (fun y4 h => kr (mkE [(4, y4)]) h) = fun x4 h => R43 E (pb (pa (pb (pa (pb (pa (pb (codeOf fn43)))))))) true 2 (fun i => sel (Nat.beq i 0) 2 ((fun _ => 0) i)) kn kx kr (mkE [(4, x4)]) h := by
  funext x4 h
  unfold f43_2
  refine Eq.trans ?_ (R43_unf E _ _ _ _ _ _ _ _).symm
  generalize R43 E = R
  generalize LL = L
  generalize PP = P
  revert R L P
  refine id ?_
  intro R L P
  kernel_rfl
def f43_4 (E : Ev) (kr : AV → Heap → Res) (x1 : AV) (h : Heap) : Res :=
  ob (xlen PP h 67 x1) fun x59 =>
  ob (xbin PP .eql 3 true x59 (.int .i64 1)) fun x60 =>
  kr x60 h
theorem f43_4_eq (E : Ev) (kn : K) (kx : Nat → K) (kr : K) : f43_4 E (fun y4 h => kr (mkE [(4, y4)]) h) = fun x1 h => R43 E (pb (pa (pb (pb (pb (pb (pb (pb (pb (pb (pb (pb (pb (pa (pb (pa (pb (codeOf fn43)))))))))))))))))) true 2 (fun i => sel (Nat.beq i 0) 2 ((fun _ => 0) i)) kn kx kr (mkE [(1, x1)]) h := by
  funext x1 h
  unfold f43_4
  refine Eq.trans ?_ (R43_unf E _ _ _ _ _ _ _ _).symm
  generalize R43 E = R
  generalize LL = L
  generalize PP = P
  revert R L P
  refine id ?_
  intro R L P
  kernel_rfl
def f43_6 (E : Ev) (kr : AV → Heap → Res) (x1 : AV) (h : Heap) : Res :=
  ob (xlen PP h 67 x1) fun x86 =>
  ob (xbin PP .eql 3 true x86 (.int .i64 1)) fun x87 =>
  ob (pWant x87 true) fun c =>
  ob (sel c (some x1) (some (.tuple []))) fun x89 =>
  ob (pWant x87 true) fun c_1 =>
  ob (sel c_1 (xindexAddr PP 67 x89 (.int .i64 0)) (some (.tuple []))) fun x90 =>
  ob (pWant x87 true) fun c_2 =>
  ob (sel c_2 (pLoad PP 73 x90 h) (some (.tuple []))) fun x91 =>
  ob (pWant x87 true) fun c_3 =>
  obP (sel c_3 (E (.fn 59) [x91, (.int .i64 7)] h) (some (.tuple [], h))) fun x92 h92 =>
  ob (pPick x87 (some x92) (some (.bool false))) fun x93 =>
  kr x93 h92
theorem f43_6_eq (E : Ev) (kn : K) (kx : Nat → K) (kr : K) : f43_6 E (fun y4 h => kr (mkE [(4, y4)]) h) = fun x1 h => R43 E (pb (pa (pb (pb (pb (pb (pb (pb (pb (pb (pb (pb (pb (pb (pb (pb (pb (pb (pb (pa (pb (pa (pb (codeOf fn43)))))))))))))))))))))))) true 2 (fun i => sel (Nat.beq i 0) 2 ((fun _ => 0) i)) kn kx kr (mkE [(1, x1)]) h := by
  funext x1 h
  unfold f43_6
  refine Eq.trans ?_ (R43_unf E _ _ _ _ _ _ _ _).symm
  generalize R43 E = R
  generalize LL = L
  generalize PP = P
  revert R L P
  refine id ?_
  intro R L P
  kernel_rfl
def f43_5 (E : Ev) (kn : AV → Heap → Res) (kr : AV → Heap → Res) (x0 x1 x8 x61 : AV) (h : Heap) : Res :=
  pIf x61
   (obP (E (.fn 67) [x0, x1] h) fun x66 h66 =>
   kr x66 h66)
   (ob (xbin PP .eql 3 true x8 (.int .i64 12)) fun x68 =>
   pIf x68
    (obP (E (.fn 68) [x0, x1] h) fun x71 h71 =>
    kr x71 h71)
    (ob (xbin PP .eql 3 true x8 (.int .i64 13)) fun x73 =>
    pIf x73
     (ob (xlen PP h 67 x1) fun x75 =>
     ob (xbin PP .eql 3 true x75 (.int .i64 1)) fun x76 =>
     pIf x76
      (ob (xindexAddr PP 67 x1 (.int .i64 0)) fun x79 =>
      ob (pFieldAddr PP 73 1 x79) fun x80 =>
      ob (pFieldAddr PP 71 1 x80) fun x81 =>
      ob (pLoad PP 9 x81 h) fun x82 =>
      ob (pNil x0) fun x83 =>
      ob (pFieldAddr PP 79 1 x83) fun x84 =>
      ob (pStore PP 9 x84 x82 h) fun h0 =>
      f43_6 E kr x1 h0)
      (f43_6 E kr x1 h))
     (kn x1 h)))
theorem f43_5_eq (E : Ev) (kn : K) (kx : Nat → K) (kr : K) : f43_5 E (fun y1 h => kn (mkE [(1, y1)]) h) (fun y4 h => kr (mkE [(4, y4)]) h) = fun x0 x1 x8 x61 h => R43 E (pb (pb (pb (pb (pb (pb (pb (pb (pb (pb (pb (pb (pb (pa (pb (pa (pb (codeOf fn43)))))))))))))))))) true 2 (fun i => sel (Nat.beq i 0) 2 ((fun _ => 0) i)) kn kx kr (mkE [(0, x0), (1, x1), (8, x8), (61, x61)]) h := by
  funext x0 x1 x8 x61 h
  unfold f43_5
  rw [f43_6_eq E kn kx kr]
  refine Eq.trans ?_ (R43_unf E _ _ _ _ _ _ _ _).symm
  generalize R43 E = R
  generalize LL = L
  generalize PP = P
  revert R L P
  refine id ?_
  intro R L P
  kernel_rfl
def f43_3 (E : Ev) (kn : AV → Heap → Res) (kr : AV → Heap → Res) (x0 x1 x8 x25 : AV) (h : Heap) : Res :=
  pIf x25
   (obP (E (.fn 63) [x0, x1] h) fun x30 h30 =>
   kr x30 h30)
   (ob (xbin PP .eql 3 true x8 (.int .i64 4)) fun x32 =>
   pIf x32
    (obP (E (.fn 64) [x0, x1] h) fun x35 h35 =>
    kr x35 h35)
    (ob (xbin PP .eql 3 true x8 (.int .i64 5)) fun x37 =>
    pIf x37
     (obP (E (.fn 62) [x0, x1] h) fun x40 h40 =>
     kr x40 h40)
     (ob (xbin PP .eql 3 true x8 (.int .i64 6)) fun x42 =>
     pIf x42
      (obP (E (.fn 65) [x0, x1] h) fun x45 h45 =>
      kr x45 h45)
      (ob (xbin PP .eql 3 true x8 (.int .i64 7)) fun x47 =>
      pIf x47
       (ob (xlen PP h 67 x1) fun x49 =>
       ob (xbin PP .eql 3 true x49 (.int .i64 1)) fun x50 =>
       pIf x50
        (ob (xindexAddr PP 67 x1 (.int .i64 0)) fun x53 =>
        ob (pLoad PP 73 x53 h) fun x54 =>
        obP (E (.fn 66) [x54] h) fun x55 h55 =>
        ob (pNil x0) fun x56 =>
        ob (pFieldAddr PP 79 4 x56) fun x57 =>
        ob (pStore PP 73 x57 x55 h55) fun h0 =>
        f43_4 E kr x1 h0)
        (f43_4 E kr x1 h))
       (ob (xbin PP .eql 3 true x8 (.int .i64 8)) fun x62 =>
       pIf x62
        (f43_5 E kn kr x0 x1 x8 x62 h)
        (ob (xbin PP .eql 3 true x8 (.int .i64 9)) fun x63 =>
        f43_5 E kn kr x0 x1 x8 x63 h))))))
theorem f43_3_eq (E : Ev) (kn : K) (kx : Nat → K) (kr : K) : f43_3 E (fun y1 h => kn (mkE [(1, y1)]) h) (fun y4 h => kr (mkE [(4, y4)]) h) = fun x0 x1 x8 x25 h => R43 E (pb (pb (pb (pa (pb (pa (pb (codeOf fn43)))))))) true 2 (fun i => sel (Nat.beq i 0) 2 ((fun _ => 0) i)) kn kx kr (mkE [(0, x0), (1, x1), (8, x8), (25, x25)]) h := by
  funext x0 x1 x8 x25 h
  unfold f43_3
  rw [f43_4_eq E kn kx kr, f43_5_eq E kn kx kr]
  refine Eq.trans ?_ (R43_unf E _ _ _ _ _ _ _ _).symm
  generalize R43 E = R
  generalize LL = L
  generalize PP = P
  revert R L P
  refine id ?_
  intro R L P
  kernel_rfl
/-- (*theodolite/script.Command).rest -/
def s43 (E : Ev) (x0 x1 : AV) (h : Heap) : Res :=
  ob (pNil x0) fun x6 =>
  ob (pFieldAddr PP 79 0 x6) fun x7 =>
  ob (pLoad PP 3 x7 h) fun x8 =>
  ob (xbin PP .eql 3 true x8 (.int .i64 1)) fun x10 =>
  pIf x10
   (ob (xlen PP h 67 x1) fun x12 =>
   ob (xbin PP .eql 3 true x12 (.int .i64 1)) fun x13 =>
   pIf x13
    (ob (xindexAddr PP 67 x1 (.int .i64 0)) fun x17 =>
    ob (pLoad PP 73 x17 h) fun x18 =>
    obP (E (.fn 39) [x18] h) fun x19 h19 =>
    ob (pExtract 0 x19) fun x20 =>
    ob (pExtract 1 x19) fun x21 =>
    ob (pNil x0) fun x22 =>
    ob (pFieldAddr PP 79 1 x22) fun x23 =>
    ob (pStore PP 9 x23 x20 h19) fun h0 =>
    f43_2 E r43 x21 h0)
    (f43_2 E r43 (.bool false) h))
   (ob (xbin PP .eql 3 true x8 (.int .i64 2)) fun x26 =>
   pIf x26
    (f43_3 E (f43_1 E r43) r43 x0 x1 x8 x26 h)
    (ob (xbin PP .eql 3 true x8 (.int .i64 3)) fun x27 =>
    f43_3 E (f43_1 E r43) r43 x0 x1 x8 x27 h))
theorem s43_eq (E : Ev) (x0 x1 : AV) (h : Heap) : xbodyR PP GG CC E LL fn43 [x0, x1] h = s43 E x0 x1 h := by
  unfold s43
  rw [r43_eq, f43_1_eq E (xret PP fn43) noK (xret PP fn43), f43_2_eq E (R43 E (pb (pb (codeOf fn43))) true 16 (fun _ => 0) (xret PP fn43) noK (xret PP fn43)) (fun i => sel (Nat.beq i 0) (R43 E (pb (pb (codeOf fn43))) true 16 (fun _ => 0) (xret PP fn43) noK (xret PP fn43)) (noK i)) (xret PP fn43), f43_3_eq E (R43 E (pb (pb (codeOf fn43))) true 16 (fun _ => 0) (xret PP fn43) noK (xret PP fn43)) (fun i => sel (Nat.beq i 0) (R43 E (pb (pb (codeOf fn43))) true 16 (fun _ => 0) (xret PP fn43) noK (xret PP fn43)) (noK i)) (xret PP fn43)]
  refine (bodyR_unf (c := (codeOf fn43)) (by kernel_rfl) (by kernel_rfl)).trans ?_
  show runS (R43 E) PP GG CC E fn43.ntmps LL none (resBits fn43.results.toList) (codeOf fn43) _ _ _ _ _ _ _ = _
  generalize R43 E = R
  generalize LL = L
  generalize PP = P
  symm
  revert R L P
  refine id ?_
  intro R L P
  kernel_rfl
def fn44 : Func := fnAt PP 44
def R44 (E : Ev) : RT := runR PP GG CC E 26 LL none 48
theorem R44_unf (E : Ev) (c : Code) (lv : Nat) (lx : Nat → Nat) (kn : K) (kx : Nat → K) (kr : K) (e : Env) (h : Heap) : R44 E c true lv lx kn kx kr e h = runS (R44 E) PP GG CC E 26 LL none 48 c lv lx kn kx kr e h := runR_unf _ _ _ _ _ _ _ _
def r44 (x4 x5 : AV) (h : Heap) : Res := some (.tuple [x4, x5], h)
theorem r44_eq : r44 = fun x4 x5 h => xret PP fn44 (mkE [(4, x4), (5, x5)]) h := by kernel_rfl
/-- (*theodolite/sorts.Table).FindSort -/
def s44 (E : Ev) (x0 x1 : AV) (h : Heap) : Res :=
  ob (xbin PP .eql 35 true x0 .nilPtr) fun x9 =>
  pIf x9
   (r44 (.int .i64 0) (.bool false) h)
   (ob (xbin PP .eql 9 true x1 (.str 4 1819242306)) fun x12 =>
   pIf x12
    (r44 (.int .i64 0) (.bool true) h)
    (ob (xbin PP .eql 9 true x1 (.str 4 1818322258)) fun x15 =>
    pIf x15
     (r44 (.int .i64 1) (.bool true) h)
     (ob (pNil x0) fun x17 =>
     ob (pFieldAddr PP 89 0 x17) fun x18 =>
     ob (pLoad PP 27 x18 h) fun x19 =>
     obP (E (.fn 40) [x19, x1] h) fun x21 h21 =>
     ob (xbin PP .lss 3 true x21 (.int .i64 0)) fun x23 =>
     pIf x23
      (r44 (.int .i64 0) (.bool false) h21)
      (ob (xbin PP .add 3 true (.int .i64 2) x21) fun x25 =>
      r44 x25 (.bool true) h21))))
theorem s44_eq (E : Ev) (x0 x1 : AV) (h : Heap) : xbodyR PP GG CC E LL fn44 [x0, x1] h = s44 E x0 x1 h := by
  unfold s44
  rw [r44_eq]
  refine (bodyR_unf (c := (codeOf fn44)) (by kernel_rfl) (by kernel_rfl)).trans ?_
  show runS (R44 E) PP GG CC E fn44.ntmps LL none (resBits fn44.results.toList) (codeOf fn44) _ _ _ _ _ _ _ = _
  generalize R44 E = R
  generalize LL = L
  generalize PP = P
  symm
  revert R L P
  refine id ?_
  intro R L P
  kernel_rfl
def fn45 : Func := fnAt PP 45
def R45 (E : Ev) : RT := runR PP GG CC E 6 LL none 4
theorem R45_unf (E : Ev) (c : Code) (lv : Nat) (lx : Nat → Nat) (kn : K) (kx : Nat → K) (kr : K) (e : Env) (h : Heap) : R45 E c true lv lx kn kx kr e h = runS (R45 E) PP GG CC E 6 LL none 4 c lv lx kn kx kr e h := runR_unf _ _ _ _ _ _ _ _
def r45 (x2 : AV) (h : Heap) : Res := some (x2, h)
theorem r45_eq : r45 = fun x2 h => xret PP fn45 (mkE [(2, x2)]) h := by kernel_rfl
/-- theodolite/sorts.Reserved -/
def s45 (E : Ev) (x0 : AV) (h : Heap) : Res :=
  obP (E (.fn 41) [(.str 100 2979264086371278432919572328092243305837750632817776913804469502988164464830372063918115138735219755850161318952509741450305190720906660566727932541247083806060405202136942366418754848007894832361763076048500533038649710888471839426940858996)] h) fun x3 h3 =>
  obP (E (.fn 28) [x3, x0] h3) fun x5 h5 =>
  r45 x5 h5
theorem s45_eq (E : Ev) (x0 : AV) (h : Heap) : xbodyR PP GG CC E LL fn45 [x0] h = s45 E x0 h := by
  unfold s45
  rw [r45_eq]
  refine (bodyR_unf (c := (codeOf fn45)) (by kernel_rfl) (by kernel_rfl)).trans ?_
  show runS (R45 E) PP GG CC E fn45.ntmps LL none (resBits fn45.results.toList) (codeOf fn45) _ _ _ _ _ _ _ = _
  generalize R45 E = R
  generalize LL = L
  generalize PP = P
  symm
  revert R L P
  refine id ?_
  intro R L P
  kernel_rfl
def fn46 : Func := fnAt PP 46
def R46 (E : Ev) : RT := runR PP GG CC E 43 LL none 48
theorem R46_unf (E : Ev) (c : Code) (lv : Nat) (lx : Nat → Nat) (kn : K) (kx : Nat → K) (kr : K) (e : Env) (h : Heap) : R46 E c true lv lx kn kx kr e h = runS (R46 E) PP GG CC E 43 LL none 48 c lv lx kn kx kr e h := runR_unf _ _ _ _ _ _ _ _
def r46 (x4 x5 : AV) (h : Heap) : Res := some (.tuple [x4, x5], h)
theorem r46_eq : r46 = fun x4 x5 h => xret PP fn46 (mkE [(4, x4), (5, x5)]) h := by kernel_rfl
def f46_2 (E : Ev) (kr : AV → AV → Heap → Res) (x6 x7 : AV) (h : Heap) : Res :=
  kr x6 x7 h
theorem f46_2_eq (E : Ev) (kn : K) (kx : Nat → K) (kr : K) : f46_2 E (fun y4 y5 h => kr (mkE [(4, y4), (5, y5)]) h) = fun x6 x7 h => R46 E (pb (pb (pb (pb (codeOf fn46))))) true 48 (fun _ => 0) kn kx kr (mkE [(6, x6), (7, x7)]) h := by
  funext x6 x7 h
  unfold f46_2
  refine Eq.trans ?_ (R46_unf E _ _ _ _ _ _ _ _).symm
  generalize R46 E = R
  generalize LL = L
  generalize PP = P
  revert R L P
  refine id ?_
  intro R L P
  kernel_rfl
def f46_1 (E : Ev) (kr : AV → AV → Heap → Res) (x0 x1 : AV) (h : Heap) : Res :=
  ob (xbin PP .eql 36 true x0 .nilPtr) fun x9 =>
  ob (pWant x9 false) fun c =>
  ob (sel c (some x0) (some (.tuple []))) fun x11 =>
  ob (pWant x9 false) fun c_1 =>
  ob (sel c_1 (pNil x11) (some (.tuple []))) fun x12 =>
  ob (pWant x9 false) fun c_2 =>
  ob (sel c_2 (pFieldAddr PP 100 0 x12) (some (.tuple []))) fun x13 =>
  ob (pWant x9 false) fun c_3 =>
  ob (sel c_3 (pLoad PP 35 x13 h) (some (.tuple []))) fun x14 =>
  ob (pWant x9 false) fun c_4 =>
  ob (sel c_4 (some x1) (some (.tuple []))) fun x15 =>
  ob (pWant x9 false) fun c_5 =>
  obP (sel c_5 (E (.fn 32) [x14, x15] h) (some (.tuple [], h))) fun x16 h16 =>
  ob (pWant x9 false) fun c_6 =>
  ob (sel c_6 (xun .not x16) (some (.tuple []))) fun x17 =>
  ob (pPick x9 (some (.bool true)) (some x17)) fun x18 =>
  pIf x18
   (kr (.int .i64 0) (.int .i64 1) h16)
   (ob (pNil x0) fun x22 =>
   ob (pFieldAddr PP 100 4 x22) fun x23 =>
   ob (pLoad PP 3 x23 h16) fun x24 =>
   obP (E (.fn 70) [x24] h16) fun x25 h25 =>
   ob (xbin PP .add 9 true (.str 1 124) x25) fun x26 =>
   ob (xbuild PP 143 [(0, (.int .i64 12)), (1, x26), (4, x1)]) fun x28 =>
   obP (E (.fn 69) [x0, x28] h25) fun x29 h29 =>
   ob (pExtract 0 x29) fun x30 =>
   ob (pExtract 1 x29) fun x31 =>
   ob (xbin PP .eql 29 true x31 (.int .i64 0)) fun x33 =>
   pIf x33
    (ob (pNil x0) fun x35 =>
    ob (pFieldAddr PP 100 4 x35) fun x36 =>
    ob (pLoad PP 3 x36 h29) fun x37 =>
    ob (xbin PP .add 3 true x37 (.int .i64 1)) fun x38 =>
    ob (pNil x0) fun x39 =>
    ob (pFieldAddr PP 100 4 x39) fun x40 =>
    ob (pStore PP 3 x40 x38 h29) fun h0 =>
    f46_2 E kr x30 x31 h0)
    (f46_2 E kr x30 x31 h29))
theorem f46_1_eq (E : Ev) (kn : K) (kx : Nat → K) (kr : K) : f46_1 E (fun y4 y5 h => kr (mkE [(4, y4), (5, y5)]) h) = fun x0 x1 h => R46 E (pb (codeOf fn46)) true 48 (fun _ => 0) kn kx kr (mkE [(0, x0), (1, x1)]) h := by
  funext x0 x1 h
  unfold f46_1
  rw [f46_2_eq E kn kx kr]
  refine Eq.trans ?_ (R46_unf E _ _ _ _ _ _ _ _).symm
  generalize R46 E = R
  generalize LL = L
  generalize PP = P
  revert R L P
  refine id ?_
  intro R L P
  kernel_rfl
/-- (*theodolite/term.Table).Fresh -/
def s46 (E : Ev) (x0 x1 : AV) (h : Heap) : Res :=
  f46_1 E r46 x0 x1 h
theorem s46_eq (E : Ev) (x0 x1 : AV) (h : Heap) : xbodyR PP GG CC E LL fn46 [x0, x1] h = s46 E x0 x1 h := by
  unfold s46
  rw [r46_eq, f46_1_eq E (xret PP fn46) noK (xret PP fn46)]
  refine (bodyR_unf (c := (codeOf fn46)) (by kernel_rfl) (by kernel_rfl)).trans ?_
  show runS (R46 E) PP GG CC E fn46.ntmps LL none (resBits fn46.results.toList) (codeOf fn46) _ _ _ _ _ _ _ = _
  generalize R46 E = R
  generalize LL = L
  generalize PP = P
  symm
  revert R L P
  refine id ?_
  intro R L P
  kernel_rfl
end
end S14
