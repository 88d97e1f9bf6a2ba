/- Own texts of this proof: Sh14d. -/
import Derived.Test.YtcjmeaghecmgeaaGreatDoorBase
set_option autoImplicit true
set_option relaxedAutoImplicit true
set_option linter.all false
open Go Go.Th Go.Proofs
set_option maxRecDepth 100000
set_option linter.unusedVariables false
namespace S14
noncomputable section
def fn139 : Func := fnAt PP 139
def R139 (E : Ev) : RT := runR PP GG CC E 36 LL none 16
theorem R139_unf (E : Ev) (c : Code) (lv : Nat) (lx : Nat → Nat) (kn : K) (kx : Nat → K) (kr : K) (e : Env) (h : Heap) : R139 E c true lv lx kn kx kr e h = runS (R139 E) PP GG CC E 36 LL none 16 c lv lx kn kx kr e h := runR_unf _ _ _ _ _ _ _ _
def r139 (x4 : AV) (h : Heap) : Res := some (x4, h)
theorem r139_eq : r139 = fun x4 h => xret PP fn139 (mkE [(4, x4)]) h := by kernel_rfl
def f139_1 (E : Ev) (kr : AV → Heap → Res) (x5 : AV) (h : Heap) : Res :=
  obP (E (.fn 140) [x5] h) fun x35 h35 =>
  kr x35 h35
theorem f139_1_eq (E : Ev) (kn : K) (kx : Nat → K) (kr : K) : f139_1 E (fun y4 h => kr (mkE [(4, y4)]) h) = fun x5 h => R139 E (pb (pb (pb (codeOf fn139)))) true 16 (fun _ => 0) kn kx kr (mkE [(5, x5)]) h := by
  funext x5 h
  unfold f139_1
  refine Eq.trans ?_ (R139_unf E _ _ _ _ _ _ _ _).symm
  generalize R139 E = R
  generalize LL = L
  generalize PP = P
  revert R L P
  refine id ?_
  intro R L P
  kernel_rfl
def f139_2 (E : Ev) (kn : AV → AV → AV → AV → AV → Heap → Res) (k0 : AV → Heap → Res) (x0 x5 x15 x16 x17 : AV) (h : Heap) : Res :=
  ob (xbin PP .lss 3 false x17 x16) fun x18 =>
  pIf x18
   (ob (xindexAddr PP 139 x15 x17) fun x20 =>
   ob (pLoad PP 208 x20 h) fun x21 =>
   ob (xlen PP h 139 x0) fun x26 =>
   ob (xbin PP .add 3 false x17 x26) fun x27 =>
   ob (xbin PP .add 3 true x27 (.int .i64 1)) fun x28 =>
   obP (xslice PP h 139 x5 (some x17) (some x28) none) fun x29 h29 =>
   obP (E (.fn 178) [x29, x0, x21] h29) fun x32 h32 =>
   ob (xbin PP .add 3 true x17 (.int .i64 1)) fun x33 =>
   kn x0 x5 x15 x16 x33 h32)
   (k0 x5 h)
theorem f139_2_eq (E : Ev) (kn : K) (kx : Nat → K) (kr : K) (e0 : K) (he0 : kx 0 = e0) : f139_2 E (fun y0 y5 y15 y16 y17 h => kn (mkE [(0, y0), (5, y5), (15, y15), (16, y16), (17, y17)]) h) (fun y5 h => e0 (mkE [(5, y5)]) h) = fun x0 x5 x15 x16 x17 h => R139 E (pa (pa (pb (pa (pb (pb (codeOf fn139))))))) true 229409 (fun i => sel (Nat.beq i 0) 32 ((fun _ => 0) i)) kn kx kr (mkE [(0, x0), (5, x5), (15, x15), (16, x16), (17, x17)]) h := by
  subst he0
  funext x0 x5 x15 x16 x17 h
  unfold f139_2
  refine Eq.trans ?_ (R139_unf E _ _ _ _ _ _ _ _).symm
  generalize R139 E = R
  generalize LL = L
  generalize PP = P
  revert R L P
  refine id ?_
  intro R L P
  kernel_rfl
/-- theodolite/nat.Times -/
def s139 (E : Ev) (x0 x1 : AV) (h : Heap) : Res :=
  ob (xlen PP h 139 x0) fun x9 =>
  ob (xlen PP h 139 x1) fun x11 =>
  ob (xbin PP .add 3 false x9 x11) fun x12 =>
  ob (xbin PP .add 3 true x12 (.int .i64 1)) fun x13 =>
  obP (xmake PP h 139 x13 x13) fun x14 h14 =>
  ob (xlen PP h14 139 x1) fun x16 =>
  lp b5 (fun k => f139_2 E k (f139_1 E r139)) LL x0 x14 x1 x16 (.int .i64 0) h14
theorem s139_eq (E : Ev) (x0 x1 : AV) (h : Heap) : xbodyR PP GG CC E LL fn139 [x0, x1] h = s139 E x0 x1 h := by
  unfold s139
  rw [r139_eq, f139_1_eq E (xret PP fn139) noK (xret PP fn139), lp5_eq 0 5 15 16 17 (fun k => (R139 E (pa (pa (pb (pa (pb (pb (codeOf fn139))))))) true 229409 (fun i => sel (Nat.beq i 0) 32 ((fun _ => 0) i)) k (fun i => sel (Nat.beq i 0) (R139 E (pb (pb (pb (codeOf fn139)))) true 16 (fun _ => 0) (xret PP fn139) noK (xret PP fn139)) (noK i)) (xret PP fn139))) (fun k => f139_2 E k (fun y5 h => (R139 E (pb (pb (pb (codeOf fn139)))) true 16 (fun _ => 0) (xret PP fn139) noK (xret PP fn139)) (mkE [(5, y5)]) h)) (fun k => f139_2_eq E k (fun i => sel (Nat.beq i 0) (R139 E (pb (pb (pb (codeOf fn139)))) true 16 (fun _ => 0) (xret PP fn139) noK (xret PP fn139)) (noK i)) (xret PP fn139) (R139 E (pb (pb (pb (codeOf fn139)))) true 16 (fun _ => 0) (xret PP fn139) noK (xret PP fn139)) rfl) LL]
  refine (bodyR_unf (c := (codeOf fn139)) (by kernel_rfl) (by kernel_rfl)).trans ?_
  show runS (R139 E) PP GG CC E fn139.ntmps LL none (resBits fn139.results.toList) (codeOf fn139) _ _ _ _ _ _ _ = _
  generalize R139 E = R
  generalize LL = L
  generalize PP = P
  symm
  revert R L P
  refine id ?_
  intro R L P
  kernel_rfl
def fn140 : Func := fnAt PP 140
def R140 (E : Ev) : RT := runR PP GG CC E 24 LL none 4
theorem R140_unf (E : Ev) (c : Code) (lv : Nat) (lx : Nat → Nat) (kn : K) (kx : Nat → K) (kr : K) (e : Env) (h : Heap) : R140 E c true lv lx kn kx kr e h = runS (R140 E) PP GG CC E 24 LL none 4 c lv lx kn kx kr e h := runR_unf _ _ _ _ _ _ _ _
def r140 (x2 : AV) (h : Heap) : Res := some (x2, h)
theorem r140_eq : r140 = fun x2 h => xret PP fn140 (mkE [(2, x2)]) h := by kernel_rfl
def f140_1 (E : Ev) (kr : AV → Heap → Res) (x0 : AV) (h : Heap) : Res :=
  ob (xlen PP h 139 x0) fun x21 =>
  ob (xbin PP .eql 3 true x21 (.int .i64 0)) fun x22 =>
  pIf x22
   (kr .nilSlice h)
   (kr x0 h)
theorem f140_1_eq (E : Ev) (kn : K) (kx : Nat → K) (kr : K) : f140_1 E (fun y2 h => kr (mkE [(2, y2)]) h) = fun x0 h => R140 E (pb (pb (codeOf fn140))) true 4 (fun _ => 0) kn kx kr (mkE [(0, x0)]) h := by
  funext x0 h
  unfold f140_1
  refine Eq.trans ?_ (R140_unf E _ _ _ _ _ _ _ _).symm
  generalize R140 E = R
  generalize LL = L
  generalize PP = P
  revert R L P
  refine id ?_
  intro R L P
  kernel_rfl
def f140_2 (E : Ev) (kn : AV → Heap → Res) (k0 : AV → Heap → Res) (x0 : AV) (h : Heap) : Res :=
  ob (xlen PP h 139 x0) fun x4 =>
  ob (xbin PP .gtr 3 true x4 (.int .i64 0)) fun x5 =>
  ob (pWant x5 true) fun c =>
  ob (sel c (some x0) (some (.tuple []))) fun x7 =>
  ob (pWant x5 true) fun c_1 =>
  ob (sel c_1 (some x0) (some (.tuple []))) fun x8 =>
  ob (pWant x5 true) fun c_2 =>
  ob (sel c_2 (xlen PP h 139 x8) (some (.tuple []))) fun x9 =>
  ob (pWant x5 true) fun c_3 =>
  ob (sel c_3 (xbin PP .sub 3 true x9 (.int .i64 1)) (some (.tuple []))) fun x10 =>
  ob (pWant x5 true) fun c_4 =>
  ob (sel c_4 (xindexAddr PP 139 x7 x10) (some (.tuple []))) fun x11 =>
  ob (pWant x5 true) fun c_5 =>
  ob (sel c_5 (pLoad PP 208 x11 h) (some (.tuple []))) fun x12 =>
  ob (pWant x5 true) fun c_6 =>
  ob (sel c_6 (xbin PP .eql 208 true x12 (.int .u64 0)) (some (.tuple []))) fun x13 =>
  ob (pPick x5 (some x13) (some (.bool false))) fun x14 =>
  pIf x14
   (ob (xlen PP h 139 x0) fun x17 =>
   ob (xbin PP .sub 3 true x17 (.int .i64 1)) fun x18 =>
   obP (xslice PP h 139 x0 none (some x18) none) fun x19 h19 =>
   kn x19 h19)
   (k0 x0 h)
theorem f140_2_eq (E : Ev) (kn : K) (kx : Nat → K) (kr : K) (e0 : K) (he0 : kx 0 = e0) : f140_2 E (fun y0 h => kn (mkE [(0, y0)]) h) (fun y0 h => e0 (mkE [(0, y0)]) h) = fun x0 h => R140 E (pa (pa (pa (pb (codeOf fn140))))) true 1 (fun i => sel (Nat.beq i 0) 1 ((fun _ => 0) i)) kn kx kr (mkE [(0, x0)]) h := by
  subst he0
  funext x0 h
  unfold f140_2
  refine Eq.trans ?_ (R140_unf E _ _ _ _ _ _ _ _).symm
  generalize R140 E = R
  generalize LL = L
  generalize PP = P
  revert R L P
  refine id ?_
  intro R L P
  kernel_rfl
/-- theodolite/nat.trim -/
def s140 (E : Ev) (x0 : AV) (h : Heap) : Res :=
  lp b1 (fun k => f140_2 E k (f140_1 E r140)) LL x0 h
theorem s140_eq (E : Ev) (x0 : AV) (h : Heap) : xbodyR PP GG CC E LL fn140 [x0] h = s140 E x0 h := by
  unfold s140
  rw [r140_eq, f140_1_eq E (xret PP fn140) noK (xret PP fn140), lp1_eq 0 (fun k => (R140 E (pa (pa (pa (pb (codeOf fn140))))) true 1 (fun i => sel (Nat.beq i 0) 1 ((fun _ => 0) i)) k (fun i => sel (Nat.beq i 0) (R140 E (pb (pb (codeOf fn140))) true 4 (fun _ => 0) (xret PP fn140) noK (xret PP fn140)) (noK i)) (xret PP fn140))) (fun k => f140_2 E k (fun y0 h => (R140 E (pb (pb (codeOf fn140))) true 4 (fun _ => 0) (xret PP fn140) noK (xret PP fn140)) (mkE [(0, y0)]) h)) (fun k => f140_2_eq E k (fun i => sel (Nat.beq i 0) (R140 E (pb (pb (codeOf fn140))) true 4 (fun _ => 0) (xret PP fn140) noK (xret PP fn140)) (noK i)) (xret PP fn140) (R140 E (pb (pb (codeOf fn140))) true 4 (fun _ => 0) (xret PP fn140) noK (xret PP fn140)) rfl) LL]
  refine (bodyR_unf (c := (codeOf fn140)) (by kernel_rfl) (by kernel_rfl)).trans ?_
  show runS (R140 E) PP GG CC E fn140.ntmps LL none (resBits fn140.results.toList) (codeOf fn140) _ _ _ _ _ _ _ = _
  generalize R140 E = R
  generalize LL = L
  generalize PP = P
  symm
  revert R L P
  refine id ?_
  intro R L P
  kernel_rfl
def fn141 : Func := fnAt PP 141
def R141 (E : Ev) : RT := runR PP GG CC E 125 LL none 16
theorem R141_unf (E : Ev) (c : Code) (lv : Nat) (lx : Nat → Nat) (kn : K) (kx : Nat → K) (kr : K) (e : Env) (h : Heap) : R141 E c true lv lx kn kx kr e h = runS (R141 E) PP GG CC E 125 LL none 16 c lv lx kn kx kr e h := runR_unf _ _ _ _ _ _ _ _
def r141 (x4 : AV) (h : Heap) : Res := some (x4, h)
theorem r141_eq : r141 = fun x4 h => xret PP fn141 (mkE [(4, x4)]) h := by kernel_rfl
def f141_5 (E : Ev) (kr : AV → Heap → Res) (x9 : AV) (h : Heap) : Res :=
  obP (E (.fn 121) [x9] h) fun x124 h124 =>
  kr x124 h124
theorem f141_5_eq (E : Ev) (kn : K) (kx : Nat → K) (kr : K) : f141_5 E (fun y4 h => kr (mkE [(4, y4)]) h) = fun x9 h => R141 E (pb (pb (pb (pb (pb (pb (pb (pb (pb (pb (pb (pb (pb (pb (codeOf fn141))))))))))))))) true 16 (fun _ => 0) kn kx kr (mkE [(9, x9)]) h := by
  funext x9 h
  unfold f141_5
  refine Eq.trans ?_ (R141_unf E _ _ _ _ _ _ _ _).symm
  generalize R141 E = R
  generalize LL = L
  generalize PP = P
  revert R L P
  refine id ?_
  intro R L P
  kernel_rfl
def f141_6 (E : Ev) (kn : AV → AV → AV → Heap → Res) (k3 : AV → Heap → Res) (x7 x8 x9 : AV) (h : Heap) : Res :=
  obP (E (.fn 182) [x9] h) fun x111 h111 =>
  ob (xbin PP .lss 3 false x111 x7) fun x113 =>
  pIf x113
   (obP (E (.fn 182) [x9] h111) fun x115 h115 =>
   ob (xbin PP .sub 3 false x7 x115) fun x116 =>
   obP (E (.fn 182) [x9] h115) fun x117 h117 =>
   ob (none) fun x119 =>
   obP (E (.fn 121) [x9] h117) fun x120 h120 =>
   obP (xslice PP h120 9 x120 none (some x119) none) fun x122 h122 =>
   obP (E (.fn 117) [x9, x122] h122) fun x123 h123 =>
   kn x7 x8 x9 h123)
   (k3 x9 h111)
theorem f141_6_eq (E : Ev) (kn : K) (kx : Nat → K) (kr : K) (e3 : K) (he3 : kx 3 = e3) : f141_6 E (fun y7 y8 y9 h => kn (mkE [(7, y7), (8, y8), (9, y9)]) h) (fun y9 h => e3 (mkE [(9, y9)]) h) = fun x7 x8 x9 h => R141 E (pa (pa (pa (pb (pb (pb (pb (pb (pb (pb (pb (pb (pb (pb (pb (pb (codeOf fn141))))))))))))))))) true 896 (fun i => sel (Nat.beq i 3) 512 ((fun _ => 0) i)) kn kx kr (mkE [(7, x7), (8, x8), (9, x9)]) h := by
  subst he3
  funext x7 x8 x9 h
  unfold f141_6
  refine Eq.trans ?_ (R141_unf E _ _ _ _ _ _ _ _).symm
  generalize R141 E = R
  generalize LL = L
  generalize PP = P
  revert R L P
  refine id ?_
  intro R L P
  kernel_rfl
def f141_4 (E : Ev) (kr : AV → Heap → Res) (x0 x7 x8 : AV) (h : Heap) : Res :=
  obP (ob (zeroC PP 204) fun z => some (pNew h 204 z)) fun x9 h9 =>
  obP (E (.fn 181) [x9, x7] h9) fun x108 h108 =>
  obP (E (.fn 117) [x9, x0] h108) fun x110 h110 =>
  lp b3 (fun k => f141_6 E k (f141_5 E kr)) LL x7 x8 x9 h110
theorem f141_4_eq (E : Ev) (kn : K) (kx : Nat → K) (kr : K) : f141_4 E (fun y4 h => kr (mkE [(4, y4)]) h) = fun x0 x7 x8 h => R141 E (pb (pb (pb (pb (pb (pb (pb (pb (pb (pb (codeOf fn141))))))))))) true 16 (fun _ => 0) kn kx kr (mkE [(0, x0), (7, x7), (8, x8)]) h := by
  funext x0 x7 x8 h
  unfold f141_4
  rw [f141_5_eq E kn kx kr, lp3_eq 7 8 9 (fun k => (R141 E (pa (pa (pa (pb (pb (pb (pb (pb (pb (pb (pb (pb (pb (pb (pb (pb (codeOf fn141))))))))))))))))) true 896 (fun i => sel (Nat.beq i 3) 512 ((fun _ => 0) i)) k (fun i => sel (Nat.beq i 3) (R141 E (pb (pb (pb (pb (pb (pb (pb (pb (pb (pb (pb (pb (pb (pb (codeOf fn141))))))))))))))) true 16 (fun _ => 0) kn kx kr) (kx i)) kr)) (fun k => f141_6 E k (fun y9 h => (R141 E (pb (pb (pb (pb (pb (pb (pb (pb (pb (pb (pb (pb (pb (pb (codeOf fn141))))))))))))))) true 16 (fun _ => 0) kn kx kr) (mkE [(9, y9)]) h)) (fun k => f141_6_eq E k (fun i => sel (Nat.beq i 3) (R141 E (pb (pb (pb (pb (pb (pb (pb (pb (pb (pb (pb (pb (pb (pb (codeOf fn141))))))))))))))) true 16 (fun _ => 0) kn kx kr) (kx i)) kr (R141 E (pb (pb (pb (pb (pb (pb (pb (pb (pb (pb (pb (pb (pb (pb (codeOf fn141))))))))))))))) true 16 (fun _ => 0) kn kx kr) rfl) LL]
  refine Eq.trans ?_ (R141_unf E _ _ _ _ _ _ _ _).symm
  generalize R141 E = R
  generalize LL = L
  generalize PP = P
  revert R L P
  refine id ?_
  intro R L P
  kernel_rfl
def f141_3 (E : Ev) (kr : AV → Heap → Res) (x0 x7 : AV) (h : Heap) : Res :=
  ob (xbin PP .gtr 3 true x7 (.int .i64 8192)) fun x96 =>
  pIf x96
   (ob (xlen PP h 9 x0) fun x98 =>
   ob (xbin PP .quo 3 true (.int .i64 8192) x98) fun x99 =>
   ob (xlen PP h 9 x0) fun x101 =>
   ob (xbin PP .mul 3 false x99 x101) fun x102 =>
   ob (xbin PP .eql 3 true x102 (.int .i64 0)) fun x104 =>
   pIf x104
    (ob (xlen PP h 9 x0) fun x106 =>
    f141_4 E kr x0 x7 x106 h)
    (f141_4 E kr x0 x7 x102 h))
   (f141_4 E kr x0 x7 x7 h)
theorem f141_3_eq (E : Ev) (kn : K) (kx : Nat → K) (kr : K) : f141_3 E (fun y4 h => kr (mkE [(4, y4)]) h) = fun x0 x7 h => R141 E (pb (pb (pb (pb (pb (pb (pb (pb (codeOf fn141))))))))) true 16 (fun _ => 0) kn kx kr (mkE [(0, x0), (7, x7)]) h := by
  funext x0 x7 h
  unfold f141_3
  rw [f141_4_eq E kn kx kr]
  refine Eq.trans ?_ (R141_unf E _ _ _ _ _ _ _ _).symm
  generalize R141 E = R
  generalize LL = L
  generalize PP = P
  revert R L P
  refine id ?_
  intro R L P
  kernel_rfl
def f141_7 (E : Ev) (kn : AV → AV → Heap → Res) (kr : AV → Heap → Res) (x0 x7 x43 : AV) (h : Heap) : Res :=
  pIf x43
   (ob (xbin PP .leq 3 true x7 (.int .i64 128)) fun x51 =>
   ob (pWant x51 true) fun c =>
   ob (sel c (some x0) (some (.tuple []))) fun x53 =>
   ob (pWant x51 true) fun c_1 =>
   obP (sel c_1 (E (.fn 180) [(.str 128 22559286398272199626406967100097565284617750323981886402940245478617433826572669883320279507125651579120955467277978774294436363145338556548122030511620282274857147410179198152320278538195588281656857468496941900403218909156701224341824390342378319957753789576104947230111026941299415379430319225678334009376), x53] h) (some (.tuple [], h))) fun x54 h54 =>
   ob (pPick x51 (some x54) (some (.bool false))) fun x55 =>
   pIf x55
    (obP (xslice PP h54 9 (.str 128 22559286398272199626406967100097565284617750323981886402940245478617433826572669883320279507125651579120955467277978774294436363145338556548122030511620282274857147410179198152320278538195588281656857468496941900403218909156701224341824390342378319957753789576104947230111026941299415379430319225678334009376) none (some x7) none) fun x57 h57 =>
    kr x57 h57)
    (ob (xbin PP .leq 3 true x7 (.int .i64 128)) fun x60 =>
    ob (pWant x60 true) fun c_2 =>
    ob (sel c_2 (some x0) (some (.tuple []))) fun x62 =>
    ob (pWant x60 true) fun c_3 =>
    obP (sel c_3 (E (.fn 180) [(.str 128 31723996497570280724634797484512201181493711393099527754134720204305766318617817023419143056895447533138843625859657651351551135673132345145796605406966021949017863545564497401700391694337546021079955815073824547442026591001611096730690548918969512440591266591397582042343631636202302877323886411110157200685), x62] h54) (some (.tuple [], h54))) fun x63 h63 =>
    ob (pPick x60 (some x63) (some (.bool false))) fun x64 =>
    pIf x64
     (obP (xslice PP h63 9 (.str 128 31723996497570280724634797484512201181493711393099527754134720204305766318617817023419143056895447533138843625859657651351551135673132345145796605406966021949017863545564497401700391694337546021079955815073824547442026591001611096730690548918969512440591266591397582042343631636202302877323886411110157200685) none (some x7) none) fun x66 h66 =>
     kr x66 h66)
     (ob (xbin PP .leq 3 true x7 (.int .i64 64)) fun x69 =>
     ob (pWant x69 true) fun c_4 =>
     ob (sel c_4 (some x0) (some (.tuple []))) fun x71 =>
     ob (pWant x69 true) fun c_5 =>
     obP (sel c_5 (E (.fn 180) [(.str 64 2523822669165665336390404705544629859290233566229156400512670389406449699778550019162705750243181821682829526246867962513647789705778177872269863342321712), x71] h63) (some (.tuple [], h63))) fun x72 h72 =>
     ob (pPick x69 (some x72) (some (.bool false))) fun x73 =>
     pIf x73
      (obP (xslice PP h72 9 (.str 64 2523822669165665336390404705544629859290233566229156400512670389406449699778550019162705750243181821682829526246867962513647789705778177872269863342321712) none (some x7) none) fun x75 h75 =>
      kr x75 h75)
      (ob (xbin PP .leq 3 true x7 (.int .i64 128)) fun x78 =>
      ob (pWant x78 true) fun c_6 =>
      ob (sel c_6 (some x0) (some (.tuple []))) fun x80 =>
      ob (pWant x78 true) fun c_7 =>
      obP (sel c_7 (E (.fn 180) [(.str 128 43003639696706380537838281034560983823802586555090470955604842943614483231904151965079282810458273322699321359498647038498769317245801623419857620662776163086446437250654096477860530963435340161908384549322295497643636045579961708901602744090158672419468161379450055657399145106852010567039046023949324205373), x80] h72) (some (.tuple [], h72))) fun x81 h81 =>
      ob (pPick x78 (some x81) (some (.bool false))) fun x82 =>
      pIf x82
       (obP (xslice PP h81 9 (.str 128 43003639696706380537838281034560983823802586555090470955604842943614483231904151965079282810458273322699321359498647038498769317245801623419857620662776163086446437250654096477860530963435340161908384549322295497643636045579961708901602744090158672419468161379450055657399145106852010567039046023949324205373) none (some x7) none) fun x84 h84 =>
       kr x84 h84)
       (ob (xbin PP .leq 3 true x7 (.int .i64 64)) fun x87 =>
       ob (pWant x87 true) fun c_8 =>
       ob (sel c_8 (some x0) (some (.tuple []))) fun x89 =>
       ob (pWant x87 true) fun c_9 =>
       obP (sel c_9 (E (.fn 180) [(.str 64 473216750468562250573200882289618098616918793667966825096125698013709318708478128593007328170596591565530536171287742971308960569833408351050599376685321), x89] h81) (some (.tuple [], h81))) fun x90 h90 =>
       ob (pPick x87 (some x90) (some (.bool false))) fun x91 =>
       pIf x91
        (obP (xslice PP h90 9 (.str 64 473216750468562250573200882289618098616918793667966825096125698013709318708478128593007328170596591565530536171287742971308960569833408351050599376685321) none (some x7) none) fun x93 h93 =>
        kr x93 h93)
        (kn x0 x7 h90))))))
   (kn x0 x7 h)
theorem f141_7_eq (E : Ev) (kn : K) (kx : Nat → K) (kr : K) : f141_7 E (fun y0 y7 h => kn (mkE [(0, y0), (7, y7)]) h) (fun y4 h => kr (mkE [(4, y4)]) h) = fun x0 x7 x43 h => R141 E (pb (pa (pb (pa (pb (pb (pb (pb (pb (pb (pb (codeOf fn141)))))))))))) true 129 (fun i => sel (Nat.beq i 1) 129 ((fun _ => 0) i)) kn kx kr (mkE [(0, x0), (7, x7), (43, x43)]) h := by
  funext x0 x7 x43 h
  unfold f141_7
  refine Eq.trans ?_ (R141_unf E _ _ _ _ _ _ _ _).symm
  generalize R141 E = R
  generalize LL = L
  generalize PP = P
  revert R L P
  refine id ?_
  intro R L P
  kernel_rfl
def f141_2 (E : Ev) (kr : AV → Heap → Res) (x0 x6 : AV) (h : Heap) : Res :=
  ob (pInt PP 237 3 x6) fun x37 =>
  ob (xlen PP h 9 x0) fun x39 =>
  ob (xbin PP .eql 3 true x39 (.int .i64 0)) fun x40 =>
  pIf x40
   (kr (.str 0 0) h)
   (ob (xindex PP 9 x0 (.int .i64 0)) fun x42 =>
   ob (xbin PP .eql 5 true x42 (.int .u8 32)) fun x44 =>
   pIf x44
    (f141_7 E (f141_3 E kr) kr x0 x37 x44 h)
    (ob (xbin PP .eql 5 true x42 (.int .u8 45)) fun x45 =>
    pIf x45
     (f141_7 E (f141_3 E kr) kr x0 x37 x45 h)
     (ob (xbin PP .eql 5 true x42 (.int .u8 48)) fun x46 =>
     pIf x46
      (f141_7 E (f141_3 E kr) kr x0 x37 x46 h)
      (ob (xbin PP .eql 5 true x42 (.int .u8 61)) fun x47 =>
      pIf x47
       (f141_7 E (f141_3 E kr) kr x0 x37 x47 h)
       (ob (xbin PP .eql 5 true x42 (.int .u8 9)) fun x48 =>
       f141_7 E (f141_3 E kr) kr x0 x37 x48 h)))))
theorem f141_2_eq (E : Ev) (kn : K) (kx : Nat → K) (kr : K) : f141_2 E (fun y4 h => kr (mkE [(4, y4)]) h) = fun x0 x6 h => R141 E (pb (pb (pb (pb (pb (codeOf fn141)))))) true 16 (fun _ => 0) kn kx kr (mkE [(0, x0), (6, x6)]) h := by
  funext x0 x6 h
  unfold f141_2
  rw [f141_3_eq E kn kx kr, f141_7_eq E (R141 E (pb (pb (pb (pb (pb (pb (pb (pb (codeOf fn141))))))))) true 16 (fun _ => 0) kn kx kr) (fun i => sel (Nat.beq i 1) (R141 E (pb (pb (pb (pb (pb (pb (pb (pb (codeOf fn141))))))))) true 16 (fun _ => 0) kn kx kr) (kx i)) kr]
  refine Eq.trans ?_ (R141_unf E _ _ _ _ _ _ _ _).symm
  generalize R141 E = R
  generalize LL = L
  generalize PP = P
  revert R L P
  refine id ?_
  intro R L P
  kernel_rfl
def f141_1 (E : Ev) (kr : AV → Heap → Res) (x0 x1 : AV) (h : Heap) : Res :=
  ob (xlen PP h 9 x0) fun x22 =>
  ob (pInt PP 3 237 x22) fun x23 =>
  ob (pInt PP 3 237 x1) fun x25 =>
  obP (E (.fn 179) [x23, x25] h) fun x26 h26 =>
  ob (pExtract 0 x26) fun x27 =>
  ob (pExtract 1 x26) fun x28 =>
  ob (xbin PP .gtr 237 true x27 (.int .u64 0)) fun x30 =>
  ob (pWant x30 false) fun c =>
  ob (sel c (some x28) (some (.tuple []))) fun x32 =>
  ob (pWant x30 false) fun c_1 =>
  ob (sel c_1 (xbin PP .gtr 237 true x32 (.int .u64 9223372036854775807)) (some (.tuple []))) fun x33 =>
  ob (pPick x30 (some (.bool true)) (some x33)) fun x34 =>
  pIf x34
   (ob (pIface PP 9 (.str 38 15205868538892748611404032008587509992881420136446891654521229512433839121896133884415997043)) fun x35 =>
   obP (none) fun u h0 =>
   f141_2 E kr x0 x28 h0)
   (f141_2 E kr x0 x28 h26)
theorem f141_1_eq (E : Ev) (kn : K) (kx : Nat → K) (kr : K) : f141_1 E (fun y4 h => kr (mkE [(4, y4)]) h) = fun x0 x1 h => R141 E (pb (pb (pb (codeOf fn141)))) true 16 (fun _ => 0) kn kx kr (mkE [(0, x0), (1, x1)]) h := by
  funext x0 x1 h
  unfold f141_1
  rw [f141_2_eq E kn kx kr]
  refine Eq.trans ?_ (R141_unf E _ _ _ _ _ _ _ _).symm
  generalize R141 E = R
  generalize LL = L
  generalize PP = P
  revert R L P
  refine id ?_
  intro R L P
  kernel_rfl
/-- strings.Repeat -/
def s141 (E : Ev) (x0 x1 : AV) (h : Heap) : Res :=
  ob (xbin PP .eql 3 true x1 (.int .i64 0)) fun x13 =>
  pIf x13
   (r141 (.str 0 0) h)
   (ob (xbin PP .eql 3 true x1 (.int .i64 1)) fun x15 =>
   pIf x15
    (r141 x0 h)
    (ob (xbin PP .lss 3 true x1 (.int .i64 0)) fun x18 =>
    pIf x18
     (ob (pIface PP 9 (.str 30 803580537721259243851759705503370192090912361681467747059054990345794675)) fun x19 =>
     obP (none) fun u h0 =>
     f141_1 E r141 x0 x1 h0)
     (f141_1 E r141 x0 x1 h)))
theorem s141_eq (E : Ev) (x0 x1 : AV) (h : Heap) : xbodyR PP GG CC E LL fn141 [x0, x1] h = s141 E x0 x1 h := by
  unfold s141
  rw [r141_eq, f141_1_eq E (xret PP fn141) noK (xret PP fn141)]
  refine (bodyR_unf (c := (codeOf fn141)) (by kernel_rfl) (by kernel_rfl)).trans ?_
  show runS (R141 E) PP GG CC E fn141.ntmps LL none (resBits fn141.results.toList) (codeOf fn141) _ _ _ _ _ _ _ = _
  generalize R141 E = R
  generalize LL = L
  generalize PP = P
  symm
  revert R L P
  refine id ?_
  intro R L P
  kernel_rfl
def fn142 : Func := fnAt PP 142
def R142 (E : Ev) : RT := runR PP GG CC E 20 LL none 4
theorem R142_unf (E : Ev) (c : Code) (lv : Nat) (lx : Nat → Nat) (kn : K) (kx : Nat → K) (kr : K) (e : Env) (h : Heap) : R142 E c true lv lx kn kx kr e h = runS (R142 E) PP GG CC E 20 LL none 4 c lv lx kn kx kr e h := runR_unf _ _ _ _ _ _ _ _
def r142 (x2 : AV) (h : Heap) : Res := some (x2, h)
theorem r142_eq : r142 = fun x2 h => xret PP fn142 (mkE [(2, x2)]) h := by kernel_rfl
def f142_1 (E : Ev) (kr : AV → Heap → Res) (x0 : AV) (h : Heap) : Res :=
  ob (xlen PP h 139 x0) fun x4 =>
  ob (xbin PP .leq 3 true x4 (.int .i64 64)) fun x5 =>
  ob (pWant x5 true) fun c =>
  ob (sel c (some x0) (some (.tuple []))) fun x7 =>
  ob (pWant x5 true) fun c_1 =>
  ob (sel c_1 (xlen PP h 139 x7) (some (.tuple []))) fun x8 =>
  ob (pWant x5 true) fun c_2 =>
  ob (sel c_2 (xbin PP .eql 3 true x8 (.int .i64 0)) (some (.tuple []))) fun x9 =>
  ob (pWant x5 true) fun c_3 =>
  ob (sel c_3 (some x9) (some (.tuple []))) fun x10 =>
  ob (pWant x10 false) fun c_4 =>
  ob (sel c_4 (some x0) (some (.tuple []))) fun x11 =>
  ob (pWant x10 false) fun c_5 =>
  ob (sel c_5 (some x0) (some (.tuple []))) fun x12 =>
  ob (pWant x10 false) fun c_6 =>
  ob (sel c_6 (xlen PP h 139 x12) (some (.tuple []))) fun x13 =>
  ob (pWant x10 false) fun c_7 =>
  ob (sel c_7 (xbin PP .sub 3 true x13 (.int .i64 1)) (some (.tuple []))) fun x14 =>
  ob (pWant x10 false) fun c_8 =>
  ob (sel c_8 (xindexAddr PP 139 x11 x14) (some (.tuple []))) fun x15 =>
  ob (pWant x10 false) fun c_9 =>
  ob (sel c_9 (pLoad PP 208 x15 h) (some (.tuple []))) fun x16 =>
  ob (pWant x10 false) fun c_10 =>
  ob (sel c_10 (xbin PP .neq 208 true x16 (.int .u64 0)) (some (.tuple []))) fun x17 =>
  ob (pWant x5 true) fun c_11 =>
  ob (sel c_11 (pPick x10 (some (.bool true)) (some x17)) (some (.tuple []))) fun x18 =>
  ob (pPick x5 (some x18) (some (.bool false))) fun x19 =>
  kr x19 h
theorem f142_1_eq (E : Ev) (kn : K) (kx : Nat → K) (kr : K) : f142_1 E (fun y2 h => kr (mkE [(2, y2)]) h) = fun x0 h => R142 E (pb (codeOf fn142)) true 4 (fun _ => 0) kn kx kr (mkE [(0, x0)]) h := by
  funext x0 h
  unfold f142_1
  refine Eq.trans ?_ (R142_unf E _ _ _ _ _ _ _ _).symm
  generalize R142 E = R
  generalize LL = L
  generalize PP = P
  revert R L P
  refine id ?_
  intro R L P
  kernel_rfl
/-- theodolite/nat.Valid -/
def s142 (E : Ev) (x0 : AV) (h : Heap) : Res :=
  f142_1 E r142 x0 h
theorem s142_eq (E : Ev) (x0 : AV) (h : Heap) : xbodyR PP GG CC E LL fn142 [x0] h = s142 E x0 h := by
  unfold s142
  rw [r142_eq, f142_1_eq E (xret PP fn142) noK (xret PP fn142)]
  refine (bodyR_unf (c := (codeOf fn142)) (by kernel_rfl) (by kernel_rfl)).trans ?_
  show runS (R142 E) PP GG CC E fn142.ntmps LL none (resBits fn142.results.toList) (codeOf fn142) _ _ _ _ _ _ _ = _
  generalize R142 E = R
  generalize LL = L
  generalize PP = P
  symm
  revert R L P
  refine id ?_
  intro R L P
  kernel_rfl
def fn143 : Func := fnAt PP 143
def R143 (E : Ev) : RT := runR PP GG CC E 19 LL none 16
theorem R143_unf (E : Ev) (c : Code) (lv : Nat) (lx : Nat → Nat) (kn : K) (kx : Nat → K) (kr : K) (e : Env) (h : Heap) : R143 E c true lv lx kn kx kr e h = runS (R143 E) PP GG CC E 19 LL none 16 c lv lx kn kx kr e h := runR_unf _ _ _ _ _ _ _ _
def r143 (x4 : AV) (h : Heap) : Res := some (x4, h)
theorem r143_eq : r143 = fun x4 h => xret PP fn143 (mkE [(4, x4)]) h := by kernel_rfl
def f143_1 (E : Ev) (kr : AV → Heap → Res) (h : Heap) : Res :=
  kr (.int .i64 (-1)) h
theorem f143_1_eq (E : Ev) (kn : K) (kx : Nat → K) (kr : K) : f143_1 E (fun y4 h => kr (mkE [(4, y4)]) h) = fun h => R143 E (pb (pb (codeOf fn143))) true 16 (fun _ => 0) kn kx kr (mkE []) h := by
  funext h
  unfold f143_1
  refine Eq.trans ?_ (R143_unf E _ _ _ _ _ _ _ _).symm
  generalize R143 E = R
  generalize LL = L
  generalize PP = P
  revert R L P
  refine id ?_
  intro R L P
  kernel_rfl
def f143_2 (E : Ev) (kn : AV → AV → AV → AV → Heap → Res) (k0 : Heap → Res) (kr : AV → Heap → Res) (x0 x1 x7 x8 : AV) (h : Heap) : Res :=
  ob (xbin PP .lss 3 false x8 x7) fun x9 =>
  pIf x9
   (ob (xindexAddr PP 22 x0 x8) fun x14 =>
   ob (pLoad PP 3 x14 h) fun x15 =>
   obP (xcallV ⟨PP, GG, CC, E⟩ x1 [x15] h) fun x16 h16 =>
   pIf x16
    (kr x8 h16)
    (ob (xbin PP .add 3 true x8 (.int .i64 1)) fun x18 =>
    kn x0 x1 x7 x18 h16))
   (k0 h)
theorem f143_2_eq (E : Ev) (kn : K) (kx : Nat → K) (kr : K) (e0 : K) (he0 : kx 0 = e0) : f143_2 E (fun y0 y1 y7 y8 h => kn (mkE [(0, y0), (1, y1), (7, y7), (8, y8)]) h) (fun h => e0 (mkE []) h) (fun y4 h => kr (mkE [(4, y4)]) h) = fun x0 x1 x7 x8 h => R143 E (pa (pa (pb (pa (pb (codeOf fn143)))))) true 387 (fun i => sel (Nat.beq i 0) 0 ((fun _ => 0) i)) kn kx kr (mkE [(0, x0), (1, x1), (7, x7), (8, x8)]) h := by
  subst he0
  funext x0 x1 x7 x8 h
  unfold f143_2
  refine Eq.trans ?_ (R143_unf E _ _ _ _ _ _ _ _).symm
  generalize R143 E = R
  generalize LL = L
  generalize PP = P
  revert R L P
  refine id ?_
  intro R L P
  kernel_rfl
/-- slices.IndexFunc[[]int,int] -/
def s143 (E : Ev) (x0 x1 : AV) (h : Heap) : Res :=
  ob (xlen PP h 22 x0) fun x7 =>
  lp b4 (fun k => f143_2 E k (f143_1 E r143) r143) LL x0 x1 x7 (.int .i64 0) h
theorem s143_eq (E : Ev) (x0 x1 : AV) (h : Heap) : xbodyR PP GG CC E LL fn143 [x0, x1] h = s143 E x0 x1 h := by
  unfold s143
  rw [r143_eq, f143_1_eq E (xret PP fn143) noK (xret PP fn143), lp4_eq 0 1 7 8 (fun k => (R143 E (pa (pa (pb (pa (pb (codeOf fn143)))))) true 387 (fun i => sel (Nat.beq i 0) 0 ((fun _ => 0) i)) k (fun i => sel (Nat.beq i 0) (R143 E (pb (pb (codeOf fn143))) true 16 (fun _ => 0) (xret PP fn143) noK (xret PP fn143)) (noK i)) (xret PP fn143))) (fun k => f143_2 E k (fun h => (R143 E (pb (pb (codeOf fn143))) true 16 (fun _ => 0) (xret PP fn143) noK (xret PP fn143)) (mkE []) h) (fun y4 h => (xret PP fn143) (mkE [(4, y4)]) h)) (fun k => f143_2_eq E k (fun i => sel (Nat.beq i 0) (R143 E (pb (pb (codeOf fn143))) true 16 (fun _ => 0) (xret PP fn143) noK (xret PP fn143)) (noK i)) (xret PP fn143) (R143 E (pb (pb (codeOf fn143))) true 16 (fun _ => 0) (xret PP fn143) noK (xret PP fn143)) rfl) LL]
  refine (bodyR_unf (c := (codeOf fn143)) (by kernel_rfl) (by kernel_rfl)).trans ?_
  show runS (R143 E) PP GG CC E fn143.ntmps LL none (resBits fn143.results.toList) (codeOf fn143) _ _ _ _ _ _ _ = _
  generalize R143 E = R
  generalize LL = L
  generalize PP = P
  symm
  revert R L P
  refine id ?_
  intro R L P
  kernel_rfl
def fn144 : Func := fnAt PP 144
def R144 (E : Ev) : RT := runR PP GG CC E 11 LL none 64
theorem R144_unf (E : Ev) (c : Code) (lv : Nat) (lx : Nat → Nat) (kn : K) (kx : Nat → K) (kr : K) (e : Env) (h : Heap) : R144 E c true lv lx kn kx kr e h = runS (R144 E) PP GG CC E 11 LL none 64 c lv lx kn kx kr e h := runR_unf _ _ _ _ _ _ _ _
def r144 (x6 : AV) (h : Heap) : Res := some (x6, h)
theorem r144_eq : r144 = fun x6 h => xret PP fn144 (mkE [(6, x6)]) h := by kernel_rfl
/-- (*theodolite/term.Table).all -/
def s144 (E : Ev) (x0 x1 x2 : AV) (h : Heap) : Res :=
  obP (some (pNew h 36 x0.cells)) fun x3 h3 =>
  obP (some (pNew h3 3 x2.cells)) fun x5 h5 =>
  obP (E (.fn 110) [x1, (.func 183 [] [x3, x5])] h5) fun x9 h9 =>
  ob (xun .not x9) fun x10 =>
  r144 x10 h9
theorem s144_eq (E : Ev) (x0 x1 x2 : AV) (h : Heap) : xbodyR PP GG CC E LL fn144 [x0, x1, x2] h = s144 E x0 x1 x2 h := by
  unfold s144
  rw [r144_eq]
  refine (bodyR_unf (c := (codeOf fn144)) (by kernel_rfl) (by kernel_rfl)).trans ?_
  show runS (R144 E) PP GG CC E fn144.ntmps LL none (resBits fn144.results.toList) (codeOf fn144) _ _ _ _ _ _ _ = _
  generalize R144 E = R
  generalize LL = L
  generalize PP = P
  symm
  revert R L P
  refine id ?_
  intro R L P
  kernel_rfl
def fn145 : Func := fnAt PP 145
def R145 (E : Ev) : RT := runR PP GG CC E 23 LL none 16
theorem R145_unf (E : Ev) (c : Code) (lv : Nat) (lx : Nat → Nat) (kn : K) (kx : Nat → K) (kr : K) (e : Env) (h : Heap) : R145 E c true lv lx kn kx kr e h = runS (R145 E) PP GG CC E 23 LL none 16 c lv lx kn kx kr e h := runR_unf _ _ _ _ _ _ _ _
def r145 (x4 : AV) (h : Heap) : Res := some (x4, h)
theorem r145_eq : r145 = fun x4 h => xret PP fn145 (mkE [(4, x4)]) h := by kernel_rfl
def f145_1 (E : Ev) (kr : AV → Heap → Res) (x0 x1 : AV) (h : Heap) : Res :=
  ob (xlen PP h 22 x1) fun x6 =>
  ob (xbin PP .geq 3 true x6 (.int .i64 2)) fun x7 =>
  ob (pWant x7 true) fun c =>
  ob (sel c (some x0) (some (.tuple []))) fun x9 =>
  ob (pWant x7 true) fun c_1 =>
  ob (sel c_1 (some x1) (some (.tuple []))) fun x10 =>
  ob (pWant x7 true) fun c_2 =>
  ob (sel c_2 (some x0) (some (.tuple []))) fun x11 =>
  ob (pWant x7 true) fun c_3 =>
  ob (sel c_3 (pNil x11) (some (.tuple []))) fun x12 =>
  ob (pWant x7 true) fun c_4 =>
  ob (sel c_4 (pFieldAddr PP 100 1 x12) (some (.tuple []))) fun x13 =>
  ob (pWant x7 true) fun c_5 =>
  ob (sel c_5 (pLoad PP 61 x13 h) (some (.tuple []))) fun x14 =>
  ob (pWant x7 true) fun c_6 =>
  ob (sel c_6 (some x1) (some (.tuple []))) fun x15 =>
  ob (pWant x7 true) fun c_7 =>
  ob (sel c_7 (xindexAddr PP 22 x15 (.int .i64 0)) (some (.tuple []))) fun x16 =>
  ob (pWant x7 true) fun c_8 =>
  ob (sel c_8 (pLoad PP 3 x16 h) (some (.tuple []))) fun x17 =>
  ob (pWant x7 true) fun c_9 =>
  ob (sel c_9 (xindexAddr PP 61 x14 x17) (some (.tuple []))) fun x18 =>
  ob (pWant x7 true) fun c_10 =>
  ob (sel c_10 (pFieldAddr PP 143 4 x18) (some (.tuple []))) fun x19 =>
  ob (pWant x7 true) fun c_11 =>
  ob (sel c_11 (pLoad PP 3 x19 h) (some (.tuple []))) fun x20 =>
  sel (chkV x6 (xlen PP h 22 x1)) (
  ob (ob (pWant x7 true) fun c => some (sel c (chkV x14 (pLoad PP 61 x13 h)) true)) fun c_12 => sel c_12 (
  ob (ob (pWant x7 true) fun c => some (sel c (chkV x17 (pLoad PP 3 x16 h)) true)) fun c_13 => sel c_13 (
  ob (ob (pWant x7 true) fun c => some (sel c (chkV x20 (pLoad PP 3 x19 h)) true)) fun c_14 => sel c_14 (
  ob (pWant x7 true) fun c_15 =>
  obP (sel c_15 (E (.fn 144) [x9, x10, x20] h) (some (.tuple [], h))) fun x21 h21 =>
  ob (pPick x7 (some x21) (some (.bool false))) fun x22 =>
  kr x22 h21) none) none) none) none
theorem f145_1_eq (E : Ev) (kn : K) (kx : Nat → K) (kr : K) : f145_1 E (fun y4 h => kr (mkE [(4, y4)]) h) = fun x0 x1 h => R145 E (pb (codeOf fn145)) true 16 (fun _ => 0) kn kx kr (mkE [(0, x0), (1, x1)]) h := by
  funext x0 x1 h
  unfold f145_1
  refine Eq.trans ?_ (R145_unf E _ _ _ _ _ _ _ _).symm
  generalize R145 E = R
  generalize LL = L
  generalize PP = P
  revert R L P
  refine id ?_
  intro R L P
  kernel_rfl
/-- (*theodolite/term.Table).alike -/
def s145 (E : Ev) (x0 x1 : AV) (h : Heap) : Res :=
  f145_1 E r145 x0 x1 h
theorem s145_eq (E : Ev) (x0 x1 : AV) (h : Heap) : xbodyR PP GG CC E LL fn145 [x0, x1] h = s145 E x0 x1 h := by
  unfold s145
  rw [r145_eq, f145_1_eq E (xret PP fn145) noK (xret PP fn145)]
  refine (bodyR_unf (c := (codeOf fn145)) (by kernel_rfl) (by kernel_rfl)).trans ?_
  show runS (R145 E) PP GG CC E fn145.ntmps LL none (resBits fn145.results.toList) (codeOf fn145) _ _ _ _ _ _ _ = _
  generalize R145 E = R
  generalize LL = L
  generalize PP = P
  symm
  revert R L P
  refine id ?_
  intro R L P
  kernel_rfl
def fn146 : Func := fnAt PP 146
def R146 (E : Ev) : RT := runR PP GG CC E 55 LL none 192
theorem R146_unf (E : Ev) (c : Code) (lv : Nat) (lx : Nat → Nat) (kn : K) (kx : Nat → K) (kr : K) (e : Env) (h : Heap) : R146 E c true lv lx kn kx kr e h = runS (R146 E) PP GG CC E 55 LL none 192 c lv lx kn kx kr e h := runR_unf _ _ _ _ _ _ _ _
def r146 (x6 x7 : AV) (h : Heap) : Res := some (.tuple [x6, x7], h)
theorem r146_eq : r146 = fun x6 x7 h => xret PP fn146 (mkE [(6, x6), (7, x7)]) h := by kernel_rfl
def f146_2 (E : Ev) (kr : AV → AV → Heap → Res) (x8 : AV) (h : Heap) : Res :=
  ob (pFieldAddr PP 56 2 x8) fun x53 =>
  ob (pLoad PP 3 x53 h) fun x54 =>
  kr x54 (.bool true) h
theorem f146_2_eq (E : Ev) (kn : K) (kx : Nat → K) (kr : K) : f146_2 E (fun y6 y7 h => kr (mkE [(6, y6), (7, y7)]) h) = fun x8 h => R146 E (pb (pb (pb (pb (codeOf fn146))))) true 192 (fun _ => 0) kn kx kr (mkE [(8, x8)]) h := by
  funext x8 h
  unfold f146_2
  refine Eq.trans ?_ (R146_unf E _ _ _ _ _ _ _ _).symm
  generalize R146 E = R
  generalize LL = L
  generalize PP = P
  revert R L P
  refine id ?_
  intro R L P
  kernel_rfl
def f146_3 (E : Ev) (kn : AV → AV → AV → AV → AV → Heap → Res) (k0 : AV → Heap → Res) (kr : AV → AV → Heap → Res) (x0 x8 x31 x32 x33 : AV) (h : Heap) : Res :=
  ob (xbin PP .lss 3 false x33 x32) fun x34 =>
  pIf x34
   (ob (xindexAddr PP 22 x31 x33) fun x36 =>
   ob (pLoad PP 3 x36 h) fun x37 =>
   ob (pNil x0) fun x39 =>
   ob (pFieldAddr PP 100 1 x39) fun x40 =>
   ob (pLoad PP 61 x40 h) fun x41 =>
   ob (xindexAddr PP 61 x41 x37) fun x43 =>
   ob (pFieldAddr PP 143 4 x43) fun x44 =>
   ob (pLoad PP 3 x44 h) fun x45 =>
   ob (pFieldAddr PP 56 1 x8) fun x46 =>
   ob (pLoad PP 22 x46 h) fun x47 =>
   ob (xindexAddr PP 22 x47 x33) fun x49 =>
   ob (pLoad PP 3 x49 h) fun x50 =>
   ob (xbin PP .neq 3 false x45 x50) fun x51 =>
   sel (chkV x41 (pLoad PP 61 x40 h)) (
   sel (chkV x45 (pLoad PP 3 x44 h)) (
   sel (chkV x47 (pLoad PP 22 x46 h)) (
   sel (chkV x50 (pLoad PP 3 x49 h)) (
   pIf x51
    (kr (.int .i64 0) (.bool false) h)
    (ob (xbin PP .add 3 true x33 (.int .i64 1)) fun x52 =>
    kn x0 x8 x31 x32 x52 h)) none) none) none) none)
   (k0 x8 h)
theorem f146_3_eq (E : Ev) (kn : K) (kx : Nat → K) (kr : K) (e0 : K) (he0 : kx 0 = e0) : f146_3 E (fun y0 y8 y31 y32 y33 h => kn (mkE [(0, y0), (8, y8), (31, y31), (32, y32), (33, y33)]) h) (fun y8 h => e0 (mkE [(8, y8)]) h) (fun y6 y7 h => kr (mkE [(6, y6), (7, y7)]) h) = fun x0 x8 x31 x32 x33 h => R146 E (pa (pa (pb (pa (pb (pb (pb (codeOf fn146)))))))) true 15032385793 (fun i => sel (Nat.beq i 0) 256 ((fun _ => 0) i)) kn kx kr (mkE [(0, x0), (8, x8), (31, x31), (32, x32), (33, x33)]) h := by
  subst he0
  funext x0 x8 x31 x32 x33 h
  unfold f146_3
  refine Eq.trans ?_ (R146_unf E _ _ _ _ _ _ _ _).symm
  generalize R146 E = R
  generalize LL = L
  generalize PP = P
  revert R L P
  refine id ?_
  intro R L P
  kernel_rfl
def f146_1 (E : Ev) (kr : AV → AV → Heap → Res) (x0 x2 x8 x9 : AV) (h : Heap) : Res :=
  ob (xun .not x9) fun x22 =>
  ob (pWant x22 false) fun c =>
  ob (sel c (pFieldAddr PP 56 1 x8) (some (.tuple []))) fun x24 =>
  ob (pWant x22 false) fun c_1 =>
  ob (sel c_1 (pLoad PP 22 x24 h) (some (.tuple []))) fun x25 =>
  ob (pWant x22 false) fun c_2 =>
  ob (sel c_2 (xlen PP h 22 x25) (some (.tuple []))) fun x26 =>
  ob (pWant x22 false) fun c_3 =>
  ob (sel c_3 (some x2) (some (.tuple []))) fun x27 =>
  ob (pWant x22 false) fun c_4 =>
  ob (sel c_4 (xlen PP h 22 x27) (some (.tuple []))) fun x28 =>
  ob (pWant x22 false) fun c_5 =>
  ob (sel c_5 (xbin PP .neq 3 false x26 x28) (some (.tuple []))) fun x29 =>
  ob (pPick x22 (some (.bool true)) (some x29)) fun x30 =>
  pIf x30
   (kr (.int .i64 0) (.bool false) h)
   (ob (xlen PP h 22 x2) fun x32 =>
   lp b5 (fun k => f146_3 E k (f146_2 E kr) kr) LL x0 x8 x2 x32 (.int .i64 0) h)
theorem f146_1_eq (E : Ev) (kn : K) (kx : Nat → K) (kr : K) : f146_1 E (fun y6 y7 h => kr (mkE [(6, y6), (7, y7)]) h) = fun x0 x2 x8 x9 h => R146 E (pb (pb (codeOf fn146))) true 192 (fun _ => 0) kn kx kr (mkE [(0, x0), (2, x2), (8, x8), (9, x9)]) h := by
  funext x0 x2 x8 x9 h
  unfold f146_1
  rw [f146_2_eq E kn kx kr, lp5_eq 0 8 31 32 33 (fun k => (R146 E (pa (pa (pb (pa (pb (pb (pb (codeOf fn146)))))))) true 15032385793 (fun i => sel (Nat.beq i 0) 256 ((fun _ => 0) i)) k (fun i => sel (Nat.beq i 0) (R146 E (pb (pb (pb (pb (codeOf fn146))))) true 192 (fun _ => 0) kn kx kr) (kx i)) kr)) (fun k => f146_3 E k (fun y8 h => (R146 E (pb (pb (pb (pb (codeOf fn146))))) true 192 (fun _ => 0) kn kx kr) (mkE [(8, y8)]) h) (fun y6 y7 h => kr (mkE [(6, y6), (7, y7)]) h)) (fun k => f146_3_eq E k (fun i => sel (Nat.beq i 0) (R146 E (pb (pb (pb (pb (codeOf fn146))))) true 192 (fun _ => 0) kn kx kr) (kx i)) kr (R146 E (pb (pb (pb (pb (codeOf fn146))))) true 192 (fun _ => 0) kn kx kr) rfl) LL]
  refine Eq.trans ?_ (R146_unf E _ _ _ _ _ _ _ _).symm
  generalize R146 E = R
  generalize LL = L
  generalize PP = P
  revert R L P
  refine id ?_
  intro R L P
  kernel_rfl
/-- (*theodolite/term.Table).call -/
def s146 (E : Ev) (x0 x1 x2 : AV) (h : Heap) : Res :=
  ob (pNil x0) fun x14 =>
  ob (pFieldAddr PP 100 0 x14) fun x15 =>
  ob (pLoad PP 35 x15 h) fun x16 =>
  obP (E (.fn 51) [x16, x1] h) fun x18 h18 =>
  ob (pExtract 0 x18) fun x19 =>
  ob (pExtract 1 x18) fun x20 =>
  obP (ob (zeroC PP 56) fun z => some (pNew h18 56 z)) fun x8 h8 =>
  ob (pStore PP 56 x8 x19 h8) fun h0 =>
  f146_1 E r146 x0 x2 x8 x20 h0
theorem s146_eq (E : Ev) (x0 x1 x2 : AV) (h : Heap) : xbodyR PP GG CC E LL fn146 [x0, x1, x2] h = s146 E x0 x1 x2 h := by
  unfold s146
  rw [r146_eq, f146_1_eq E (xret PP fn146) noK (xret PP fn146)]
  refine (bodyR_unf (c := (codeOf fn146)) (by kernel_rfl) (by kernel_rfl)).trans ?_
  show runS (R146 E) PP GG CC E fn146.ntmps LL none (resBits fn146.results.toList) (codeOf fn146) _ _ _ _ _ _ _ = _
  generalize R146 E = R
  generalize LL = L
  generalize PP = P
  symm
  revert R L P
  refine id ?_
  intro R L P
  kernel_rfl
def fn147 : Func := fnAt PP 147
def R147 (E : Ev) : RT := runR PP GG CC E 31 LL none 64
theorem R147_unf (E : Ev) (c : Code) (lv : Nat) (lx : Nat → Nat) (kn : K) (kx : Nat → K) (kr : K) (e : Env) (h : Heap) : R147 E c true lv lx kn kx kr e h = runS (R147 E) PP GG CC E 31 LL none 64 c lv lx kn kx kr e h := runR_unf _ _ _ _ _ _ _ _
def r147 (x6 : AV) (h : Heap) : Res := some (x6, h)
theorem r147_eq : r147 = fun x6 h => xret PP fn147 (mkE [(6, x6)]) h := by kernel_rfl
def f147_1 (E : Ev) (kr : AV → Heap → Res) (x0 x1 x2 x7 : AV) (h : Heap) : Res :=
  ob (xlen PP h 22 x2) fun x11 =>
  ob (xbin PP .lss 3 false x11 x7) fun x13 =>
  ob (pWant x13 false) fun c =>
  ob (sel c (some x0) (some (.tuple []))) fun x15 =>
  ob (pWant x13 false) fun c_1 =>
  ob (sel c_1 (some x2) (some (.tuple []))) fun x16 =>
  ob (pWant x13 false) fun c_2 =>
  obP (sel c_2 (E (.fn 144) [x15, x16, (.int .i64 1)] h) (some (.tuple [], h))) fun x17 h17 =>
  ob (pWant x13 false) fun c_3 =>
  ob (sel c_3 (xun .not x17) (some (.tuple []))) fun x18 =>
  ob (pPick x13 (some (.bool true)) (some x18)) fun x19 =>
  pIf x19
   (kr (.bool false) h17)
   (ob (xbin PP .eql 3 true x1 (.int .i64 15)) fun x22 =>
   pIf x22
    (obP (E (.fn 184) [x0, x2] h17) fun x25 h25 =>
    kr x25 h25)
    (ob (xbin PP .eql 3 true x1 (.int .i64 16)) fun x27 =>
    pIf x27
     (obP (E (.fn 185) [x0, x2] h17) fun x30 h30 =>
     kr x30 h30)
     (kr (.bool true) h17)))
theorem f147_1_eq (E : Ev) (kn : K) (kx : Nat → K) (kr : K) : f147_1 E (fun y6 h => kr (mkE [(6, y6)]) h) = fun x0 x1 x2 x7 h => R147 E (pb (pb (pb (codeOf fn147)))) true 64 (fun _ => 0) kn kx kr (mkE [(0, x0), (1, x1), (2, x2), (7, x7)]) h := by
  funext x0 x1 x2 x7 h
  unfold f147_1
  refine Eq.trans ?_ (R147_unf E _ _ _ _ _ _ _ _).symm
  generalize R147 E = R
  generalize LL = L
  generalize PP = P
  revert R L P
  refine id ?_
  intro R L P
  kernel_rfl
/-- (*theodolite/term.Table).numeric -/
def s147 (E : Ev) (x0 x1 x2 : AV) (h : Heap) : Res :=
  ob (xbin PP .eql 3 true x1 (.int .i64 14)) fun x9 =>
  pIf x9
   (f147_1 E r147 x0 x1 x2 (.int .i64 1) h)
   (f147_1 E r147 x0 x1 x2 (.int .i64 2) h)
theorem s147_eq (E : Ev) (x0 x1 x2 : AV) (h : Heap) : xbodyR PP GG CC E LL fn147 [x0, x1, x2] h = s147 E x0 x1 x2 h := by
  unfold s147
  rw [r147_eq, f147_1_eq E (xret PP fn147) noK (xret PP fn147)]
  refine (bodyR_unf (c := (codeOf fn147)) (by kernel_rfl) (by kernel_rfl)).trans ?_
  show runS (R147 E) PP GG CC E fn147.ntmps LL none (resBits fn147.results.toList) (codeOf fn147) _ _ _ _ _ _ _ = _
  generalize R147 E = R
  generalize LL = L
  generalize PP = P
  symm
  revert R L P
  refine id ?_
  intro R L P
  kernel_rfl
def fn150 : Func := fnAt PP 150
def R150 (E : Ev) : RT := runR PP GG CC E 20 LL none 0
theorem R150_unf (E : Ev) (c : Code) (lv : Nat) (lx : Nat → Nat) (kn : K) (kx : Nat → K) (kr : K) (e : Env) (h : Heap) : R150 E c true lv lx kn kx kr e h = runS (R150 E) PP GG CC E 20 LL none 0 c lv lx kn kx kr e h := runR_unf _ _ _ _ _ _ _ _
def r150 (h : Heap) : Res := some (.tuple [], h)
theorem r150_eq : r150 = fun h => xret PP fn150 (mkE []) h := by kernel_rfl
/-- (*strings.Builder).copyCheck -/
def s150 (E : Ev) (x0 : AV) (h : Heap) : Res :=
  ob (pNil x0) fun x3 =>
  ob (pFieldAddr PP 204 0 x3) fun x4 =>
  ob (pLoad PP 202 x4 h) fun x5 =>
  ob (xbin PP .eql 202 true x5 .nilPtr) fun x6 =>
  pIf x6
   (obP (pConv PP h 202 272 x0) fun x9 h9 =>
   obP (xext .noEscape [x9] h9) fun x10 h10 =>
   obP (pConv PP h10 272 202 x10) fun x11 h11 =>
   ob (pNil x0) fun x12 =>
   ob (pFieldAddr PP 204 0 x12) fun x13 =>
   ob (pStore PP 202 x13 x11 h11) fun h0 =>
   r150 h0)
   (ob (pNil x0) fun x15 =>
   ob (pFieldAddr PP 204 0 x15) fun x16 =>
   ob (pLoad PP 202 x16 h) fun x17 =>
   ob (xbin PP .neq 202 false x17 x0) fun x19 =>
   pIf x19
    (none)
    (r150 h))
theorem s150_eq (E : Ev) (x0 : AV) (h : Heap) : xbodyR PP GG CC E LL fn150 [x0] h = s150 E x0 h := by
  unfold s150
  rw [r150_eq]
  refine (bodyR_unf (c := (codeOf fn150)) (by kernel_rfl) (by kernel_rfl)).trans ?_
  show runS (R150 E) PP GG CC E fn150.ntmps LL none (resBits fn150.results.toList) (codeOf fn150) _ _ _ _ _ _ _ = _
  generalize R150 E = R
  generalize LL = L
  generalize PP = P
  symm
  revert R L P
  refine id ?_
  intro R L P
  kernel_rfl
def fn151 : Func := fnAt PP 151
def R151 (E : Ev) : RT := runR PP GG CC E 20 LL none 256
theorem R151_unf (E : Ev) (c : Code) (lv : Nat) (lx : Nat → Nat) (kn : K) (kx : Nat → K) (kr : K) (e : Env) (h : Heap) : R151 E c true lv lx kn kx kr e h = runS (R151 E) PP GG CC E 20 LL none 256 c lv lx kn kx kr e h := runR_unf _ _ _ _ _ _ _ _
def r151 (x8 : AV) (h : Heap) : Res := some (x8, h)
theorem r151_eq : r151 = fun x8 h => xret PP fn151 (mkE [(8, x8)]) h := by kernel_rfl
/-- strconv.quoteWith -/
def s151 (E : Ev) (x0 x1 x2 x3 : AV) (h : Heap) : Res :=
  ob (xlen PP h 9 x0) fun x10 =>
  ob (xbin PP .mul 3 true (.int .i64 3) x10) fun x11 =>
  ob (xbin PP .quo 3 true x11 (.int .i64 2)) fun x12 =>
  obP (xmake PP h 41 (.int .i64 0) x12) fun x13 h13 =>
  obP (E (.fn 192) [x13, x0, x1, x2, x3] h13) fun x18 h18 =>
  obP (pConv PP h18 41 9 x18) fun x19 h19 =>
  r151 x19 h19
theorem s151_eq (E : Ev) (x0 x1 x2 x3 : AV) (h : Heap) : xbodyR PP GG CC E LL fn151 [x0, x1, x2, x3] h = s151 E x0 x1 x2 x3 h := by
  unfold s151
  rw [r151_eq]
  refine (bodyR_unf (c := (codeOf fn151)) (by kernel_rfl) (by kernel_rfl)).trans ?_
  show runS (R151 E) PP GG CC E fn151.ntmps LL none (resBits fn151.results.toList) (codeOf fn151) _ _ _ _ _ _ _ = _
  generalize R151 E = R
  generalize LL = L
  generalize PP = P
  symm
  revert R L P
  refine id ?_
  intro R L P
  kernel_rfl
def fn152 : Func := fnAt PP 152
def R152 (E : Ev) : RT := runR PP GG CC E 4 LL none 4
theorem R152_unf (E : Ev) (c : Code) (lv : Nat) (lx : Nat → Nat) (kn : K) (kx : Nat → K) (kr : K) (e : Env) (h : Heap) : R152 E c true lv lx kn kx kr e h = runS (R152 E) PP GG CC E 4 LL none 4 c lv lx kn kx kr e h := runR_unf _ _ _ _ _ _ _ _
def r152 (x2 : AV) (h : Heap) : Res := some (x2, h)
theorem r152_eq : r152 = fun x2 h => xret PP fn152 (mkE [(2, x2)]) h := by kernel_rfl
/-- internal/strconv.FormatBool -/
def s152 (E : Ev) (x0 : AV) (h : Heap) : Res :=
  pIf x0
   (r152 (.str 4 1702195828) h)
   (r152 (.str 5 435728179558) h)
theorem s152_eq (E : Ev) (x0 : AV) (h : Heap) : xbodyR PP GG CC E LL fn152 [x0] h = s152 E x0 h := by
  unfold s152
  rw [r152_eq]
  refine (bodyR_unf (c := (codeOf fn152)) (by kernel_rfl) (by kernel_rfl)).trans ?_
  show runS (R152 E) PP GG CC E fn152.ntmps LL none (resBits fn152.results.toList) (codeOf fn152) _ _ _ _ _ _ _ = _
  generalize R152 E = R
  generalize LL = L
  generalize PP = P
  symm
  revert R L P
  refine id ?_
  intro R L P
  kernel_rfl
def fn153 : Func := fnAt PP 153
def R153 (E : Ev) : RT := runR PP GG CC E 32 LL none 16
theorem R153_unf (E : Ev) (c : Code) (lv : Nat) (lx : Nat → Nat) (kn : K) (kx : Nat → K) (kr : K) (e : Env) (h : Heap) : R153 E c true lv lx kn kx kr e h = runS (R153 E) PP GG CC E 32 LL none 16 c lv lx kn kx kr e h := runR_unf _ _ _ _ _ _ _ _
def r153 (x4 : AV) (h : Heap) : Res := some (x4, h)
theorem r153_eq : r153 = fun x4 h => xret PP fn153 (mkE [(4, x4)]) h := by kernel_rfl
/-- internal/strconv.FormatUint -/
def s153 (E : Ev) (x0 x1 : AV) (h : Heap) : Res :=
  ob (xbin PP .eql 3 true x1 (.int .i64 10)) fun x10 =>
  pIf x10
   (ob (xbin PP .lss 208 true x0 (.int .u64 100)) fun x12 =>
   pIf x12
    (ob (pInt PP 208 3 x0) fun x14 =>
    obP (E (.fn 154) [x14] h) fun x15 h15 =>
    r153 x15 h15)
    (obP (ob (zeroC PP 242) fun z => some (pNew h 242 z)) fun x5 h5 =>
    obP (E (.fn 155) [x0] h5) fun x17 h17 =>
    obP (xslice PP h17 242 x5 none (some x17) none) fun x19 h19 =>
    obP (E (.fn 156) [x19, x0] h19) fun x21 h21 =>
    obP (xslice PP h21 242 x5 none (some x17) none) fun x23 h23 =>
    obP (pConv PP h23 41 9 x23) fun x24 h24 =>
    r153 x24 h24))
   (obP (E (.fn 157) [.nilSlice, x0, x1, (.bool false), (.bool false)] h) fun x28 h28 =>
   ob (pExtract 0 x28) fun x29 =>
   ob (pExtract 1 x28) fun x30 =>
   r153 x30 h28)
theorem s153_eq (E : Ev) (x0 x1 : AV) (h : Heap) : xbodyR PP GG CC E LL fn153 [x0, x1] h = s153 E x0 x1 h := by
  unfold s153
  rw [r153_eq]
  refine (bodyR_unf (c := (codeOf fn153)) (by kernel_rfl) (by kernel_rfl)).trans ?_
  show runS (R153 E) PP GG CC E fn153.ntmps LL none (resBits fn153.results.toList) (codeOf fn153) _ _ _ _ _ _ _ = _
  generalize R153 E = R
  generalize LL = L
  generalize PP = P
  symm
  revert R L P
  refine id ?_
  intro R L P
  kernel_rfl
def fn154 : Func := fnAt PP 154
def R154 (E : Ev) : RT := runR PP GG CC E 15 LL none 4
theorem R154_unf (E : Ev) (c : Code) (lv : Nat) (lx : Nat → Nat) (kn : K) (kx : Nat → K) (kr : K) (e : Env) (h : Heap) : R154 E c true lv lx kn kx kr e h = runS (R154 E) PP GG CC E 15 LL none 4 c lv lx kn kx kr e h := runR_unf _ _ _ _ _ _ _ _
def r154 (x2 : AV) (h : Heap) : Res := some (x2, h)
theorem r154_eq : r154 = fun x2 h => xret PP fn154 (mkE [(2, x2)]) h := by kernel_rfl
/-- internal/strconv.small -/
def s154 (E : Ev) (x0 : AV) (h : Heap) : Res :=
  ob (xbin PP .lss 3 true x0 (.int .i64 10)) fun x4 =>
  pIf x4
   (ob (xbin PP .add 3 true x0 (.int .i64 1)) fun x7 =>
   obP (xslice PP h 9 (.str 36 237927390410950444456928663707796224754864904193074819559483181009558347043374296609072) (some x0) (some x7) none) fun x8 h8 =>
   r154 x8 h8)
   (ob (xbin PP .mul 3 true x0 (.int .i64 2)) fun x10 =>
   ob (xbin PP .mul 3 true x0 (.int .i64 2)) fun x12 =>
   ob (xbin PP .add 3 true x12 (.int .i64 2)) fun x13 =>
   obP (xslice PP h 9 (.str 200 9938655150514779720929161263213647789093395803754561035662628441001274968862597953692946393464194303251501229616933063375291039650253924995779037586872666250072396106842829501851083234932712366962979930255066872747696324303968523733872590022915936937156789320557469720923390131174387415513794469201054844961267015441141542819553679203788501627738430154234325528792480477051962324423099068299719245009424585859096469223093538032153047611602695245052081125123941502624659711709950000) (some x10) (some x13) none) fun x14 h14 =>
   r154 x14 h14)
theorem s154_eq (E : Ev) (x0 : AV) (h : Heap) : xbodyR PP GG CC E LL fn154 [x0] h = s154 E x0 h := by
  unfold s154
  rw [r154_eq]
  refine (bodyR_unf (c := (codeOf fn154)) (by kernel_rfl) (by kernel_rfl)).trans ?_
  show runS (R154 E) PP GG CC E fn154.ntmps LL none (resBits fn154.results.toList) (codeOf fn154) _ _ _ _ _ _ _ = _
  generalize R154 E = R
  generalize LL = L
  generalize PP = P
  symm
  revert R L P
  refine id ?_
  intro R L P
  kernel_rfl
def fn158 : Func := fnAt PP 158
def R158 (E : Ev) : RT := runR PP GG CC E 34 LL none 0
theorem R158_unf (E : Ev) (c : Code) (lv : Nat) (lx : Nat → Nat) (kn : K) (kx : Nat → K) (kr : K) (e : Env) (h : Heap) : R158 E c true lv lx kn kx kr e h = runS (R158 E) PP GG CC E 34 LL none 0 c lv lx kn kx kr e h := runR_unf _ _ _ _ _ _ _ _
def r158 (h : Heap) : Res := some (.tuple [], h)
theorem r158_eq : r158 = fun h => xret PP fn158 (mkE []) h := by kernel_rfl
def f158_1 (E : Ev) (kn : Heap → Res) (x0 x4 : AV) (h : Heap) : Res :=
  ob (pLoad PP 22 x4 h) fun x30 =>
  obP (pBuildSlice PP h 22 1 [(0, x0)]) fun x32 h32 =>
  obP (xappend PP h32 22 22 x30 x32) fun x33 h33 =>
  ob (pStore PP 22 x4 x33 h33) fun h0 =>
  kn h0
theorem f158_1_eq (E : Ev) (kn : K) (kx : Nat → K) (kr : K) : f158_1 E (fun h => kn (mkE []) h) = fun x0 x4 h => R158 E (pb (pb (pb (codeOf fn158)))) true 0 (fun _ => 0) kn kx kr (mkE [(0, x0), (4, x4)]) h := by
  funext x0 x4 h
  unfold f158_1
  refine Eq.trans ?_ (R158_unf E _ _ _ _ _ _ _ _).symm
  generalize R158 E = R
  generalize LL = L
  generalize PP = P
  revert R L P
  refine id ?_
  intro R L P
  kernel_rfl
def f158_2 (E : Ev) (kn : AV → AV → AV → AV → AV → AV → Heap → Res) (k0 : AV → AV → Heap → Res) (x0 x3 x4 x20 x21 x22 : AV) (h : Heap) : Res :=
  ob (xbin PP .lss 3 false x22 x21) fun x23 =>
  pIf x23
   (ob (xindexAddr PP 22 x20 x22) fun x24 =>
   ob (pLoad PP 3 x24 h) fun x25 =>
   ob (pLoad PP 248 x3 h) fun x26 =>
   obP (xcallV ⟨PP, GG, CC, E⟩ x26 [x25] h) fun x28 h28 =>
   ob (xbin PP .add 3 true x22 (.int .i64 1)) fun x29 =>
   kn x0 x3 x4 x20 x21 x29 h28)
   (k0 x0 x4 h)
theorem f158_2_eq (E : Ev) (kn : K) (kx : Nat → K) (kr : K) (e0 : K) (he0 : kx 0 = e0) : f158_2 E (fun y0 y3 y4 y20 y21 y22 h => kn (mkE [(0, y0), (3, y3), (4, y4), (20, y20), (21, y21), (22, y22)]) h) (fun y0 y4 h => e0 (mkE [(0, y0), (4, y4)]) h) = fun x0 x3 x4 x20 x21 x22 h => R158 E (pa (pa (pb (pa (pb (pb (codeOf fn158))))))) true 7340057 (fun i => sel (Nat.beq i 0) 17 ((fun _ => 0) i)) kn kx kr (mkE [(0, x0), (3, x3), (4, x4), (20, x20), (21, x21), (22, x22)]) h := by
  subst he0
  funext x0 x3 x4 x20 x21 x22 h
  unfold f158_2
  refine Eq.trans ?_ (R158_unf E _ _ _ _ _ _ _ _).symm
  generalize R158 E = R
  generalize LL = L
  generalize PP = P
  revert R L P
  refine id ?_
  intro R L P
  kernel_rfl
/-- (*theodolite/term.Table).Walk$1 -/
def s158 (E : Ev) (x0 x1 x2 x3 x4 : AV) (h : Heap) : Res :=
  ob (pLoad PP 247 x1 h) fun x8 =>
  ob (xlookup PP h 247 x8 x0 false) fun x10 =>
  pIf x10
   (r158 h)
   (ob (pLoad PP 247 x1 h) fun x11 =>
   ob (xmapSet PP h 247 x11 x0 (.bool true)) fun h0 =>
   ob (pLoad PP 36 x2 h0) fun x13 =>
   ob (pNil x13) fun x14 =>
   ob (pFieldAddr PP 100 1 x14) fun x15 =>
   ob (pLoad PP 61 x15 h0) fun x16 =>
   ob (xindexAddr PP 61 x16 x0) fun x18 =>
   ob (pFieldAddr PP 143 3 x18) fun x19 =>
   ob (pLoad PP 22 x19 h0) fun x20 =>
   ob (xlen PP h0 22 x20) fun x21 =>
   lp b6 (fun k => f158_2 E k (f158_1 E r158)) LL x0 x3 x4 x20 x21 (.int .i64 0) h0)
theorem s158_eq (E : Ev) (x0 x1 x2 x3 x4 : AV) (h : Heap) : xbodyR PP GG CC E LL fn158 [x0, x1, x2, x3, x4] h = s158 E x0 x1 x2 x3 x4 h := by
  unfold s158
  rw [r158_eq, f158_1_eq E (xret PP fn158) noK (xret PP fn158), lp6_eq 0 3 4 20 21 22 (fun k => (R158 E (pa (pa (pb (pa (pb (pb (codeOf fn158))))))) true 7340057 (fun i => sel (Nat.beq i 0) 17 ((fun _ => 0) i)) k (fun i => sel (Nat.beq i 0) (R158 E (pb (pb (pb (codeOf fn158)))) true 0 (fun _ => 0) (xret PP fn158) noK (xret PP fn158)) (noK i)) (xret PP fn158))) (fun k => f158_2 E k (fun y0 y4 h => (R158 E (pb (pb (pb (codeOf fn158)))) true 0 (fun _ => 0) (xret PP fn158) noK (xret PP fn158)) (mkE [(0, y0), (4, y4)]) h)) (fun k => f158_2_eq E k (fun i => sel (Nat.beq i 0) (R158 E (pb (pb (pb (codeOf fn158)))) true 0 (fun _ => 0) (xret PP fn158) noK (xret PP fn158)) (noK i)) (xret PP fn158) (R158 E (pb (pb (pb (codeOf fn158)))) true 0 (fun _ => 0) (xret PP fn158) noK (xret PP fn158)) rfl) LL]
  refine (bodyR_unf (c := (codeOf fn158)) (by kernel_rfl) (by kernel_rfl)).trans ?_
  show runS (R158 E) PP GG CC E fn158.ntmps LL none (resBits fn158.results.toList) (codeOf fn158) _ _ _ _ _ _ _ = _
  generalize R158 E = R
  generalize LL = L
  generalize PP = P
  symm
  revert R L P
  refine id ?_
  intro R L P
  kernel_rfl
def fn159 : Func := fnAt PP 159
def R159 (E : Ev) : RT := runR PP GG CC E 143 LL none 16
theorem R159_unf (E : Ev) (c : Code) (lv : Nat) (lx : Nat → Nat) (kn : K) (kx : Nat → K) (kr : K) (e : Env) (h : Heap) : R159 E c true lv lx kn kx kr e h = runS (R159 E) PP GG CC E 143 LL none 16 c lv lx kn kx kr e h := runR_unf _ _ _ _ _ _ _ _
def r159 (x4 : AV) (h : Heap) : Res := some (x4, h)
theorem r159_eq : r159 = fun x4 h => xret PP fn159 (mkE [(4, x4)]) h := by kernel_rfl
def f159_2 (E : Ev) (kr : AV → Heap → Res) (h : Heap) : Res :=
  kr (.int .i64 (-1)) h
theorem f159_2_eq (E : Ev) (kn : K) (kx : Nat → K) (kr : K) : f159_2 E (fun y4 h => kr (mkE [(4, y4)]) h) = fun h => R159 E (pb (pb (pb (pb (pb (pb (pb (pb (pb (codeOf fn159)))))))))) true 16 (fun _ => 0) kn kx kr (mkE []) h := by
  funext h
  unfold f159_2
  refine Eq.trans ?_ (R159_unf E _ _ _ _ _ _ _ _).symm
  generalize R159 E = R
  generalize LL = L
  generalize PP = P
  revert R L P
  refine id ?_
  intro R L P
  kernel_rfl
def f159_5 (E : Ev) (kn : AV → AV → AV → AV → AV → AV → AV → AV → Heap → Res) (kr : AV → Heap → Res) (x0 x1 x5 x6 x7 x8 x9 x10 : AV) (h : Heap) : Res :=
  ob (pLoad PP 3 (.ptr 3 0) h) fun x100 =>
  ob (xbin PP .leq 3 false x5 x100) fun x101 =>
  ob (pWant x101 true) fun c =>
  ob (sel c (some x10) (some (.tuple []))) fun x103 =>
  ob (pWant x101 true) fun c_1 =>
  ob (sel c_1 (some x8) (some (.tuple []))) fun x104 =>
  ob (pWant x101 true) fun c_2 =>
  obP (sel c_2 (E (.fn 200) [x104] h) (some (.tuple [], h))) fun x105 h105 =>
  ob (pWant x101 true) fun c_3 =>
  ob (sel c_3 (xbin PP .gtr 3 false x103 x105) (some (.tuple []))) fun x106 =>
  ob (pPick x101 (some x106) (some (.bool false))) fun x107 =>
  pIf x107
   (obP (xslice PP h105 9 x0 (some x8) none none) fun x110 h110 =>
   obP (xext .idxStr [x110, x1] h110) fun x112 h112 =>
   ob (xbin PP .geq 3 true x112 (.int .i64 0)) fun x114 =>
   pIf x114
    (ob (xbin PP .add 3 false x112 x8) fun x117 =>
    kr x117 h112)
    (kr (.int .i64 (-1)) h112))
   (ob (pLoad PP 3 (.ptr 3 0) h105) fun x119 =>
   ob (xbin PP .gtr 3 false x5 x119) fun x120 =>
   ob (pWant x120 true) fun c_4 =>
   ob (sel c_4 (some x10) (some (.tuple []))) fun x122 =>
   ob (pWant x120 true) fun c_5 =>
   ob (sel c_5 (some x8) (some (.tuple []))) fun x123 =>
   ob (pWant x120 true) fun c_6 =>
   ob (sel c_6 (xbin PP .shr 3 true x123 (.int .u64 4)) (some (.tuple []))) fun x124 =>
   ob (pWant x120 true) fun c_7 =>
   ob (sel c_7 (xbin PP .add 3 true (.int .i64 4) x124) (some (.tuple []))) fun x125 =>
   ob (pWant x120 true) fun c_8 =>
   ob (sel c_8 (xbin PP .geq 3 false x122 x125) (some (.tuple []))) fun x126 =>
   ob (pPick x120 (some x126) (some (.bool false))) fun x127 =>
   ob (pWant x127 true) fun c_9 =>
   ob (sel c_9 (some x8) (some (.tuple []))) fun x129 =>
   ob (pWant x127 true) fun c_10 =>
   ob (sel c_10 (some x9) (some (.tuple []))) fun x130 =>
   ob (pWant x127 true) fun c_11 =>
   ob (sel c_11 (xbin PP .lss 3 false x129 x130) (some (.tuple []))) fun x131 =>
   ob (pPick x127 (some x131) (some (.bool false))) fun x132 =>
   pIf x132
    (obP (xslice PP h105 9 x0 (some x8) none none) fun x135 h135 =>
    obP (E (.fn 201) [x135, x1] h135) fun x137 h137 =>
    ob (xbin PP .lss 3 true x137 (.int .i64 0)) fun x139 =>
    pIf x139
     (kr (.int .i64 (-1)) h137)
     (ob (xbin PP .add 3 false x8 x137) fun x142 =>
     kr x142 h137))
    (kn x0 x1 x5 x6 x7 x8 x9 x10 h105))
theorem f159_5_eq (E : Ev) (kn : K) (kx : Nat → K) (kr : K) : f159_5 E (fun y0 y1 y5 y6 y7 y8 y9 y10 h => kn (mkE [(0, y0), (1, y1), (5, y5), (6, y6), (7, y7), (8, y8), (9, y9), (10, y10)]) h) (fun y4 h => kr (mkE [(4, y4)]) h) = fun x0 x1 x5 x6 x7 x8 x9 x10 h => R159 E (pb (pb (pb (pb (pa (pb (pa (pa (pa (pb (pb (pb (pb (pb (pb (pb (pb (codeOf fn159)))))))))))))))))) true 2019 (fun i => sel (Nat.beq i 2) 2019 ((fun i => sel (Nat.beq i 1) 0 ((fun _ => 0) i)) i)) kn kx kr (mkE [(0, x0), (1, x1), (5, x5), (6, x6), (7, x7), (8, x8), (9, x9), (10, x10)]) h := by
  funext x0 x1 x5 x6 x7 x8 x9 x10 h
  unfold f159_5
  refine Eq.trans ?_ (R159_unf E _ _ _ _ _ _ _ _).symm
  generalize R159 E = R
  generalize LL = L
  generalize PP = P
  revert R L P
  refine id ?_
  intro R L P
  kernel_rfl
def f159_4 (E : Ev) (kn : AV → AV → AV → AV → AV → AV → AV → AV → Heap → Res) (kr : AV → Heap → Res) (x0 x1 x5 x6 x7 x8 x9 x10 : AV) (h : Heap) : Res :=
  ob (xbin PP .add 3 true x8 (.int .i64 1)) fun x80 =>
  ob (xindex PP 9 x0 x80) fun x81 =>
  ob (xbin PP .eql 5 false x81 x7) fun x83 =>
  ob (pWant x83 true) fun c =>
  ob (sel c (some x0) (some (.tuple []))) fun x85 =>
  ob (pWant x83 true) fun c_1 =>
  ob (sel c_1 (some x8) (some (.tuple []))) fun x86 =>
  ob (pWant x83 true) fun c_2 =>
  ob (sel c_2 (some x8) (some (.tuple []))) fun x87 =>
  ob (pWant x83 true) fun c_3 =>
  ob (sel c_3 (some x5) (some (.tuple []))) fun x88 =>
  ob (pWant x83 true) fun c_4 =>
  ob (sel c_4 (xbin PP .add 3 false x87 x88) (some (.tuple []))) fun x89 =>
  ob (pWant x83 true) fun c_5 =>
  obP (sel c_5 (xslice PP h 9 x85 (some x86) (some x89) none) (some (.tuple [], h))) fun x90 h90 =>
  ob (pWant x83 true) fun c_6 =>
  ob (sel c_6 (some x1) (some (.tuple []))) fun x91 =>
  ob (pWant x83 true) fun c_7 =>
  ob (sel c_7 (xbin PP .eql 9 false x90 x91) (some (.tuple []))) fun x92 =>
  ob (pPick x83 (some x92) (some (.bool false))) fun x93 =>
  pIf x93
   (kr x8 h90)
   (ob (xbin PP .add 3 true x8 (.int .i64 1)) fun x96 =>
   ob (xbin PP .add 3 true x10 (.int .i64 1)) fun x98 =>
   f159_5 E kn kr x0 x1 x5 x6 x7 x96 x9 x98 h90)
theorem f159_4_eq (E : Ev) (kn : K) (kx : Nat → K) (kr : K) : f159_4 E (fun y0 y1 y5 y6 y7 y8 y9 y10 h => kn (mkE [(0, y0), (1, y1), (5, y5), (6, y6), (7, y7), (8, y8), (9, y9), (10, y10)]) h) (fun y4 h => kr (mkE [(4, y4)]) h) = fun x0 x1 x5 x6 x7 x8 x9 x10 h => R159 E (pb (pa (pb (pa (pa (pa (pb (pb (pb (pb (pb (pb (pb (pb (codeOf fn159))))))))))))))) true 2019 (fun i => sel (Nat.beq i 2) 2019 ((fun i => sel (Nat.beq i 1) 0 ((fun _ => 0) i)) i)) kn kx kr (mkE [(0, x0), (1, x1), (5, x5), (6, x6), (7, x7), (8, x8), (9, x9), (10, x10)]) h := by
  funext x0 x1 x5 x6 x7 x8 x9 x10 h
  unfold f159_4
  rw [f159_5_eq E kn kx kr]
  refine Eq.trans ?_ (R159_unf E _ _ _ _ _ _ _ _).symm
  generalize R159 E = R
  generalize LL = L
  generalize PP = P
  revert R L P
  refine id ?_
  intro R L P
  kernel_rfl
def f159_3 (E : Ev) (kn : AV → AV → AV → AV → AV → AV → AV → AV → Heap → Res) (k1 : Heap → Res) (kr : AV → Heap → Res) (x0 x1 x5 x6 x7 x8 x9 x10 : AV) (h : Heap) : Res :=
  ob (xbin PP .lss 3 false x8 x9) fun x59 =>
  pIf x59
   (ob (xindex PP 9 x0 x8) fun x62 =>
   ob (xbin PP .neq 5 false x62 x6) fun x64 =>
   pIf x64
    (ob (xbin PP .add 3 true x8 (.int .i64 1)) fun x67 =>
    obP (xslice PP h 9 x0 (some x67) (some x9) none) fun x69 h69 =>
    obP (E (.fn 198) [x69, x6] h69) fun x71 h71 =>
    ob (xbin PP .lss 3 true x71 (.int .i64 0)) fun x73 =>
    pIf x73
     (kr (.int .i64 (-1)) h71)
     (ob (xbin PP .add 3 true x71 (.int .i64 1)) fun x76 =>
     ob (xbin PP .add 3 false x8 x76) fun x77 =>
     f159_4 E kn kr x0 x1 x5 x6 x7 x77 x9 x10 h71))
    (f159_4 E kn kr x0 x1 x5 x6 x7 x8 x9 x10 h))
   (k1 h)
theorem f159_3_eq (E : Ev) (kn : K) (kx : Nat → K) (kr : K) (e1 : K) (he1 : kx 1 = e1) : f159_3 E (fun y0 y1 y5 y6 y7 y8 y9 y10 h => kn (mkE [(0, y0), (1, y1), (5, y5), (6, y6), (7, y7), (8, y8), (9, y9), (10, y10)]) h) (fun h => e1 (mkE []) h) (fun y4 h => kr (mkE [(4, y4)]) h) = fun x0 x1 x5 x6 x7 x8 x9 x10 h => R159 E (pa (pa (pa (pb (pb (pb (pb (pb (pb (pb (pb (codeOf fn159)))))))))))) true 2019 (fun i => sel (Nat.beq i 1) 0 ((fun _ => 0) i)) kn kx kr (mkE [(0, x0), (1, x1), (5, x5), (6, x6), (7, x7), (8, x8), (9, x9), (10, x10)]) h := by
  subst he1
  funext x0 x1 x5 x6 x7 x8 x9 x10 h
  unfold f159_3
  rw [f159_4_eq E kn (fun i => sel (Nat.beq i 2) kn (kx i)) kr]
  refine Eq.trans ?_ (R159_unf E _ _ _ _ _ _ _ _).symm
  generalize R159 E = R
  generalize LL = L
  generalize PP = P
  revert R L P
  refine id ?_
  intro R L P
  kernel_rfl
def f159_1 (E : Ev) (kr : AV → Heap → Res) (x0 x1 x5 : AV) (h : Heap) : Res :=
  ob (xbin PP .eql 3 true x5 (.int .i64 0)) fun x18 =>
  ob (pWant x18 false) fun c =>
  ob (sel c (some x1) (some (.tuple []))) fun x20 =>
  ob (pWant x18 false) fun c_1 =>
  ob (sel c_1 (some x0) (some (.tuple []))) fun x21 =>
  ob (pWant x18 false) fun c_2 =>
  ob (sel c_2 (xbin PP .eql 9 false x20 x21) (some (.tuple []))) fun x22 =>
  ob (pPick x18 (some (.bool true)) (some x22)) fun x23 =>
  pIf x23
   (kr (.int .i64 0) h)
   (ob (xbin PP .eql 3 true x5 (.int .i64 1)) fun x26 =>
   pIf x26
    (ob (xindex PP 9 x1 (.int .i64 0)) fun x29 =>
    obP (E (.fn 198) [x0, x29] h) fun x30 h30 =>
    kr x30 h30)
    (ob (xlen PP h 9 x0) fun x34 =>
    ob (xbin PP .geq 3 false x5 x34) fun x35 =>
    pIf x35
     (kr (.int .i64 (-1)) h)
     (ob (pLoad PP 3 (.ptr 3 0) h) fun x38 =>
     ob (xbin PP .leq 3 false x5 x38) fun x39 =>
     ob (pWant x39 true) fun c_3 =>
     ob (sel c_3 (some x0) (some (.tuple []))) fun x41 =>
     ob (pWant x39 true) fun c_4 =>
     ob (sel c_4 (xlen PP h 9 x41) (some (.tuple []))) fun x42 =>
     ob (pWant x39 true) fun c_5 =>
     ob (sel c_5 (xbin PP .leq 3 true x42 (.int .i64 64)) (some (.tuple []))) fun x43 =>
     ob (pPick x39 (some x43) (some (.bool false))) fun x44 =>
     pIf x44
      (obP (xext .idxStr [x0, x1] h) fun x47 h47 =>
      kr x47 h47)
      (ob (xindex PP 9 x1 (.int .i64 0)) fun x49 =>
      ob (xindex PP 9 x1 (.int .i64 1)) fun x51 =>
      ob (xlen PP h 9 x0) fun x53 =>
      ob (xbin PP .sub 3 false x53 x5) fun x55 =>
      ob (xbin PP .add 3 true x55 (.int .i64 1)) fun x56 =>
      lp b8 (fun k => f159_3 E k (f159_2 E kr) kr) LL x0 x1 x5 x49 x51 (.int .i64 0) x56 (.int .i64 0) h))))
theorem f159_1_eq (E : Ev) (kn : K) (kx : Nat → K) (kr : K) : f159_1 E (fun y4 h => kr (mkE [(4, y4)]) h) = fun x0 x1 x5 h => R159 E (pb (pb (codeOf fn159))) true 16 (fun _ => 0) kn kx kr (mkE [(0, x0), (1, x1), (5, x5)]) h := by
  funext x0 x1 x5 h
  unfold f159_1
  rw [f159_2_eq E kn kx kr, lp8_eq 0 1 5 6 7 8 9 10 (fun k => (R159 E (pa (pa (pa (pb (pb (pb (pb (pb (pb (pb (pb (codeOf fn159)))))))))))) true 2019 (fun i => sel (Nat.beq i 1) 0 ((fun _ => 0) i)) k (fun i => sel (Nat.beq i 1) (R159 E (pb (pb (pb (pb (pb (pb (pb (pb (pb (codeOf fn159)))))))))) true 16 (fun _ => 0) kn kx kr) (kx i)) kr)) (fun k => f159_3 E k (fun h => (R159 E (pb (pb (pb (pb (pb (pb (pb (pb (pb (codeOf fn159)))))))))) true 16 (fun _ => 0) kn kx kr) (mkE []) h) (fun y4 h => kr (mkE [(4, y4)]) h)) (fun k => f159_3_eq E k (fun i => sel (Nat.beq i 1) (R159 E (pb (pb (pb (pb (pb (pb (pb (pb (pb (codeOf fn159)))))))))) true 16 (fun _ => 0) kn kx kr) (kx i)) kr (R159 E (pb (pb (pb (pb (pb (pb (pb (pb (pb (codeOf fn159)))))))))) true 16 (fun _ => 0) kn kx kr) rfl) LL]
  refine Eq.trans ?_ (R159_unf E _ _ _ _ _ _ _ _).symm
  generalize R159 E = R
  generalize LL = L
  generalize PP = P
  revert R L P
  refine id ?_
  intro R L P
  kernel_rfl
/-- internal/stringslite.Index -/
def s159 (E : Ev) (x0 x1 : AV) (h : Heap) : Res :=
  ob (xlen PP h 9 x1) fun x15 =>
  f159_1 E r159 x0 x1 x15 h
theorem s159_eq (E : Ev) (x0 x1 : AV) (h : Heap) : xbodyR PP GG CC E LL fn159 [x0, x1] h = s159 E x0 x1 h := by
  unfold s159
  rw [r159_eq, f159_1_eq E (xret PP fn159) noK (xret PP fn159)]
  refine (bodyR_unf (c := (codeOf fn159)) (by kernel_rfl) (by kernel_rfl)).trans ?_
  show runS (R159 E) PP GG CC E fn159.ntmps LL none (resBits fn159.results.toList) (codeOf fn159) _ _ _ _ _ _ _ = _
  generalize R159 E = R
  generalize LL = L
  generalize PP = P
  symm
  revert R L P
  refine id ?_
  intro R L P
  kernel_rfl
def fn160 : Func := fnAt PP 160
def R160 (E : Ev) : RT := runR PP GG CC E 17 LL none 16
theorem R160_unf (E : Ev) (c : Code) (lv : Nat) (lx : Nat → Nat) (kn : K) (kx : Nat → K) (kr : K) (e : Env) (h : Heap) : R160 E c true lv lx kn kx kr e h = runS (R160 E) PP GG CC E 17 LL none 16 c lv lx kn kx kr e h := runR_unf _ _ _ _ _ _ _ _
def r160 (x4 : AV) (h : Heap) : Res := some (x4, h)
theorem r160_eq : r160 = fun x4 h => xret PP fn160 (mkE [(4, x4)]) h := by kernel_rfl
def f160_1 (E : Ev) (kr : AV → Heap → Res) (x0 : AV) (h : Heap) : Res :=
  kr x0 h
theorem f160_1_eq (E : Ev) (kn : K) (kx : Nat → K) (kr : K) : f160_1 E (fun y4 h => kr (mkE [(4, y4)]) h) = fun x0 h => R160 E (pb (pb (codeOf fn160))) true 16 (fun _ => 0) kn kx kr (mkE [(0, x0)]) h := by
  funext x0 h
  unfold f160_1
  refine Eq.trans ?_ (R160_unf E _ _ _ _ _ _ _ _).symm
  generalize R160 E = R
  generalize LL = L
  generalize PP = P
  revert R L P
  refine id ?_
  intro R L P
  kernel_rfl
def f160_2 (E : Ev) (kn : AV → AV → Heap → Res) (k0 : AV → Heap → Res) (x0 x1 : AV) (h : Heap) : Res :=
  ob (xlen PP h 9 x0) fun x6 =>
  ob (xbin PP .gtr 3 true x6 (.int .i64 0)) fun x7 =>
  ob (pWant x7 true) fun c =>
  ob (sel c (some x0) (some (.tuple []))) fun x9 =>
  ob (pWant x7 true) fun c_1 =>
  ob (sel c_1 (xindex PP 9 x9 (.int .i64 0)) (some (.tuple []))) fun x10 =>
  ob (pWant x7 true) fun c_2 =>
  ob (sel c_2 (some x1) (some (.tuple []))) fun x11 =>
  ob (pWant x7 true) fun c_3 =>
  ob (sel c_3 (xbin PP .eql 5 false x10 x11) (some (.tuple []))) fun x12 =>
  ob (pPick x7 (some x12) (some (.bool false))) fun x13 =>
  pIf x13
   (obP (xslice PP h 9 x0 (some (.int .i64 1)) none none) fun x15 h15 =>
   kn x15 x1 h15)
   (k0 x0 h)
theorem f160_2_eq (E : Ev) (kn : K) (kx : Nat → K) (kr : K) (e0 : K) (he0 : kx 0 = e0) : f160_2 E (fun y0 y1 h => kn (mkE [(0, y0), (1, y1)]) h) (fun y0 h => e0 (mkE [(0, y0)]) h) = fun x0 x1 h => R160 E (pa (pa (pa (pb (codeOf fn160))))) true 3 (fun i => sel (Nat.beq i 0) 1 ((fun _ => 0) i)) kn kx kr (mkE [(0, x0), (1, x1)]) h := by
  subst he0
  funext x0 x1 h
  unfold f160_2
  refine Eq.trans ?_ (R160_unf E _ _ _ _ _ _ _ _).symm
  generalize R160 E = R
  generalize LL = L
  generalize PP = P
  revert R L P
  refine id ?_
  intro R L P
  kernel_rfl
/-- strings.trimLeftByte -/
def s160 (E : Ev) (x0 x1 : AV) (h : Heap) : Res :=
  lp b2 (fun k => f160_2 E k (f160_1 E r160)) LL x0 x1 h
theorem s160_eq (E : Ev) (x0 x1 : AV) (h : Heap) : xbodyR PP GG CC E LL fn160 [x0, x1] h = s160 E x0 x1 h := by
  unfold s160
  rw [r160_eq, f160_1_eq E (xret PP fn160) noK (xret PP fn160), lp2_eq 0 1 (fun k => (R160 E (pa (pa (pa (pb (codeOf fn160))))) true 3 (fun i => sel (Nat.beq i 0) 1 ((fun _ => 0) i)) k (fun i => sel (Nat.beq i 0) (R160 E (pb (pb (codeOf fn160))) true 16 (fun _ => 0) (xret PP fn160) noK (xret PP fn160)) (noK i)) (xret PP fn160))) (fun k => f160_2 E k (fun y0 h => (R160 E (pb (pb (codeOf fn160))) true 16 (fun _ => 0) (xret PP fn160) noK (xret PP fn160)) (mkE [(0, y0)]) h)) (fun k => f160_2_eq E k (fun i => sel (Nat.beq i 0) (R160 E (pb (pb (codeOf fn160))) true 16 (fun _ => 0) (xret PP fn160) noK (xret PP fn160)) (noK i)) (xret PP fn160) (R160 E (pb (pb (codeOf fn160))) true 16 (fun _ => 0) (xret PP fn160) noK (xret PP fn160)) rfl) LL]
  refine (bodyR_unf (c := (codeOf fn160)) (by kernel_rfl) (by kernel_rfl)).trans ?_
  show runS (R160 E) PP GG CC E fn160.ntmps LL none (resBits fn160.results.toList) (codeOf fn160) _ _ _ _ _ _ _ = _
  generalize R160 E = R
  generalize LL = L
  generalize PP = P
  symm
  revert R L P
  refine id ?_
  intro R L P
  kernel_rfl
def fn161 : Func := fnAt PP 161
def R161 (E : Ev) : RT := runR PP GG CC E 16 LL none 16
theorem R161_unf (E : Ev) (c : Code) (lv : Nat) (lx : Nat → Nat) (kn : K) (kx : Nat → K) (kr : K) (e : Env) (h : Heap) : R161 E c true lv lx kn kx kr e h = runS (R161 E) PP GG CC E 16 LL none 16 c lv lx kn kx kr e h := runR_unf _ _ _ _ _ _ _ _
def r161 (x4 : AV) (h : Heap) : Res := some (x4, h)
theorem r161_eq : r161 = fun x4 h => xret PP fn161 (mkE [(4, x4)]) h := by kernel_rfl
def f161_1 (E : Ev) (kr : AV → Heap → Res) (x0 : AV) (h : Heap) : Res :=
  kr x0 h
theorem f161_1_eq (E : Ev) (kn : K) (kx : Nat → K) (kr : K) : f161_1 E (fun y4 h => kr (mkE [(4, y4)]) h) = fun x0 h => R161 E (pb (pb (codeOf fn161))) true 16 (fun _ => 0) kn kx kr (mkE [(0, x0)]) h := by
  funext x0 h
  unfold f161_1
  refine Eq.trans ?_ (R161_unf E _ _ _ _ _ _ _ _).symm
  generalize R161 E = R
  generalize LL = L
  generalize PP = P
  revert R L P
  refine id ?_
  intro R L P
  kernel_rfl
def f161_2 (E : Ev) (kn : AV → AV → Heap → Res) (k0 : AV → Heap → Res) (x0 x1 : AV) (h : Heap) : Res :=
  ob (xlen PP h 9 x0) fun x6 =>
  ob (xbin PP .gtr 3 true x6 (.int .i64 0)) fun x7 =>
  pIf x7
   (ob (xindex PP 9 x0 (.int .i64 0)) fun x10 =>
   obP (E (.fn 163) [x1, x10] h) fun x11 h11 =>
   ob (xun .not x11) fun x12 =>
   pIf x12
    (k0 x0 h11)
    (obP (xslice PP h11 9 x0 (some (.int .i64 1)) none none) fun x14 h14 =>
    kn x14 x1 h14))
   (k0 x0 h)
theorem f161_2_eq (E : Ev) (kn : K) (kx : Nat → K) (kr : K) (e0 : K) (he0 : kx 0 = e0) : f161_2 E (fun y0 y1 h => kn (mkE [(0, y0), (1, y1)]) h) (fun y0 h => e0 (mkE [(0, y0)]) h) = fun x0 x1 h => R161 E (pa (pa (pa (pb (codeOf fn161))))) true 3 (fun i => sel (Nat.beq i 0) 1 ((fun _ => 0) i)) kn kx kr (mkE [(0, x0), (1, x1)]) h := by
  subst he0
  funext x0 x1 h
  unfold f161_2
  refine Eq.trans ?_ (R161_unf E _ _ _ _ _ _ _ _).symm
  generalize R161 E = R
  generalize LL = L
  generalize PP = P
  revert R L P
  refine id ?_
  intro R L P
  kernel_rfl
/-- strings.trimLeftASCII -/
def s161 (E : Ev) (x0 x1 : AV) (h : Heap) : Res :=
  lp b2 (fun k => f161_2 E k (f161_1 E r161)) LL x0 x1 h
theorem s161_eq (E : Ev) (x0 x1 : AV) (h : Heap) : xbodyR PP GG CC E LL fn161 [x0, x1] h = s161 E x0 x1 h := by
  unfold s161
  rw [r161_eq, f161_1_eq E (xret PP fn161) noK (xret PP fn161), lp2_eq 0 1 (fun k => (R161 E (pa (pa (pa (pb (codeOf fn161))))) true 3 (fun i => sel (Nat.beq i 0) 1 ((fun _ => 0) i)) k (fun i => sel (Nat.beq i 0) (R161 E (pb (pb (codeOf fn161))) true 16 (fun _ => 0) (xret PP fn161) noK (xret PP fn161)) (noK i)) (xret PP fn161))) (fun k => f161_2 E k (fun y0 h => (R161 E (pb (pb (codeOf fn161))) true 16 (fun _ => 0) (xret PP fn161) noK (xret PP fn161)) (mkE [(0, y0)]) h)) (fun k => f161_2_eq E k (fun i => sel (Nat.beq i 0) (R161 E (pb (pb (codeOf fn161))) true 16 (fun _ => 0) (xret PP fn161) noK (xret PP fn161)) (noK i)) (xret PP fn161) (R161 E (pb (pb (codeOf fn161))) true 16 (fun _ => 0) (xret PP fn161) noK (xret PP fn161)) rfl) LL]
  refine (bodyR_unf (c := (codeOf fn161)) (by kernel_rfl) (by kernel_rfl)).trans ?_
  show runS (R161 E) PP GG CC E fn161.ntmps LL none (resBits fn161.results.toList) (codeOf fn161) _ _ _ _ _ _ _ = _
  generalize R161 E = R
  generalize LL = L
  generalize PP = P
  symm
  revert R L P
  refine id ?_
  intro R L P
  kernel_rfl
def fn163 : Func := fnAt PP 163
def R163 (E : Ev) : RT := runR PP GG CC E 10 LL none 16
theorem R163_unf (E : Ev) (c : Code) (lv : Nat) (lx : Nat → Nat) (kn : K) (kx : Nat → K) (kr : K) (e : Env) (h : Heap) : R163 E c true lv lx kn kx kr e h = runS (R163 E) PP GG CC E 10 LL none 16 c lv lx kn kx kr e h := runR_unf _ _ _ _ _ _ _ _
def r163 (x4 : AV) (h : Heap) : Res := some (x4, h)
theorem r163_eq : r163 = fun x4 h => xret PP fn163 (mkE [(4, x4)]) h := by kernel_rfl
/-- (*strings.asciiSet).contains -/
def s163 (E : Ev) (x0 x1 : AV) (h : Heap) : Res :=
  ob (pNil x0) fun x7 =>
  ob (xindexAddr PP 218 x7 x1) fun x8 =>
  ob (pLoad PP 4 x8 h) fun x9 =>
  r163 x9 h
theorem s163_eq (E : Ev) (x0 x1 : AV) (h : Heap) : xbodyR PP GG CC E LL fn163 [x0, x1] h = s163 E x0 x1 h := by
  unfold s163
  rw [r163_eq]
  refine (bodyR_unf (c := (codeOf fn163)) (by kernel_rfl) (by kernel_rfl)).trans ?_
  show runS (R163 E) PP GG CC E fn163.ntmps LL none (resBits fn163.results.toList) (codeOf fn163) _ _ _ _ _ _ _ = _
  generalize R163 E = R
  generalize LL = L
  generalize PP = P
  symm
  revert R L P
  refine id ?_
  intro R L P
  kernel_rfl
def fn166 : Func := fnAt PP 166
def R166 (E : Ev) : RT := runR PP GG CC E 20 LL none 16
theorem R166_unf (E : Ev) (c : Code) (lv : Nat) (lx : Nat → Nat) (kn : K) (kx : Nat → K) (kr : K) (e : Env) (h : Heap) : R166 E c true lv lx kn kx kr e h = runS (R166 E) PP GG CC E 20 LL none 16 c lv lx kn kx kr e h := runR_unf _ _ _ _ _ _ _ _
def r166 (x4 : AV) (h : Heap) : Res := some (x4, h)
theorem r166_eq : r166 = fun x4 h => xret PP fn166 (mkE [(4, x4)]) h := by kernel_rfl
/-- cmp.Compare[int] -/
def s166 (E : Ev) (x0 x1 : AV) (h : Heap) : Res :=
  obP (E (.fn 205) [x0] h) fun x8 h8 =>
  obP (E (.fn 205) [x1] h8) fun x10 h10 =>
  pIf x8
   (pIf x10
    (r166 (.int .i64 0) h10)
    (r166 (.int .i64 (-1)) h10))
   (pIf x10
    (r166 (.int .i64 1) h10)
    (ob (xbin PP .lss 3 false x0 x1) fun x16 =>
    pIf x16
     (r166 (.int .i64 (-1)) h10)
     (ob (xbin PP .gtr 3 false x0 x1) fun x19 =>
     pIf x19
      (r166 (.int .i64 1) h10)
      (r166 (.int .i64 0) h10))))
theorem s166_eq (E : Ev) (x0 x1 : AV) (h : Heap) : xbodyR PP GG CC E LL fn166 [x0, x1] h = s166 E x0 x1 h := by
  unfold s166
  rw [r166_eq]
  refine (bodyR_unf (c := (codeOf fn166)) (by kernel_rfl) (by kernel_rfl)).trans ?_
  show runS (R166 E) PP GG CC E fn166.ntmps LL none (resBits fn166.results.toList) (codeOf fn166) _ _ _ _ _ _ _ = _
  generalize R166 E = R
  generalize LL = L
  generalize PP = P
  symm
  revert R L P
  refine id ?_
  intro R L P
  kernel_rfl
def fn167 : Func := fnAt PP 167
def R167 (E : Ev) : RT := runR PP GG CC E 20 LL none 16
theorem R167_unf (E : Ev) (c : Code) (lv : Nat) (lx : Nat → Nat) (kn : K) (kx : Nat → K) (kr : K) (e : Env) (h : Heap) : R167 E c true lv lx kn kx kr e h = runS (R167 E) PP GG CC E 20 LL none 16 c lv lx kn kx kr e h := runR_unf _ _ _ _ _ _ _ _
def r167 (x4 : AV) (h : Heap) : Res := some (x4, h)
theorem r167_eq : r167 = fun x4 h => xret PP fn167 (mkE [(4, x4)]) h := by kernel_rfl
/-- cmp.Compare[uint64] -/
def s167 (E : Ev) (x0 x1 : AV) (h : Heap) : Res :=
  obP (E (.fn 206) [x0] h) fun x8 h8 =>
  obP (E (.fn 206) [x1] h8) fun x10 h10 =>
  pIf x8
   (pIf x10
    (r167 (.int .i64 0) h10)
    (r167 (.int .i64 (-1)) h10))
   (pIf x10
    (r167 (.int .i64 1) h10)
    (ob (xbin PP .lss 208 false x0 x1) fun x16 =>
    pIf x16
     (r167 (.int .i64 (-1)) h10)
     (ob (xbin PP .gtr 208 false x0 x1) fun x19 =>
     pIf x19
      (r167 (.int .i64 1) h10)
      (r167 (.int .i64 0) h10))))
theorem s167_eq (E : Ev) (x0 x1 : AV) (h : Heap) : xbodyR PP GG CC E LL fn167 [x0, x1] h = s167 E x0 x1 h := by
  unfold s167
  rw [r167_eq]
  refine (bodyR_unf (c := (codeOf fn167)) (by kernel_rfl) (by kernel_rfl)).trans ?_
  show runS (R167 E) PP GG CC E fn167.ntmps LL none (resBits fn167.results.toList) (codeOf fn167) _ _ _ _ _ _ _ = _
  generalize R167 E = R
  generalize LL = L
  generalize PP = P
  symm
  revert R L P
  refine id ?_
  intro R L P
  kernel_rfl
def fn168 : Func := fnAt PP 168
def R168 (E : Ev) : RT := runR PP GG CC E 8 LL none 4
theorem R168_unf (E : Ev) (c : Code) (lv : Nat) (lx : Nat → Nat) (kn : K) (kx : Nat → K) (kr : K) (e : Env) (h : Heap) : R168 E c true lv lx kn kx kr e h = runS (R168 E) PP GG CC E 8 LL none 4 c lv lx kn kx kr e h := runR_unf _ _ _ _ _ _ _ _
def r168 (x2 : AV) (h : Heap) : Res := some (x2, h)
theorem r168_eq : r168 = fun x2 h => xret PP fn168 (mkE [(2, x2)]) h := by kernel_rfl
/-- theodolite/nat.Of -/
def s168 (E : Ev) (x0 : AV) (h : Heap) : Res :=
  ob (xbin PP .leq 3 true x0 (.int .i64 0)) fun x4 =>
  pIf x4
   (r168 .nilSlice h)
   (ob (pInt PP 3 208 x0) fun x6 =>
   obP (pBuildSlice PP h 139 1 [(0, x6)]) fun x7 h7 =>
   r168 x7 h7)
theorem s168_eq (E : Ev) (x0 : AV) (h : Heap) : xbodyR PP GG CC E LL fn168 [x0] h = s168 E x0 h := by
  unfold s168
  rw [r168_eq]
  refine (bodyR_unf (c := (codeOf fn168)) (by kernel_rfl) (by kernel_rfl)).trans ?_
  show runS (R168 E) PP GG CC E fn168.ntmps LL none (resBits fn168.results.toList) (codeOf fn168) _ _ _ _ _ _ _ = _
  generalize R168 E = R
  generalize LL = L
  generalize PP = P
  symm
  revert R L P
  refine id ?_
  intro R L P
  kernel_rfl
def fn169 : Func := fnAt PP 169
def R169 (E : Ev) : RT := runR PP GG CC E 33 LL none 48
theorem R169_unf (E : Ev) (c : Code) (lv : Nat) (lx : Nat → Nat) (kn : K) (kx : Nat → K) (kr : K) (e : Env) (h : Heap) : R169 E c true lv lx kn kx kr e h = runS (R169 E) PP GG CC E 33 LL none 48 c lv lx kn kx kr e h := runR_unf _ _ _ _ _ _ _ _
def r169 (x4 x5 : AV) (h : Heap) : Res := some (.tuple [x4, x5], h)
theorem r169_eq : r169 = fun x4 x5 h => xret PP fn169 (mkE [(4, x4), (5, x5)]) h := by kernel_rfl
def f169_1 (E : Ev) (kr : AV → AV → Heap → Res) (x4 x5 : AV) (h : Heap) : Res :=
  obP (E (.fn 140) [x4] h) fun x31 h31 =>
  kr x31 x5 h31
theorem f169_1_eq (E : Ev) (kn : K) (kx : Nat → K) (kr : K) : f169_1 E (fun y4 y5 h => kr (mkE [(4, y4), (5, y5)]) h) = fun x4 x5 h => R169 E (pb (pb (pb (codeOf fn169)))) true 48 (fun _ => 0) kn kx kr (mkE [(4, x4), (5, x5)]) h := by
  funext x4 x5 h
  unfold f169_1
  refine Eq.trans ?_ (R169_unf E _ _ _ _ _ _ _ _).symm
  generalize R169 E = R
  generalize LL = L
  generalize PP = P
  revert R L P
  refine id ?_
  intro R L P
  kernel_rfl
def f169_2 (E : Ev) (kn : AV → AV → AV → AV → AV → Heap → Res) (k0 : AV → AV → Heap → Res) (x0 x1 x4 x5 x6 : AV) (h : Heap) : Res :=
  ob (xbin PP .geq 3 true x6 (.int .i64 0)) fun x14 =>
  pIf x14
   (ob (xindexAddr PP 139 x0 x6) fun x23 =>
   ob (pLoad PP 208 x23 h) fun x24 =>
   obP (E (.fn 207) [x5, x24, x1] h) fun x26 h26 =>
   ob (pExtract 0 x26) fun x27 =>
   ob (pExtract 1 x26) fun x28 =>
   ob (xindexAddr PP 139 x4 x6) fun x29 =>
   ob (pStore PP 208 x29 x27 h26) fun h0 =>
   ob (xbin PP .sub 3 true x6 (.int .i64 1)) fun x16 =>
   kn x0 x1 x4 x28 x16 h0)
   (k0 x4 x5 h)
theorem f169_2_eq (E : Ev) (kn : K) (kx : Nat → K) (kr : K) (e0 : K) (he0 : kx 0 = e0) : f169_2 E (fun y0 y1 y4 y5 y6 h => kn (mkE [(0, y0), (1, y1), (4, y4), (5, y5), (6, y6)]) h) (fun y4 y5 h => e0 (mkE [(4, y4), (5, y5)]) h) = fun x0 x1 x4 x5 x6 h => R169 E (pa (pa (pb (pa (pb (pb (codeOf fn169))))))) true 115 (fun i => sel (Nat.beq i 0) 48 ((fun _ => 0) i)) kn kx kr (mkE [(0, x0), (1, x1), (4, x4), (5, x5), (6, x6)]) h := by
  subst he0
  funext x0 x1 x4 x5 x6 h
  unfold f169_2
  refine Eq.trans ?_ (R169_unf E _ _ _ _ _ _ _ _).symm
  generalize R169 E = R
  generalize LL = L
  generalize PP = P
  revert R L P
  refine id ?_
  intro R L P
  kernel_rfl
/-- theodolite/nat.byLimb -/
def s169 (E : Ev) (x0 x1 : AV) (h : Heap) : Res :=
  ob (xlen PP h 139 x0) fun x8 =>
  obP (xmake PP h 139 x8 x8) fun x9 h9 =>
  ob (xlen PP h9 139 x0) fun x11 =>
  ob (xbin PP .sub 3 true x11 (.int .i64 1)) fun x12 =>
  lp b5 (fun k => f169_2 E k (f169_1 E r169)) LL x0 x1 x9 (.int .u64 0) x12 h9
theorem s169_eq (E : Ev) (x0 x1 : AV) (h : Heap) : xbodyR PP GG CC E LL fn169 [x0, x1] h = s169 E x0 x1 h := by
  unfold s169
  rw [r169_eq, f169_1_eq E (xret PP fn169) noK (xret PP fn169), lp5_eq 0 1 4 5 6 (fun k => (R169 E (pa (pa (pb (pa (pb (pb (codeOf fn169))))))) true 115 (fun i => sel (Nat.beq i 0) 48 ((fun _ => 0) i)) k (fun i => sel (Nat.beq i 0) (R169 E (pb (pb (pb (codeOf fn169)))) true 48 (fun _ => 0) (xret PP fn169) noK (xret PP fn169)) (noK i)) (xret PP fn169))) (fun k => f169_2 E k (fun y4 y5 h => (R169 E (pb (pb (pb (codeOf fn169)))) true 48 (fun _ => 0) (xret PP fn169) noK (xret PP fn169)) (mkE [(4, y4), (5, y5)]) h)) (fun k => f169_2_eq E k (fun i => sel (Nat.beq i 0) (R169 E (pb (pb (pb (codeOf fn169)))) true 48 (fun _ => 0) (xret PP fn169) noK (xret PP fn169)) (noK i)) (xret PP fn169) (R169 E (pb (pb (pb (codeOf fn169)))) true 48 (fun _ => 0) (xret PP fn169) noK (xret PP fn169)) rfl) LL]
  refine (bodyR_unf (c := (codeOf fn169)) (by kernel_rfl) (by kernel_rfl)).trans ?_
  show runS (R169 E) PP GG CC E fn169.ntmps LL none (resBits fn169.results.toList) (codeOf fn169) _ _ _ _ _ _ _ = _
  generalize R169 E = R
  generalize LL = L
  generalize PP = P
  symm
  revert R L P
  refine id ?_
  intro R L P
  kernel_rfl
def fn176 : Func := fnAt PP 176
def R176 (E : Ev) : RT := runR PP GG CC E 172 LL none 192
theorem R176_unf (E : Ev) (c : Code) (lv : Nat) (lx : Nat → Nat) (kn : K) (kx : Nat → K) (kr : K) (e : Env) (h : Heap) : R176 E c true lv lx kn kx kr e h = runS (R176 E) PP GG CC E 172 LL none 192 c lv lx kn kx kr e h := runR_unf _ _ _ _ _ _ _ _
def r176 (x6 x7 : AV) (h : Heap) : Res := some (.tuple [x6, x7], h)
theorem r176_eq : r176 = fun x6 x7 h => xret PP fn176 (mkE [(6, x6), (7, x7)]) h := by kernel_rfl
def f176_4 (E : Ev) (kr : AV → AV → Heap → Res) (x9 x12 x13 : AV) (h : Heap) : Res :=
  ob (pWant x12 true) fun c =>
  ob (sel c (some x9) (some (.tuple []))) fun x166 =>
  ob (pWant x12 true) fun c_1 =>
  obP (sel c_1 (E (.fn 211) [x166] h) (some (.tuple [], h))) fun x167 h167 =>
  ob (pWant x12 true) fun c_2 =>
  ob (sel c_2 (xun .not x167) (some (.tuple []))) fun x168 =>
  ob (pPick x12 (some x168) (some (.bool false))) fun x169 =>
  pIf x169
   (ob (pIface PP 266 (.int .i64 2)) fun x170 =>
   kr (.int .u64 0) x170 h167)
   (kr x13 .nilIface h167)
theorem f176_4_eq (E : Ev) (kn : K) (kx : Nat → K) (kr : K) : f176_4 E (fun y6 y7 h => kr (mkE [(6, y6), (7, y7)]) h) = fun x9 x12 x13 h => R176 E (pb (pb (pb (pb (pb (pb (pb (pb (pb (pb (pb (pb (codeOf fn176))))))))))))) true 192 (fun _ => 0) kn kx kr (mkE [(9, x9), (12, x12), (13, x13)]) h := by
  funext x9 x12 x13 h
  unfold f176_4
  refine Eq.trans ?_ (R176_unf E _ _ _ _ _ _ _ _).symm
  generalize R176 E = R
  generalize LL = L
  generalize PP = P
  revert R L P
  refine id ?_
  intro R L P
  kernel_rfl
def f176_6 (E : Ev) (kn : AV → AV → AV → AV → AV → AV → AV → AV → AV → AV → Heap → Res) (x1 x8 x9 x10 x11 x12 x13 x99 x100 x101 : AV) (h : Heap) : Res :=
  ob (xbin PP .add 3 true x101 (.int .i64 1)) fun x163 =>
  kn x1 x8 x9 x10 x11 x12 x13 x99 x100 x163 h
theorem f176_6_eq (E : Ev) (kn : K) (kx : Nat → K) (kr : K) : f176_6 E (fun y1 y8 y9 y10 y11 y12 y13 y99 y100 y101 h => kn (mkE [(1, y1), (8, y8), (9, y9), (10, y10), (11, y11), (12, y12), (13, y13), (99, y99), (100, y100), (101, y101)]) h) = fun x1 x8 x9 x10 x11 x12 x13 x99 x100 x101 h => R176 E (pb (pb (pb (pa (pa (pb (pa (pb (pb (pb (pb (pb (pb (pb (pb (pb (pb (pb (codeOf fn176))))))))))))))))))) true 4436777100798802905238461234946 (fun i => sel (Nat.beq i 3) 12800 ((fun _ => 0) i)) kn kx kr (mkE [(1, x1), (8, x8), (9, x9), (10, x10), (11, x11), (12, x12), (13, x13), (99, x99), (100, x100), (101, x101)]) h := by
  funext x1 x8 x9 x10 x11 x12 x13 x99 x100 x101 h
  unfold f176_6
  refine Eq.trans ?_ (R176_unf E _ _ _ _ _ _ _ _).symm
  generalize R176 E = R
  generalize LL = L
  generalize PP = P
  revert R L P
  refine id ?_
  intro R L P
  kernel_rfl
def f176_8 (E : Ev) (kn : AV → AV → AV → AV → AV → AV → AV → AV → AV → AV → Heap → Res) (kr : AV → AV → Heap → Res) (x1 x8 x9 x10 x11 x12 x13 x17 x99 x100 x101 : AV) (h : Heap) : Res :=
  ob (xbin PP .lss 208 false x17 x13) fun x154 =>
  ob (pWant x154 false) fun c =>
  ob (sel c (some x17) (some (.tuple []))) fun x156 =>
  ob (pWant x154 false) fun c_1 =>
  ob (sel c_1 (some x11) (some (.tuple []))) fun x157 =>
  ob (pWant x154 false) fun c_2 =>
  ob (sel c_2 (xbin PP .gtr 208 false x156 x157) (some (.tuple []))) fun x158 =>
  ob (pPick x154 (some (.bool true)) (some x158)) fun x159 =>
  pIf x159
   (ob (pIface PP 266 (.int .i64 1)) fun x161 =>
   kr x11 x161 h)
   (kn x1 x8 x9 x10 x11 x12 x17 x99 x100 x101 h)
theorem f176_8_eq (E : Ev) (kn : K) (kx : Nat → K) (kr : K) : f176_8 E (fun y1 y8 y9 y10 y11 y12 y13 y99 y100 y101 h => kn (mkE [(1, y1), (8, y8), (9, y9), (10, y10), (11, y11), (12, y12), (13, y13), (99, y99), (100, y100), (101, y101)]) h) (fun y6 y7 h => kr (mkE [(6, y6), (7, y7)]) h) = fun x1 x8 x9 x10 x11 x12 x13 x17 x99 x100 x101 h => R176 E (pb (pb (pb (pb (pb (pb (pb (pa (pa (pb (pb (pa (pa (pb (pa (pb (pb (pb (pb (pb (pb (pb (pb (pb (pb (pb (codeOf fn176))))))))))))))))))))))))))) true 4436777100798802905238461234946 (fun i => sel (Nat.beq i 4) 4436777100798802905238461234946 ((fun i => sel (Nat.beq i 3) 12800 ((fun _ => 0) i)) i)) kn kx kr (mkE [(1, x1), (8, x8), (9, x9), (10, x10), (11, x11), (12, x12), (13, x13), (17, x17), (99, x99), (100, x100), (101, x101)]) h := by
  funext x1 x8 x9 x10 x11 x12 x13 x17 x99 x100 x101 h
  unfold f176_8
  refine Eq.trans ?_ (R176_unf E _ _ _ _ _ _ _ _).symm
  generalize R176 E = R
  generalize LL = L
  generalize PP = P
  revert R L P
  refine id ?_
  intro R L P
  kernel_rfl
def f176_7 (E : Ev) (kn : AV → AV → AV → AV → AV → AV → AV → AV → AV → AV → Heap → Res) (kr : AV → AV → Heap → Res) (x1 x8 x9 x10 x11 x12 x13 x16 x99 x100 x101 : AV) (h : Heap) : Res :=
  ob (pInt PP 3 5 x1) fun x136 =>
  ob (xbin PP .geq 5 false x16 x136) fun x137 =>
  pIf x137
   (ob (pIface PP 266 (.int .i64 2)) fun x138 =>
   kr (.int .u64 0) x138 h)
   (ob (xbin PP .geq 208 false x13 x10) fun x141 =>
   pIf x141
    (ob (pIface PP 266 (.int .i64 1)) fun x143 =>
    kr x11 x143 h)
    (ob (pInt PP 3 208 x1) fun x146 =>
    ob (xbin PP .mul 208 false x13 x146) fun x147 =>
    ob (pInt PP 5 208 x16) fun x150 =>
    ob (xbin PP .add 208 false x147 x150) fun x151 =>
    f176_8 E kn kr x1 x8 x9 x10 x11 x12 x147 x151 x99 x100 x101 h))
theorem f176_7_eq (E : Ev) (kn : K) (kx : Nat → K) (kr : K) : f176_7 E (fun y1 y8 y9 y10 y11 y12 y13 y99 y100 y101 h => kn (mkE [(1, y1), (8, y8), (9, y9), (10, y10), (11, y11), (12, y12), (13, y13), (99, y99), (100, y100), (101, y101)]) h) (fun y6 y7 h => kr (mkE [(6, y6), (7, y7)]) h) = fun x1 x8 x9 x10 x11 x12 x13 x16 x99 x100 x101 h => R176 E (pb (pb (pb (pa (pa (pb (pb (pa (pa (pb (pa (pb (pb (pb (pb (pb (pb (pb (pb (pb (pb (pb (codeOf fn176))))))))))))))))))))))) true 4436777100798802905238461234946 (fun i => sel (Nat.beq i 4) 4436777100798802905238461234946 ((fun i => sel (Nat.beq i 3) 12800 ((fun _ => 0) i)) i)) kn kx kr (mkE [(1, x1), (8, x8), (9, x9), (10, x10), (11, x11), (12, x12), (13, x13), (16, x16), (99, x99), (100, x100), (101, x101)]) h := by
  funext x1 x8 x9 x10 x11 x12 x13 x16 x99 x100 x101 h
  unfold f176_7
  rw [f176_8_eq E kn kx kr]
  refine Eq.trans ?_ (R176_unf E _ _ _ _ _ _ _ _).symm
  generalize R176 E = R
  generalize LL = L
  generalize PP = P
  revert R L P
  refine id ?_
  intro R L P
  kernel_rfl
def f176_5 (E : Ev) (kn : AV → AV → AV → AV → AV → AV → AV → AV → AV → AV → Heap → Res) (k3 : AV → AV → AV → Heap → Res) (kr : AV → AV → Heap → Res) (x1 x8 x9 x10 x11 x12 x13 x99 x100 x101 : AV) (h : Heap) : Res :=
  ob (xbin PP .lss 3 false x101 x100) fun x102 =>
  pIf x102
   (ob (xindexAddr PP 41 x99 x101) fun x103 =>
   ob (pLoad PP 5 x103 h) fun x104 =>
   ob (xbin PP .eql 5 true x104 (.int .u8 95)) fun x108 =>
   ob (pWant x108 true) fun c =>
   ob (sel c (some x8) (some (.tuple []))) fun x110 =>
   ob (pPick x108 (some x110) (some (.bool false))) fun x111 =>
   pIf x111
    (f176_6 E kn x1 x8 x9 x10 x11 (.bool true) x13 x99 x100 x101 h)
    (ob (xbin PP .leq 5 true (.int .u8 48) x104) fun x114 =>
    ob (pWant x114 true) fun c_1 =>
    ob (sel c_1 (some x104) (some (.tuple []))) fun x116 =>
    ob (pWant x114 true) fun c_2 =>
    ob (sel c_2 (xbin PP .leq 5 true x116 (.int .u8 57)) (some (.tuple []))) fun x117 =>
    ob (pPick x114 (some x117) (some (.bool false))) fun x118 =>
    pIf x118
     (ob (xbin PP .sub 5 true x104 (.int .u8 48)) fun x120 =>
     f176_7 E (f176_6 E kn) kr x1 x8 x9 x10 x11 x12 x13 x120 x99 x100 x101 h)
     (obP (E (.fn 210) [x104] h) fun x123 h123 =>
     ob (xbin PP .leq 5 true (.int .u8 97) x123) fun x124 =>
     ob (pWant x124 true) fun c_3 =>
     ob (sel c_3 (some x104) (some (.tuple []))) fun x126 =>
     ob (pWant x124 true) fun c_4 =>
     obP (sel c_4 (E (.fn 210) [x126] h123) (some (.tuple [], h123))) fun x127 h127 =>
     ob (pWant x124 true) fun c_5 =>
     ob (sel c_5 (xbin PP .leq 5 true x127 (.int .u8 122)) (some (.tuple []))) fun x128 =>
     ob (pPick x124 (some x128) (some (.bool false))) fun x129 =>
     pIf x129
      (obP (E (.fn 210) [x104] h127) fun x131 h131 =>
      ob (xbin PP .sub 5 true x131 (.int .u8 97)) fun x132 =>
      ob (xbin PP .add 5 true x132 (.int .u8 10)) fun x133 =>
      f176_7 E (f176_6 E kn) kr x1 x8 x9 x10 x11 x12 x13 x133 x99 x100 x101 h131)
      (ob (pIface PP 266 (.int .i64 2)) fun x105 =>
      kr (.int .u64 0) x105 h127))))
   (k3 x9 x12 x13 h)
theorem f176_5_eq (E : Ev) (kn : K) (kx : Nat → K) (kr : K) (e3 : K) (he3 : kx 3 = e3) : f176_5 E (fun y1 y8 y9 y10 y11 y12 y13 y99 y100 y101 h => kn (mkE [(1, y1), (8, y8), (9, y9), (10, y10), (11, y11), (12, y12), (13, y13), (99, y99), (100, y100), (101, y101)]) h) (fun y9 y12 y13 h => e3 (mkE [(9, y9), (12, y12), (13, y13)]) h) (fun y6 y7 h => kr (mkE [(6, y6), (7, y7)]) h) = fun x1 x8 x9 x10 x11 x12 x13 x99 x100 x101 h => R176 E (pa (pa (pb (pa (pb (pb (pb (pb (pb (pb (pb (pb (pb (pb (pb (codeOf fn176)))))))))))))))) true 4436777100798802905238461234946 (fun i => sel (Nat.beq i 3) 12800 ((fun _ => 0) i)) kn kx kr (mkE [(1, x1), (8, x8), (9, x9), (10, x10), (11, x11), (12, x12), (13, x13), (99, x99), (100, x100), (101, x101)]) h := by
  subst he3
  funext x1 x8 x9 x10 x11 x12 x13 x99 x100 x101 h
  unfold f176_5
  rw [f176_6_eq E kn kx kr, f176_7_eq E (R176 E (pb (pb (pb (pa (pa (pb (pa (pb (pb (pb (pb (pb (pb (pb (pb (pb (pb (pb (codeOf fn176))))))))))))))))))) true 4436777100798802905238461234946 (fun i => sel (Nat.beq i 3) 12800 ((fun _ => 0) i)) kn kx kr) (fun i => sel (Nat.beq i 4) (R176 E (pb (pb (pb (pa (pa (pb (pa (pb (pb (pb (pb (pb (pb (pb (pb (pb (pb (pb (codeOf fn176))))))))))))))))))) true 4436777100798802905238461234946 (fun i => sel (Nat.beq i 3) 12800 ((fun _ => 0) i)) kn kx kr) (kx i)) kr]
  refine Eq.trans ?_ (R176_unf E _ _ _ _ _ _ _ _).symm
  generalize R176 E = R
  generalize LL = L
  generalize PP = P
  revert R L P
  refine id ?_
  intro R L P
  kernel_rfl
def f176_3 (E : Ev) (kr : AV → AV → Heap → Res) (x0 x1 x2 x8 x9 x10 : AV) (h : Heap) : Res :=
  ob (pInt PP 3 237 x2) fun x95 =>
  ob (xbin PP .shl 208 true (.int .u64 1) x95) fun x96 =>
  ob (xbin PP .sub 208 true x96 (.int .u64 1)) fun x97 =>
  obP (pConv PP h 9 41 x0) fun x99 h99 =>
  ob (xlen PP h99 41 x99) fun x100 =>
  lp b10 (fun k => f176_5 E k (f176_4 E kr) kr) LL x1 x8 x9 x10 x97 (.bool false) (.int .u64 0) x99 x100 (.int .i64 0) h99
theorem f176_3_eq (E : Ev) (kn : K) (kx : Nat → K) (kr : K) : f176_3 E (fun y6 y7 h => kr (mkE [(6, y6), (7, y7)]) h) = fun x0 x1 x2 x8 x9 x10 h => R176 E (pb (pb (pb (pb (pb (pb (pb (pb (codeOf fn176))))))))) true 192 (fun _ => 0) kn kx kr (mkE [(0, x0), (1, x1), (2, x2), (8, x8), (9, x9), (10, x10)]) h := by
  funext x0 x1 x2 x8 x9 x10 h
  unfold f176_3
  rw [f176_4_eq E kn kx kr, lp10_eq 1 8 9 10 11 12 13 99 100 101 (fun k => (R176 E (pa (pa (pb (pa (pb (pb (pb (pb (pb (pb (pb (pb (pb (pb (pb (codeOf fn176)))))))))))))))) true 4436777100798802905238461234946 (fun i => sel (Nat.beq i 3) 12800 ((fun _ => 0) i)) k (fun i => sel (Nat.beq i 3) (R176 E (pb (pb (pb (pb (pb (pb (pb (pb (pb (pb (pb (pb (codeOf fn176))))))))))))) true 192 (fun _ => 0) kn kx kr) (kx i)) kr)) (fun k => f176_5 E k (fun y9 y12 y13 h => (R176 E (pb (pb (pb (pb (pb (pb (pb (pb (pb (pb (pb (pb (codeOf fn176))))))))))))) true 192 (fun _ => 0) kn kx kr) (mkE [(9, y9), (12, y12), (13, y13)]) h) (fun y6 y7 h => kr (mkE [(6, y6), (7, y7)]) h)) (fun k => f176_5_eq E k (fun i => sel (Nat.beq i 3) (R176 E (pb (pb (pb (pb (pb (pb (pb (pb (pb (pb (pb (pb (codeOf fn176))))))))))))) true 192 (fun _ => 0) kn kx kr) (kx i)) kr (R176 E (pb (pb (pb (pb (pb (pb (pb (pb (pb (pb (pb (pb (codeOf fn176))))))))))))) true 192 (fun _ => 0) kn kx kr) rfl) LL]
  refine Eq.trans ?_ (R176_unf E _ _ _ _ _ _ _ _).symm
  generalize R176 E = R
  generalize LL = L
  generalize PP = P
  revert R L P
  refine id ?_
  intro R L P
  kernel_rfl
def f176_2 (E : Ev) (kr : AV → AV → Heap → Res) (x0 x1 x2 x8 x9 : AV) (h : Heap) : Res :=
  ob (xbin PP .eql 3 true x1 (.int .i64 10)) fun x91 =>
  pIf x91
   (f176_3 E kr x0 x1 x2 x8 x9 (.int .u64 1844674407370955162) h)
   (ob (xbin PP .eql 3 true x1 (.int .i64 16)) fun x93 =>
   pIf x93
    (f176_3 E kr x0 x1 x2 x8 x9 (.int .u64 1152921504606846976) h)
    (ob (pInt PP 3 208 x1) fun x87 =>
    ob (xbin PP .quo 208 true (.int .u64 18446744073709551615) x87) fun x88 =>
    ob (xbin PP .add 208 true x88 (.int .u64 1)) fun x89 =>
    f176_3 E kr x0 x1 x2 x8 x9 x89 h))
theorem f176_2_eq (E : Ev) (kn : K) (kx : Nat → K) (kr : K) : f176_2 E (fun y6 y7 h => kr (mkE [(6, y6), (7, y7)]) h) = fun x0 x1 x2 x8 x9 h => R176 E (pb (pb (pb (pb (pb (pb (codeOf fn176))))))) true 192 (fun _ => 0) kn kx kr (mkE [(0, x0), (1, x1), (2, x2), (8, x8), (9, x9)]) h := by
  funext x0 x1 x2 x8 x9 h
  unfold f176_2
  rw [f176_3_eq E kn kx kr]
  refine Eq.trans ?_ (R176_unf E _ _ _ _ _ _ _ _).symm
  generalize R176 E = R
  generalize LL = L
  generalize PP = P
  revert R L P
  refine id ?_
  intro R L P
  kernel_rfl
def f176_1 (E : Ev) (kr : AV → AV → Heap → Res) (x0 x1 x2 x8 x9 : AV) (h : Heap) : Res :=
  ob (xbin PP .eql 3 true x2 (.int .i64 0)) fun x77 =>
  pIf x77
   (f176_2 E kr x0 x1 (.int .i64 64) x8 x9 h)
   (ob (xbin PP .lss 3 true x2 (.int .i64 0)) fun x79 =>
   ob (pWant x79 false) fun c =>
   ob (sel c (some x2) (some (.tuple []))) fun x81 =>
   ob (pWant x79 false) fun c_1 =>
   ob (sel c_1 (xbin PP .gtr 3 true x81 (.int .i64 64)) (some (.tuple []))) fun x82 =>
   ob (pPick x79 (some (.bool true)) (some x82)) fun x83 =>
   pIf x83
    (ob (pIface PP 266 (.int .i64 4)) fun x84 =>
    kr (.int .u64 0) x84 h)
    (f176_2 E kr x0 x1 x2 x8 x9 h))
theorem f176_1_eq (E : Ev) (kn : K) (kx : Nat → K) (kr : K) : f176_1 E (fun y6 y7 h => kr (mkE [(6, y6), (7, y7)]) h) = fun x0 x1 x2 x8 x9 h => R176 E (pb (pb (pb (pb (pb (codeOf fn176)))))) true 192 (fun _ => 0) kn kx kr (mkE [(0, x0), (1, x1), (2, x2), (8, x8), (9, x9)]) h := by
  funext x0 x1 x2 x8 x9 h
  unfold f176_1
  rw [f176_2_eq E kn kx kr]
  refine Eq.trans ?_ (R176_unf E _ _ _ _ _ _ _ _).symm
  generalize R176 E = R
  generalize LL = L
  generalize PP = P
  revert R L P
  refine id ?_
  intro R L P
  kernel_rfl
/-- internal/strconv.ParseUint -/
def s176 (E : Ev) (x0 x1 x2 : AV) (h : Heap) : Res :=
  ob (xbin PP .eql 9 true x0 (.str 0 0)) fun x19 =>
  pIf x19
   (ob (pIface PP 266 (.int .i64 2)) fun x20 =>
   r176 (.int .u64 0) x20 h)
   (ob (xbin PP .eql 3 true x1 (.int .i64 0)) fun x22 =>
   ob (xbin PP .leq 3 true (.int .i64 2) x1) fun x27 =>
   ob (pWant x27 true) fun c =>
   ob (sel c (some x1) (some (.tuple []))) fun x29 =>
   ob (pWant x27 true) fun c_1 =>
   ob (sel c_1 (xbin PP .leq 3 true x29 (.int .i64 36)) (some (.tuple []))) fun x30 =>
   ob (pPick x27 (some x30) (some (.bool false))) fun x31 =>
   pIf x31
    (f176_1 E r176 x0 x1 x2 x22 x0 h)
    (ob (xbin PP .eql 3 true x1 (.int .i64 0)) fun x34 =>
    pIf x34
     (ob (xindex PP 9 x0 (.int .i64 0)) fun x36 =>
     ob (xbin PP .eql 5 true x36 (.int .u8 48)) fun x37 =>
     pIf x37
      (ob (xlen PP h 9 x0) fun x42 =>
      ob (xbin PP .geq 3 true x42 (.int .i64 3)) fun x43 =>
      ob (pWant x43 true) fun c_2 =>
      ob (sel c_2 (some x0) (some (.tuple []))) fun x45 =>
      ob (pWant x43 true) fun c_3 =>
      ob (sel c_3 (xindex PP 9 x45 (.int .i64 1)) (some (.tuple []))) fun x46 =>
      ob (pWant x43 true) fun c_4 =>
      obP (sel c_4 (E (.fn 210) [x46] h) (some (.tuple [], h))) fun x47 h47 =>
      ob (pWant x43 true) fun c_5 =>
      ob (sel c_5 (xbin PP .eql 5 true x47 (.int .u8 98)) (some (.tuple []))) fun x48 =>
      ob (pPick x43 (some x48) (some (.bool false))) fun x49 =>
      pIf x49
       (obP (xslice PP h47 9 x0 (some (.int .i64 2)) none none) fun x51 h51 =>
       f176_1 E r176 x51 (.int .i64 2) x2 x22 x0 h51)
       (ob (xlen PP h47 9 x0) fun x54 =>
       ob (xbin PP .geq 3 true x54 (.int .i64 3)) fun x55 =>
       ob (pWant x55 true) fun c_6 =>
       ob (sel c_6 (some x0) (some (.tuple []))) fun x57 =>
       ob (pWant x55 true) fun c_7 =>
       ob (sel c_7 (xindex PP 9 x57 (.int .i64 1)) (some (.tuple []))) fun x58 =>
       ob (pWant x55 true) fun c_8 =>
       obP (sel c_8 (E (.fn 210) [x58] h47) (some (.tuple [], h47))) fun x59 h59 =>
       ob (pWant x55 true) fun c_9 =>
       ob (sel c_9 (xbin PP .eql 5 true x59 (.int .u8 111)) (some (.tuple []))) fun x60 =>
       ob (pPick x55 (some x60) (some (.bool false))) fun x61 =>
       pIf x61
        (obP (xslice PP h59 9 x0 (some (.int .i64 2)) none none) fun x63 h63 =>
        f176_1 E r176 x63 (.int .i64 8) x2 x22 x0 h63)
        (ob (xlen PP h59 9 x0) fun x66 =>
        ob (xbin PP .geq 3 true x66 (.int .i64 3)) fun x67 =>
        ob (pWant x67 true) fun c_10 =>
        ob (sel c_10 (some x0) (some (.tuple []))) fun x69 =>
        ob (pWant x67 true) fun c_11 =>
        ob (sel c_11 (xindex PP 9 x69 (.int .i64 1)) (some (.tuple []))) fun x70 =>
        ob (pWant x67 true) fun c_12 =>
        obP (sel c_12 (E (.fn 210) [x70] h59) (some (.tuple [], h59))) fun x71 h71 =>
        ob (pWant x67 true) fun c_13 =>
        ob (sel c_13 (xbin PP .eql 5 true x71 (.int .u8 120)) (some (.tuple []))) fun x72 =>
        ob (pPick x67 (some x72) (some (.bool false))) fun x73 =>
        pIf x73
         (obP (xslice PP h71 9 x0 (some (.int .i64 2)) none none) fun x75 h75 =>
         f176_1 E r176 x75 (.int .i64 16) x2 x22 x0 h75)
         (obP (xslice PP h71 9 x0 (some (.int .i64 1)) none none) fun x39 h39 =>
         f176_1 E r176 x39 (.int .i64 8) x2 x22 x0 h39))))
      (f176_1 E r176 x0 (.int .i64 10) x2 x22 x0 h))
     (ob (pIface PP 266 (.int .i64 3)) fun x24 =>
     r176 (.int .u64 0) x24 h)))
theorem s176_eq (E : Ev) (x0 x1 x2 : AV) (h : Heap) : xbodyR PP GG CC E LL fn176 [x0, x1, x2] h = s176 E x0 x1 x2 h := by
  unfold s176
  rw [r176_eq, f176_1_eq E (xret PP fn176) noK (xret PP fn176)]
  refine (bodyR_unf (c := (codeOf fn176)) (by kernel_rfl) (by kernel_rfl)).trans ?_
  show runS (R176 E) PP GG CC E fn176.ntmps LL none (resBits fn176.results.toList) (codeOf fn176) _ _ _ _ _ _ _ = _
  generalize R176 E = R
  generalize LL = L
  generalize PP = P
  symm
  revert R L P
  refine id ?_
  intro R L P
  kernel_rfl
def fn178 : Func := fnAt PP 178
def R178 (E : Ev) : RT := runR PP GG CC E 58 LL none 0
theorem R178_unf (E : Ev) (c : Code) (lv : Nat) (lx : Nat → Nat) (kn : K) (kx : Nat → K) (kr : K) (e : Env) (h : Heap) : R178 E c true lv lx kn kx kr e h = runS (R178 E) PP GG CC E 58 LL none 0 c lv lx kn kx kr e h := runR_unf _ _ _ _ _ _ _ _
def r178 (h : Heap) : Res := some (.tuple [], h)
theorem r178_eq : r178 = fun h => xret PP fn178 (mkE []) h := by kernel_rfl
def f178_1 (E : Ev) (kn : Heap → Res) (x0 x1 x6 : AV) (h : Heap) : Res :=
  ob (xlen PP h 139 x1) fun x52 =>
  ob (xindexAddr PP 139 x0 x52) fun x53 =>
  ob (pLoad PP 208 x53 h) fun x54 =>
  ob (xbin PP .add 208 false x54 x6) fun x56 =>
  ob (xindexAddr PP 139 x0 x52) fun x57 =>
  ob (pStore PP 208 x57 x56 h) fun h0 =>
  kn h0
theorem f178_1_eq (E : Ev) (kn : K) (kx : Nat → K) (kr : K) : f178_1 E (fun h => kn (mkE []) h) = fun x0 x1 x6 h => R178 E (pb (pb (codeOf fn178))) true 0 (fun _ => 0) kn kx kr (mkE [(0, x0), (1, x1), (6, x6)]) h := by
  funext x0 x1 x6 h
  unfold f178_1
  refine Eq.trans ?_ (R178_unf E _ _ _ _ _ _ _ _).symm
  generalize R178 E = R
  generalize LL = L
  generalize PP = P
  revert R L P
  refine id ?_
  intro R L P
  kernel_rfl
def f178_2 (E : Ev) (kn : AV → AV → AV → AV → AV → AV → AV → Heap → Res) (k0 : AV → AV → AV → Heap → Res) (x0 x1 x2 x6 x12 x13 x14 : AV) (h : Heap) : Res :=
  ob (xbin PP .lss 3 false x14 x13) fun x15 =>
  pIf x15
   (ob (xindexAddr PP 139 x12 x14) fun x17 =>
   ob (pLoad PP 208 x17 h) fun x18 =>
   obP (E (.fn 208) [x18, x2] h) fun x22 h22 =>
   ob (pExtract 0 x22) fun x23 =>
   ob (pExtract 1 x22) fun x24 =>
   obP (xext .add64 [x24, x6, (.int .u64 0)] h22) fun x28 h28 =>
   ob (pExtract 0 x28) fun x29 =>
   ob (pExtract 1 x28) fun x30 =>
   ob (xbin PP .add 208 false x23 x30) fun x33 =>
   ob (xindexAddr PP 139 x0 x14) fun x39 =>
   ob (pLoad PP 208 x39 h28) fun x40 =>
   obP (xext .add64 [x40, x29, (.int .u64 0)] h28) fun x42 h42 =>
   ob (pExtract 0 x42) fun x43 =>
   ob (pExtract 1 x42) fun x44 =>
   ob (xindexAddr PP 139 x0 x14) fun x45 =>
   ob (pStore PP 208 x45 x43 h42) fun h0 =>
   ob (xbin PP .add 208 false x33 x44) fun x48 =>
   ob (xbin PP .add 3 true x14 (.int .i64 1)) fun x49 =>
   kn x0 x1 x2 x48 x12 x13 x49 h0)
   (k0 x0 x1 x6 h)
theorem f178_2_eq (E : Ev) (kn : K) (kx : Nat → K) (kr : K) (e0 : K) (he0 : kx 0 = e0) : f178_2 E (fun y0 y1 y2 y6 y12 y13 y14 h => kn (mkE [(0, y0), (1, y1), (2, y2), (6, y6), (12, y12), (13, y13), (14, y14)]) h) (fun y0 y1 y6 h => e0 (mkE [(0, y0), (1, y1), (6, y6)]) h) = fun x0 x1 x2 x6 x12 x13 x14 h => R178 E (pa (pa (pb (pa (pb (codeOf fn178)))))) true 28743 (fun i => sel (Nat.beq i 0) 67 ((fun _ => 0) i)) kn kx kr (mkE [(0, x0), (1, x1), (2, x2), (6, x6), (12, x12), (13, x13), (14, x14)]) h := by
  subst he0
  funext x0 x1 x2 x6 x12 x13 x14 h
  unfold f178_2
  refine Eq.trans ?_ (R178_unf E _ _ _ _ _ _ _ _).symm
  generalize R178 E = R
  generalize LL = L
  generalize PP = P
  revert R L P
  refine id ?_
  intro R L P
  kernel_rfl
/-- theodolite/nat.row -/
def s178 (E : Ev) (x0 x1 x2 : AV) (h : Heap) : Res :=
  ob (xlen PP h 139 x1) fun x13 =>
  lp b7 (fun k => f178_2 E k (f178_1 E r178)) LL x0 x1 x2 (.int .u64 0) x1 x13 (.int .i64 0) h
theorem s178_eq (E : Ev) (x0 x1 x2 : AV) (h : Heap) : xbodyR PP GG CC E LL fn178 [x0, x1, x2] h = s178 E x0 x1 x2 h := by
  unfold s178
  rw [r178_eq, f178_1_eq E (xret PP fn178) noK (xret PP fn178), lp7_eq 0 1 2 6 12 13 14 (fun k => (R178 E (pa (pa (pb (pa (pb (codeOf fn178)))))) true 28743 (fun i => sel (Nat.beq i 0) 67 ((fun _ => 0) i)) k (fun i => sel (Nat.beq i 0) (R178 E (pb (pb (codeOf fn178))) true 0 (fun _ => 0) (xret PP fn178) noK (xret PP fn178)) (noK i)) (xret PP fn178))) (fun k => f178_2 E k (fun y0 y1 y6 h => (R178 E (pb (pb (codeOf fn178))) true 0 (fun _ => 0) (xret PP fn178) noK (xret PP fn178)) (mkE [(0, y0), (1, y1), (6, y6)]) h)) (fun k => f178_2_eq E k (fun i => sel (Nat.beq i 0) (R178 E (pb (pb (codeOf fn178))) true 0 (fun _ => 0) (xret PP fn178) noK (xret PP fn178)) (noK i)) (xret PP fn178) (R178 E (pb (pb (codeOf fn178))) true 0 (fun _ => 0) (xret PP fn178) noK (xret PP fn178)) rfl) LL]
  refine (bodyR_unf (c := (codeOf fn178)) (by kernel_rfl) (by kernel_rfl)).trans ?_
  show runS (R178 E) PP GG CC E fn178.ntmps LL none (resBits fn178.results.toList) (codeOf fn178) _ _ _ _ _ _ _ = _
  generalize R178 E = R
  generalize LL = L
  generalize PP = P
  symm
  revert R L P
  refine id ?_
  intro R L P
  kernel_rfl
def fn183 : Func := fnAt PP 183
def R183 (E : Ev) : RT := runR PP GG CC E 15 LL none 16
theorem R183_unf (E : Ev) (c : Code) (lv : Nat) (lx : Nat → Nat) (kn : K) (kx : Nat → K) (kr : K) (e : Env) (h : Heap) : R183 E c true lv lx kn kx kr e h = runS (R183 E) PP GG CC E 15 LL none 16 c lv lx kn kx kr e h := runR_unf _ _ _ _ _ _ _ _
def r183 (x4 : AV) (h : Heap) : Res := some (x4, h)
theorem r183_eq : r183 = fun x4 h => xret PP fn183 (mkE [(4, x4)]) h := by kernel_rfl
/-- (*theodolite/term.Table).all$1 -/
def s183 (E : Ev) (x0 x1 x2 : AV) (h : Heap) : Res :=
  ob (pLoad PP 36 x1 h) fun x5 =>
  ob (pNil x5) fun x6 =>
  ob (pFieldAddr PP 100 1 x6) fun x7 =>
  ob (pLoad PP 61 x7 h) fun x8 =>
  ob (xindexAddr PP 61 x8 x0) fun x10 =>
  ob (pFieldAddr PP 143 4 x10) fun x11 =>
  ob (pLoad PP 3 x11 h) fun x12 =>
  ob (pLoad PP 3 x2 h) fun x13 =>
  ob (xbin PP .neq 3 false x12 x13) fun x14 =>
  sel (chkV x5 (pLoad PP 36 x1 h)) (
  sel (chkV x8 (pLoad PP 61 x7 h)) (
  sel (chkV x12 (pLoad PP 3 x11 h)) (
  sel (chkV x13 (pLoad PP 3 x2 h)) (
  r183 x14 h) none) none) none) none
theorem s183_eq (E : Ev) (x0 x1 x2 : AV) (h : Heap) : xbodyR PP GG CC E LL fn183 [x0, x1, x2] h = s183 E x0 x1 x2 h := by
  unfold s183
  rw [r183_eq]
  refine (bodyR_unf (c := (codeOf fn183)) (by kernel_rfl) (by kernel_rfl)).trans ?_
  show runS (R183 E) PP GG CC E fn183.ntmps LL none (resBits fn183.results.toList) (codeOf fn183) _ _ _ _ _ _ _ = _
  generalize R183 E = R
  generalize LL = L
  generalize PP = P
  symm
  revert R L P
  refine id ?_
  intro R L P
  kernel_rfl
def fn185 : Func := fnAt PP 185
def R185 (E : Ev) : RT := runR PP GG CC E 10 LL none 16
theorem R185_unf (E : Ev) (c : Code) (lv : Nat) (lx : Nat → Nat) (kn : K) (kx : Nat → K) (kr : K) (e : Env) (h : Heap) : R185 E c true lv lx kn kx kr e h = runS (R185 E) PP GG CC E 10 LL none 16 c lv lx kn kx kr e h := runR_unf _ _ _ _ _ _ _ _
def r185 (x4 : AV) (h : Heap) : Res := some (x4, h)
theorem r185_eq : r185 = fun x4 h => xret PP fn185 (mkE [(4, x4)]) h := by kernel_rfl
/-- (*theodolite/term.Table).quotient -/
def s185 (E : Ev) (x0 x1 : AV) (h : Heap) : Res :=
  obP (some (pNew h 36 x0.cells)) fun x2 h2 =>
  obP (xslice PP h2 22 x1 (some (.int .i64 1)) none none) fun x6 h6 =>
  obP (E (.fn 110) [x6, (.func 215 [] [x2])] h6) fun x8 h8 =>
  ob (xun .not x8) fun x9 =>
  r185 x9 h8
theorem s185_eq (E : Ev) (x0 x1 : AV) (h : Heap) : xbodyR PP GG CC E LL fn185 [x0, x1] h = s185 E x0 x1 h := by
  unfold s185
  rw [r185_eq]
  refine (bodyR_unf (c := (codeOf fn185)) (by kernel_rfl) (by kernel_rfl)).trans ?_
  show runS (R185 E) PP GG CC E fn185.ntmps LL none (resBits fn185.results.toList) (codeOf fn185) _ _ _ _ _ _ _ = _
  generalize R185 E = R
  generalize LL = L
  generalize PP = P
  symm
  revert R L P
  refine id ?_
  intro R L P
  kernel_rfl
def fn192 : Func := fnAt PP 192
def R192 (E : Ev) : RT := runR PP GG CC E 84 LL none 1024
theorem R192_unf (E : Ev) (c : Code) (lv : Nat) (lx : Nat → Nat) (kn : K) (kx : Nat → K) (kr : K) (e : Env) (h : Heap) : R192 E c true lv lx kn kx kr e h = runS (R192 E) PP GG CC E 84 LL none 1024 c lv lx kn kx kr e h := runR_unf _ _ _ _ _ _ _ _
def r192 (x10 : AV) (h : Heap) : Res := some (x10, h)
theorem r192_eq : r192 = fun x10 h => xret PP fn192 (mkE [(10, x10)]) h := by kernel_rfl
def f192_2 (E : Ev) (kr : AV → Heap → Res) (x0 x2 : AV) (h : Heap) : Res :=
  obP (pBuildSlice PP h 41 1 [(0, x2)]) fun x81 h81 =>
  obP (xappend PP h81 41 41 x0 x81) fun x82 h82 =>
  kr x82 h82
theorem f192_2_eq (E : Ev) (kn : K) (kx : Nat → K) (kr : K) : f192_2 E (fun y10 h => kr (mkE [(10, y10)]) h) = fun x0 x2 h => R192 E (pb (pb (pb (pb (codeOf fn192))))) true 1024 (fun _ => 0) kn kx kr (mkE [(0, x0), (2, x2)]) h := by
  funext x0 x2 h
  unfold f192_2
  refine Eq.trans ?_ (R192_unf E _ _ _ _ _ _ _ _).symm
  generalize R192 E = R
  generalize LL = L
  generalize PP = P
  revert R L P
  refine id ?_
  intro R L P
  kernel_rfl
def f192_4 (E : Ev) (kn : AV → AV → AV → AV → AV → Heap → Res) (x0 x1 x2 x3 x4 x13 : AV) (h : Heap) : Res :=
  obP (xslice PP h 9 x1 (some x13) none none) fun x45 h45 =>
  kn x0 x45 x2 x3 x4 h45
theorem f192_4_eq (E : Ev) (kn : K) (kx : Nat → K) (kr : K) : f192_4 E (fun y0 y1 y2 y3 y4 h => kn (mkE [(0, y0), (1, y1), (2, y2), (3, y3), (4, y4)]) h) = fun x0 x1 x2 x3 x4 x13 h => R192 E (pb (pb (pa (pa (pb (pa (pb (pb (pb (codeOf fn192)))))))))) true 31 (fun i => sel (Nat.beq i 0) 5 ((fun _ => 0) i)) kn kx kr (mkE [(0, x0), (1, x1), (2, x2), (3, x3), (4, x4), (13, x13)]) h := by
  funext x0 x1 x2 x3 x4 x13 h
  unfold f192_4
  refine Eq.trans ?_ (R192_unf E _ _ _ _ _ _ _ _).symm
  generalize R192 E = R
  generalize LL = L
  generalize PP = P
  revert R L P
  refine id ?_
  intro R L P
  kernel_rfl
def f192_3 (E : Ev) (kn : AV → AV → AV → AV → AV → Heap → Res) (k0 : AV → AV → Heap → Res) (x0 x1 x2 x3 x4 : AV) (h : Heap) : Res :=
  ob (xlen PP h 9 x1) fun x41 =>
  ob (xbin PP .gtr 3 true x41 (.int .i64 0)) fun x42 =>
  pIf x42
   (obP (E (.fn 202) [x1] h) fun x48 h48 =>
   ob (pExtract 0 x48) fun x49 =>
   ob (pExtract 1 x48) fun x50 =>
   ob (xbin PP .eql 3 true x50 (.int .i64 1)) fun x52 =>
   ob (pWant x52 true) fun c =>
   ob (sel c (some x49) (some (.tuple []))) fun x54 =>
   ob (pWant x52 true) fun c_1 =>
   ob (sel c_1 (xbin PP .eql 21 true x54 (.int .i32 65533)) (some (.tuple []))) fun x55 =>
   ob (pPick x52 (some x55) (some (.bool false))) fun x56 =>
   pIf x56
    (obP (xappend PP h48 41 9 x0 (.str 2 30812)) fun x58 h58 =>
    ob (xindex PP 9 x1 (.int .i64 0)) fun x61 =>
    ob (xbin PP .shr 5 true x61 (.int .u64 4)) fun x62 =>
    ob (xindex PP 9 (.str 16 136107713667768957684761770045455085872) x62) fun x63 =>
    obP (pBuildSlice PP h58 41 1 [(0, x63)]) fun x64 h64 =>
    obP (xappend PP h64 41 41 x58 x64) fun x65 h65 =>
    ob (xindex PP 9 x1 (.int .i64 0)) fun x68 =>
    ob (xbin PP .and 5 true x68 (.int .u8 15)) fun x69 =>
    ob (xindex PP 9 (.str 16 136107713667768957684761770045455085872) x69) fun x70 =>
    obP (pBuildSlice PP h65 41 1 [(0, x70)]) fun x71 h71 =>
    obP (xappend PP h71 41 41 x65 x71) fun x72 h72 =>
    f192_4 E kn x72 x1 x2 x3 x4 x50 h72)
    (obP (E (.fn 218) [x0, x49, x2, x3, x4] h48) fun x78 h78 =>
    f192_4 E kn x78 x1 x2 x3 x4 x50 h78))
   (k0 x0 x2 h)
theorem f192_3_eq (E : Ev) (kn : K) (kx : Nat → K) (kr : K) (e0 : K) (he0 : kx 0 = e0) : f192_3 E (fun y0 y1 y2 y3 y4 h => kn (mkE [(0, y0), (1, y1), (2, y2), (3, y3), (4, y4)]) h) (fun y0 y2 h => e0 (mkE [(0, y0), (2, y2)]) h) = fun x0 x1 x2 x3 x4 h => R192 E (pa (pa (pb (pa (pb (pb (pb (codeOf fn192)))))))) true 31 (fun i => sel (Nat.beq i 0) 5 ((fun _ => 0) i)) kn kx kr (mkE [(0, x0), (1, x1), (2, x2), (3, x3), (4, x4)]) h := by
  subst he0
  funext x0 x1 x2 x3 x4 h
  unfold f192_3
  rw [f192_4_eq E kn kx kr]
  refine Eq.trans ?_ (R192_unf E _ _ _ _ _ _ _ _).symm
  generalize R192 E = R
  generalize LL = L
  generalize PP = P
  revert R L P
  refine id ?_
  intro R L P
  kernel_rfl
def f192_1 (E : Ev) (kr : AV → Heap → Res) (x0 x1 x2 x3 x4 : AV) (h : Heap) : Res :=
  obP (pBuildSlice PP h 41 1 [(0, x2)]) fun x38 h38 =>
  obP (xappend PP h38 41 41 x0 x38) fun x39 h39 =>
  lp b5 (fun k => f192_3 E k (f192_2 E kr)) LL x39 x1 x2 x3 x4 h39
theorem f192_1_eq (E : Ev) (kn : K) (kx : Nat → K) (kr : K) : f192_1 E (fun y10 h => kr (mkE [(10, y10)]) h) = fun x0 x1 x2 x3 x4 h => R192 E (pb (pb (codeOf fn192))) true 1024 (fun _ => 0) kn kx kr (mkE [(0, x0), (1, x1), (2, x2), (3, x3), (4, x4)]) h := by
  funext x0 x1 x2 x3 x4 h
  unfold f192_1
  rw [f192_2_eq E kn kx kr, lp5_eq 0 1 2 3 4 (fun k => (R192 E (pa (pa (pb (pa (pb (pb (pb (codeOf fn192)))))))) true 31 (fun i => sel (Nat.beq i 0) 5 ((fun _ => 0) i)) k (fun i => sel (Nat.beq i 0) (R192 E (pb (pb (pb (pb (codeOf fn192))))) true 1024 (fun _ => 0) kn kx kr) (kx i)) kr)) (fun k => f192_3 E k (fun y0 y2 h => (R192 E (pb (pb (pb (pb (codeOf fn192))))) true 1024 (fun _ => 0) kn kx kr) (mkE [(0, y0), (2, y2)]) h)) (fun k => f192_3_eq E k (fun i => sel (Nat.beq i 0) (R192 E (pb (pb (pb (pb (codeOf fn192))))) true 1024 (fun _ => 0) kn kx kr) (kx i)) kr (R192 E (pb (pb (pb (pb (codeOf fn192))))) true 1024 (fun _ => 0) kn kx kr) rfl) LL]
  refine Eq.trans ?_ (R192_unf E _ _ _ _ _ _ _ _).symm
  generalize R192 E = R
  generalize LL = L
  generalize PP = P
  revert R L P
  refine id ?_
  intro R L P
  kernel_rfl
/-- strconv.appendQuotedWith -/
def s192 (E : Ev) (x0 x1 x2 x3 x4 : AV) (h : Heap) : Res :=
  ob (xcap PP 41 x0) fun x15 =>
  ob (xlen PP h 41 x0) fun x17 =>
  ob (xbin PP .sub 3 false x15 x17) fun x18 =>
  ob (xlen PP h 9 x1) fun x20 =>
  ob (xbin PP .lss 3 false x18 x20) fun x21 =>
  pIf x21
   (ob (xlen PP h 41 x0) fun x23 =>
   ob (xlen PP h 41 x0) fun x25 =>
   ob (xbin PP .add 3 true x25 (.int .i64 1)) fun x26 =>
   ob (xlen PP h 9 x1) fun x28 =>
   ob (xbin PP .add 3 false x26 x28) fun x29 =>
   ob (xbin PP .add 3 true x29 (.int .i64 1)) fun x30 =>
   obP (xmake PP h 41 x23 x30) fun x31 h31 =>
   obP (xcopy PP h31 41 x31 x0) fun x34 h34 =>
   f192_1 E r192 x31 x1 x2 x3 x4 h34)
   (f192_1 E r192 x0 x1 x2 x3 x4 h)
theorem s192_eq (E : Ev) (x0 x1 x2 x3 x4 : AV) (h : Heap) : xbodyR PP GG CC E LL fn192 [x0, x1, x2, x3, x4] h = s192 E x0 x1 x2 x3 x4 h := by
  unfold s192
  rw [r192_eq, f192_1_eq E (xret PP fn192) noK (xret PP fn192)]
  refine (bodyR_unf (c := (codeOf fn192)) (by kernel_rfl) (by kernel_rfl)).trans ?_
  show runS (R192 E) PP GG CC E fn192.ntmps LL none (resBits fn192.results.toList) (codeOf fn192) _ _ _ _ _ _ _ = _
  generalize R192 E = R
  generalize LL = L
  generalize PP = P
  symm
  revert R L P
  refine id ?_
  intro R L P
  kernel_rfl
def fn198 : Func := fnAt PP 198
def R198 (E : Ev) : RT := runR PP GG CC E 8 LL none 16
theorem R198_unf (E : Ev) (c : Code) (lv : Nat) (lx : Nat → Nat) (kn : K) (kx : Nat → K) (kr : K) (e : Env) (h : Heap) : R198 E c true lv lx kn kx kr e h = runS (R198 E) PP GG CC E 8 LL none 16 c lv lx kn kx kr e h := runR_unf _ _ _ _ _ _ _ _
def r198 (x4 : AV) (h : Heap) : Res := some (x4, h)
theorem r198_eq : r198 = fun x4 h => xret PP fn198 (mkE [(4, x4)]) h := by kernel_rfl
/-- internal/stringslite.IndexByte -/
def s198 (E : Ev) (x0 x1 : AV) (h : Heap) : Res :=
  obP (xext .idxByte [x0, x1] h) fun x7 h7 =>
  r198 x7 h7
theorem s198_eq (E : Ev) (x0 x1 : AV) (h : Heap) : xbodyR PP GG CC E LL fn198 [x0, x1] h = s198 E x0 x1 h := by
  unfold s198
  rw [r198_eq]
  refine (bodyR_unf (c := (codeOf fn198)) (by kernel_rfl) (by kernel_rfl)).trans ?_
  show runS (R198 E) PP GG CC E fn198.ntmps LL none (resBits fn198.results.toList) (codeOf fn198) _ _ _ _ _ _ _ = _
  generalize R198 E = R
  generalize LL = L
  generalize PP = P
  symm
  revert R L P
  refine id ?_
  intro R L P
  kernel_rfl
def fn202 : Func := fnAt PP 202
def R202 (E : Ev) : RT := runR PP GG CC E 19 LL none 12
theorem R202_unf (E : Ev) (c : Code) (lv : Nat) (lx : Nat → Nat) (kn : K) (kx : Nat → K) (kr : K) (e : Env) (h : Heap) : R202 E c true lv lx kn kx kr e h = runS (R202 E) PP GG CC E 19 LL none 12 c lv lx kn kx kr e h := runR_unf _ _ _ _ _ _ _ _
def r202 (x2 x3 : AV) (h : Heap) : Res := some (.tuple [x2, x3], h)
theorem r202_eq : r202 = fun x2 x3 h => xret PP fn202 (mkE [(2, x2), (3, x3)]) h := by kernel_rfl
def f202_1 (E : Ev) (kr : AV → AV → Heap → Res) (x0 : AV) (h : Heap) : Res :=
  ob (xbin PP .neq 9 true x0 (.str 0 0)) fun x5 =>
  ob (pWant x5 true) fun c =>
  ob (sel c (some x0) (some (.tuple []))) fun x7 =>
  ob (pWant x5 true) fun c_1 =>
  ob (sel c_1 (xindex PP 9 x7 (.int .i64 0)) (some (.tuple []))) fun x8 =>
  ob (pWant x5 true) fun c_2 =>
  ob (sel c_2 (xbin PP .lss 5 true x8 (.int .u8 128)) (some (.tuple []))) fun x9 =>
  ob (pPick x5 (some x9) (some (.bool false))) fun x10 =>
  pIf x10
   (ob (xindex PP 9 x0 (.int .i64 0)) fun x12 =>
   ob (pInt PP 5 21 x12) fun x13 =>
   kr x13 (.int .i64 1) h)
   (obP (E (.fn 223) [x0] h) fun x16 h16 =>
   ob (pExtract 0 x16) fun x17 =>
   ob (pExtract 1 x16) fun x18 =>
   kr x17 x18 h16)
theorem f202_1_eq (E : Ev) (kn : K) (kx : Nat → K) (kr : K) : f202_1 E (fun y2 y3 h => kr (mkE [(2, y2), (3, y3)]) h) = fun x0 h => R202 E (pb (codeOf fn202)) true 12 (fun _ => 0) kn kx kr (mkE [(0, x0)]) h := by
  funext x0 h
  unfold f202_1
  refine Eq.trans ?_ (R202_unf E _ _ _ _ _ _ _ _).symm
  generalize R202 E = R
  generalize LL = L
  generalize PP = P
  revert R L P
  refine id ?_
  intro R L P
  kernel_rfl
/-- unicode/utf8.DecodeRuneInString -/
def s202 (E : Ev) (x0 : AV) (h : Heap) : Res :=
  f202_1 E r202 x0 h
theorem s202_eq (E : Ev) (x0 : AV) (h : Heap) : xbodyR PP GG CC E LL fn202 [x0] h = s202 E x0 h := by
  unfold s202
  rw [r202_eq, f202_1_eq E (xret PP fn202) noK (xret PP fn202)]
  refine (bodyR_unf (c := (codeOf fn202)) (by kernel_rfl) (by kernel_rfl)).trans ?_
  show runS (R202 E) PP GG CC E fn202.ntmps LL none (resBits fn202.results.toList) (codeOf fn202) _ _ _ _ _ _ _ = _
  generalize R202 E = R
  generalize LL = L
  generalize PP = P
  symm
  revert R L P
  refine id ?_
  intro R L P
  kernel_rfl
def fn205 : Func := fnAt PP 205
def R205 (E : Ev) : RT := runR PP GG CC E 6 LL none 4
theorem R205_unf (E : Ev) (c : Code) (lv : Nat) (lx : Nat → Nat) (kn : K) (kx : Nat → K) (kr : K) (e : Env) (h : Heap) : R205 E c true lv lx kn kx kr e h = runS (R205 E) PP GG CC E 6 LL none 4 c lv lx kn kx kr e h := runR_unf _ _ _ _ _ _ _ _
def r205 (x2 : AV) (h : Heap) : Res := some (x2, h)
theorem r205_eq : r205 = fun x2 h => xret PP fn205 (mkE [(2, x2)]) h := by kernel_rfl
/-- cmp.isNaN[int] -/
def s205 (E : Ev) (x0 : AV) (h : Heap) : Res :=
  ob (xbin PP .neq 3 false x0 x0) fun x5 =>
  r205 x5 h
theorem s205_eq (E : Ev) (x0 : AV) (h : Heap) : xbodyR PP GG CC E LL fn205 [x0] h = s205 E x0 h := by
  unfold s205
  rw [r205_eq]
  refine (bodyR_unf (c := (codeOf fn205)) (by kernel_rfl) (by kernel_rfl)).trans ?_
  show runS (R205 E) PP GG CC E fn205.ntmps LL none (resBits fn205.results.toList) (codeOf fn205) _ _ _ _ _ _ _ = _
  generalize R205 E = R
  generalize LL = L
  generalize PP = P
  symm
  revert R L P
  refine id ?_
  intro R L P
  kernel_rfl
def fn206 : Func := fnAt PP 206
def R206 (E : Ev) : RT := runR PP GG CC E 6 LL none 4
theorem R206_unf (E : Ev) (c : Code) (lv : Nat) (lx : Nat → Nat) (kn : K) (kx : Nat → K) (kr : K) (e : Env) (h : Heap) : R206 E c true lv lx kn kx kr e h = runS (R206 E) PP GG CC E 6 LL none 4 c lv lx kn kx kr e h := runR_unf _ _ _ _ _ _ _ _
def r206 (x2 : AV) (h : Heap) : Res := some (x2, h)
theorem r206_eq : r206 = fun x2 h => xret PP fn206 (mkE [(2, x2)]) h := by kernel_rfl
/-- cmp.isNaN[uint64] -/
def s206 (E : Ev) (x0 : AV) (h : Heap) : Res :=
  ob (xbin PP .neq 208 false x0 x0) fun x5 =>
  r206 x5 h
theorem s206_eq (E : Ev) (x0 : AV) (h : Heap) : xbodyR PP GG CC E LL fn206 [x0] h = s206 E x0 h := by
  unfold s206
  rw [r206_eq]
  refine (bodyR_unf (c := (codeOf fn206)) (by kernel_rfl) (by kernel_rfl)).trans ?_
  show runS (R206 E) PP GG CC E fn206.ntmps LL none (resBits fn206.results.toList) (codeOf fn206) _ _ _ _ _ _ _ = _
  generalize R206 E = R
  generalize LL = L
  generalize PP = P
  symm
  revert R L P
  refine id ?_
  intro R L P
  kernel_rfl
def fn207 : Func := fnAt PP 207
def R207 (E : Ev) : RT := runR PP GG CC E 135 LL none 192
theorem R207_unf (E : Ev) (c : Code) (lv : Nat) (lx : Nat → Nat) (kn : K) (kx : Nat → K) (kr : K) (e : Env) (h : Heap) : R207 E c true lv lx kn kx kr e h = runS (R207 E) PP GG CC E 135 LL none 192 c lv lx kn kx kr e h := runR_unf _ _ _ _ _ _ _ _
def r207 (x6 x7 : AV) (h : Heap) : Res := some (.tuple [x6, x7], h)
theorem r207_eq : r207 = fun x6 x7 h => xret PP fn207 (mkE [(6, x6), (7, x7)]) h := by kernel_rfl
def f207_4 (E : Ev) (kr : AV → AV → Heap → Res) (x2 x8 x14 x15 x17 x18 : AV) (h : Heap) : Res :=
  ob (xbin PP .mul 208 true x15 (.int .u64 4294967296)) fun x122 =>
  ob (xbin PP .add 208 false x122 x18) fun x124 =>
  ob (xbin PP .mul 208 true x17 (.int .u64 4294967296)) fun x126 =>
  ob (xbin PP .add 208 false x126 x14) fun x128 =>
  ob (xbin PP .mul 208 false x18 x2) fun x131 =>
  ob (xbin PP .sub 208 false x128 x131) fun x132 =>
  ob (xbin PP .shr 208 false x132 x8) fun x134 =>
  kr x124 x134 h
theorem f207_4_eq (E : Ev) (kn : K) (kx : Nat → K) (kr : K) : f207_4 E (fun y6 y7 h => kr (mkE [(6, y6), (7, y7)]) h) = fun x2 x8 x14 x15 x17 x18 h => R207 E (pb (pb (pb (pb (pb (pb (pb (pb (pb (pb (pb (pb (pb (pb (pb (pb (pb (pb (pb (codeOf fn207)))))))))))))))))))) true 192 (fun _ => 0) kn kx kr (mkE [(2, x2), (8, x8), (14, x14), (15, x15), (17, x17), (18, x18)]) h := by
  funext x2 x8 x14 x15 x17 x18 h
  unfold f207_4
  refine Eq.trans ?_ (R207_unf E _ _ _ _ _ _ _ _).symm
  generalize R207 E = R
  generalize LL = L
  generalize PP = P
  revert R L P
  refine id ?_
  intro R L P
  kernel_rfl
def f207_5 (E : Ev) (kn : AV → AV → AV → AV → AV → AV → AV → AV → AV → Heap → Res) (k2 : AV → AV → AV → AV → AV → AV → Heap → Res) (x2 x8 x9 x10 x14 x15 x16 x17 x18 : AV) (h : Heap) : Res :=
  ob (xbin PP .geq 208 true x18 (.int .u64 4294967296)) fun x103 =>
  ob (pWant x103 false) fun c =>
  ob (sel c (some x18) (some (.tuple []))) fun x105 =>
  ob (pWant x103 false) fun c_1 =>
  ob (sel c_1 (some x10) (some (.tuple []))) fun x106 =>
  ob (pWant x103 false) fun c_2 =>
  ob (sel c_2 (xbin PP .mul 208 false x105 x106) (some (.tuple []))) fun x107 =>
  ob (pWant x103 false) fun c_3 =>
  ob (sel c_3 (some x16) (some (.tuple []))) fun x108 =>
  ob (pWant x103 false) fun c_4 =>
  ob (sel c_4 (xbin PP .mul 208 true (.int .u64 4294967296) x108) (some (.tuple []))) fun x109 =>
  ob (pWant x103 false) fun c_5 =>
  ob (sel c_5 (some x14) (some (.tuple []))) fun x110 =>
  ob (pWant x103 false) fun c_6 =>
  ob (sel c_6 (xbin PP .add 208 false x109 x110) (some (.tuple []))) fun x111 =>
  ob (pWant x103 false) fun c_7 =>
  ob (sel c_7 (xbin PP .gtr 208 false x107 x111) (some (.tuple []))) fun x112 =>
  ob (pPick x103 (some (.bool true)) (some x112)) fun x113 =>
  pIf x113
   (ob (xbin PP .sub 208 true x18 (.int .u64 1)) fun x115 =>
   ob (xbin PP .add 208 false x16 x9) fun x118 =>
   ob (xbin PP .geq 208 true x118 (.int .u64 4294967296)) fun x120 =>
   pIf x120
    (k2 x2 x8 x14 x15 x17 x115 h)
    (kn x2 x8 x9 x10 x14 x15 x118 x17 x115 h))
   (k2 x2 x8 x14 x15 x17 x18 h)
theorem f207_5_eq (E : Ev) (kn : K) (kx : Nat → K) (kr : K) (e2 : K) (he2 : kx 2 = e2) : f207_5 E (fun y2 y8 y9 y10 y14 y15 y16 y17 y18 h => kn (mkE [(2, y2), (8, y8), (9, y9), (10, y10), (14, y14), (15, y15), (16, y16), (17, y17), (18, y18)]) h) (fun y2 y8 y14 y15 y17 y18 h => e2 (mkE [(2, y2), (8, y8), (14, y14), (15, y15), (17, y17), (18, y18)]) h) = fun x2 x8 x9 x10 x14 x15 x16 x17 x18 h => R207 E (pa (pa (pa (pb (pb (pb (pb (pb (pb (pb (pb (pb (pb (pb (pb (pb (pb (pb (pb (pb (pb (codeOf fn207)))))))))))))))))))))) true 509700 (fun i => sel (Nat.beq i 2) 442628 ((fun _ => 0) i)) kn kx kr (mkE [(2, x2), (8, x8), (9, x9), (10, x10), (14, x14), (15, x15), (16, x16), (17, x17), (18, x18)]) h := by
  subst he2
  funext x2 x8 x9 x10 x14 x15 x16 x17 x18 h
  unfold f207_5
  refine Eq.trans ?_ (R207_unf E _ _ _ _ _ _ _ _).symm
  generalize R207 E = R
  generalize LL = L
  generalize PP = P
  revert R L P
  refine id ?_
  intro R L P
  kernel_rfl
def f207_3 (E : Ev) (kr : AV → AV → Heap → Res) (x2 x8 x9 x10 x11 x13 x14 x15 : AV) (h : Heap) : Res :=
  ob (xbin PP .mul 208 true x11 (.int .u64 4294967296)) fun x87 =>
  ob (xbin PP .add 208 false x87 x13) fun x89 =>
  ob (xbin PP .mul 208 false x15 x2) fun x92 =>
  ob (xbin PP .sub 208 false x89 x92) fun x93 =>
  ob (xbin PP .quo 208 false x93 x9) fun x96 =>
  ob (xbin PP .mul 208 false x96 x9) fun x100 =>
  ob (xbin PP .sub 208 false x93 x100) fun x101 =>
  lp b9 (fun k => f207_5 E k (f207_4 E kr)) LL x2 x8 x9 x10 x14 x15 x101 x93 x96 h
theorem f207_3_eq (E : Ev) (kn : K) (kx : Nat → K) (kr : K) : f207_3 E (fun y6 y7 h => kr (mkE [(6, y6), (7, y7)]) h) = fun x2 x8 x9 x10 x11 x13 x14 x15 h => R207 E (pb (pb (pb (pb (pb (pb (pb (pb (pb (pb (pb (pb (pb (pb (pb (codeOf fn207)))))))))))))))) true 192 (fun _ => 0) kn kx kr (mkE [(2, x2), (8, x8), (9, x9), (10, x10), (11, x11), (13, x13), (14, x14), (15, x15)]) h := by
  funext x2 x8 x9 x10 x11 x13 x14 x15 h
  unfold f207_3
  rw [f207_4_eq E kn kx kr, lp9_eq 2 8 9 10 14 15 16 17 18 (fun k => (R207 E (pa (pa (pa (pb (pb (pb (pb (pb (pb (pb (pb (pb (pb (pb (pb (pb (pb (pb (pb (pb (pb (codeOf fn207)))))))))))))))))))))) true 509700 (fun i => sel (Nat.beq i 2) 442628 ((fun _ => 0) i)) k (fun i => sel (Nat.beq i 2) (R207 E (pb (pb (pb (pb (pb (pb (pb (pb (pb (pb (pb (pb (pb (pb (pb (pb (pb (pb (pb (codeOf fn207)))))))))))))))))))) true 192 (fun _ => 0) kn kx kr) (kx i)) kr)) (fun k => f207_5 E k (fun y2 y8 y14 y15 y17 y18 h => (R207 E (pb (pb (pb (pb (pb (pb (pb (pb (pb (pb (pb (pb (pb (pb (pb (pb (pb (pb (pb (codeOf fn207)))))))))))))))))))) true 192 (fun _ => 0) kn kx kr) (mkE [(2, y2), (8, y8), (14, y14), (15, y15), (17, y17), (18, y18)]) h)) (fun k => f207_5_eq E k (fun i => sel (Nat.beq i 2) (R207 E (pb (pb (pb (pb (pb (pb (pb (pb (pb (pb (pb (pb (pb (pb (pb (pb (pb (pb (pb (codeOf fn207)))))))))))))))))))) true 192 (fun _ => 0) kn kx kr) (kx i)) kr (R207 E (pb (pb (pb (pb (pb (pb (pb (pb (pb (pb (pb (pb (pb (pb (pb (pb (pb (pb (pb (codeOf fn207)))))))))))))))))))) true 192 (fun _ => 0) kn kx kr) rfl) LL]
  refine Eq.trans ?_ (R207_unf E _ _ _ _ _ _ _ _).symm
  generalize R207 E = R
  generalize LL = L
  generalize PP = P
  revert R L P
  refine id ?_
  intro R L P
  kernel_rfl
def f207_6 (E : Ev) (kn : AV → AV → AV → AV → AV → AV → AV → AV → AV → Heap → Res) (k0 : AV → AV → AV → AV → AV → AV → AV → AV → Heap → Res) (x2 x8 x9 x10 x11 x13 x14 x15 x16 : AV) (h : Heap) : Res :=
  ob (xbin PP .geq 208 true x15 (.int .u64 4294967296)) fun x68 =>
  ob (pWant x68 false) fun c =>
  ob (sel c (some x15) (some (.tuple []))) fun x70 =>
  ob (pWant x68 false) fun c_1 =>
  ob (sel c_1 (some x10) (some (.tuple []))) fun x71 =>
  ob (pWant x68 false) fun c_2 =>
  ob (sel c_2 (xbin PP .mul 208 false x70 x71) (some (.tuple []))) fun x72 =>
  ob (pWant x68 false) fun c_3 =>
  ob (sel c_3 (some x16) (some (.tuple []))) fun x73 =>
  ob (pWant x68 false) fun c_4 =>
  ob (sel c_4 (xbin PP .mul 208 true (.int .u64 4294967296) x73) (some (.tuple []))) fun x74 =>
  ob (pWant x68 false) fun c_5 =>
  ob (sel c_5 (some x13) (some (.tuple []))) fun x75 =>
  ob (pWant x68 false) fun c_6 =>
  ob (sel c_6 (xbin PP .add 208 false x74 x75) (some (.tuple []))) fun x76 =>
  ob (pWant x68 false) fun c_7 =>
  ob (sel c_7 (xbin PP .gtr 208 false x72 x76) (some (.tuple []))) fun x77 =>
  ob (pPick x68 (some (.bool true)) (some x77)) fun x78 =>
  pIf x78
   (ob (xbin PP .sub 208 true x15 (.int .u64 1)) fun x80 =>
   ob (xbin PP .add 208 false x16 x9) fun x83 =>
   ob (xbin PP .geq 208 true x83 (.int .u64 4294967296)) fun x85 =>
   pIf x85
    (k0 x2 x8 x9 x10 x11 x13 x14 x80 h)
    (kn x2 x8 x9 x10 x11 x13 x14 x80 x83 h))
   (k0 x2 x8 x9 x10 x11 x13 x14 x15 h)
theorem f207_6_eq (E : Ev) (kn : K) (kx : Nat → K) (kr : K) (e0 : K) (he0 : kx 0 = e0) : f207_6 E (fun y2 y8 y9 y10 y11 y13 y14 y15 y16 h => kn (mkE [(2, y2), (8, y8), (9, y9), (10, y10), (11, y11), (13, y13), (14, y14), (15, y15), (16, y16)]) h) (fun y2 y8 y9 y10 y11 y13 y14 y15 h => e0 (mkE [(2, y2), (8, y8), (9, y9), (10, y10), (11, y11), (13, y13), (14, y14), (15, y15)]) h) = fun x2 x8 x9 x10 x11 x13 x14 x15 x16 h => R207 E (pa (pa (pa (pb (pb (pb (pb (pb (pb (pb (pb (pb (pb (pb (pb (pb (pb (codeOf fn207)))))))))))))))))) true 126724 (fun i => sel (Nat.beq i 0) 61188 ((fun _ => 0) i)) kn kx kr (mkE [(2, x2), (8, x8), (9, x9), (10, x10), (11, x11), (13, x13), (14, x14), (15, x15), (16, x16)]) h := by
  subst he0
  funext x2 x8 x9 x10 x11 x13 x14 x15 x16 h
  unfold f207_6
  refine Eq.trans ?_ (R207_unf E _ _ _ _ _ _ _ _).symm
  generalize R207 E = R
  generalize LL = L
  generalize PP = P
  revert R L P
  refine id ?_
  intro R L P
  kernel_rfl
def f207_2 (E : Ev) (kr : AV → AV → Heap → Res) (x0 x1 x2 : AV) (h : Heap) : Res :=
  ob (xbin PP .eql 208 true x0 (.int .u64 0)) fun x27 =>
  pIf x27
   (ob (xbin PP .quo 208 false x1 x2) fun x30 =>
   ob (xbin PP .rem 208 false x1 x2) fun x33 =>
   kr x30 x33 h)
   (obP (E (.fn 170) [x2] h) fun x35 h35 =>
   ob (pInt PP 3 237 x35) fun x36 =>
   ob (xbin PP .shl 208 false x2 x36) fun x39 =>
   ob (xbin PP .shr 208 true x39 (.int .u64 32)) fun x41 =>
   ob (xbin PP .and 208 true x39 (.int .u64 4294967295)) fun x43 =>
   ob (xbin PP .shl 208 false x0 x36) fun x46 =>
   ob (xbin PP .sub 237 true (.int .u64 64) x36) fun x49 =>
   ob (xbin PP .shr 208 false x1 x49) fun x50 =>
   ob (xbin PP .or 208 false x46 x50) fun x51 =>
   ob (xbin PP .shl 208 false x1 x36) fun x54 =>
   ob (xbin PP .shr 208 true x54 (.int .u64 32)) fun x56 =>
   ob (xbin PP .and 208 true x54 (.int .u64 4294967295)) fun x58 =>
   ob (xbin PP .quo 208 false x51 x41) fun x61 =>
   ob (xbin PP .mul 208 false x61 x41) fun x65 =>
   ob (xbin PP .sub 208 false x51 x65) fun x66 =>
   lp b9 (fun k => f207_6 E k (f207_3 E kr)) LL x39 x36 x41 x43 x51 x56 x58 x61 x66 h35)
theorem f207_2_eq (E : Ev) (kn : K) (kx : Nat → K) (kr : K) : f207_2 E (fun y6 y7 h => kr (mkE [(6, y6), (7, y7)]) h) = fun x0 x1 x2 h => R207 E (pb (pb (pb (codeOf fn207)))) true 192 (fun _ => 0) kn kx kr (mkE [(0, x0), (1, x1), (2, x2)]) h := by
  funext x0 x1 x2 h
  unfold f207_2
  rw [f207_3_eq E kn kx kr, lp9_eq 2 8 9 10 11 13 14 15 16 (fun k => (R207 E (pa (pa (pa (pb (pb (pb (pb (pb (pb (pb (pb (pb (pb (pb (pb (pb (pb (codeOf fn207)))))))))))))))))) true 126724 (fun i => sel (Nat.beq i 0) 61188 ((fun _ => 0) i)) k (fun i => sel (Nat.beq i 0) (R207 E (pb (pb (pb (pb (pb (pb (pb (pb (pb (pb (pb (pb (pb (pb (pb (codeOf fn207)))))))))))))))) true 192 (fun _ => 0) kn kx kr) (kx i)) kr)) (fun k => f207_6 E k (fun y2 y8 y9 y10 y11 y13 y14 y15 h => (R207 E (pb (pb (pb (pb (pb (pb (pb (pb (pb (pb (pb (pb (pb (pb (pb (codeOf fn207)))))))))))))))) true 192 (fun _ => 0) kn kx kr) (mkE [(2, y2), (8, y8), (9, y9), (10, y10), (11, y11), (13, y13), (14, y14), (15, y15)]) h)) (fun k => f207_6_eq E k (fun i => sel (Nat.beq i 0) (R207 E (pb (pb (pb (pb (pb (pb (pb (pb (pb (pb (pb (pb (pb (pb (pb (codeOf fn207)))))))))))))))) true 192 (fun _ => 0) kn kx kr) (kx i)) kr (R207 E (pb (pb (pb (pb (pb (pb (pb (pb (pb (pb (pb (pb (pb (pb (pb (codeOf fn207)))))))))))))))) true 192 (fun _ => 0) kn kx kr) rfl) LL]
  refine Eq.trans ?_ (R207_unf E _ _ _ _ _ _ _ _).symm
  generalize R207 E = R
  generalize LL = L
  generalize PP = P
  revert R L P
  refine id ?_
  intro R L P
  kernel_rfl
def f207_1 (E : Ev) (kr : AV → AV → Heap → Res) (x0 x1 x2 : AV) (h : Heap) : Res :=
  ob (xbin PP .leq 208 false x2 x0) fun x24 =>
  pIf x24
   (ob (pLoad PP 198 (.ptr 7 0) h) fun x25 =>
   obP (none) fun u h0 =>
   f207_2 E kr x0 x1 x2 h0)
   (f207_2 E kr x0 x1 x2 h)
theorem f207_1_eq (E : Ev) (kn : K) (kx : Nat → K) (kr : K) : f207_1 E (fun y6 y7 h => kr (mkE [(6, y6), (7, y7)]) h) = fun x0 x1 x2 h => R207 E (pb (pb (codeOf fn207))) true 192 (fun _ => 0) kn kx kr (mkE [(0, x0), (1, x1), (2, x2)]) h := by
  funext x0 x1 x2 h
  unfold f207_1
  rw [f207_2_eq E kn kx kr]
  refine Eq.trans ?_ (R207_unf E _ _ _ _ _ _ _ _).symm
  generalize R207 E = R
  generalize LL = L
  generalize PP = P
  revert R L P
  refine id ?_
  intro R L P
  kernel_rfl
/-- math/bits.Div64 -/
def s207 (E : Ev) (x0 x1 x2 : AV) (h : Heap) : Res :=
  ob (xbin PP .eql 208 true x2 (.int .u64 0)) fun x20 =>
  pIf x20
   (ob (pLoad PP 198 (.ptr 6 0) h) fun x21 =>
   obP (none) fun u h0 =>
   f207_1 E r207 x0 x1 x2 h0)
   (f207_1 E r207 x0 x1 x2 h)
theorem s207_eq (E : Ev) (x0 x1 x2 : AV) (h : Heap) : xbodyR PP GG CC E LL fn207 [x0, x1, x2] h = s207 E x0 x1 x2 h := by
  unfold s207
  rw [r207_eq, f207_1_eq E (xret PP fn207) noK (xret PP fn207)]
  refine (bodyR_unf (c := (codeOf fn207)) (by kernel_rfl) (by kernel_rfl)).trans ?_
  show runS (R207 E) PP GG CC E fn207.ntmps LL none (resBits fn207.results.toList) (codeOf fn207) _ _ _ _ _ _ _ = _
  generalize R207 E = R
  generalize LL = L
  generalize PP = P
  symm
  revert R L P
  refine id ?_
  intro R L P
  kernel_rfl
def fn215 : Func := fnAt PP 215
def R215 (E : Ev) : RT := runR PP GG CC E 23 LL none 8
theorem R215_unf (E : Ev) (c : Code) (lv : Nat) (lx : Nat → Nat) (kn : K) (kx : Nat → K) (kr : K) (e : Env) (h : Heap) : R215 E c true lv lx kn kx kr e h = runS (R215 E) PP GG CC E 23 LL none 8 c lv lx kn kx kr e h := runR_unf _ _ _ _ _ _ _ _
def r215 (x3 : AV) (h : Heap) : Res := some (x3, h)
theorem r215_eq : r215 = fun x3 h => xret PP fn215 (mkE [(3, x3)]) h := by kernel_rfl
def f215_1 (E : Ev) (kr : AV → Heap → Res) (x0 x1 : AV) (h : Heap) : Res :=
  ob (pLoad PP 36 x1 h) fun x4 =>
  ob (pNil x4) fun x5 =>
  ob (pFieldAddr PP 100 2 x5) fun x6 =>
  ob (pLoad PP 98 x6 h) fun x7 =>
  ob (xindexAddr PP 98 x7 x0) fun x9 =>
  ob (xindexAddr PP 165 x9 (.int .i64 0)) fun x10 =>
  ob (pLoad PP 4 x10 h) fun x11 =>
  ob (xun .not x11) fun x12 =>
  ob (pWant x12 false) fun c =>
  ob (sel c (pLoad PP 36 x1 h) (some (.tuple []))) fun x14 =>
  ob (pWant x12 false) fun c_1 =>
  ob (sel c_1 (pNil x14) (some (.tuple []))) fun x15 =>
  ob (pWant x12 false) fun c_2 =>
  ob (sel c_2 (pFieldAddr PP 100 2 x15) (some (.tuple []))) fun x16 =>
  ob (pWant x12 false) fun c_3 =>
  ob (sel c_3 (pLoad PP 98 x16 h) (some (.tuple []))) fun x17 =>
  ob (pWant x12 false) fun c_4 =>
  ob (sel c_4 (some x0) (some (.tuple []))) fun x18 =>
  ob (pWant x12 false) fun c_5 =>
  ob (sel c_5 (xindexAddr PP 98 x17 x18) (some (.tuple []))) fun x19 =>
  ob (pWant x12 false) fun c_6 =>
  ob (sel c_6 (xindexAddr PP 165 x19 (.int .i64 1)) (some (.tuple []))) fun x20 =>
  ob (pWant x12 false) fun c_7 =>
  ob (sel c_7 (pLoad PP 4 x20 h) (some (.tuple []))) fun x21 =>
  ob (pPick x12 (some (.bool true)) (some x21)) fun x22 =>
  kr x22 h
theorem f215_1_eq (E : Ev) (kn : K) (kx : Nat → K) (kr : K) : f215_1 E (fun y3 h => kr (mkE [(3, y3)]) h) = fun x0 x1 h => R215 E (pb (codeOf fn215)) true 8 (fun _ => 0) kn kx kr (mkE [(0, x0), (1, x1)]) h := by
  funext x0 x1 h
  unfold f215_1
  refine Eq.trans ?_ (R215_unf E _ _ _ _ _ _ _ _).symm
  generalize R215 E = R
  generalize LL = L
  generalize PP = P
  revert R L P
  refine id ?_
  intro R L P
  kernel_rfl
/-- (*theodolite/term.Table).quotient$1 -/
def s215 (E : Ev) (x0 x1 : AV) (h : Heap) : Res :=
  f215_1 E r215 x0 x1 h
theorem s215_eq (E : Ev) (x0 x1 : AV) (h : Heap) : xbodyR PP GG CC E LL fn215 [x0, x1] h = s215 E x0 x1 h := by
  unfold s215
  rw [r215_eq, f215_1_eq E (xret PP fn215) noK (xret PP fn215)]
  refine (bodyR_unf (c := (codeOf fn215)) (by kernel_rfl) (by kernel_rfl)).trans ?_
  show runS (R215 E) PP GG CC E fn215.ntmps LL none (resBits fn215.results.toList) (codeOf fn215) _ _ _ _ _ _ _ = _
  generalize R215 E = R
  generalize LL = L
  generalize PP = P
  symm
  revert R L P
  refine id ?_
  intro R L P
  kernel_rfl
def fn218 : Func := fnAt PP 218
def R218 (E : Ev) : RT := runR PP GG CC E 145 LL none 1024
theorem R218_unf (E : Ev) (c : Code) (lv : Nat) (lx : Nat → Nat) (kn : K) (kx : Nat → K) (kr : K) (e : Env) (h : Heap) : R218 E c true lv lx kn kx kr e h = runS (R218 E) PP GG CC E 145 LL none 1024 c lv lx kn kx kr e h := runR_unf _ _ _ _ _ _ _ _
def r218 (x10 : AV) (h : Heap) : Res := some (x10, h)
theorem r218_eq : r218 = fun x10 h => xret PP fn218 (mkE [(10, x10)]) h := by kernel_rfl
def f218_2 (E : Ev) (kr : AV → Heap → Res) (x0 : AV) (h : Heap) : Res :=
  kr x0 h
theorem f218_2_eq (E : Ev) (kn : K) (kx : Nat → K) (kr : K) : f218_2 E (fun y10 h => kr (mkE [(10, y10)]) h) = fun x0 h => R218 E (pb (pb (pb (pb (codeOf fn218))))) true 1024 (fun _ => 0) kn kx kr (mkE [(0, x0)]) h := by
  funext x0 h
  unfold f218_2
  refine Eq.trans ?_ (R218_unf E _ _ _ _ _ _ _ _).symm
  generalize R218 E = R
  generalize LL = L
  generalize PP = P
  revert R L P
  refine id ?_
  intro R L P
  kernel_rfl
def f218_4 (E : Ev) (k1 : AV → Heap → Res) (x0 : AV) (h : Heap) : Res :=
  k1 x0 h
theorem f218_4_eq (E : Ev) (kn : K) (kx : Nat → K) (kr : K) (e1 : K) (he1 : kx 1 = e1) : f218_4 E (fun y0 h => e1 (mkE [(0, y0)]) h) = fun x0 h => R218 E (pb (pb (pa (pb (pb (pb (pb (pb (pb (pb (pb (pb (pb (pb (pb (pb (pb (pa (pb (pa (pb (pb (pb (codeOf fn218)))))))))))))))))))))))) true 1 (fun i => sel (Nat.beq i 1) 1 ((fun i => sel (Nat.beq i 0) 1 ((fun _ => 0) i)) i)) kn kx kr (mkE [(0, x0)]) h := by
  subst he1
  funext x0 h
  unfold f218_4
  refine Eq.trans ?_ (R218_unf E _ _ _ _ _ _ _ _).symm
  generalize R218 E = R
  generalize LL = L
  generalize PP = P
  revert R L P
  refine id ?_
  intro R L P
  kernel_rfl
def f218_5 (E : Ev) (kn : AV → AV → AV → Heap → Res) (k8 : AV → Heap → Res) (x0 x1 x12 : AV) (h : Heap) : Res :=
  ob (xbin PP .geq 3 true x12 (.int .i64 0)) fun x104 =>
  pIf x104
   (ob (pInt PP 3 237 x12) fun x110 =>
   ob (xbin PP .shr 21 false x1 x110) fun x111 =>
   ob (xbin PP .and 21 true x111 (.int .i32 15)) fun x112 =>
   ob (xindex PP 9 (.str 16 136107713667768957684761770045455085872) x112) fun x113 =>
   obP (pBuildSlice PP h 41 1 [(0, x113)]) fun x114 h114 =>
   obP (xappend PP h114 41 41 x0 x114) fun x115 h115 =>
   ob (xbin PP .sub 3 true x12 (.int .i64 4)) fun x106 =>
   kn x115 x1 x106 h115)
   (k8 x0 h)
theorem f218_5_eq (E : Ev) (kn : K) (kx : Nat → K) (kr : K) (e8 : K) (he8 : kx 8 = e8) : f218_5 E (fun y0 y1 y12 h => kn (mkE [(0, y0), (1, y1), (12, y12)]) h) (fun y0 h => e8 (mkE [(0, y0)]) h) = fun x0 x1 x12 h => R218 E (pa (pa (pb (pb (pa (pb (pa (pb (pb (pb (pb (pb (pb (pb (pb (pb (pb (pb (pb (pb (pb (pa (pb (pa (pb (pb (pb (codeOf fn218)))))))))))))))))))))))))))) true 4099 (fun i => sel (Nat.beq i 8) 1 ((fun i => sel (Nat.beq i 1) 1 ((fun i => sel (Nat.beq i 0) 1 ((fun _ => 0) i)) i)) i)) kn kx kr (mkE [(0, x0), (1, x1), (12, x12)]) h := by
  subst he8
  funext x0 x1 x12 h
  unfold f218_5
  refine Eq.trans ?_ (R218_unf E _ _ _ _ _ _ _ _).symm
  generalize R218 E = R
  generalize LL = L
  generalize PP = P
  revert R L P
  refine id ?_
  intro R L P
  kernel_rfl
def f218_3 (E : Ev) (k1 : AV → Heap → Res) (x0 x1 : AV) (h : Heap) : Res :=
  obP (xappend PP h 41 9 x0 (.str 2 21852)) fun x102 h102 =>
  lp b3 (fun k => f218_5 E k (f218_4 E k1)) LL x102 x1 (.int .i64 28) h102
theorem f218_3_eq (E : Ev) (kn : K) (kx : Nat → K) (kr : K) (e1 : K) (he1 : kx 1 = e1) : f218_3 E (fun y0 h => e1 (mkE [(0, y0)]) h) = fun x0 x1 h => R218 E (pb (pa (pb (pb (pb (pb (pb (pb (pb (pb (pb (pb (pb (pb (pb (pb (pa (pb (pa (pb (pb (pb (codeOf fn218))))))))))))))))))))))) true 1 (fun i => sel (Nat.beq i 1) 1 ((fun i => sel (Nat.beq i 0) 1 ((fun _ => 0) i)) i)) kn kx kr (mkE [(0, x0), (1, x1)]) h := by
  subst he1
  funext x0 x1 h
  unfold f218_3
  rw [f218_4_eq E kn kx kr (kx 1) rfl, lp3_eq 0 1 12 (fun k => (R218 E (pa (pa (pb (pb (pa (pb (pa (pb (pb (pb (pb (pb (pb (pb (pb (pb (pb (pb (pb (pb (pb (pa (pb (pa (pb (pb (pb (codeOf fn218)))))))))))))))))))))))))))) true 4099 (fun i => sel (Nat.beq i 8) 1 ((fun i => sel (Nat.beq i 1) 1 ((fun i => sel (Nat.beq i 0) 1 ((fun _ => 0) i)) i)) i)) k (fun i => sel (Nat.beq i 8) (R218 E (pb (pb (pa (pb (pb (pb (pb (pb (pb (pb (pb (pb (pb (pb (pb (pb (pb (pa (pb (pa (pb (pb (pb (codeOf fn218)))))))))))))))))))))))) true 1 (fun i => sel (Nat.beq i 1) 1 ((fun i => sel (Nat.beq i 0) 1 ((fun _ => 0) i)) i)) kn kx kr) (kx i)) kr)) (fun k => f218_5 E k (fun y0 h => (R218 E (pb (pb (pa (pb (pb (pb (pb (pb (pb (pb (pb (pb (pb (pb (pb (pb (pb (pa (pb (pa (pb (pb (pb (codeOf fn218)))))))))))))))))))))))) true 1 (fun i => sel (Nat.beq i 1) 1 ((fun i => sel (Nat.beq i 0) 1 ((fun _ => 0) i)) i)) kn kx kr) (mkE [(0, y0)]) h)) (fun k => f218_5_eq E k (fun i => sel (Nat.beq i 8) (R218 E (pb (pb (pa (pb (pb (pb (pb (pb (pb (pb (pb (pb (pb (pb (pb (pb (pb (pa (pb (pa (pb (pb (pb (codeOf fn218)))))))))))))))))))))))) true 1 (fun i => sel (Nat.beq i 1) 1 ((fun i => sel (Nat.beq i 0) 1 ((fun _ => 0) i)) i)) kn kx kr) (kx i)) kr (R218 E (pb (pb (pa (pb (pb (pb (pb (pb (pb (pb (pb (pb (pb (pb (pb (pb (pb (pa (pb (pa (pb (pb (pb (codeOf fn218)))))))))))))))))))))))) true 1 (fun i => sel (Nat.beq i 1) 1 ((fun i => sel (Nat.beq i 0) 1 ((fun _ => 0) i)) i)) kn kx kr) rfl) LL]
  refine Eq.trans ?_ (R218_unf E _ _ _ _ _ _ _ _).symm
  generalize R218 E = R
  generalize LL = L
  generalize PP = P
  revert R L P
  refine id ?_
  intro R L P
  kernel_rfl
def f218_7 (E : Ev) (k1 : AV → Heap → Res) (x0 : AV) (h : Heap) : Res :=
  k1 x0 h
theorem f218_7_eq (E : Ev) (kn : K) (kx : Nat → K) (kr : K) (e1 : K) (he1 : kx 1 = e1) : f218_7 E (fun y0 h => e1 (mkE [(0, y0)]) h) = fun x0 h => R218 E (pb (pb (pa (pa (pa (pb (pb (pb (pb (pb (pb (pb (pb (pb (pb (pb (pb (pb (pb (pa (pb (pa (pb (pb (pb (codeOf fn218)))))))))))))))))))))))))) true 3 (fun i => sel (Nat.beq i 5) 3 ((fun i => sel (Nat.beq i 1) 1 ((fun i => sel (Nat.beq i 0) 1 ((fun _ => 0) i)) i)) i)) kn kx kr (mkE [(0, x0)]) h := by
  subst he1
  funext x0 h
  unfold f218_7
  refine Eq.trans ?_ (R218_unf E _ _ _ _ _ _ _ _).symm
  generalize R218 E = R
  generalize LL = L
  generalize PP = P
  revert R L P
  refine id ?_
  intro R L P
  kernel_rfl
def f218_8 (E : Ev) (kn : AV → AV → AV → Heap → Res) (k6 : AV → Heap → Res) (x0 x1 x11 : AV) (h : Heap) : Res :=
  ob (xbin PP .geq 3 true x11 (.int .i64 0)) fun x89 =>
  pIf x89
   (ob (pInt PP 3 237 x11) fun x95 =>
   ob (xbin PP .shr 21 false x1 x95) fun x96 =>
   ob (xbin PP .and 21 true x96 (.int .i32 15)) fun x97 =>
   ob (xindex PP 9 (.str 16 136107713667768957684761770045455085872) x97) fun x98 =>
   obP (pBuildSlice PP h 41 1 [(0, x98)]) fun x99 h99 =>
   obP (xappend PP h99 41 41 x0 x99) fun x100 h100 =>
   ob (xbin PP .sub 3 true x11 (.int .i64 4)) fun x91 =>
   kn x100 x1 x91 h100)
   (k6 x0 h)
theorem f218_8_eq (E : Ev) (kn : K) (kx : Nat → K) (kr : K) (e6 : K) (he6 : kx 6 = e6) : f218_8 E (fun y0 y1 y11 h => kn (mkE [(0, y0), (1, y1), (11, y11)]) h) (fun y0 h => e6 (mkE [(0, y0)]) h) = fun x0 x1 x11 h => R218 E (pa (pa (pb (pb (pa (pb (pa (pa (pa (pb (pb (pb (pb (pb (pb (pb (pb (pb (pb (pb (pb (pb (pb (pa (pb (pa (pb (pb (pb (codeOf fn218)))))))))))))))))))))))))))))) true 2051 (fun i => sel (Nat.beq i 6) 1 ((fun i => sel (Nat.beq i 5) 3 ((fun i => sel (Nat.beq i 1) 1 ((fun i => sel (Nat.beq i 0) 1 ((fun _ => 0) i)) i)) i)) i)) kn kx kr (mkE [(0, x0), (1, x1), (11, x11)]) h := by
  subst he6
  funext x0 x1 x11 h
  unfold f218_8
  refine Eq.trans ?_ (R218_unf E _ _ _ _ _ _ _ _).symm
  generalize R218 E = R
  generalize LL = L
  generalize PP = P
  revert R L P
  refine id ?_
  intro R L P
  kernel_rfl
def f218_6 (E : Ev) (k1 : AV → Heap → Res) (x0 x1 : AV) (h : Heap) : Res :=
  obP (xappend PP h 41 9 x0 (.str 2 30044)) fun x87 h87 =>
  lp b3 (fun k => f218_8 E k (f218_7 E k1)) LL x87 x1 (.int .i64 12) h87
theorem f218_6_eq (E : Ev) (kn : K) (kx : Nat → K) (kr : K) (e1 : K) (he1 : kx 1 = e1) : f218_6 E (fun y0 h => e1 (mkE [(0, y0)]) h) = fun x0 x1 h => R218 E (pb (pa (pa (pa (pb (pb (pb (pb (pb (pb (pb (pb (pb (pb (pb (pb (pb (pb (pa (pb (pa (pb (pb (pb (codeOf fn218))))))))))))))))))))))))) true 3 (fun i => sel (Nat.beq i 5) 3 ((fun i => sel (Nat.beq i 1) 1 ((fun i => sel (Nat.beq i 0) 1 ((fun _ => 0) i)) i)) i)) kn kx kr (mkE [(0, x0), (1, x1)]) h := by
  subst he1
  funext x0 x1 h
  unfold f218_6
  rw [f218_7_eq E kn kx kr (kx 1) rfl, lp3_eq 0 1 11 (fun k => (R218 E (pa (pa (pb (pb (pa (pb (pa (pa (pa (pb (pb (pb (pb (pb (pb (pb (pb (pb (pb (pb (pb (pb (pb (pa (pb (pa (pb (pb (pb (codeOf fn218)))))))))))))))))))))))))))))) true 2051 (fun i => sel (Nat.beq i 6) 1 ((fun i => sel (Nat.beq i 5) 3 ((fun i => sel (Nat.beq i 1) 1 ((fun i => sel (Nat.beq i 0) 1 ((fun _ => 0) i)) i)) i)) i)) k (fun i => sel (Nat.beq i 6) (R218 E (pb (pb (pa (pa (pa (pb (pb (pb (pb (pb (pb (pb (pb (pb (pb (pb (pb (pb (pb (pa (pb (pa (pb (pb (pb (codeOf fn218)))))))))))))))))))))))))) true 3 (fun i => sel (Nat.beq i 5) 3 ((fun i => sel (Nat.beq i 1) 1 ((fun i => sel (Nat.beq i 0) 1 ((fun _ => 0) i)) i)) i)) kn kx kr) (kx i)) kr)) (fun k => f218_8 E k (fun y0 h => (R218 E (pb (pb (pa (pa (pa (pb (pb (pb (pb (pb (pb (pb (pb (pb (pb (pb (pb (pb (pb (pa (pb (pa (pb (pb (pb (codeOf fn218)))))))))))))))))))))))))) true 3 (fun i => sel (Nat.beq i 5) 3 ((fun i => sel (Nat.beq i 1) 1 ((fun i => sel (Nat.beq i 0) 1 ((fun _ => 0) i)) i)) i)) kn kx kr) (mkE [(0, y0)]) h)) (fun k => f218_8_eq E k (fun i => sel (Nat.beq i 6) (R218 E (pb (pb (pa (pa (pa (pb (pb (pb (pb (pb (pb (pb (pb (pb (pb (pb (pb (pb (pb (pa (pb (pa (pb (pb (pb (codeOf fn218)))))))))))))))))))))))))) true 3 (fun i => sel (Nat.beq i 5) 3 ((fun i => sel (Nat.beq i 1) 1 ((fun i => sel (Nat.beq i 0) 1 ((fun _ => 0) i)) i)) i)) kn kx kr) (kx i)) kr (R218 E (pb (pb (pa (pa (pa (pb (pb (pb (pb (pb (pb (pb (pb (pb (pb (pb (pb (pb (pb (pa (pb (pa (pb (pb (pb (codeOf fn218)))))))))))))))))))))))))) true 3 (fun i => sel (Nat.beq i 5) 3 ((fun i => sel (Nat.beq i 1) 1 ((fun i => sel (Nat.beq i 0) 1 ((fun _ => 0) i)) i)) i)) kn kx kr) rfl) LL]
  refine Eq.trans ?_ (R218_unf E _ _ _ _ _ _ _ _).symm
  generalize R218 E = R
  generalize LL = L
  generalize PP = P
  revert R L P
  refine id ?_
  intro R L P
  kernel_rfl
def f218_1 (E : Ev) (kr : AV → Heap → Res) (x0 x1 : AV) (h : Heap) : Res :=
  ob (xbin PP .eql 21 true x1 (.int .i32 7)) fun x117 =>
  pIf x117
   (obP (xappend PP h 41 9 x0 (.str 2 24924)) fun x119 h119 =>
   f218_2 E kr x119 h119)
   (ob (xbin PP .eql 21 true x1 (.int .i32 8)) fun x121 =>
   pIf x121
    (obP (xappend PP h 41 9 x0 (.str 2 25180)) fun x123 h123 =>
    f218_2 E kr x123 h123)
    (ob (xbin PP .eql 21 true x1 (.int .i32 12)) fun x125 =>
    pIf x125
     (obP (xappend PP h 41 9 x0 (.str 2 26204)) fun x127 h127 =>
     f218_2 E kr x127 h127)
     (ob (xbin PP .eql 21 true x1 (.int .i32 10)) fun x129 =>
     pIf x129
      (obP (xappend PP h 41 9 x0 (.str 2 28252)) fun x131 h131 =>
      f218_2 E kr x131 h131)
      (ob (xbin PP .eql 21 true x1 (.int .i32 13)) fun x133 =>
      pIf x133
       (obP (xappend PP h 41 9 x0 (.str 2 29276)) fun x135 h135 =>
       f218_2 E kr x135 h135)
       (ob (xbin PP .eql 21 true x1 (.int .i32 9)) fun x137 =>
       pIf x137
        (obP (xappend PP h 41 9 x0 (.str 2 29788)) fun x139 h139 =>
        f218_2 E kr x139 h139)
        (ob (xbin PP .eql 21 true x1 (.int .i32 11)) fun x141 =>
        pIf x141
         (obP (xappend PP h 41 9 x0 (.str 2 30300)) fun x143 h143 =>
         f218_2 E kr x143 h143)
         (ob (xbin PP .lss 21 true x1 (.int .i32 32)) fun x58 =>
         ob (pWant x58 false) fun c =>
         ob (sel c (some x1) (some (.tuple []))) fun x60 =>
         ob (pWant x58 false) fun c_1 =>
         ob (sel c_1 (xbin PP .eql 21 true x60 (.int .i32 127)) (some (.tuple []))) fun x61 =>
         ob (pPick x58 (some (.bool true)) (some x61)) fun x62 =>
         pIf x62
          (obP (xappend PP h 41 9 x0 (.str 2 30812)) fun x71 h71 =>
          ob (pInt PP 21 5 x1) fun x74 =>
          ob (xbin PP .shr 5 true x74 (.int .u64 4)) fun x75 =>
          ob (xindex PP 9 (.str 16 136107713667768957684761770045455085872) x75) fun x76 =>
          obP (pBuildSlice PP h71 41 1 [(0, x76)]) fun x77 h77 =>
          obP (xappend PP h77 41 41 x71 x77) fun x78 h78 =>
          ob (pInt PP 21 5 x1) fun x81 =>
          ob (xbin PP .and 5 true x81 (.int .u8 15)) fun x82 =>
          ob (xindex PP 9 (.str 16 136107713667768957684761770045455085872) x82) fun x83 =>
          obP (pBuildSlice PP h78 41 1 [(0, x83)]) fun x84 h84 =>
          obP (xappend PP h84 41 41 x78 x84) fun x85 h85 =>
          f218_2 E kr x85 h85)
          (obP (E (.fn 225) [x1] h) fun x65 h65 =>
          ob (xun .not x65) fun x66 =>
          pIf x66
           (f218_6 E (f218_2 E kr) x0 (.int .i32 65533) h65)
           (ob (xbin PP .lss 21 true x1 (.int .i32 65536)) fun x69 =>
           pIf x69
            (f218_6 E (f218_2 E kr) x0 x1 h65)
            (f218_3 E (f218_2 E kr) x0 x1 h65))))))))))
theorem f218_1_eq (E : Ev) (kn : K) (kx : Nat → K) (kr : K) : f218_1 E (fun y10 h => kr (mkE [(10, y10)]) h) = fun x0 x1 h => R218 E (pb (pb (pb (codeOf fn218)))) true 1024 (fun _ => 0) kn kx kr (mkE [(0, x0), (1, x1)]) h := by
  funext x0 x1 h
  unfold f218_1
  rw [f218_2_eq E kn kx kr, f218_3_eq E (R218 E (pb (pb (pb (pb (codeOf fn218))))) true 1024 (fun _ => 0) kn kx kr) (fun i => sel (Nat.beq i 1) (R218 E (pb (pb (pb (pb (codeOf fn218))))) true 1024 (fun _ => 0) kn kx kr) ((fun i => sel (Nat.beq i 0) (R218 E (pb (pb (pb (pb (codeOf fn218))))) true 1024 (fun _ => 0) kn kx kr) (kx i)) i)) kr (R218 E (pb (pb (pb (pb (codeOf fn218))))) true 1024 (fun _ => 0) kn kx kr) rfl, f218_6_eq E (R218 E (pb (pa (pb (pb (pb (pb (pb (pb (pb (pb (pb (pb (pb (pb (pb (pb (pa (pb (pa (pb (pb (pb (codeOf fn218))))))))))))))))))))))) true 1 (fun i => sel (Nat.beq i 1) 1 ((fun i => sel (Nat.beq i 0) 1 ((fun _ => 0) i)) i)) (R218 E (pb (pb (pb (pb (codeOf fn218))))) true 1024 (fun _ => 0) kn kx kr) (fun i => sel (Nat.beq i 1) (R218 E (pb (pb (pb (pb (codeOf fn218))))) true 1024 (fun _ => 0) kn kx kr) ((fun i => sel (Nat.beq i 0) (R218 E (pb (pb (pb (pb (codeOf fn218))))) true 1024 (fun _ => 0) kn kx kr) (kx i)) i)) kr) (fun i => sel (Nat.beq i 5) (R218 E (pb (pa (pb (pb (pb (pb (pb (pb (pb (pb (pb (pb (pb (pb (pb (pb (pa (pb (pa (pb (pb (pb (codeOf fn218))))))))))))))))))))))) true 1 (fun i => sel (Nat.beq i 1) 1 ((fun i => sel (Nat.beq i 0) 1 ((fun _ => 0) i)) i)) (R218 E (pb (pb (pb (pb (codeOf fn218))))) true 1024 (fun _ => 0) kn kx kr) (fun i => sel (Nat.beq i 1) (R218 E (pb (pb (pb (pb (codeOf fn218))))) true 1024 (fun _ => 0) kn kx kr) ((fun i => sel (Nat.beq i 0) (R218 E (pb (pb (pb (pb (codeOf fn218))))) true 1024 (fun _ => 0) kn kx kr) (kx i)) i)) kr) ((fun i => sel (Nat.beq i 1) (R218 E (pb (pb (pb (pb (codeOf fn218))))) true 1024 (fun _ => 0) kn kx kr) ((fun i => sel (Nat.beq i 0) (R218 E (pb (pb (pb (pb (codeOf fn218))))) true 1024 (fun _ => 0) kn kx kr) (kx i)) i)) i)) kr (R218 E (pb (pb (pb (pb (codeOf fn218))))) true 1024 (fun _ => 0) kn kx kr) rfl]
  refine Eq.trans ?_ (R218_unf E _ _ _ _ _ _ _ _).symm
  generalize R218 E = R
  generalize LL = L
  generalize PP = P
  revert R L P
  refine id ?_
  intro R L P
  kernel_rfl
/-- strconv.appendEscapedRune -/
def s218 (E : Ev) (x0 x1 x2 x3 x4 : AV) (h : Heap) : Res :=
  ob (pInt PP 5 21 x2) fun x15 =>
  ob (xbin PP .eql 21 false x1 x15) fun x16 =>
  ob (pWant x16 false) fun c =>
  ob (sel c (some x1) (some (.tuple []))) fun x18 =>
  ob (pWant x16 false) fun c_1 =>
  ob (sel c_1 (xbin PP .eql 21 true x18 (.int .i32 92)) (some (.tuple []))) fun x19 =>
  ob (pPick x16 (some (.bool true)) (some x19)) fun x20 =>
  pIf x20
   (obP (pBuildSlice PP h 41 1 [(0, (.int .u8 92))]) fun x22 h22 =>
   obP (xappend PP h22 41 41 x0 x22) fun x23 h23 =>
   ob (pInt PP 21 5 x1) fun x26 =>
   obP (pBuildSlice PP h23 41 1 [(0, x26)]) fun x27 h27 =>
   obP (xappend PP h27 41 41 x23 x27) fun x28 h28 =>
   r218 x28 h28)
   (pIf x3
    (ob (xbin PP .lss 21 true x1 (.int .i32 128)) fun x32 =>
    ob (pWant x32 true) fun c_2 =>
    ob (sel c_2 (some x1) (some (.tuple []))) fun x34 =>
    ob (pWant x32 true) fun c_3 =>
    obP (sel c_3 (E (.fn 227) [x34] h) (some (.tuple [], h))) fun x35 h35 =>
    ob (pPick x32 (some x35) (some (.bool false))) fun x36 =>
    pIf x36
     (ob (pInt PP 21 5 x1) fun x39 =>
     obP (pBuildSlice PP h35 41 1 [(0, x39)]) fun x40 h40 =>
     obP (xappend PP h40 41 41 x0 x40) fun x41 h41 =>
     r218 x41 h41)
     (f218_1 E r218 x0 x1 h35))
    (obP (E (.fn 227) [x1] h) fun x44 h44 =>
    ob (pWant x44 false) fun c_2 =>
    ob (sel c_2 (some x4) (some (.tuple []))) fun x46 =>
    ob (pWant x44 false) fun c_3 =>
    ob (sel c_3 (some x46) (some (.tuple []))) fun x47 =>
    ob (pWant x47 true) fun c_4 =>
    ob (sel c_4 (some x1) (some (.tuple []))) fun x48 =>
    ob (pWant x47 true) fun c_5 =>
    obP (sel c_5 (E (.fn 228) [x48] h44) (some (.tuple [], h44))) fun x49 h49 =>
    ob (pWant x44 false) fun c_6 =>
    ob (sel c_6 (pPick x47 (some x49) (some (.bool false))) (some (.tuple []))) fun x50 =>
    ob (pPick x44 (some (.bool true)) (some x50)) fun x51 =>
    pIf x51
     (obP (E (.fn 229) [x0, x1] h49) fun x54 h54 =>
     r218 x54 h54)
     (f218_1 E r218 x0 x1 h49)))
theorem s218_eq (E : Ev) (x0 x1 x2 x3 x4 : AV) (h : Heap) : xbodyR PP GG CC E LL fn218 [x0, x1, x2, x3, x4] h = s218 E x0 x1 x2 x3 x4 h := by
  unfold s218
  rw [r218_eq, f218_1_eq E (xret PP fn218) noK (xret PP fn218)]
  refine (bodyR_unf (c := (codeOf fn218)) (by kernel_rfl) (by kernel_rfl)).trans ?_
  show runS (R218 E) PP GG CC E fn218.ntmps LL none (resBits fn218.results.toList) (codeOf fn218) _ _ _ _ _ _ _ = _
  generalize R218 E = R
  generalize LL = L
  generalize PP = P
  symm
  revert R L P
  refine id ?_
  intro R L P
  kernel_rfl
def fn227 : Func := fnAt PP 227
def R227 (E : Ev) : RT := runR PP GG CC E 124 LL none 4
theorem R227_unf (E : Ev) (c : Code) (lv : Nat) (lx : Nat → Nat) (kn : K) (kx : Nat → K) (kr : K) (e : Env) (h : Heap) : R227 E c true lv lx kn kx kr e h = runS (R227 E) PP GG CC E 124 LL none 4 c lv lx kn kx kr e h := runR_unf _ _ _ _ _ _ _ _
def r227 (x2 : AV) (h : Heap) : Res := some (x2, h)
theorem r227_eq : r227 = fun x2 h => xret PP fn227 (mkE [(2, x2)]) h := by kernel_rfl
def f227_2 (E : Ev) (kr : AV → Heap → Res) (x0 x10 x11 x12 x13 : AV) (h : Heap) : Res :=
  ob (xlen PP h 305 x11) fun x91 =>
  ob (xbin PP .geq 3 false x13 x91) fun x92 =>
  ob (pWant x92 false) fun c =>
  ob (sel c (some x10) (some (.tuple []))) fun x94 =>
  ob (pWant x92 false) fun c_1 =>
  ob (sel c_1 (some x11) (some (.tuple []))) fun x95 =>
  ob (pWant x92 false) fun c_2 =>
  ob (sel c_2 (some x13) (some (.tuple []))) fun x96 =>
  ob (pWant x92 false) fun c_3 =>
  ob (sel c_3 (xbin PP .andNot 3 true x96 (.int .i64 1)) (some (.tuple []))) fun x97 =>
  ob (pWant x92 false) fun c_4 =>
  ob (sel c_4 (xindexAddr PP 305 x95 x97) (some (.tuple []))) fun x98 =>
  ob (pWant x92 false) fun c_5 =>
  ob (sel c_5 (pLoad PP 157 x98 h) (some (.tuple []))) fun x99 =>
  ob (pWant x92 false) fun c_6 =>
  ob (sel c_6 (xbin PP .lss 157 false x94 x99) (some (.tuple []))) fun x100 =>
  ob (pPick x92 (some (.bool true)) (some x100)) fun x101 =>
  ob (pWant x101 false) fun c_7 =>
  ob (sel c_7 (some x11) (some (.tuple []))) fun x103 =>
  ob (pWant x101 false) fun c_8 =>
  ob (sel c_8 (some x13) (some (.tuple []))) fun x104 =>
  ob (pWant x101 false) fun c_9 =>
  ob (sel c_9 (xbin PP .or 3 true x104 (.int .i64 1)) (some (.tuple []))) fun x105 =>
  ob (pWant x101 false) fun c_10 =>
  ob (sel c_10 (xindexAddr PP 305 x103 x105) (some (.tuple []))) fun x106 =>
  ob (pWant x101 false) fun c_11 =>
  ob (sel c_11 (pLoad PP 157 x106 h) (some (.tuple []))) fun x107 =>
  ob (pWant x101 false) fun c_12 =>
  ob (sel c_12 (some x10) (some (.tuple []))) fun x108 =>
  ob (pWant x101 false) fun c_13 =>
  ob (sel c_13 (xbin PP .lss 157 false x107 x108) (some (.tuple []))) fun x109 =>
  ob (pPick x101 (some (.bool true)) (some x109)) fun x110 =>
  pIf x110
   (kr (.bool false) h)
   (ob (xbin PP .geq 21 true x0 (.int .i32 131072)) fun x112 =>
   pIf x112
    (kr (.bool true) h)
    (ob (xbin PP .sub 21 true x0 (.int .i32 65536)) fun x114 =>
    ob (pInt PP 21 190 x114) fun x118 =>
    obP (E (.fn 230) [x12, x118] h) fun x119 h119 =>
    ob (pExtract 0 x119) fun x120 =>
    ob (pExtract 1 x119) fun x121 =>
    ob (xun .not x121) fun x123 =>
    kr x123 h119))
theorem f227_2_eq (E : Ev) (kn : K) (kx : Nat → K) (kr : K) : f227_2 E (fun y2 h => kr (mkE [(2, y2)]) h) = fun x0 x10 x11 x12 x13 h => R227 E (pb (pb (pb (pb (pb (codeOf fn227)))))) true 4 (fun _ => 0) kn kx kr (mkE [(0, x0), (10, x10), (11, x11), (12, x12), (13, x13)]) h := by
  funext x0 x10 x11 x12 x13 h
  unfold f227_2
  refine Eq.trans ?_ (R227_unf E _ _ _ _ _ _ _ _).symm
  generalize R227 E = R
  generalize LL = L
  generalize PP = P
  revert R L P
  refine id ?_
  intro R L P
  kernel_rfl
def f227_1 (E : Ev) (kr : AV → Heap → Res) (x0 : AV) (h : Heap) : Res :=
  ob (pInt PP 21 157 x0) fun x80 =>
  ob (pLoad PP 305 (.ptr 14 0) h) fun x81 =>
  ob (pLoad PP 303 (.ptr 15 0) h) fun x82 =>
  sel (chkV x80 (pInt PP 21 157 x0)) (
  sel (chkV x81 (pLoad PP 305 (.ptr 14 0) h)) (
  sel (chkV x82 (pLoad PP 303 (.ptr 15 0) h)) (
  obP (E (.fn 231) [x81, x80] h) fun x86 h86 =>
  ob (pExtract 0 x86) fun x87 =>
  ob (pExtract 1 x86) fun x88 =>
  f227_2 E kr x0 x80 x81 x82 x87 h86) none) none) none
theorem f227_1_eq (E : Ev) (kn : K) (kx : Nat → K) (kr : K) : f227_1 E (fun y2 h => kr (mkE [(2, y2)]) h) = fun x0 h => R227 E (pb (pb (pb (codeOf fn227)))) true 4 (fun _ => 0) kn kx kr (mkE [(0, x0)]) h := by
  funext x0 h
  unfold f227_1
  rw [f227_2_eq E kn kx kr]
  refine Eq.trans ?_ (R227_unf E _ _ _ _ _ _ _ _).symm
  generalize R227 E = R
  generalize LL = L
  generalize PP = P
  revert R L P
  refine id ?_
  intro R L P
  kernel_rfl
def f227_3 (E : Ev) (kr : AV → Heap → Res) (x3 x4 x5 x6 : AV) (h : Heap) : Res :=
  ob (xlen PP h 303 x4) fun x51 =>
  ob (xbin PP .geq 3 false x6 x51) fun x52 =>
  ob (pWant x52 false) fun c =>
  ob (sel c (some x3) (some (.tuple []))) fun x54 =>
  ob (pWant x52 false) fun c_1 =>
  ob (sel c_1 (some x4) (some (.tuple []))) fun x55 =>
  ob (pWant x52 false) fun c_2 =>
  ob (sel c_2 (some x6) (some (.tuple []))) fun x56 =>
  ob (pWant x52 false) fun c_3 =>
  ob (sel c_3 (xbin PP .andNot 3 true x56 (.int .i64 1)) (some (.tuple []))) fun x57 =>
  ob (pWant x52 false) fun c_4 =>
  ob (sel c_4 (xindexAddr PP 303 x55 x57) (some (.tuple []))) fun x58 =>
  ob (pWant x52 false) fun c_5 =>
  ob (sel c_5 (pLoad PP 190 x58 h) (some (.tuple []))) fun x59 =>
  ob (pWant x52 false) fun c_6 =>
  ob (sel c_6 (xbin PP .lss 190 false x54 x59) (some (.tuple []))) fun x60 =>
  ob (pPick x52 (some (.bool true)) (some x60)) fun x61 =>
  ob (pWant x61 false) fun c_7 =>
  ob (sel c_7 (some x4) (some (.tuple []))) fun x63 =>
  ob (pWant x61 false) fun c_8 =>
  ob (sel c_8 (some x6) (some (.tuple []))) fun x64 =>
  ob (pWant x61 false) fun c_9 =>
  ob (sel c_9 (xbin PP .or 3 true x64 (.int .i64 1)) (some (.tuple []))) fun x65 =>
  ob (pWant x61 false) fun c_10 =>
  ob (sel c_10 (xindexAddr PP 303 x63 x65) (some (.tuple []))) fun x66 =>
  ob (pWant x61 false) fun c_11 =>
  ob (sel c_11 (pLoad PP 190 x66 h) (some (.tuple []))) fun x67 =>
  ob (pWant x61 false) fun c_12 =>
  ob (sel c_12 (some x3) (some (.tuple []))) fun x68 =>
  ob (pWant x61 false) fun c_13 =>
  ob (sel c_13 (xbin PP .lss 190 false x67 x68) (some (.tuple []))) fun x69 =>
  ob (pPick x61 (some (.bool true)) (some x69)) fun x70 =>
  pIf x70
   (kr (.bool false) h)
   (obP (E (.fn 230) [x5, x3] h) fun x74 h74 =>
   ob (pExtract 0 x74) fun x75 =>
   ob (pExtract 1 x74) fun x76 =>
   ob (xun .not x76) fun x78 =>
   kr x78 h74)
theorem f227_3_eq (E : Ev) (kn : K) (kx : Nat → K) (kr : K) : f227_3 E (fun y2 h => kr (mkE [(2, y2)]) h) = fun x3 x4 x5 x6 h => R227 E (pb (pb (pa (pb (pa (pb (pb (codeOf fn227)))))))) true 1 (fun _ => 0) kn kx kr (mkE [(3, x3), (4, x4), (5, x5), (6, x6)]) h := by
  funext x3 x4 x5 x6 h
  unfold f227_3
  refine Eq.trans ?_ (R227_unf E _ _ _ _ _ _ _ _).symm
  generalize R227 E = R
  generalize LL = L
  generalize PP = P
  revert R L P
  refine id ?_
  intro R L P
  kernel_rfl
/-- strconv.IsPrint -/
def s227 (E : Ev) (x0 : AV) (h : Heap) : Res :=
  ob (xbin PP .leq 21 true x0 (.int .i32 255)) fun x18 =>
  pIf x18
   (ob (xbin PP .leq 21 true (.int .i32 32) x0) fun x20 =>
   ob (pWant x20 true) fun c =>
   ob (sel c (some x0) (some (.tuple []))) fun x22 =>
   ob (pWant x20 true) fun c_1 =>
   ob (sel c_1 (xbin PP .leq 21 true x22 (.int .i32 126)) (some (.tuple []))) fun x23 =>
   ob (pPick x20 (some x23) (some (.bool false))) fun x24 =>
   pIf x24
    (r227 (.bool true) h)
    (ob (xbin PP .leq 21 true (.int .i32 161) x0) fun x26 =>
    ob (pWant x26 true) fun c_2 =>
    ob (sel c_2 (some x0) (some (.tuple []))) fun x28 =>
    ob (pWant x26 true) fun c_3 =>
    ob (sel c_3 (xbin PP .leq 21 true x28 (.int .i32 255)) (some (.tuple []))) fun x29 =>
    ob (pPick x26 (some x29) (some (.bool false))) fun x30 =>
    pIf x30
     (ob (xbin PP .neq 21 true x0 (.int .i32 173)) fun x32 =>
     r227 x32 h)
     (r227 (.bool false) h)))
   (ob (xbin PP .leq 21 true (.int .i32 0) x0) fun x34 =>
   ob (pWant x34 true) fun c =>
   ob (sel c (some x0) (some (.tuple []))) fun x36 =>
   ob (pWant x34 true) fun c_1 =>
   ob (sel c_1 (xbin PP .lss 21 true x36 (.int .i32 65536)) (some (.tuple []))) fun x37 =>
   ob (pPick x34 (some x37) (some (.bool false))) fun x38 =>
   pIf x38
    (ob (pInt PP 21 190 x0) fun x40 =>
    ob (pLoad PP 303 (.ptr 12 0) h) fun x41 =>
    ob (pLoad PP 303 (.ptr 13 0) h) fun x42 =>
    sel (chkV x40 (pInt PP 21 190 x0)) (
    sel (chkV x41 (pLoad PP 303 (.ptr 12 0) h)) (
    sel (chkV x42 (pLoad PP 303 (.ptr 13 0) h)) (
    obP (E (.fn 230) [x41, x40] h) fun x46 h46 =>
    ob (pExtract 0 x46) fun x47 =>
    ob (pExtract 1 x46) fun x48 =>
    f227_3 E r227 x40 x41 x42 x47 h46) none) none) none)
    (f227_1 E r227 x0 h))
theorem s227_eq (E : Ev) (x0 : AV) (h : Heap) : xbodyR PP GG CC E LL fn227 [x0] h = s227 E x0 h := by
  unfold s227
  rw [r227_eq, f227_1_eq E (xret PP fn227) noK (xret PP fn227), f227_3_eq E (R227 E (pb (pb (pb (codeOf fn227)))) true 4 (fun _ => 0) (xret PP fn227) noK (xret PP fn227)) noK (xret PP fn227)]
  refine (bodyR_unf (c := (codeOf fn227)) (by kernel_rfl) (by kernel_rfl)).trans ?_
  show runS (R227 E) PP GG CC E fn227.ntmps LL none (resBits fn227.results.toList) (codeOf fn227) _ _ _ _ _ _ _ = _
  generalize R227 E = R
  generalize LL = L
  generalize PP = P
  symm
  revert R L P
  refine id ?_
  intro R L P
  kernel_rfl
def fn229 : Func := fnAt PP 229
def R229 (E : Ev) : RT := runR PP GG CC E 16 LL none 16
theorem R229_unf (E : Ev) (c : Code) (lv : Nat) (lx : Nat → Nat) (kn : K) (kx : Nat → K) (kr : K) (e : Env) (h : Heap) : R229 E c true lv lx kn kx kr e h = runS (R229 E) PP GG CC E 16 LL none 16 c lv lx kn kx kr e h := runR_unf _ _ _ _ _ _ _ _
def r229 (x4 : AV) (h : Heap) : Res := some (x4, h)
theorem r229_eq : r229 = fun x4 h => xret PP fn229 (mkE [(4, x4)]) h := by kernel_rfl
/-- unicode/utf8.AppendRune -/
def s229 (E : Ev) (x0 x1 : AV) (h : Heap) : Res :=
  ob (pInt PP 21 157 x1) fun x6 =>
  ob (xbin PP .leq 157 true x6 (.int .u32 127)) fun x7 =>
  pIf x7
   (ob (pInt PP 21 5 x1) fun x10 =>
   obP (pBuildSlice PP h 41 1 [(0, x10)]) fun x11 h11 =>
   obP (xappend PP h11 41 41 x0 x11) fun x12 h12 =>
   r229 x12 h12)
   (obP (E (.fn 232) [x0, x1] h) fun x15 h15 =>
   r229 x15 h15)
theorem s229_eq (E : Ev) (x0 x1 : AV) (h : Heap) : xbodyR PP GG CC E LL fn229 [x0, x1] h = s229 E x0 x1 h := by
  unfold s229
  rw [r229_eq]
  refine (bodyR_unf (c := (codeOf fn229)) (by kernel_rfl) (by kernel_rfl)).trans ?_
  show runS (R229 E) PP GG CC E fn229.ntmps LL none (resBits fn229.results.toList) (codeOf fn229) _ _ _ _ _ _ _ = _
  generalize R229 E = R
  generalize LL = L
  generalize PP = P
  symm
  revert R L P
  refine id ?_
  intro R L P
  kernel_rfl
end
end S14
