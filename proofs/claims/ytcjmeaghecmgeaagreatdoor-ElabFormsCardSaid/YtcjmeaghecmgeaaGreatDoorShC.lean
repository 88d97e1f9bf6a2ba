/- Own texts of this proof: Sh14c. -/
import Derived.Test.YtcjmeaghecmgeaaGreatDoorBase
set_option autoImplicit true
set_option relaxedAutoImplicit true
set_option linter.all false
open Go Go.Th Go.Proofs
set_option maxRecDepth 100000
set_option linter.unusedVariables false
namespace S14
noncomputable section
def fn92 : Func := fnAt PP 92
def R92 (E : Ev) : RT := runR PP GG CC E 20 LL none 4
theorem R92_unf (E : Ev) (c : Code) (lv : Nat) (lx : Nat → Nat) (kn : K) (kx : Nat → K) (kr : K) (e : Env) (h : Heap) : R92 E c true lv lx kn kx kr e h = runS (R92 E) PP GG CC E 20 LL none 4 c lv lx kn kx kr e h := runR_unf _ _ _ _ _ _ _ _
def r92 (x2 : AV) (h : Heap) : Res := ob (ob (pLoad PP 143 x2 h) fun v => some [v]) fun vs => some (one vs, h)
theorem r92_eq : r92 = fun x2 h => xret PP fn92 (mkE [(2, x2)]) h := by kernel_rfl
/-- theodolite/term.own -/
def s92 (E : Ev) (x0 : AV) (h : Heap) : Res :=
  obP (some (pNew h 143 x0.cells)) fun x1 h1 =>
  obP (ob (zeroC PP 143) fun z => some (pNew h1 143 z)) fun x2 h2 =>
  ob (pFieldAddr PP 143 3 x1) fun x3 =>
  ob (pLoad PP 22 x3 h2) fun x4 =>
  obP (E (.fn 52) [x4] h2) fun x5 h5 =>
  ob (pFieldAddr PP 143 3 x1) fun x6 =>
  ob (pStore PP 22 x6 x5 h5) fun h0 =>
  ob (pFieldAddr PP 143 2 x1) fun x7 =>
  ob (pFieldAddr PP 141 1 x7) fun x8 =>
  ob (pLoad PP 139 x8 h0) fun x9 =>
  ob (pFieldAddr PP 143 2 x1) fun x11 =>
  ob (pFieldAddr PP 141 2 x11) fun x12 =>
  ob (pLoad PP 139 x12 h0) fun x13 =>
  sel (chkV x9 (pLoad PP 139 x8 h0)) (
  sel (chkV x13 (pLoad PP 139 x12 h0)) (
  obP (E (.fn 122) [x9] h0) fun x10 h10 =>
  ob (pFieldAddr PP 143 2 x1) fun x15 =>
  ob (pFieldAddr PP 141 1 x15) fun x16 =>
  sel (chkV x13 (pLoad PP 139 x12 h10)) (
  obP (E (.fn 122) [x13] h10) fun x14 h14 =>
  ob (pStore PP 139 x16 x10 h14) fun h0_1 =>
  ob (pFieldAddr PP 143 2 x1) fun x17 =>
  ob (pFieldAddr PP 141 2 x17) fun x18 =>
  ob (pStore PP 139 x18 x14 h0_1) fun h0_2 =>
  ob (pLoad PP 143 x1 h0_2) fun x19 =>
  ob (pStore PP 143 x2 x19 h0_2) fun h0_3 =>
  r92 x2 h0_3) none) none) none
theorem s92_eq (E : Ev) (x0 : AV) (h : Heap) : xbodyR PP GG CC E LL fn92 [x0] h = s92 E x0 h := by
  unfold s92
  rw [r92_eq]
  refine (bodyR_unf (c := (codeOf fn92)) (by kernel_rfl) (by kernel_rfl)).trans ?_
  show runS (R92 E) PP GG CC E fn92.ntmps LL none (resBits fn92.results.toList) (codeOf fn92) _ _ _ _ _ _ _ = _
  generalize R92 E = R
  generalize LL = L
  generalize PP = P
  symm
  revert R L P
  refine id ?_
  intro R L P
  kernel_rfl
def fn93 : Func := fnAt PP 93
def R93 (E : Ev) : RT := runR PP GG CC E 58 LL none 16
theorem R93_unf (E : Ev) (c : Code) (lv : Nat) (lx : Nat → Nat) (kn : K) (kx : Nat → K) (kr : K) (e : Env) (h : Heap) : R93 E c true lv lx kn kx kr e h = runS (R93 E) PP GG CC E 58 LL none 16 c lv lx kn kx kr e h := runR_unf _ _ _ _ _ _ _ _
def r93 (x4 : AV) (h : Heap) : Res := ob (ob (pLoad PP 165 x4 h) fun v => some [v]) fun vs => some (one vs, h)
theorem r93_eq : r93 = fun x4 h => xret PP fn93 (mkE [(4, x4)]) h := by kernel_rfl
def f93_1 (E : Ev) (kr : AV → Heap → Res) (x4 : AV) (h : Heap) : Res :=
  ob (pLoad PP 165 x4 h) fun x57 =>
  ob (pStore PP 165 x4 x57 h) fun h0 =>
  kr x4 h0
theorem f93_1_eq (E : Ev) (kn : K) (kx : Nat → K) (kr : K) : f93_1 E (fun y4 h => kr (mkE [(4, y4)]) h) = fun x4 h => R93 E (pb (pb (codeOf fn93))) true 16 (fun _ => 0) kn kx kr (mkE [(4, x4)]) h := by
  funext x4 h
  unfold f93_1
  refine Eq.trans ?_ (R93_unf E _ _ _ _ _ _ _ _).symm
  generalize R93 E = R
  generalize LL = L
  generalize PP = P
  revert R L P
  refine id ?_
  intro R L P
  kernel_rfl
def f93_4 (E : Ev) (kn : AV → AV → AV → AV → AV → Heap → Res) (k1 : AV → Heap → Res) (kr : AV → Heap → Res) (x0 x4 x40 x41 x42 : AV) (h : Heap) : Res :=
  ob (xbin PP .lss 3 false x42 x41) fun x43 =>
  pIf x43
   (ob (xindexAddr PP 22 x40 x42) fun x44 =>
   ob (pLoad PP 3 x44 h) fun x45 =>
   ob (pNil x0) fun x47 =>
   ob (pFieldAddr PP 100 2 x47) fun x48 =>
   ob (pLoad PP 98 x48 h) fun x49 =>
   ob (xindexAddr PP 98 x49 x45) fun x51 =>
   ob (xindexAddr PP 165 x51 (.int .i64 0)) fun x52 =>
   ob (pLoad PP 4 x52 h) fun x53 =>
   ob (xun .not x53) fun x54 =>
   pIf x54
    (ob (xbuild PP 165 []) fun x55 =>
    ob (pStore PP 165 x4 x55 h) fun h0 =>
    kr x4 h0)
    (ob (xbin PP .add 3 true x42 (.int .i64 1)) fun x56 =>
    kn x0 x4 x40 x41 x56 h))
   (k1 x4 h)
theorem f93_4_eq (E : Ev) (kn : K) (kx : Nat → K) (kr : K) (e1 : K) (he1 : kx 1 = e1) : f93_4 E (fun y0 y4 y40 y41 y42 h => kn (mkE [(0, y0), (4, y4), (40, y40), (41, y41), (42, y42)]) h) (fun y4 h => e1 (mkE [(4, y4)]) h) (fun y4 h => kr (mkE [(4, y4)]) h) = fun x0 x4 x40 x41 x42 h => R93 E (pa (pa (pb (pb (pa (pb (pb (pb (pa (pb (pa (pb (codeOf fn93))))))))))))) true 7696581394449 (fun i => sel (Nat.beq i 1) 16 ((fun i => sel (Nat.beq i 0) 16 ((fun _ => 0) i)) i)) kn kx kr (mkE [(0, x0), (4, x4), (40, x40), (41, x41), (42, x42)]) h := by
  subst he1
  funext x0 x4 x40 x41 x42 h
  unfold f93_4
  refine Eq.trans ?_ (R93_unf E _ _ _ _ _ _ _ _).symm
  generalize R93 E = R
  generalize LL = L
  generalize PP = P
  revert R L P
  refine id ?_
  intro R L P
  kernel_rfl
def f93_3 (E : Ev) (kn : AV → Heap → Res) (kr : AV → Heap → Res) (x0 x3 x4 : AV) (h : Heap) : Res :=
  ob (pFieldAddr PP 143 3 x3) fun x39 =>
  ob (pLoad PP 22 x39 h) fun x40 =>
  ob (xlen PP h 22 x40) fun x41 =>
  lp b5 (fun k => f93_4 E k kn kr) LL x0 x4 x40 x41 (.int .i64 0) h
theorem f93_3_eq (E : Ev) (kn : K) (kx : Nat → K) (kr : K) : f93_3 E (fun y4 h => kn (mkE [(4, y4)]) h) (fun y4 h => kr (mkE [(4, y4)]) h) = fun x0 x3 x4 h => R93 E (pb (pa (pb (pb (pb (pa (pb (pa (pb (codeOf fn93)))))))))) true 16 (fun i => sel (Nat.beq i 0) 16 ((fun _ => 0) i)) kn kx kr (mkE [(0, x0), (3, x3), (4, x4)]) h := by
  funext x0 x3 x4 h
  unfold f93_3
  rw [lp5_eq 0 4 40 41 42 (fun k => (R93 E (pa (pa (pb (pb (pa (pb (pb (pb (pa (pb (pa (pb (codeOf fn93))))))))))))) true 7696581394449 (fun i => sel (Nat.beq i 1) 16 ((fun i => sel (Nat.beq i 0) 16 ((fun _ => 0) i)) i)) k (fun i => sel (Nat.beq i 1) kn (kx i)) kr)) (fun k => f93_4 E k (fun y4 h => kn (mkE [(4, y4)]) h) (fun y4 h => kr (mkE [(4, y4)]) h)) (fun k => f93_4_eq E k (fun i => sel (Nat.beq i 1) kn (kx i)) kr kn rfl) LL]
  refine Eq.trans ?_ (R93_unf E _ _ _ _ _ _ _ _).symm
  generalize R93 E = R
  generalize LL = L
  generalize PP = P
  revert R L P
  refine id ?_
  intro R L P
  kernel_rfl
def f93_2 (E : Ev) (kn : AV → Heap → Res) (kr : AV → Heap → Res) (x0 x3 x4 x17 : AV) (h : Heap) : Res :=
  pIf x17
   (ob (pFieldAddr PP 143 0 x3) fun x20 =>
   ob (pLoad PP 3 x20 h) fun x21 =>
   ob (xbin PP .eql 3 true x21 (.int .i64 16)) fun x22 =>
   ob (pWant x22 false) fun c =>
   ob (sel c (pFieldAddr PP 143 3 x3) (some (.tuple []))) fun x24 =>
   ob (pWant x22 false) fun c_1 =>
   ob (sel c_1 (pLoad PP 22 x24 h) (some (.tuple []))) fun x25 =>
   ob (pWant x22 false) fun c_2 =>
   ob (sel c_2 (xlen PP h 22 x25) (some (.tuple []))) fun x26 =>
   ob (pWant x22 false) fun c_3 =>
   ob (sel c_3 (xbin PP .eql 3 true x26 (.int .i64 1)) (some (.tuple []))) fun x27 =>
   ob (pPick x22 (some (.bool true)) (some x27)) fun x28 =>
   pIf x28
    (ob (pNil x0) fun x30 =>
    ob (pFieldAddr PP 100 2 x30) fun x31 =>
    ob (pLoad PP 98 x31 h) fun x32 =>
    ob (pFieldAddr PP 143 3 x3) fun x33 =>
    ob (pLoad PP 22 x33 h) fun x34 =>
    ob (xindexAddr PP 22 x34 (.int .i64 0)) fun x35 =>
    ob (pLoad PP 3 x35 h) fun x36 =>
    ob (xindexAddr PP 98 x32 x36) fun x37 =>
    ob (pLoad PP 165 x37 h) fun x38 =>
    sel (chkV x32 (pLoad PP 98 x31 h)) (
    sel (chkV x34 (pLoad PP 22 x33 h)) (
    sel (chkV x36 (pLoad PP 3 x35 h)) (
    sel (chkV x38 (pLoad PP 165 x37 h)) (
    ob (pStore PP 165 x4 x38 h) fun h0 =>
    f93_3 E kn kr x0 x3 x4 h0) none) none) none) none)
    (f93_3 E kn kr x0 x3 x4 h))
   (kn x4 h)
theorem f93_2_eq (E : Ev) (kn : K) (kx : Nat → K) (kr : K) : f93_2 E (fun y4 h => kn (mkE [(4, y4)]) h) (fun y4 h => kr (mkE [(4, y4)]) h) = fun x0 x3 x4 x17 h => R93 E (pb (pb (pb (pa (pb (pa (pb (codeOf fn93)))))))) true 16 (fun i => sel (Nat.beq i 0) 16 ((fun _ => 0) i)) kn kx kr (mkE [(0, x0), (3, x3), (4, x4), (17, x17)]) h := by
  funext x0 x3 x4 x17 h
  unfold f93_2
  rw [f93_3_eq E kn kx kr]
  refine Eq.trans ?_ (R93_unf E _ _ _ _ _ _ _ _).symm
  generalize R93 E = R
  generalize LL = L
  generalize PP = P
  revert R L P
  refine id ?_
  intro R L P
  kernel_rfl
/-- (*theodolite/term.Table).number -/
def s93 (E : Ev) (x0 x1 : AV) (h : Heap) : Res :=
  obP (some (pNew h 143 x1.cells)) fun x3 h3 =>
  obP (ob (zeroC PP 165) fun z => some (pNew h3 165 z)) fun x4 h4 =>
  ob (pFieldAddr PP 143 0 x3) fun x7 =>
  ob (pLoad PP 3 x7 h4) fun x8 =>
  ob (xbin PP .eql 3 true x8 (.int .i64 11)) fun x10 =>
  pIf x10
   (ob (pFieldAddr PP 143 2 x3) fun x11 =>
   ob (pFieldAddr PP 141 1 x11) fun x12 =>
   ob (pLoad PP 139 x12 h4) fun x13 =>
   ob (xlen PP h4 139 x13) fun x14 =>
   ob (xbin PP .eql 3 true x14 (.int .i64 0)) fun x15 =>
   ob (xbuild PP 165 [(0, (.bool true)), (1, x15)]) fun x16 =>
   ob (pStore PP 165 x4 x16 h4) fun h0 =>
   r93 x4 h0)
   (ob (xbin PP .eql 3 true x8 (.int .i64 14)) fun x18 =>
   pIf x18
    (f93_2 E (f93_1 E r93) r93 x0 x3 x4 x18 h4)
    (ob (xbin PP .eql 3 true x8 (.int .i64 16)) fun x19 =>
    f93_2 E (f93_1 E r93) r93 x0 x3 x4 x19 h4))
theorem s93_eq (E : Ev) (x0 x1 : AV) (h : Heap) : xbodyR PP GG CC E LL fn93 [x0, x1] h = s93 E x0 x1 h := by
  unfold s93
  rw [r93_eq, f93_1_eq E (xret PP fn93) noK (xret PP fn93), f93_2_eq E (R93 E (pb (pb (codeOf fn93))) true 16 (fun _ => 0) (xret PP fn93) noK (xret PP fn93)) (fun i => sel (Nat.beq i 0) (R93 E (pb (pb (codeOf fn93))) true 16 (fun _ => 0) (xret PP fn93) noK (xret PP fn93)) (noK i)) (xret PP fn93)]
  refine (bodyR_unf (c := (codeOf fn93)) (by kernel_rfl) (by kernel_rfl)).trans ?_
  show runS (R93 E) PP GG CC E fn93.ntmps LL none (resBits fn93.results.toList) (codeOf fn93) _ _ _ _ _ _ _ = _
  generalize R93 E = R
  generalize LL = L
  generalize PP = P
  symm
  revert R L P
  refine id ?_
  intro R L P
  kernel_rfl
def fn94 : Func := fnAt PP 94
def R94 (E : Ev) : RT := runR PP GG CC E 5 LL none 4
theorem R94_unf (E : Ev) (c : Code) (lv : Nat) (lx : Nat → Nat) (kn : K) (kx : Nat → K) (kr : K) (e : Env) (h : Heap) : R94 E c true lv lx kn kx kr e h = runS (R94 E) PP GG CC E 5 LL none 4 c lv lx kn kx kr e h := runR_unf _ _ _ _ _ _ _ _
def r94 (x2 : AV) (h : Heap) : Res := some (x2, h)
theorem r94_eq : r94 = fun x2 h => xret PP fn94 (mkE [(2, x2)]) h := by kernel_rfl
/-- internal/strconv.Itoa -/
def s94 (E : Ev) (x0 : AV) (h : Heap) : Res :=
  obP (E (.fn 123) [x0, (.int .i64 10)] h) fun x4 h4 =>
  r94 x4 h4
theorem s94_eq (E : Ev) (x0 : AV) (h : Heap) : xbodyR PP GG CC E LL fn94 [x0] h = s94 E x0 h := by
  unfold s94
  rw [r94_eq]
  refine (bodyR_unf (c := (codeOf fn94)) (by kernel_rfl) (by kernel_rfl)).trans ?_
  show runS (R94 E) PP GG CC E fn94.ntmps LL none (resBits fn94.results.toList) (codeOf fn94) _ _ _ _ _ _ _ = _
  generalize R94 E = R
  generalize LL = L
  generalize PP = P
  symm
  revert R L P
  refine id ?_
  intro R L P
  kernel_rfl
def fn95 : Func := fnAt PP 95
def R95 (E : Ev) : RT := runR PP GG CC E 10 LL none 4
theorem R95_unf (E : Ev) (c : Code) (lv : Nat) (lx : Nat → Nat) (kn : K) (kx : Nat → K) (kr : K) (e : Env) (h : Heap) : R95 E c true lv lx kn kx kr e h = runS (R95 E) PP GG CC E 10 LL none 4 c lv lx kn kx kr e h := runR_unf _ _ _ _ _ _ _ _
def r95 (x2 : AV) (h : Heap) : Res := some (x2, h)
theorem r95_eq : r95 = fun x2 h => xret PP fn95 (mkE [(2, x2)]) h := by kernel_rfl
/-- (*theodolite/term.Table).Len -/
def s95 (E : Ev) (x0 : AV) (h : Heap) : Res :=
  ob (xbin PP .eql 36 true x0 .nilPtr) fun x4 =>
  pIf x4
   (r95 (.int .i64 0) h)
   (ob (pNil x0) fun x6 =>
   ob (pFieldAddr PP 100 1 x6) fun x7 =>
   ob (pLoad PP 61 x7 h) fun x8 =>
   ob (xlen PP h 61 x8) fun x9 =>
   r95 x9 h)
theorem s95_eq (E : Ev) (x0 : AV) (h : Heap) : xbodyR PP GG CC E LL fn95 [x0] h = s95 E x0 h := by
  unfold s95
  rw [r95_eq]
  refine (bodyR_unf (c := (codeOf fn95)) (by kernel_rfl) (by kernel_rfl)).trans ?_
  show runS (R95 E) PP GG CC E fn95.ntmps LL none (resBits fn95.results.toList) (codeOf fn95) _ _ _ _ _ _ _ = _
  generalize R95 E = R
  generalize LL = L
  generalize PP = P
  symm
  revert R L P
  refine id ?_
  intro R L P
  kernel_rfl
def fn96 : Func := fnAt PP 96
def R96 (E : Ev) : RT := runR PP GG CC E 87 LL none 28
theorem R96_unf (E : Ev) (c : Code) (lv : Nat) (lx : Nat → Nat) (kn : K) (kx : Nat → K) (kr : K) (e : Env) (h : Heap) : R96 E c true lv lx kn kx kr e h = runS (R96 E) PP GG CC E 87 LL none 28 c lv lx kn kx kr e h := runR_unf _ _ _ _ _ _ _ _
def r96 (x2 x3 x4 : AV) (h : Heap) : Res := some (.tuple [x2, x3, x4], h)
theorem r96_eq : r96 = fun x2 x3 x4 h => xret PP fn96 (mkE [(2, x2), (3, x3), (4, x4)]) h := by kernel_rfl
def f96_2 (E : Ev) (kr : AV → AV → AV → Heap → Res) (x2 x3 : AV) (h : Heap) : Res :=
  kr x2 x3 (.bool true) h
theorem f96_2_eq (E : Ev) (kn : K) (kx : Nat → K) (kr : K) : f96_2 E (fun y2 y3 y4 h => kr (mkE [(2, y2), (3, y3), (4, y4)]) h) = fun x2 x3 h => R96 E (pb (pb (pb (codeOf fn96)))) true 28 (fun _ => 0) kn kx kr (mkE [(2, x2), (3, x3)]) h := by
  funext x2 x3 h
  unfold f96_2
  refine Eq.trans ?_ (R96_unf E _ _ _ _ _ _ _ _).symm
  generalize R96 E = R
  generalize LL = L
  generalize PP = P
  revert R L P
  refine id ?_
  intro R L P
  kernel_rfl
def f96_4 (E : Ev) (kn : AV → AV → AV → AV → AV → Heap → Res) (x2 x3 x29 x30 x31 : AV) (h : Heap) : Res :=
  ob (xbin PP .add 3 true x31 (.int .i64 1)) fun x84 =>
  kn x2 x3 x29 x30 x84 h
theorem f96_4_eq (E : Ev) (kn : K) (kx : Nat → K) (kr : K) : f96_4 E (fun y2 y3 y29 y30 y31 h => kn (mkE [(2, y2), (3, y3), (29, y29), (30, y30), (31, y31)]) h) = fun x2 x3 x29 x30 x31 h => R96 E (pb (pb (pb (pa (pa (pb (pa (pb (pb (codeOf fn96)))))))))) true 3758096396 (fun i => sel (Nat.beq i 0) 12 ((fun _ => 0) i)) kn kx kr (mkE [(2, x2), (3, x3), (29, x29), (30, x30), (31, x31)]) h := by
  funext x2 x3 x29 x30 x31 h
  unfold f96_4
  refine Eq.trans ?_ (R96_unf E _ _ _ _ _ _ _ _).symm
  generalize R96 E = R
  generalize LL = L
  generalize PP = P
  revert R L P
  refine id ?_
  intro R L P
  kernel_rfl
def f96_6 (E : Ev) (kn : AV → AV → AV → AV → AV → Heap → Res) (kr : AV → AV → AV → Heap → Res) (x2 x3 x6 x7 x29 x30 x31 : AV) (h : Heap) : Res :=
  obP (E (.fn 45) [x7] h) fun x67 h67 =>
  ob (pWant x67 false) fun c =>
  ob (sel c (some x2) (some (.tuple []))) fun x69 =>
  ob (pWant x67 false) fun c_1 =>
  ob (sel c_1 (some x7) (some (.tuple []))) fun x70 =>
  ob (pWant x67 false) fun c_2 =>
  obP (sel c_2 (E (.fn 28) [x69, x70] h67) (some (.tuple [], h67))) fun x71 h71 =>
  ob (pPick x67 (some (.bool true)) (some x71)) fun x72 =>
  pIf x72
   (kr .nilSlice .nilSlice (.bool false) h71)
   (obP (pBuildSlice PP h71 27 1 [(0, x7)]) fun x75 h75 =>
   ob (pFieldAddr PP 73 2 x6) fun x78 =>
   ob (pLoad PP 67 x78 h75) fun x79 =>
   ob (xindexAddr PP 67 x79 (.int .i64 1)) fun x80 =>
   ob (pLoad PP 73 x80 h75) fun x81 =>
   obP (pBuildSlice PP h75 67 1 [(0, x81)]) fun x82 h82 =>
   sel (chkV x79 (pLoad PP 67 x78 h82)) (
   sel (chkV x81 (pLoad PP 73 x80 h82)) (
   obP (xappend PP h82 27 27 x2 x75) fun x76 h76 =>
   sel (chkV x79 (pLoad PP 67 x78 h76)) (
   sel (chkV x81 (pLoad PP 73 x80 h76)) (
   obP (xappend PP h76 67 67 x3 x82) fun x83 h83 =>
   kn x76 x83 x29 x30 x31 h83) none) none) none) none)
theorem f96_6_eq (E : Ev) (kn : K) (kx : Nat → K) (kr : K) : f96_6 E (fun y2 y3 y29 y30 y31 h => kn (mkE [(2, y2), (3, y3), (29, y29), (30, y30), (31, y31)]) h) (fun y2 y3 y4 h => kr (mkE [(2, y2), (3, y3), (4, y4)]) h) = fun x2 x3 x6 x7 x29 x30 x31 h => R96 E (pb (pb (pb (pa (pa (pb (pb (pa (pa (pb (pa (pb (pb (codeOf fn96)))))))))))))) true 3758096396 (fun i => sel (Nat.beq i 1) 3758096396 ((fun i => sel (Nat.beq i 0) 12 ((fun _ => 0) i)) i)) kn kx kr (mkE [(2, x2), (3, x3), (6, x6), (7, x7), (29, x29), (30, x30), (31, x31)]) h := by
  funext x2 x3 x6 x7 x29 x30 x31 h
  unfold f96_6
  refine Eq.trans ?_ (R96_unf E _ _ _ _ _ _ _ _).symm
  generalize R96 E = R
  generalize LL = L
  generalize PP = P
  revert R L P
  refine id ?_
  intro R L P
  kernel_rfl
def f96_5 (E : Ev) (kn : AV → AV → AV → AV → AV → Heap → Res) (kr : AV → AV → AV → Heap → Res) (x2 x3 x6 x29 x30 x31 : AV) (h : Heap) : Res :=
  ob (pFieldAddr PP 73 0 x6) fun x35 =>
  ob (pLoad PP 4 x35 h) fun x36 =>
  ob (xun .not x36) fun x37 =>
  ob (pWant x37 false) fun c =>
  ob (sel c (pFieldAddr PP 73 2 x6) (some (.tuple []))) fun x39 =>
  ob (pWant x37 false) fun c_1 =>
  ob (sel c_1 (pLoad PP 67 x39 h) (some (.tuple []))) fun x40 =>
  ob (pWant x37 false) fun c_2 =>
  ob (sel c_2 (xlen PP h 67 x40) (some (.tuple []))) fun x41 =>
  ob (pWant x37 false) fun c_3 =>
  ob (sel c_3 (xbin PP .neq 3 true x41 (.int .i64 2)) (some (.tuple []))) fun x42 =>
  ob (pPick x37 (some (.bool true)) (some x42)) fun x43 =>
  ob (pWant x43 false) fun c_4 =>
  ob (sel c_4 (pFieldAddr PP 73 2 x6) (some (.tuple []))) fun x45 =>
  ob (pWant x43 false) fun c_5 =>
  ob (sel c_5 (pLoad PP 67 x45 h) (some (.tuple []))) fun x46 =>
  ob (pWant x43 false) fun c_6 =>
  ob (sel c_6 (xindexAddr PP 67 x46 (.int .i64 0)) (some (.tuple []))) fun x47 =>
  ob (pWant x43 false) fun c_7 =>
  ob (sel c_7 (pFieldAddr PP 73 0 x47) (some (.tuple []))) fun x48 =>
  ob (pWant x43 false) fun c_8 =>
  ob (sel c_8 (pLoad PP 4 x48 h) (some (.tuple []))) fun x49 =>
  ob (pPick x43 (some (.bool true)) (some x49)) fun x50 =>
  ob (pWant x50 false) fun c_9 =>
  ob (sel c_9 (pFieldAddr PP 73 2 x6) (some (.tuple []))) fun x52 =>
  ob (pWant x50 false) fun c_10 =>
  ob (sel c_10 (pLoad PP 67 x52 h) (some (.tuple []))) fun x53 =>
  ob (pWant x50 false) fun c_11 =>
  ob (sel c_11 (xindexAddr PP 67 x53 (.int .i64 0)) (some (.tuple []))) fun x54 =>
  ob (pWant x50 false) fun c_12 =>
  ob (sel c_12 (pFieldAddr PP 73 1 x54) (some (.tuple []))) fun x55 =>
  ob (pWant x50 false) fun c_13 =>
  ob (sel c_13 (pFieldAddr PP 71 0 x55) (some (.tuple []))) fun x56 =>
  ob (pWant x50 false) fun c_14 =>
  ob (sel c_14 (pLoad PP 3 x56 h) (some (.tuple []))) fun x57 =>
  ob (pWant x50 false) fun c_15 =>
  ob (sel c_15 (xbin PP .neq 3 true x57 (.int .i64 3)) (some (.tuple []))) fun x58 =>
  ob (pPick x50 (some (.bool true)) (some x58)) fun x59 =>
  pIf x59
   (kr .nilSlice .nilSlice (.bool false) h)
   (ob (pFieldAddr PP 73 2 x6) fun x60 =>
   ob (pLoad PP 67 x60 h) fun x61 =>
   ob (xindexAddr PP 67 x61 (.int .i64 0)) fun x62 =>
   ob (pFieldAddr PP 73 1 x62) fun x63 =>
   ob (pFieldAddr PP 71 1 x63) fun x64 =>
   ob (pLoad PP 9 x64 h) fun x65 =>
   f96_6 E kn kr x2 x3 x6 x65 x29 x30 x31 h)
theorem f96_5_eq (E : Ev) (kn : K) (kx : Nat → K) (kr : K) : f96_5 E (fun y2 y3 y29 y30 y31 h => kn (mkE [(2, y2), (3, y3), (29, y29), (30, y30), (31, y31)]) h) (fun y2 y3 y4 h => kr (mkE [(2, y2), (3, y3), (4, y4)]) h) = fun x2 x3 x6 x29 x30 x31 h => R96 E (pb (pa (pa (pb (pb (pa (pa (pb (pa (pb (pb (codeOf fn96)))))))))))) true 3758096396 (fun i => sel (Nat.beq i 1) 3758096396 ((fun i => sel (Nat.beq i 0) 12 ((fun _ => 0) i)) i)) kn kx kr (mkE [(2, x2), (3, x3), (6, x6), (29, x29), (30, x30), (31, x31)]) h := by
  funext x2 x3 x6 x29 x30 x31 h
  unfold f96_5
  rw [f96_6_eq E kn kx kr]
  refine Eq.trans ?_ (R96_unf E _ _ _ _ _ _ _ _).symm
  generalize R96 E = R
  generalize LL = L
  generalize PP = P
  revert R L P
  refine id ?_
  intro R L P
  kernel_rfl
def f96_3 (E : Ev) (kn : AV → AV → AV → AV → AV → Heap → Res) (k0 : AV → AV → Heap → Res) (kr : AV → AV → AV → Heap → Res) (x2 x3 x29 x30 x31 : AV) (h : Heap) : Res :=
  ob (xbin PP .lss 3 false x31 x30) fun x32 =>
  pIf x32
   (ob (xindexAddr PP 67 x29 x31) fun x33 =>
   ob (pLoad PP 73 x33 h) fun x34 =>
   obP (ob (zeroC PP 73) fun z => some (pNew h 73 z)) fun x6 h6 =>
   ob (pStore PP 73 x6 x34 h6) fun h0 =>
   f96_5 E (f96_4 E kn) kr x2 x3 x6 x29 x30 x31 h0)
   (k0 x2 x3 h)
theorem f96_3_eq (E : Ev) (kn : K) (kx : Nat → K) (kr : K) (e0 : K) (he0 : kx 0 = e0) : f96_3 E (fun y2 y3 y29 y30 y31 h => kn (mkE [(2, y2), (3, y3), (29, y29), (30, y30), (31, y31)]) h) (fun y2 y3 h => e0 (mkE [(2, y2), (3, y3)]) h) (fun y2 y3 y4 h => kr (mkE [(2, y2), (3, y3), (4, y4)]) h) = fun x2 x3 x29 x30 x31 h => R96 E (pa (pa (pb (pa (pb (pb (codeOf fn96))))))) true 3758096396 (fun i => sel (Nat.beq i 0) 12 ((fun _ => 0) i)) kn kx kr (mkE [(2, x2), (3, x3), (29, x29), (30, x30), (31, x31)]) h := by
  subst he0
  funext x2 x3 x29 x30 x31 h
  unfold f96_3
  rw [f96_4_eq E kn kx kr, f96_5_eq E (R96 E (pb (pb (pb (pa (pa (pb (pa (pb (pb (codeOf fn96)))))))))) true 3758096396 (fun i => sel (Nat.beq i 0) 12 ((fun _ => 0) i)) kn kx kr) (fun i => sel (Nat.beq i 1) (R96 E (pb (pb (pb (pa (pa (pb (pa (pb (pb (codeOf fn96)))))))))) true 3758096396 (fun i => sel (Nat.beq i 0) 12 ((fun _ => 0) i)) kn kx kr) (kx i)) kr]
  refine Eq.trans ?_ (R96_unf E _ _ _ _ _ _ _ _).symm
  generalize R96 E = R
  generalize LL = L
  generalize PP = P
  revert R L P
  refine id ?_
  intro R L P
  kernel_rfl
def f96_1 (E : Ev) (kr : AV → AV → AV → Heap → Res) (x0 x2 x3 : AV) (h : Heap) : Res :=
  ob (xlen PP h 67 x0) fun x9 =>
  ob (xbin PP .neq 3 true x9 (.int .i64 2)) fun x10 =>
  ob (pWant x10 false) fun c =>
  ob (sel c (some x0) (some (.tuple []))) fun x12 =>
  ob (pWant x10 false) fun c_1 =>
  ob (sel c_1 (xindexAddr PP 67 x12 (.int .i64 0)) (some (.tuple []))) fun x13 =>
  ob (pWant x10 false) fun c_2 =>
  ob (sel c_2 (pFieldAddr PP 73 0 x13) (some (.tuple []))) fun x14 =>
  ob (pWant x10 false) fun c_3 =>
  ob (sel c_3 (pLoad PP 4 x14 h) (some (.tuple []))) fun x15 =>
  ob (pWant x10 false) fun c_4 =>
  ob (sel c_4 (xun .not x15) (some (.tuple []))) fun x16 =>
  ob (pPick x10 (some (.bool true)) (some x16)) fun x17 =>
  ob (pWant x17 false) fun c_5 =>
  ob (sel c_5 (some x0) (some (.tuple []))) fun x19 =>
  ob (pWant x17 false) fun c_6 =>
  ob (sel c_6 (xindexAddr PP 67 x19 (.int .i64 0)) (some (.tuple []))) fun x20 =>
  ob (pWant x17 false) fun c_7 =>
  ob (sel c_7 (pFieldAddr PP 73 2 x20) (some (.tuple []))) fun x21 =>
  ob (pWant x17 false) fun c_8 =>
  ob (sel c_8 (pLoad PP 67 x21 h) (some (.tuple []))) fun x22 =>
  ob (pWant x17 false) fun c_9 =>
  ob (sel c_9 (xlen PP h 67 x22) (some (.tuple []))) fun x23 =>
  ob (pWant x17 false) fun c_10 =>
  ob (sel c_10 (xbin PP .eql 3 true x23 (.int .i64 0)) (some (.tuple []))) fun x24 =>
  ob (pPick x17 (some (.bool true)) (some x24)) fun x25 =>
  pIf x25
   (kr .nilSlice .nilSlice (.bool false) h)
   (ob (xindexAddr PP 67 x0 (.int .i64 0)) fun x27 =>
   ob (pFieldAddr PP 73 2 x27) fun x28 =>
   ob (pLoad PP 67 x28 h) fun x29 =>
   ob (xlen PP h 67 x29) fun x30 =>
   lp b5 (fun k => f96_3 E k (f96_2 E kr) kr) LL x2 x3 x29 x30 (.int .i64 0) h)
theorem f96_1_eq (E : Ev) (kn : K) (kx : Nat → K) (kr : K) : f96_1 E (fun y2 y3 y4 h => kr (mkE [(2, y2), (3, y3), (4, y4)]) h) = fun x0 x2 x3 h => R96 E (pb (codeOf fn96)) true 28 (fun _ => 0) kn kx kr (mkE [(0, x0), (2, x2), (3, x3)]) h := by
  funext x0 x2 x3 h
  unfold f96_1
  rw [f96_2_eq E kn kx kr, lp5_eq 2 3 29 30 31 (fun k => (R96 E (pa (pa (pb (pa (pb (pb (codeOf fn96))))))) true 3758096396 (fun i => sel (Nat.beq i 0) 12 ((fun _ => 0) i)) k (fun i => sel (Nat.beq i 0) (R96 E (pb (pb (pb (codeOf fn96)))) true 28 (fun _ => 0) kn kx kr) (kx i)) kr)) (fun k => f96_3 E k (fun y2 y3 h => (R96 E (pb (pb (pb (codeOf fn96)))) true 28 (fun _ => 0) kn kx kr) (mkE [(2, y2), (3, y3)]) h) (fun y2 y3 y4 h => kr (mkE [(2, y2), (3, y3), (4, y4)]) h)) (fun k => f96_3_eq E k (fun i => sel (Nat.beq i 0) (R96 E (pb (pb (pb (codeOf fn96)))) true 28 (fun _ => 0) kn kx kr) (kx i)) kr (R96 E (pb (pb (pb (codeOf fn96)))) true 28 (fun _ => 0) kn kx kr) rfl) LL]
  refine Eq.trans ?_ (R96_unf E _ _ _ _ _ _ _ _).symm
  generalize R96 E = R
  generalize LL = L
  generalize PP = P
  revert R L P
  refine id ?_
  intro R L P
  kernel_rfl
/-- theodolite/elab.bindings -/
def s96 (E : Ev) (x0 : AV) (h : Heap) : Res :=
  f96_1 E r96 x0 .nilSlice .nilSlice h
theorem s96_eq (E : Ev) (x0 : AV) (h : Heap) : xbodyR PP GG CC E LL fn96 [x0] h = s96 E x0 h := by
  unfold s96
  rw [r96_eq, f96_1_eq E (xret PP fn96) noK (xret PP fn96)]
  refine (bodyR_unf (c := (codeOf fn96)) (by kernel_rfl) (by kernel_rfl)).trans ?_
  show runS (R96 E) PP GG CC E fn96.ntmps LL none (resBits fn96.results.toList) (codeOf fn96) _ _ _ _ _ _ _ = _
  generalize R96 E = R
  generalize LL = L
  generalize PP = P
  symm
  revert R L P
  refine id ?_
  intro R L P
  kernel_rfl
def fn97 : Func := fnAt PP 97
def R97 (E : Ev) : RT := runR PP GG CC E 2 LL none 1
theorem R97_unf (E : Ev) (c : Code) (lv : Nat) (lx : Nat → Nat) (kn : K) (kx : Nat → K) (kr : K) (e : Env) (h : Heap) : R97 E c true lv lx kn kx kr e h = runS (R97 E) PP GG CC E 2 LL none 1 c lv lx kn kx kr e h := runR_unf _ _ _ _ _ _ _ _
def r97 (x0 : AV) (h : Heap) : Res := some (x0, h)
theorem r97_eq : r97 = fun x0 h => xret PP fn97 (mkE [(0, x0)]) h := by kernel_rfl
/-- theodolite/elab.ops -/
def s97 (E : Ev) (h : Heap) : Res :=
  obP (pBuildSlice PP h 22 16 [(0, (.int .i64 3)), (1, (.int .i64 4)), (2, (.int .i64 5)), (3, (.int .i64 6)), (4, (.int .i64 7)), (5, (.int .i64 8)), (6, (.int .i64 9)), (7, (.int .i64 10)), (8, (.int .i64 13)), (9, (.int .i64 14)), (10, (.int .i64 15)), (11, (.int .i64 16)), (12, (.int .i64 17)), (13, (.int .i64 18)), (14, (.int .i64 19)), (15, (.int .i64 20))]) fun x1 h1 =>
  r97 x1 h1
theorem s97_eq (E : Ev) (h : Heap) : xbodyR PP GG CC E LL fn97 [] h = s97 E h := by
  unfold s97
  rw [r97_eq]
  refine (bodyR_unf (c := (codeOf fn97)) (by kernel_rfl) (by kernel_rfl)).trans ?_
  show runS (R97 E) PP GG CC E fn97.ntmps LL none (resBits fn97.results.toList) (codeOf fn97) _ _ _ _ _ _ _ = _
  generalize R97 E = R
  generalize LL = L
  generalize PP = P
  symm
  revert R L P
  refine id ?_
  intro R L P
  kernel_rfl
def fn98 : Func := fnAt PP 98
def R98 (E : Ev) : RT := runR PP GG CC E 4 LL none 4
theorem R98_unf (E : Ev) (c : Code) (lv : Nat) (lx : Nat → Nat) (kn : K) (kx : Nat → K) (kr : K) (e : Env) (h : Heap) : R98 E c true lv lx kn kx kr e h = runS (R98 E) PP GG CC E 4 LL none 4 c lv lx kn kx kr e h := runR_unf _ _ _ _ _ _ _ _
def r98 (x2 : AV) (h : Heap) : Res := some (x2, h)
theorem r98_eq : r98 = fun x2 h => xret PP fn98 (mkE [(2, x2)]) h := by kernel_rfl
/-- slices.Backward[[]theodolite/elab.bound,theodolite/elab.bound] -/
def s98 (E : Ev) (x0 : AV) (h : Heap) : Res :=
  obP (some (pNew h 107 x0.cells)) fun x1 h1 =>
  r98 (.func 124 [] [x1]) h1
theorem s98_eq (E : Ev) (x0 : AV) (h : Heap) : xbodyR PP GG CC E LL fn98 [x0] h = s98 E x0 h := by
  unfold s98
  rw [r98_eq]
  refine (bodyR_unf (c := (codeOf fn98)) (by kernel_rfl) (by kernel_rfl)).trans ?_
  show runS (R98 E) PP GG CC E fn98.ntmps LL none (resBits fn98.results.toList) (codeOf fn98) _ _ _ _ _ _ _ = _
  generalize R98 E = R
  generalize LL = L
  generalize PP = P
  symm
  revert R L P
  refine id ?_
  intro R L P
  kernel_rfl
def fn99 : Func := fnAt PP 99
def R99 (E : Ev) : RT := runR PP GG CC E 116 LL none 192
theorem R99_unf (E : Ev) (c : Code) (lv : Nat) (lx : Nat → Nat) (kn : K) (kx : Nat → K) (kr : K) (e : Env) (h : Heap) : R99 E c true lv lx kn kx kr e h = runS (R99 E) PP GG CC E 116 LL none 192 c lv lx kn kx kr e h := runR_unf _ _ _ _ _ _ _ _
def r99 (x6 x7 : AV) (h : Heap) : Res := some (.tuple [x6, x7], h)
theorem r99_eq : r99 = fun x6 x7 h => xret PP fn99 (mkE [(6, x6), (7, x7)]) h := by kernel_rfl
def f99_2 (E : Ev) (kr : AV → AV → Heap → Res) (x6 : AV) (h : Heap) : Res :=
  kr x6 (.int .i64 0) h
theorem f99_2_eq (E : Ev) (kn : K) (kx : Nat → K) (kr : K) : f99_2 E (fun y6 y7 h => kr (mkE [(6, y6), (7, y7)]) h) = fun x6 h => R99 E (pb (pb (pb (pb (codeOf fn99))))) true 192 (fun _ => 0) kn kx kr (mkE [(6, x6)]) h := by
  funext x6 h
  unfold f99_2
  refine Eq.trans ?_ (R99_unf E _ _ _ _ _ _ _ _).symm
  generalize R99 E = R
  generalize LL = L
  generalize PP = P
  revert R L P
  refine id ?_
  intro R L P
  kernel_rfl
def f99_3 (E : Ev) (kn : AV → AV → AV → AV → AV → Heap → Res) (k5 : AV → Heap → Res) (x6 x8 x102 x103 x104 : AV) (h : Heap) : Res :=
  ob (xbin PP .lss 3 false x104 x103) fun x105 =>
  pIf x105
   (ob (xindexAddr PP 22 x102 x104) fun x106 =>
   ob (pLoad PP 3 x106 h) fun x107 =>
   ob (xlookup PP h 174 x8 x107 false) fun x111 =>
   obP (pBuildSlice PP h 22 1 [(0, x111)]) fun x112 h112 =>
   obP (xappend PP h112 22 22 x6 x112) fun x113 h113 =>
   ob (xbin PP .add 3 true x104 (.int .i64 1)) fun x114 =>
   kn x113 x8 x102 x103 x114 h113)
   (k5 x6 h)
theorem f99_3_eq (E : Ev) (kn : K) (kx : Nat → K) (kr : K) (e5 : K) (he5 : kx 5 = e5) : f99_3 E (fun y6 y8 y102 y103 y104 h => kn (mkE [(6, y6), (8, y8), (102, y102), (103, y103), (104, y104)]) h) (fun y6 h => e5 (mkE [(6, y6)]) h) = fun x6 x8 x102 x103 x104 h => R99 E (pa (pa (pb (pa (pb (pb (pb (codeOf fn99)))))))) true 35494216806390423241907689750848 (fun i => sel (Nat.beq i 5) 64 ((fun _ => 0) i)) kn kx kr (mkE [(6, x6), (8, x8), (102, x102), (103, x103), (104, x104)]) h := by
  subst he5
  funext x6 x8 x102 x103 x104 h
  unfold f99_3
  refine Eq.trans ?_ (R99_unf E _ _ _ _ _ _ _ _).symm
  generalize R99 E = R
  generalize LL = L
  generalize PP = P
  revert R L P
  refine id ?_
  intro R L P
  kernel_rfl
def f99_1 (E : Ev) (kr : AV → AV → Heap → Res) (x1 x6 x8 : AV) (h : Heap) : Res :=
  ob (xlen PP h 22 x1) fun x103 =>
  lp b5 (fun k => f99_3 E k (f99_2 E kr)) LL x6 x8 x1 x103 (.int .i64 0) h
theorem f99_1_eq (E : Ev) (kn : K) (kx : Nat → K) (kr : K) : f99_1 E (fun y6 y7 h => kr (mkE [(6, y6), (7, y7)]) h) = fun x1 x6 x8 h => R99 E (pb (pb (pb (codeOf fn99)))) true 192 (fun _ => 0) kn kx kr (mkE [(1, x1), (6, x6), (8, x8)]) h := by
  funext x1 x6 x8 h
  unfold f99_1
  rw [f99_2_eq E kn kx kr, lp5_eq 6 8 102 103 104 (fun k => (R99 E (pa (pa (pb (pa (pb (pb (pb (codeOf fn99)))))))) true 35494216806390423241907689750848 (fun i => sel (Nat.beq i 5) 64 ((fun _ => 0) i)) k (fun i => sel (Nat.beq i 5) (R99 E (pb (pb (pb (pb (codeOf fn99))))) true 192 (fun _ => 0) kn kx kr) (kx i)) kr)) (fun k => f99_3 E k (fun y6 h => (R99 E (pb (pb (pb (pb (codeOf fn99))))) true 192 (fun _ => 0) kn kx kr) (mkE [(6, y6)]) h)) (fun k => f99_3_eq E k (fun i => sel (Nat.beq i 5) (R99 E (pb (pb (pb (pb (codeOf fn99))))) true 192 (fun _ => 0) kn kx kr) (kx i)) kr (R99 E (pb (pb (pb (pb (codeOf fn99))))) true 192 (fun _ => 0) kn kx kr) rfl) LL]
  refine Eq.trans ?_ (R99_unf E _ _ _ _ _ _ _ _).symm
  generalize R99 E = R
  generalize LL = L
  generalize PP = P
  revert R L P
  refine id ?_
  intro R L P
  kernel_rfl
def f99_5 (E : Ev) (kn : AV → AV → AV → AV → AV → AV → AV → AV → Heap → Res) (x0 x1 x2 x6 x8 x23 x24 x25 : AV) (h : Heap) : Res :=
  ob (xbin PP .add 3 true x25 (.int .i64 1)) fun x101 =>
  kn x0 x1 x2 x6 x8 x23 x24 x101 h
theorem f99_5_eq (E : Ev) (kn : K) (kx : Nat → K) (kr : K) : f99_5 E (fun y0 y1 y2 y6 y8 y23 y24 y25 h => kn (mkE [(0, y0), (1, y1), (2, y2), (6, y6), (8, y8), (23, y23), (24, y24), (25, y25)]) h) = fun x0 x1 x2 x6 x8 x23 x24 x25 h => R99 E (pb (pb (pb (pa (pa (pb (pa (pb (pb (codeOf fn99)))))))))) true 58720583 (fun i => sel (Nat.beq i 0) 322 ((fun _ => 0) i)) kn kx kr (mkE [(0, x0), (1, x1), (2, x2), (6, x6), (8, x8), (23, x23), (24, x24), (25, x25)]) h := by
  funext x0 x1 x2 x6 x8 x23 x24 x25 h
  unfold f99_5
  refine Eq.trans ?_ (R99_unf E _ _ _ _ _ _ _ _).symm
  generalize R99 E = R
  generalize LL = L
  generalize PP = P
  revert R L P
  refine id ?_
  intro R L P
  kernel_rfl
def f99_6 (E : Ev) (kn : AV → AV → AV → AV → AV → AV → AV → AV → Heap → Res) (kr : AV → AV → Heap → Res) (x0 x1 x2 x6 x8 x10 x11 x12 x23 x24 x25 : AV) (h : Heap) : Res :=
  ob (pLoad PP 143 x11 h) fun x64 =>
  obP (xcallV ⟨PP, GG, CC, E⟩ x2 [x10, x64] h) fun x65 h65 =>
  ob (pExtract 0 x65) fun x66 =>
  ob (pExtract 1 x65) fun x67 =>
  ob (pExtract 2 x65) fun x68 =>
  ob (xbin PP .neq 29 true x68 (.int .i64 0)) fun x89 =>
  pIf x89
   (kr .nilSlice x68 h65)
   (pIf x67
    (ob (xmapSet PP h65 174 x8 x10 x66) fun h0 =>
    kn x0 x1 x2 x6 x8 x23 x24 x25 h0)
    (pIf x12
     (ob (xmapSet PP h65 174 x8 x10 x10) fun h0 =>
     kn x0 x1 x2 x6 x8 x23 x24 x25 h0)
     (ob (pFieldAddr PP 143 0 x11) fun x73 =>
     ob (pLoad PP 3 x73 h65) fun x74 =>
     ob (pFieldAddr PP 143 1 x11) fun x75 =>
     ob (pLoad PP 9 x75 h65) fun x76 =>
     ob (pFieldAddr PP 143 2 x11) fun x77 =>
     ob (pLoad PP 141 x77 h65) fun x78 =>
     ob (pFieldAddr PP 143 3 x11) fun x79 =>
     ob (pLoad PP 22 x79 h65) fun x80 =>
     obP (E (.fn 85) [x0, x74, x76, x78, x80] h65) fun x81 h81 =>
     ob (pExtract 0 x81) fun x82 =>
     ob (pExtract 1 x81) fun x83 =>
     ob (xmapSet PP h81 174 x8 x10 x82) fun h0 =>
     ob (xbin PP .neq 29 true x83 (.int .i64 0)) fun x85 =>
     pIf x85
      (kr .nilSlice x83 h0)
      (kn x0 x1 x2 x6 x8 x23 x24 x25 h0))))
theorem f99_6_eq (E : Ev) (kn : K) (kx : Nat → K) (kr : K) : f99_6 E (fun y0 y1 y2 y6 y8 y23 y24 y25 h => kn (mkE [(0, y0), (1, y1), (2, y2), (6, y6), (8, y8), (23, y23), (24, y24), (25, y25)]) h) (fun y6 y7 h => kr (mkE [(6, y6), (7, y7)]) h) = fun x0 x1 x2 x6 x8 x10 x11 x12 x23 x24 x25 h => R99 E (pb (pb (pb (pb (pa (pa (pb (pb (pa (pa (pb (pa (pb (pb (codeOf fn99))))))))))))))) true 58720583 (fun i => sel (Nat.beq i 1) 58720583 ((fun i => sel (Nat.beq i 0) 322 ((fun _ => 0) i)) i)) kn kx kr (mkE [(0, x0), (1, x1), (2, x2), (6, x6), (8, x8), (10, x10), (11, x11), (12, x12), (23, x23), (24, x24), (25, x25)]) h := by
  funext x0 x1 x2 x6 x8 x10 x11 x12 x23 x24 x25 h
  unfold f99_6
  refine Eq.trans ?_ (R99_unf E _ _ _ _ _ _ _ _).symm
  generalize R99 E = R
  generalize LL = L
  generalize PP = P
  revert R L P
  refine id ?_
  intro R L P
  kernel_rfl
def f99_8 (E : Ev) (kn : AV → AV → AV → AV → AV → AV → AV → AV → AV → AV → AV → AV → AV → AV → Heap → Res) (x0 x1 x2 x6 x8 x10 x11 x12 x23 x24 x25 x38 x39 x40 : AV) (h : Heap) : Res :=
  ob (xbin PP .add 3 true x40 (.int .i64 1)) fun x60 =>
  kn x0 x1 x2 x6 x8 x10 x11 x12 x23 x24 x25 x38 x39 x60 h
theorem f99_8_eq (E : Ev) (kn : K) (kx : Nat → K) (kr : K) : f99_8 E (fun y0 y1 y2 y6 y8 y10 y11 y12 y23 y24 y25 y38 y39 y40 h => kn (mkE [(0, y0), (1, y1), (2, y2), (6, y6), (8, y8), (10, y10), (11, y11), (12, y12), (23, y23), (24, y24), (25, y25), (38, y38), (39, y39), (40, y40)]) h) = fun x0 x1 x2 x6 x8 x10 x11 x12 x23 x24 x25 x38 x39 x40 h => R99 E (pb (pb (pb (pa (pa (pb (pa (pb (pb (pb (pa (pa (pb (pb (pa (pa (pb (pa (pb (pb (codeOf fn99))))))))))))))))))))) true 1924204076359 (fun i => sel (Nat.beq i 2) 58727751 ((fun i => sel (Nat.beq i 1) 58720583 ((fun i => sel (Nat.beq i 0) 322 ((fun _ => 0) i)) i)) i)) kn kx kr (mkE [(0, x0), (1, x1), (2, x2), (6, x6), (8, x8), (10, x10), (11, x11), (12, x12), (23, x23), (24, x24), (25, x25), (38, x38), (39, x39), (40, x40)]) h := by
  funext x0 x1 x2 x6 x8 x10 x11 x12 x23 x24 x25 x38 x39 x40 h
  unfold f99_8
  refine Eq.trans ?_ (R99_unf E _ _ _ _ _ _ _ _).symm
  generalize R99 E = R
  generalize LL = L
  generalize PP = P
  revert R L P
  refine id ?_
  intro R L P
  kernel_rfl
def f99_9 (E : Ev) (kn : AV → AV → AV → AV → AV → AV → AV → AV → AV → AV → AV → AV → AV → AV → Heap → Res) (x0 x1 x2 x6 x8 x10 x11 x12 x14 x23 x24 x25 x38 x39 x40 : AV) (h : Heap) : Res :=
  ob (pWant x12 true) fun c =>
  ob (sel c (some x8) (some (.tuple []))) fun x54 =>
  ob (pWant x12 true) fun c_1 =>
  ob (sel c_1 (some x14) (some (.tuple []))) fun x55 =>
  ob (pWant x12 true) fun c_2 =>
  ob (sel c_2 (xlookup PP h 174 x54 x55 false) (some (.tuple []))) fun x56 =>
  ob (pWant x12 true) fun c_3 =>
  ob (sel c_3 (some x14) (some (.tuple []))) fun x57 =>
  ob (pWant x12 true) fun c_4 =>
  ob (sel c_4 (xbin PP .eql 3 false x56 x57) (some (.tuple []))) fun x58 =>
  ob (pPick x12 (some x58) (some (.bool false))) fun x59 =>
  kn x0 x1 x2 x6 x8 x10 x11 x59 x23 x24 x25 x38 x39 x40 h
theorem f99_9_eq (E : Ev) (kn : K) (kx : Nat → K) (kr : K) : f99_9 E (fun y0 y1 y2 y6 y8 y10 y11 y12 y23 y24 y25 y38 y39 y40 h => kn (mkE [(0, y0), (1, y1), (2, y2), (6, y6), (8, y8), (10, y10), (11, y11), (12, y12), (23, y23), (24, y24), (25, y25), (38, y38), (39, y39), (40, y40)]) h) = fun x0 x1 x2 x6 x8 x10 x11 x12 x14 x23 x24 x25 x38 x39 x40 h => R99 E (pb (pb (pa (pa (pb (pb (pa (pa (pb (pa (pb (pb (pb (pa (pa (pb (pb (pa (pa (pb (pa (pb (pb (codeOf fn99)))))))))))))))))))))))) true 1924204076359 (fun i => sel (Nat.beq i 3) 1924204076359 ((fun i => sel (Nat.beq i 2) 58727751 ((fun i => sel (Nat.beq i 1) 58720583 ((fun i => sel (Nat.beq i 0) 322 ((fun _ => 0) i)) i)) i)) i)) kn kx kr (mkE [(0, x0), (1, x1), (2, x2), (6, x6), (8, x8), (10, x10), (11, x11), (12, x12), (14, x14), (23, x23), (24, x24), (25, x25), (38, x38), (39, x39), (40, x40)]) h := by
  funext x0 x1 x2 x6 x8 x10 x11 x12 x14 x23 x24 x25 x38 x39 x40 h
  unfold f99_9
  refine Eq.trans ?_ (R99_unf E _ _ _ _ _ _ _ _).symm
  generalize R99 E = R
  generalize LL = L
  generalize PP = P
  revert R L P
  refine id ?_
  intro R L P
  kernel_rfl
def f99_7 (E : Ev) (kn : AV → AV → AV → AV → AV → AV → AV → AV → AV → AV → AV → AV → AV → AV → Heap → Res) (k2 : AV → AV → AV → AV → AV → AV → AV → AV → AV → AV → AV → Heap → Res) (x0 x1 x2 x6 x8 x10 x11 x12 x23 x24 x25 x38 x39 x40 : AV) (h : Heap) : Res :=
  ob (xbin PP .lss 3 false x40 x39) fun x41 =>
  pIf x41
   (ob (xindexAddr PP 22 x38 x40) fun x43 =>
   ob (pLoad PP 3 x43 h) fun x44 =>
   ob (pFieldAddr PP 143 3 x11) fun x45 =>
   ob (pLoad PP 22 x45 h) fun x46 =>
   ob (xlookup PP h 174 x8 x44 false) fun x50 =>
   ob (xindexAddr PP 22 x46 x40) fun x51 =>
   ob (pStore PP 3 x51 x50 h) fun h0 =>
   f99_9 E (f99_8 E kn) x0 x1 x2 x6 x8 x10 x11 x12 x44 x23 x24 x25 x38 x39 x40 h0)
   (k2 x0 x1 x2 x6 x8 x10 x11 x12 x23 x24 x25 h)
theorem f99_7_eq (E : Ev) (kn : K) (kx : Nat → K) (kr : K) (e2 : K) (he2 : kx 2 = e2) : f99_7 E (fun y0 y1 y2 y6 y8 y10 y11 y12 y23 y24 y25 y38 y39 y40 h => kn (mkE [(0, y0), (1, y1), (2, y2), (6, y6), (8, y8), (10, y10), (11, y11), (12, y12), (23, y23), (24, y24), (25, y25), (38, y38), (39, y39), (40, y40)]) h) (fun y0 y1 y2 y6 y8 y10 y11 y12 y23 y24 y25 h => e2 (mkE [(0, y0), (1, y1), (2, y2), (6, y6), (8, y8), (10, y10), (11, y11), (12, y12), (23, y23), (24, y24), (25, y25)]) h) = fun x0 x1 x2 x6 x8 x10 x11 x12 x23 x24 x25 x38 x39 x40 h => R99 E (pa (pa (pb (pa (pb (pb (pb (pa (pa (pb (pb (pa (pa (pb (pa (pb (pb (codeOf fn99)))))))))))))))))) true 1924204076359 (fun i => sel (Nat.beq i 2) 58727751 ((fun i => sel (Nat.beq i 1) 58720583 ((fun i => sel (Nat.beq i 0) 322 ((fun _ => 0) i)) i)) i)) kn kx kr (mkE [(0, x0), (1, x1), (2, x2), (6, x6), (8, x8), (10, x10), (11, x11), (12, x12), (23, x23), (24, x24), (25, x25), (38, x38), (39, x39), (40, x40)]) h := by
  subst he2
  funext x0 x1 x2 x6 x8 x10 x11 x12 x23 x24 x25 x38 x39 x40 h
  unfold f99_7
  rw [f99_8_eq E kn kx kr, f99_9_eq E (R99 E (pb (pb (pb (pa (pa (pb (pa (pb (pb (pb (pa (pa (pb (pb (pa (pa (pb (pa (pb (pb (codeOf fn99))))))))))))))))))))) true 1924204076359 (fun i => sel (Nat.beq i 2) 58727751 ((fun i => sel (Nat.beq i 1) 58720583 ((fun i => sel (Nat.beq i 0) 322 ((fun _ => 0) i)) i)) i)) kn kx kr) (fun i => sel (Nat.beq i 3) (R99 E (pb (pb (pb (pa (pa (pb (pa (pb (pb (pb (pa (pa (pb (pb (pa (pa (pb (pa (pb (pb (codeOf fn99))))))))))))))))))))) true 1924204076359 (fun i => sel (Nat.beq i 2) 58727751 ((fun i => sel (Nat.beq i 1) 58720583 ((fun i => sel (Nat.beq i 0) 322 ((fun _ => 0) i)) i)) i)) kn kx kr) (kx i)) kr]
  refine Eq.trans ?_ (R99_unf E _ _ _ _ _ _ _ _).symm
  generalize R99 E = R
  generalize LL = L
  generalize PP = P
  revert R L P
  refine id ?_
  intro R L P
  kernel_rfl
def f99_4 (E : Ev) (kn : AV → AV → AV → AV → AV → AV → AV → AV → Heap → Res) (k0 : AV → AV → AV → Heap → Res) (kr : AV → AV → Heap → Res) (x0 x1 x2 x6 x8 x23 x24 x25 : AV) (h : Heap) : Res :=
  ob (xbin PP .lss 3 false x25 x24) fun x26 =>
  pIf x26
   (ob (xindexAddr PP 22 x23 x25) fun x27 =>
   ob (pLoad PP 3 x27 h) fun x28 =>
   ob (pNil x0) fun x30 =>
   ob (pFieldAddr PP 100 1 x30) fun x31 =>
   ob (pLoad PP 61 x31 h) fun x32 =>
   ob (xindexAddr PP 61 x32 x28) fun x34 =>
   ob (pLoad PP 143 x34 h) fun x35 =>
   obP (E (.fn 92) [x35] h) fun x36 h36 =>
   obP (ob (zeroC PP 143) fun z => some (pNew h36 143 z)) fun x11 h11 =>
   ob (pStore PP 143 x11 x36 h11) fun h0 =>
   ob (pFieldAddr PP 143 3 x11) fun x37 =>
   ob (pLoad PP 22 x37 h0) fun x38 =>
   ob (xlen PP h0 22 x38) fun x39 =>
   lp b14 (fun k => f99_7 E k (f99_6 E (f99_5 E kn) kr)) LL x0 x1 x2 x6 x8 x28 x11 (.bool true) x23 x24 x25 x38 x39 (.int .i64 0) h0)
   (k0 x1 x6 x8 h)
theorem f99_4_eq (E : Ev) (kn : K) (kx : Nat → K) (kr : K) (e0 : K) (he0 : kx 0 = e0) : f99_4 E (fun y0 y1 y2 y6 y8 y23 y24 y25 h => kn (mkE [(0, y0), (1, y1), (2, y2), (6, y6), (8, y8), (23, y23), (24, y24), (25, y25)]) h) (fun y1 y6 y8 h => e0 (mkE [(1, y1), (6, y6), (8, y8)]) h) (fun y6 y7 h => kr (mkE [(6, y6), (7, y7)]) h) = fun x0 x1 x2 x6 x8 x23 x24 x25 h => R99 E (pa (pa (pb (pa (pb (pb (codeOf fn99))))))) true 58720583 (fun i => sel (Nat.beq i 0) 322 ((fun _ => 0) i)) kn kx kr (mkE [(0, x0), (1, x1), (2, x2), (6, x6), (8, x8), (23, x23), (24, x24), (25, x25)]) h := by
  subst he0
  funext x0 x1 x2 x6 x8 x23 x24 x25 h
  unfold f99_4
  rw [f99_5_eq E kn kx kr, f99_6_eq E (R99 E (pb (pb (pb (pa (pa (pb (pa (pb (pb (codeOf fn99)))))))))) true 58720583 (fun i => sel (Nat.beq i 0) 322 ((fun _ => 0) i)) kn kx kr) (fun i => sel (Nat.beq i 1) (R99 E (pb (pb (pb (pa (pa (pb (pa (pb (pb (codeOf fn99)))))))))) true 58720583 (fun i => sel (Nat.beq i 0) 322 ((fun _ => 0) i)) kn kx kr) (kx i)) kr, lp14_eq 0 1 2 6 8 10 11 12 23 24 25 38 39 40 (fun k => (R99 E (pa (pa (pb (pa (pb (pb (pb (pa (pa (pb (pb (pa (pa (pb (pa (pb (pb (codeOf fn99)))))))))))))))))) true 1924204076359 (fun i => sel (Nat.beq i 2) 58727751 ((fun i => sel (Nat.beq i 1) 58720583 ((fun i => sel (Nat.beq i 0) 322 ((fun _ => 0) i)) i)) i)) k (fun i => sel (Nat.beq i 2) (R99 E (pb (pb (pb (pb (pa (pa (pb (pb (pa (pa (pb (pa (pb (pb (codeOf fn99))))))))))))))) true 58720583 (fun i => sel (Nat.beq i 1) 58720583 ((fun i => sel (Nat.beq i 0) 322 ((fun _ => 0) i)) i)) (R99 E (pb (pb (pb (pa (pa (pb (pa (pb (pb (codeOf fn99)))))))))) true 58720583 (fun i => sel (Nat.beq i 0) 322 ((fun _ => 0) i)) kn kx kr) (fun i => sel (Nat.beq i 1) (R99 E (pb (pb (pb (pa (pa (pb (pa (pb (pb (codeOf fn99)))))))))) true 58720583 (fun i => sel (Nat.beq i 0) 322 ((fun _ => 0) i)) kn kx kr) (kx i)) kr) ((fun i => sel (Nat.beq i 1) (R99 E (pb (pb (pb (pa (pa (pb (pa (pb (pb (codeOf fn99)))))))))) true 58720583 (fun i => sel (Nat.beq i 0) 322 ((fun _ => 0) i)) kn kx kr) (kx i)) i)) kr)) (fun k => f99_7 E k (fun y0 y1 y2 y6 y8 y10 y11 y12 y23 y24 y25 h => (R99 E (pb (pb (pb (pb (pa (pa (pb (pb (pa (pa (pb (pa (pb (pb (codeOf fn99))))))))))))))) true 58720583 (fun i => sel (Nat.beq i 1) 58720583 ((fun i => sel (Nat.beq i 0) 322 ((fun _ => 0) i)) i)) (R99 E (pb (pb (pb (pa (pa (pb (pa (pb (pb (codeOf fn99)))))))))) true 58720583 (fun i => sel (Nat.beq i 0) 322 ((fun _ => 0) i)) kn kx kr) (fun i => sel (Nat.beq i 1) (R99 E (pb (pb (pb (pa (pa (pb (pa (pb (pb (codeOf fn99)))))))))) true 58720583 (fun i => sel (Nat.beq i 0) 322 ((fun _ => 0) i)) kn kx kr) (kx i)) kr) (mkE [(0, y0), (1, y1), (2, y2), (6, y6), (8, y8), (10, y10), (11, y11), (12, y12), (23, y23), (24, y24), (25, y25)]) h)) (fun k => f99_7_eq E k (fun i => sel (Nat.beq i 2) (R99 E (pb (pb (pb (pb (pa (pa (pb (pb (pa (pa (pb (pa (pb (pb (codeOf fn99))))))))))))))) true 58720583 (fun i => sel (Nat.beq i 1) 58720583 ((fun i => sel (Nat.beq i 0) 322 ((fun _ => 0) i)) i)) (R99 E (pb (pb (pb (pa (pa (pb (pa (pb (pb (codeOf fn99)))))))))) true 58720583 (fun i => sel (Nat.beq i 0) 322 ((fun _ => 0) i)) kn kx kr) (fun i => sel (Nat.beq i 1) (R99 E (pb (pb (pb (pa (pa (pb (pa (pb (pb (codeOf fn99)))))))))) true 58720583 (fun i => sel (Nat.beq i 0) 322 ((fun _ => 0) i)) kn kx kr) (kx i)) kr) ((fun i => sel (Nat.beq i 1) (R99 E (pb (pb (pb (pa (pa (pb (pa (pb (pb (codeOf fn99)))))))))) true 58720583 (fun i => sel (Nat.beq i 0) 322 ((fun _ => 0) i)) kn kx kr) (kx i)) i)) kr (R99 E (pb (pb (pb (pb (pa (pa (pb (pb (pa (pa (pb (pa (pb (pb (codeOf fn99))))))))))))))) true 58720583 (fun i => sel (Nat.beq i 1) 58720583 ((fun i => sel (Nat.beq i 0) 322 ((fun _ => 0) i)) i)) (R99 E (pb (pb (pb (pa (pa (pb (pa (pb (pb (codeOf fn99)))))))))) true 58720583 (fun i => sel (Nat.beq i 0) 322 ((fun _ => 0) i)) kn kx kr) (fun i => sel (Nat.beq i 1) (R99 E (pb (pb (pb (pa (pa (pb (pa (pb (pb (codeOf fn99)))))))))) true 58720583 (fun i => sel (Nat.beq i 0) 322 ((fun _ => 0) i)) kn kx kr) (kx i)) kr) rfl) LL]
  refine Eq.trans ?_ (R99_unf E _ _ _ _ _ _ _ _).symm
  generalize R99 E = R
  generalize LL = L
  generalize PP = P
  revert R L P
  refine id ?_
  intro R L P
  kernel_rfl
/-- (*theodolite/term.Table).Turn -/
def s99 (E : Ev) (x0 x1 x2 : AV) (h : Heap) : Res :=
  obP (some (pMakeMap h)) fun x20 h20 =>
  obP (E (.fn 125) [x0, x1] h20) fun x23 h23 =>
  ob (xlen PP h23 22 x23) fun x24 =>
  lp b8 (fun k => f99_4 E k (f99_1 E r99) r99) LL x0 x1 x2 .nilSlice x20 x23 x24 (.int .i64 0) h23
theorem s99_eq (E : Ev) (x0 x1 x2 : AV) (h : Heap) : xbodyR PP GG CC E LL fn99 [x0, x1, x2] h = s99 E x0 x1 x2 h := by
  unfold s99
  rw [r99_eq, f99_1_eq E (xret PP fn99) noK (xret PP fn99), lp8_eq 0 1 2 6 8 23 24 25 (fun k => (R99 E (pa (pa (pb (pa (pb (pb (codeOf fn99))))))) true 58720583 (fun i => sel (Nat.beq i 0) 322 ((fun _ => 0) i)) k (fun i => sel (Nat.beq i 0) (R99 E (pb (pb (pb (codeOf fn99)))) true 192 (fun _ => 0) (xret PP fn99) noK (xret PP fn99)) (noK i)) (xret PP fn99))) (fun k => f99_4 E k (fun y1 y6 y8 h => (R99 E (pb (pb (pb (codeOf fn99)))) true 192 (fun _ => 0) (xret PP fn99) noK (xret PP fn99)) (mkE [(1, y1), (6, y6), (8, y8)]) h) (fun y6 y7 h => (xret PP fn99) (mkE [(6, y6), (7, y7)]) h)) (fun k => f99_4_eq E k (fun i => sel (Nat.beq i 0) (R99 E (pb (pb (pb (codeOf fn99)))) true 192 (fun _ => 0) (xret PP fn99) noK (xret PP fn99)) (noK i)) (xret PP fn99) (R99 E (pb (pb (pb (codeOf fn99)))) true 192 (fun _ => 0) (xret PP fn99) noK (xret PP fn99)) rfl) LL]
  refine (bodyR_unf (c := (codeOf fn99)) (by kernel_rfl) (by kernel_rfl)).trans ?_
  show runS (R99 E) PP GG CC E fn99.ntmps LL none (resBits fn99.results.toList) (codeOf fn99) _ _ _ _ _ _ _ = _
  generalize R99 E = R
  generalize LL = L
  generalize PP = P
  symm
  revert R L P
  refine id ?_
  intro R L P
  kernel_rfl
def fn100 : Func := fnAt PP 100
def R100 (E : Ev) : RT := runR PP GG CC E 18 LL none 224
theorem R100_unf (E : Ev) (c : Code) (lv : Nat) (lx : Nat → Nat) (kn : K) (kx : Nat → K) (kr : K) (e : Env) (h : Heap) : R100 E c true lv lx kn kx kr e h = runS (R100 E) PP GG CC E 18 LL none 224 c lv lx kn kx kr e h := runR_unf _ _ _ _ _ _ _ _
def r100 (x5 x6 x7 : AV) (h : Heap) : Res := some (.tuple [x5, x6, x7], h)
theorem r100_eq : r100 = fun x5 x6 x7 h => xret PP fn100 (mkE [(5, x5), (6, x6), (7, x7)]) h := by kernel_rfl
/-- (*theodolite/elab.maker).call$1 -/
def s100 (E : Ev) (x0 x1 x2 : AV) (h : Heap) : Res :=
  obP (some (pNew h 143 x1.cells)) fun x4 h4 =>
  ob (pLoad PP 174 x2 h4) fun x11 =>
  ob (xlookup PP h4 174 x11 x0 true) fun x13 =>
  ob (pExtract 0 x13) fun x14 =>
  ob (pExtract 1 x13) fun x15 =>
  r100 x14 x15 (.int .i64 0) h4
theorem s100_eq (E : Ev) (x0 x1 x2 : AV) (h : Heap) : xbodyR PP GG CC E LL fn100 [x0, x1, x2] h = s100 E x0 x1 x2 h := by
  unfold s100
  rw [r100_eq]
  refine (bodyR_unf (c := (codeOf fn100)) (by kernel_rfl) (by kernel_rfl)).trans ?_
  show runS (R100 E) PP GG CC E fn100.ntmps LL none (resBits fn100.results.toList) (codeOf fn100) _ _ _ _ _ _ _ = _
  generalize R100 E = R
  generalize LL = L
  generalize PP = P
  symm
  revert R L P
  refine id ?_
  intro R L P
  kernel_rfl
def fn101 : Func := fnAt PP 101
def R101 (E : Ev) : RT := runR PP GG CC E 13 LL none 112
theorem R101_unf (E : Ev) (c : Code) (lv : Nat) (lx : Nat → Nat) (kn : K) (kx : Nat → K) (kr : K) (e : Env) (h : Heap) : R101 E c true lv lx kn kx kr e h = runS (R101 E) PP GG CC E 13 LL none 112 c lv lx kn kx kr e h := runR_unf _ _ _ _ _ _ _ _
def r101 (x4 x5 x6 : AV) (h : Heap) : Res := some (.tuple [x4, x5, x6], h)
theorem r101_eq : r101 = fun x4 x5 x6 h => xret PP fn101 (mkE [(4, x4), (5, x5), (6, x6)]) h := by kernel_rfl
/-- strings.Cut -/
def s101 (E : Ev) (x0 x1 : AV) (h : Heap) : Res :=
  obP (E (.fn 126) [x0, x1] h) fun x9 h9 =>
  ob (pExtract 0 x9) fun x10 =>
  ob (pExtract 1 x9) fun x11 =>
  ob (pExtract 2 x9) fun x12 =>
  r101 x10 x11 x12 h9
theorem s101_eq (E : Ev) (x0 x1 : AV) (h : Heap) : xbodyR PP GG CC E LL fn101 [x0, x1] h = s101 E x0 x1 h := by
  unfold s101
  rw [r101_eq]
  refine (bodyR_unf (c := (codeOf fn101)) (by kernel_rfl) (by kernel_rfl)).trans ?_
  show runS (R101 E) PP GG CC E fn101.ntmps LL none (resBits fn101.results.toList) (codeOf fn101) _ _ _ _ _ _ _ = _
  generalize R101 E = R
  generalize LL = L
  generalize PP = P
  symm
  revert R L P
  refine id ?_
  intro R L P
  kernel_rfl
def fn102 : Func := fnAt PP 102
def R102 (E : Ev) : RT := runR PP GG CC E 14 LL none 4
theorem R102_unf (E : Ev) (c : Code) (lv : Nat) (lx : Nat → Nat) (kn : K) (kx : Nat → K) (kr : K) (e : Env) (h : Heap) : R102 E c true lv lx kn kx kr e h = runS (R102 E) PP GG CC E 14 LL none 4 c lv lx kn kx kr e h := runR_unf _ _ _ _ _ _ _ _
def r102 (x2 : AV) (h : Heap) : Res := some (x2, h)
theorem r102_eq : r102 = fun x2 h => xret PP fn102 (mkE [(2, x2)]) h := by kernel_rfl
def f102_1 (E : Ev) (kr : AV → Heap → Res) (x0 : AV) (h : Heap) : Res :=
  obP (E (.fn 103) [x0] h) fun x4 h4 =>
  ob (pWant x4 true) fun c =>
  ob (sel c (some x0) (some (.tuple []))) fun x6 =>
  ob (pWant x4 true) fun c_1 =>
  ob (sel c_1 (xbin PP .eql 9 true x6 (.str 1 48)) (some (.tuple []))) fun x7 =>
  ob (pWant x4 true) fun c_2 =>
  ob (sel c_2 (some x7) (some (.tuple []))) fun x8 =>
  ob (pWant x8 false) fun c_3 =>
  ob (sel c_3 (some x0) (some (.tuple []))) fun x9 =>
  ob (pWant x8 false) fun c_4 =>
  ob (sel c_4 (xindex PP 9 x9 (.int .i64 0)) (some (.tuple []))) fun x10 =>
  ob (pWant x8 false) fun c_5 =>
  ob (sel c_5 (xbin PP .neq 5 true x10 (.int .u8 48)) (some (.tuple []))) fun x11 =>
  ob (pWant x4 true) fun c_6 =>
  ob (sel c_6 (pPick x8 (some (.bool true)) (some x11)) (some (.tuple []))) fun x12 =>
  ob (pPick x4 (some x12) (some (.bool false))) fun x13 =>
  kr x13 h4
theorem f102_1_eq (E : Ev) (kn : K) (kx : Nat → K) (kr : K) : f102_1 E (fun y2 h => kr (mkE [(2, y2)]) h) = fun x0 h => R102 E (pb (codeOf fn102)) true 4 (fun _ => 0) kn kx kr (mkE [(0, x0)]) h := by
  funext x0 h
  unfold f102_1
  refine Eq.trans ?_ (R102_unf E _ _ _ _ _ _ _ _).symm
  generalize R102 E = R
  generalize LL = L
  generalize PP = P
  revert R L P
  refine id ?_
  intro R L P
  kernel_rfl
/-- theodolite/decimal.numeral -/
def s102 (E : Ev) (x0 : AV) (h : Heap) : Res :=
  f102_1 E r102 x0 h
theorem s102_eq (E : Ev) (x0 : AV) (h : Heap) : xbodyR PP GG CC E LL fn102 [x0] h = s102 E x0 h := by
  unfold s102
  rw [r102_eq, f102_1_eq E (xret PP fn102) noK (xret PP fn102)]
  refine (bodyR_unf (c := (codeOf fn102)) (by kernel_rfl) (by kernel_rfl)).trans ?_
  show runS (R102 E) PP GG CC E fn102.ntmps LL none (resBits fn102.results.toList) (codeOf fn102) _ _ _ _ _ _ _ = _
  generalize R102 E = R
  generalize LL = L
  generalize PP = P
  symm
  revert R L P
  refine id ?_
  intro R L P
  kernel_rfl
def fn103 : Func := fnAt PP 103
def R103 (E : Ev) : RT := runR PP GG CC E 10 LL none 4
theorem R103_unf (E : Ev) (c : Code) (lv : Nat) (lx : Nat → Nat) (kn : K) (kx : Nat → K) (kr : K) (e : Env) (h : Heap) : R103 E c true lv lx kn kx kr e h = runS (R103 E) PP GG CC E 10 LL none 4 c lv lx kn kx kr e h := runR_unf _ _ _ _ _ _ _ _
def r103 (x2 : AV) (h : Heap) : Res := some (x2, h)
theorem r103_eq : r103 = fun x2 h => xret PP fn103 (mkE [(2, x2)]) h := by kernel_rfl
def f103_1 (E : Ev) (kr : AV → Heap → Res) (x0 : AV) (h : Heap) : Res :=
  ob (xbin PP .neq 9 true x0 (.str 0 0)) fun x4 =>
  ob (pWant x4 true) fun c =>
  ob (sel c (some x0) (some (.tuple []))) fun x6 =>
  ob (pWant x4 true) fun c_1 =>
  obP (sel c_1 (E (.fn 127) [x6, (.str 10 270211885617516653982000)] h) (some (.tuple [], h))) fun x7 h7 =>
  ob (pWant x4 true) fun c_2 =>
  ob (sel c_2 (xbin PP .eql 9 true x7 (.str 0 0)) (some (.tuple []))) fun x8 =>
  ob (pPick x4 (some x8) (some (.bool false))) fun x9 =>
  kr x9 h7
theorem f103_1_eq (E : Ev) (kn : K) (kx : Nat → K) (kr : K) : f103_1 E (fun y2 h => kr (mkE [(2, y2)]) h) = fun x0 h => R103 E (pb (codeOf fn103)) true 4 (fun _ => 0) kn kx kr (mkE [(0, x0)]) h := by
  funext x0 h
  unfold f103_1
  refine Eq.trans ?_ (R103_unf E _ _ _ _ _ _ _ _).symm
  generalize R103 E = R
  generalize LL = L
  generalize PP = P
  revert R L P
  refine id ?_
  intro R L P
  kernel_rfl
/-- theodolite/nat.Digits -/
def s103 (E : Ev) (x0 : AV) (h : Heap) : Res :=
  f103_1 E r103 x0 h
theorem s103_eq (E : Ev) (x0 : AV) (h : Heap) : xbodyR PP GG CC E LL fn103 [x0] h = s103 E x0 h := by
  unfold s103
  rw [r103_eq, f103_1_eq E (xret PP fn103) noK (xret PP fn103)]
  refine (bodyR_unf (c := (codeOf fn103)) (by kernel_rfl) (by kernel_rfl)).trans ?_
  show runS (R103 E) PP GG CC E fn103.ntmps LL none (resBits fn103.results.toList) (codeOf fn103) _ _ _ _ _ _ _ = _
  generalize R103 E = R
  generalize LL = L
  generalize PP = P
  symm
  revert R L P
  refine id ?_
  intro R L P
  kernel_rfl
def fn104 : Func := fnAt PP 104
def R104 (E : Ev) : RT := runR PP GG CC E 37 LL none 16
theorem R104_unf (E : Ev) (c : Code) (lv : Nat) (lx : Nat → Nat) (kn : K) (kx : Nat → K) (kr : K) (e : Env) (h : Heap) : R104 E c true lv lx kn kx kr e h = runS (R104 E) PP GG CC E 37 LL none 16 c lv lx kn kx kr e h := runR_unf _ _ _ _ _ _ _ _
def r104 (x4 : AV) (h : Heap) : Res := some (x4, h)
theorem r104_eq : r104 = fun x4 h => xret PP fn104 (mkE [(4, x4)]) h := by kernel_rfl
def f104_1 (E : Ev) (kr : AV → Heap → Res) (x0 x1 : AV) (h : Heap) : Res :=
  ob (xlen PP h 9 x1) fun x15 =>
  ob (xbin PP .eql 3 true x15 (.int .i64 1)) fun x16 =>
  ob (pWant x16 true) fun c =>
  ob (sel c (some x1) (some (.tuple []))) fun x18 =>
  ob (pWant x16 true) fun c_1 =>
  ob (sel c_1 (xindex PP 9 x18 (.int .i64 0)) (some (.tuple []))) fun x19 =>
  ob (pWant x16 true) fun c_2 =>
  ob (sel c_2 (xbin PP .lss 5 true x19 (.int .u8 128)) (some (.tuple []))) fun x20 =>
  ob (pPick x16 (some x20) (some (.bool false))) fun x21 =>
  pIf x21
   (ob (xindex PP 9 x1 (.int .i64 0)) fun x24 =>
   obP (E (.fn 128) [x0, x24] h) fun x25 h25 =>
   kr x25 h25)
   (obP (E (.fn 129) [x1] h) fun x28 h28 =>
   ob (pExtract 0 x28) fun x29 =>
   ob (pExtract 1 x28) fun x30 =>
   obP (ob (zeroC PP 218) fun z => some (pNew h28 218 z)) fun x5 h5 =>
   ob (pStore PP 218 x5 x29 h5) fun h0 =>
   pIf x30
    (obP (E (.fn 130) [x0, x5] h0) fun x33 h33 =>
    kr x33 h33)
    (obP (E (.fn 131) [x0, x1] h0) fun x36 h36 =>
    kr x36 h36))
theorem f104_1_eq (E : Ev) (kn : K) (kx : Nat → K) (kr : K) : f104_1 E (fun y4 h => kr (mkE [(4, y4)]) h) = fun x0 x1 h => R104 E (pb (pb (codeOf fn104))) true 16 (fun _ => 0) kn kx kr (mkE [(0, x0), (1, x1)]) h := by
  funext x0 x1 h
  unfold f104_1
  refine Eq.trans ?_ (R104_unf E _ _ _ _ _ _ _ _).symm
  generalize R104 E = R
  generalize LL = L
  generalize PP = P
  revert R L P
  refine id ?_
  intro R L P
  kernel_rfl
/-- strings.TrimRight -/
def s104 (E : Ev) (x0 x1 : AV) (h : Heap) : Res :=
  ob (xbin PP .eql 9 true x0 (.str 0 0)) fun x8 =>
  ob (pWant x8 false) fun c =>
  ob (sel c (some x1) (some (.tuple []))) fun x10 =>
  ob (pWant x8 false) fun c_1 =>
  ob (sel c_1 (xbin PP .eql 9 true x10 (.str 0 0)) (some (.tuple []))) fun x11 =>
  ob (pPick x8 (some (.bool true)) (some x11)) fun x12 =>
  pIf x12
   (r104 x0 h)
   (f104_1 E r104 x0 x1 h)
theorem s104_eq (E : Ev) (x0 x1 : AV) (h : Heap) : xbodyR PP GG CC E LL fn104 [x0, x1] h = s104 E x0 x1 h := by
  unfold s104
  rw [r104_eq, f104_1_eq E (xret PP fn104) noK (xret PP fn104)]
  refine (bodyR_unf (c := (codeOf fn104)) (by kernel_rfl) (by kernel_rfl)).trans ?_
  show runS (R104 E) PP GG CC E fn104.ntmps LL none (resBits fn104.results.toList) (codeOf fn104) _ _ _ _ _ _ _ = _
  generalize R104 E = R
  generalize LL = L
  generalize PP = P
  symm
  revert R L P
  refine id ?_
  intro R L P
  kernel_rfl
def fn105 : Func := fnAt PP 105
def R105 (E : Ev) : RT := runR PP GG CC E 48 LL none 192
theorem R105_unf (E : Ev) (c : Code) (lv : Nat) (lx : Nat → Nat) (kn : K) (kx : Nat → K) (kr : K) (e : Env) (h : Heap) : R105 E c true lv lx kn kx kr e h = runS (R105 E) PP GG CC E 48 LL none 192 c lv lx kn kx kr e h := runR_unf _ _ _ _ _ _ _ _
def r105 (x6 x7 : AV) (h : Heap) : Res := ob (ob (pLoad PP 141 x6 h) fun v => ob (ob (some x7) fun v => some [v]) fun vs => some (v :: vs)) fun vs => some (one vs, h)
theorem r105_eq : r105 = fun x6 x7 h => xret PP fn105 (mkE [(6, x6), (7, x7)]) h := by kernel_rfl
def f105_2 (E : Ev) (kr : AV → AV → Heap → Res) (x0 x1 x2 x6 : AV) (h : Heap) : Res :=
  ob (pWant x0 true) fun c =>
  ob (sel c (some x1) (some (.tuple []))) fun x39 =>
  ob (pWant x0 true) fun c_1 =>
  ob (sel c_1 (xlen PP h 139 x39) (some (.tuple []))) fun x40 =>
  ob (pWant x0 true) fun c_2 =>
  ob (sel c_2 (xbin PP .gtr 3 true x40 (.int .i64 0)) (some (.tuple []))) fun x41 =>
  ob (pPick x0 (some x41) (some (.bool false))) fun x42 =>
  obP (E (.fn 122) [x1] h) fun x44 h44 =>
  obP (E (.fn 122) [x2] h44) fun x46 h46 =>
  ob (xbuild PP 141 [(0, x42), (1, x44), (2, x46)]) fun x47 =>
  ob (pStore PP 141 x6 x47 h46) fun h0 =>
  kr x6 (.int .i64 0) h0
theorem f105_2_eq (E : Ev) (kn : K) (kx : Nat → K) (kr : K) : f105_2 E (fun y6 y7 h => kr (mkE [(6, y6), (7, y7)]) h) = fun x0 x1 x2 x6 h => R105 E (pb (pb (pb (codeOf fn105)))) true 192 (fun _ => 0) kn kx kr (mkE [(0, x0), (1, x1), (2, x2), (6, x6)]) h := by
  funext x0 x1 x2 x6 h
  unfold f105_2
  refine Eq.trans ?_ (R105_unf E _ _ _ _ _ _ _ _).symm
  generalize R105 E = R
  generalize LL = L
  generalize PP = P
  revert R L P
  refine id ?_
  intro R L P
  kernel_rfl
def f105_1 (E : Ev) (kr : AV → AV → Heap → Res) (x0 x1 x2 x6 : AV) (h : Heap) : Res :=
  ob (xlen PP h 139 x1) fun x29 =>
  ob (xbin PP .gtr 3 true x29 (.int .i64 64)) fun x30 =>
  ob (pWant x30 false) fun c =>
  ob (sel c (some x2) (some (.tuple []))) fun x32 =>
  ob (pWant x30 false) fun c_1 =>
  ob (sel c_1 (xlen PP h 139 x32) (some (.tuple []))) fun x33 =>
  ob (pWant x30 false) fun c_2 =>
  ob (sel c_2 (xbin PP .gtr 3 true x33 (.int .i64 64)) (some (.tuple []))) fun x34 =>
  ob (pPick x30 (some (.bool true)) (some x34)) fun x35 =>
  pIf x35
   (ob (xbuild PP 141 []) fun x36 =>
   ob (pStore PP 141 x6 x36 h) fun h0 =>
   kr x6 (.int .i64 4) h0)
   (f105_2 E kr x0 x1 x2 x6 h)
theorem f105_1_eq (E : Ev) (kn : K) (kx : Nat → K) (kr : K) : f105_1 E (fun y6 y7 h => kr (mkE [(6, y6), (7, y7)]) h) = fun x0 x1 x2 x6 h => R105 E (pb (pb (codeOf fn105))) true 192 (fun _ => 0) kn kx kr (mkE [(0, x0), (1, x1), (2, x2), (6, x6)]) h := by
  funext x0 x1 x2 x6 h
  unfold f105_1
  rw [f105_2_eq E kn kx kr]
  refine Eq.trans ?_ (R105_unf E _ _ _ _ _ _ _ _).symm
  generalize R105 E = R
  generalize LL = L
  generalize PP = P
  revert R L P
  refine id ?_
  intro R L P
  kernel_rfl
/-- theodolite/rat.Lowest -/
def s105 (E : Ev) (x0 x1 x2 : AV) (h : Heap) : Res :=
  obP (ob (zeroC PP 141) fun z => some (pNew h 141 z)) fun x6 h6 =>
  obP (E (.fn 132) [x1, x2] h6) fun x11 h11 =>
  obP (E (.fn 134) [] h11) fun x13 h13 =>
  obP (E (.fn 133) [x11, x13] h13) fun x14 h14 =>
  ob (xbin PP .neq 3 true x14 (.int .i64 0)) fun x15 =>
  pIf x15
   (obP (E (.fn 135) [x1, x11] h14) fun x19 h19 =>
   ob (pExtract 0 x19) fun x20 =>
   ob (pExtract 1 x19) fun x21 =>
   obP (E (.fn 135) [x2, x11] h19) fun x25 h25 =>
   ob (pExtract 0 x25) fun x26 =>
   ob (pExtract 1 x25) fun x27 =>
   f105_1 E r105 x0 x20 x26 x6 h25)
   (f105_1 E r105 x0 x1 x2 x6 h14)
theorem s105_eq (E : Ev) (x0 x1 x2 : AV) (h : Heap) : xbodyR PP GG CC E LL fn105 [x0, x1, x2] h = s105 E x0 x1 x2 h := by
  unfold s105
  rw [r105_eq, f105_1_eq E (xret PP fn105) noK (xret PP fn105)]
  refine (bodyR_unf (c := (codeOf fn105)) (by kernel_rfl) (by kernel_rfl)).trans ?_
  show runS (R105 E) PP GG CC E fn105.ntmps LL none (resBits fn105.results.toList) (codeOf fn105) _ _ _ _ _ _ _ = _
  generalize R105 E = R
  generalize LL = L
  generalize PP = P
  symm
  revert R L P
  refine id ?_
  intro R L P
  kernel_rfl
def fn106 : Func := fnAt PP 106
def R106 (E : Ev) : RT := runR PP GG CC E 33 LL none 4
theorem R106_unf (E : Ev) (c : Code) (lv : Nat) (lx : Nat → Nat) (kn : K) (kx : Nat → K) (kr : K) (e : Env) (h : Heap) : R106 E c true lv lx kn kx kr e h = runS (R106 E) PP GG CC E 33 LL none 4 c lv lx kn kx kr e h := runR_unf _ _ _ _ _ _ _ _
def r106 (x2 : AV) (h : Heap) : Res := some (x2, h)
theorem r106_eq : r106 = fun x2 h => xret PP fn106 (mkE [(2, x2)]) h := by kernel_rfl
def f106_1 (E : Ev) (kr : AV → Heap → Res) (x2 : AV) (h : Heap) : Res :=
  kr x2 h
theorem f106_1_eq (E : Ev) (kn : K) (kx : Nat → K) (kr : K) : f106_1 E (fun y2 h => kr (mkE [(2, y2)]) h) = fun x2 h => R106 E (pb (pb (pb (codeOf fn106)))) true 4 (fun _ => 0) kn kx kr (mkE [(2, x2)]) h := by
  funext x2 h
  unfold f106_1
  refine Eq.trans ?_ (R106_unf E _ _ _ _ _ _ _ _).symm
  generalize R106 E = R
  generalize LL = L
  generalize PP = P
  revert R L P
  refine id ?_
  intro R L P
  kernel_rfl
def f106_2 (E : Ev) (kn : AV → AV → Heap → Res) (k0 : AV → Heap → Res) (x0 x2 : AV) (h : Heap) : Res :=
  ob (xbin PP .neq 9 true x0 (.str 0 0)) fun x9 =>
  pIf x9
   (ob (xlen PP h 9 x0) fun x11 =>
   ob (xbin PP .sub 3 true x11 (.int .i64 1)) fun x12 =>
   ob (xbin PP .rem 3 true x12 (.int .i64 19)) fun x13 =>
   ob (xbin PP .add 3 true x13 (.int .i64 1)) fun x14 =>
   obP (xslice PP h 9 x0 none (some x14) none) fun x18 h18 =>
   obP (E (.fn 137) [x18, (.int .i64 10), (.int .i64 64)] h18) fun x19 h19 =>
   ob (pExtract 0 x19) fun x20 =>
   ob (pExtract 1 x19) fun x21 =>
   obP (pBuildSlice PP h19 139 1 [(0, (.int .u64 10000000000000000000))]) fun x23 h23 =>
   obP (E (.fn 139) [x2, x23] h23) fun x24 h24 =>
   obP (pBuildSlice PP h24 139 1 [(0, x20)]) fun x26 h26 =>
   obP (E (.fn 140) [x26] h26) fun x27 h27 =>
   obP (E (.fn 138) [x24, x27] h27) fun x28 h28 =>
   obP (xslice PP h28 9 x0 (some x14) none none) fun x31 h31 =>
   kn x31 x28 h31)
   (k0 x2 h)
theorem f106_2_eq (E : Ev) (kn : K) (kx : Nat → K) (kr : K) (e0 : K) (he0 : kx 0 = e0) : f106_2 E (fun y0 y2 h => kn (mkE [(0, y0), (2, y2)]) h) (fun y2 h => e0 (mkE [(2, y2)]) h) = fun x0 x2 h => R106 E (pa (pa (pa (pb (pb (codeOf fn106)))))) true 5 (fun i => sel (Nat.beq i 0) 4 ((fun _ => 0) i)) kn kx kr (mkE [(0, x0), (2, x2)]) h := by
  subst he0
  funext x0 x2 h
  unfold f106_2
  refine Eq.trans ?_ (R106_unf E _ _ _ _ _ _ _ _).symm
  generalize R106 E = R
  generalize LL = L
  generalize PP = P
  revert R L P
  refine id ?_
  intro R L P
  kernel_rfl
/-- theodolite/nat.Read -/
def s106 (E : Ev) (x0 : AV) (h : Heap) : Res :=
  obP (E (.fn 136) [x0, (.str 1 48)] h) fun x7 h7 =>
  lp b2 (fun k => f106_2 E k (f106_1 E r106)) LL x7 .nilSlice h7
theorem s106_eq (E : Ev) (x0 : AV) (h : Heap) : xbodyR PP GG CC E LL fn106 [x0] h = s106 E x0 h := by
  unfold s106
  rw [r106_eq, f106_1_eq E (xret PP fn106) noK (xret PP fn106), lp2_eq 0 2 (fun k => (R106 E (pa (pa (pa (pb (pb (codeOf fn106)))))) true 5 (fun i => sel (Nat.beq i 0) 4 ((fun _ => 0) i)) k (fun i => sel (Nat.beq i 0) (R106 E (pb (pb (pb (codeOf fn106)))) true 4 (fun _ => 0) (xret PP fn106) noK (xret PP fn106)) (noK i)) (xret PP fn106))) (fun k => f106_2 E k (fun y2 h => (R106 E (pb (pb (pb (codeOf fn106)))) true 4 (fun _ => 0) (xret PP fn106) noK (xret PP fn106)) (mkE [(2, y2)]) h)) (fun k => f106_2_eq E k (fun i => sel (Nat.beq i 0) (R106 E (pb (pb (pb (codeOf fn106)))) true 4 (fun _ => 0) (xret PP fn106) noK (xret PP fn106)) (noK i)) (xret PP fn106) (R106 E (pb (pb (pb (codeOf fn106)))) true 4 (fun _ => 0) (xret PP fn106) noK (xret PP fn106)) rfl) LL]
  refine (bodyR_unf (c := (codeOf fn106)) (by kernel_rfl) (by kernel_rfl)).trans ?_
  show runS (R106 E) PP GG CC E fn106.ntmps LL none (resBits fn106.results.toList) (codeOf fn106) _ _ _ _ _ _ _ = _
  generalize R106 E = R
  generalize LL = L
  generalize PP = P
  symm
  revert R L P
  refine id ?_
  intro R L P
  kernel_rfl
def fn107 : Func := fnAt PP 107
def R107 (E : Ev) : RT := runR PP GG CC E 7 LL none 4
theorem R107_unf (E : Ev) (c : Code) (lv : Nat) (lx : Nat → Nat) (kn : K) (kx : Nat → K) (kr : K) (e : Env) (h : Heap) : R107 E c true lv lx kn kx kr e h = runS (R107 E) PP GG CC E 7 LL none 4 c lv lx kn kx kr e h := runR_unf _ _ _ _ _ _ _ _
def r107 (x2 : AV) (h : Heap) : Res := some (x2, h)
theorem r107_eq : r107 = fun x2 h => xret PP fn107 (mkE [(2, x2)]) h := by kernel_rfl
/-- theodolite/decimal.power -/
def s107 (E : Ev) (x0 : AV) (h : Heap) : Res :=
  obP (E (.fn 141) [(.str 1 48), x0] h) fun x4 h4 =>
  ob (xbin PP .add 9 true (.str 1 49) x4) fun x5 =>
  obP (E (.fn 106) [x5] h4) fun x6 h6 =>
  r107 x6 h6
theorem s107_eq (E : Ev) (x0 : AV) (h : Heap) : xbodyR PP GG CC E LL fn107 [x0] h = s107 E x0 h := by
  unfold s107
  rw [r107_eq]
  refine (bodyR_unf (c := (codeOf fn107)) (by kernel_rfl) (by kernel_rfl)).trans ?_
  show runS (R107 E) PP GG CC E fn107.ntmps LL none (resBits fn107.results.toList) (codeOf fn107) _ _ _ _ _ _ _ = _
  generalize R107 E = R
  generalize LL = L
  generalize PP = P
  symm
  revert R L P
  refine id ?_
  intro R L P
  kernel_rfl
def fn108 : Func := fnAt PP 108
def R108 (E : Ev) : RT := runR PP GG CC E 18 LL none 4
theorem R108_unf (E : Ev) (c : Code) (lv : Nat) (lx : Nat → Nat) (kn : K) (kx : Nat → K) (kr : K) (e : Env) (h : Heap) : R108 E c true lv lx kn kx kr e h = runS (R108 E) PP GG CC E 18 LL none 4 c lv lx kn kx kr e h := runR_unf _ _ _ _ _ _ _ _
def r108 (x2 : AV) (h : Heap) : Res := some (x2, h)
theorem r108_eq : r108 = fun x2 h => xret PP fn108 (mkE [(2, x2)]) h := by kernel_rfl
def f108_1 (E : Ev) (kr : AV → Heap → Res) (x1 : AV) (h : Heap) : Res :=
  ob (pFieldAddr PP 141 0 x1) fun x3 =>
  ob (pLoad PP 4 x3 h) fun x4 =>
  ob (xun .not x4) fun x5 =>
  ob (pWant x5 true) fun c =>
  ob (sel c (pFieldAddr PP 141 1 x1) (some (.tuple []))) fun x7 =>
  ob (pWant x5 true) fun c_1 =>
  ob (sel c_1 (pLoad PP 139 x7 h) (some (.tuple []))) fun x8 =>
  ob (pWant x5 true) fun c_2 =>
  ob (sel c_2 (xlen PP h 139 x8) (some (.tuple []))) fun x9 =>
  ob (pWant x5 true) fun c_3 =>
  ob (sel c_3 (xbin PP .eql 3 true x9 (.int .i64 0)) (some (.tuple []))) fun x10 =>
  ob (pPick x5 (some x10) (some (.bool false))) fun x11 =>
  ob (pWant x11 true) fun c_4 =>
  ob (sel c_4 (pFieldAddr PP 141 2 x1) (some (.tuple []))) fun x13 =>
  ob (pWant x11 true) fun c_5 =>
  ob (sel c_5 (pLoad PP 139 x13 h) (some (.tuple []))) fun x14 =>
  ob (pWant x11 true) fun c_6 =>
  ob (sel c_6 (xlen PP h 139 x14) (some (.tuple []))) fun x15 =>
  ob (pWant x11 true) fun c_7 =>
  ob (sel c_7 (xbin PP .eql 3 true x15 (.int .i64 0)) (some (.tuple []))) fun x16 =>
  ob (pPick x11 (some x16) (some (.bool false))) fun x17 =>
  kr x17 h
theorem f108_1_eq (E : Ev) (kn : K) (kx : Nat → K) (kr : K) : f108_1 E (fun y2 h => kr (mkE [(2, y2)]) h) = fun x1 h => R108 E (pb (codeOf fn108)) true 4 (fun _ => 0) kn kx kr (mkE [(1, x1)]) h := by
  funext x1 h
  unfold f108_1
  refine Eq.trans ?_ (R108_unf E _ _ _ _ _ _ _ _).symm
  generalize R108 E = R
  generalize LL = L
  generalize PP = P
  revert R L P
  refine id ?_
  intro R L P
  kernel_rfl
/-- theodolite/term.zero -/
def s108 (E : Ev) (x0 : AV) (h : Heap) : Res :=
  obP (some (pNew h 141 x0.cells)) fun x1 h1 =>
  f108_1 E r108 x1 h1
theorem s108_eq (E : Ev) (x0 : AV) (h : Heap) : xbodyR PP GG CC E LL fn108 [x0] h = s108 E x0 h := by
  unfold s108
  rw [r108_eq, f108_1_eq E (xret PP fn108) noK (xret PP fn108)]
  refine (bodyR_unf (c := (codeOf fn108)) (by kernel_rfl) (by kernel_rfl)).trans ?_
  show runS (R108 E) PP GG CC E fn108.ntmps LL none (resBits fn108.results.toList) (codeOf fn108) _ _ _ _ _ _ _ = _
  generalize R108 E = R
  generalize LL = L
  generalize PP = P
  symm
  revert R L P
  refine id ?_
  intro R L P
  kernel_rfl
def fn109 : Func := fnAt PP 109
def R109 (E : Ev) : RT := runR PP GG CC E 44 LL none 4
theorem R109_unf (E : Ev) (c : Code) (lv : Nat) (lx : Nat → Nat) (kn : K) (kx : Nat → K) (kr : K) (e : Env) (h : Heap) : R109 E c true lv lx kn kx kr e h = runS (R109 E) PP GG CC E 44 LL none 4 c lv lx kn kx kr e h := runR_unf _ _ _ _ _ _ _ _
def r109 (x2 : AV) (h : Heap) : Res := some (x2, h)
theorem r109_eq : r109 = fun x2 h => xret PP fn109 (mkE [(2, x2)]) h := by kernel_rfl
def f109_2 (E : Ev) (kr : AV → Heap → Res) (x1 : AV) (h : Heap) : Res :=
  ob (pFieldAddr PP 141 2 x1) fun x29 =>
  ob (pLoad PP 139 x29 h) fun x30 =>
  sel (chkV x30 (pLoad PP 139 x29 h)) (
  obP (E (.fn 134) [] h) fun x31 h31 =>
  sel (chkV x30 (pLoad PP 139 x29 h31)) (
  obP (E (.fn 133) [x30, x31] h31) fun x32 h32 =>
  ob (xbin PP .eql 3 true x32 (.int .i64 0)) fun x33 =>
  ob (pWant x33 false) fun c =>
  ob (sel c (pFieldAddr PP 141 1 x1) (some (.tuple []))) fun x35 =>
  ob (pWant x33 false) fun c_1 =>
  ob (sel c_1 (pLoad PP 139 x35 h32) (some (.tuple []))) fun x36 =>
  ob (pWant x33 false) fun c_2 =>
  ob (sel c_2 (pFieldAddr PP 141 2 x1) (some (.tuple []))) fun x37 =>
  ob (pWant x33 false) fun c_3 =>
  ob (sel c_3 (pLoad PP 139 x37 h32) (some (.tuple []))) fun x38 =>
  ob (ob (pWant x33 false) fun c => some (sel c (chkV x36 (pLoad PP 139 x35 h32)) true)) fun c_4 => sel c_4 (
  ob (ob (pWant x33 false) fun c => some (sel c (chkV x38 (pLoad PP 139 x37 h32)) true)) fun c_5 => sel c_5 (
  ob (pWant x33 false) fun c_6 =>
  obP (sel c_6 (E (.fn 132) [x36, x38] h32) (some (.tuple [], h32))) fun x39 h39 =>
  ob (pWant x33 false) fun c_7 =>
  obP (sel c_7 (E (.fn 134) [] h39) (some (.tuple [], h39))) fun x40 h40 =>
  ob (pWant x33 false) fun c_8 =>
  obP (sel c_8 (E (.fn 133) [x39, x40] h40) (some (.tuple [], h40))) fun x41 h41 =>
  ob (pWant x33 false) fun c_9 =>
  ob (sel c_9 (xbin PP .eql 3 true x41 (.int .i64 0)) (some (.tuple []))) fun x42 =>
  ob (pPick x33 (some (.bool true)) (some x42)) fun x43 =>
  kr x43 h41) none) none) none) none
theorem f109_2_eq (E : Ev) (kn : K) (kx : Nat → K) (kr : K) : f109_2 E (fun y2 h => kr (mkE [(2, y2)]) h) = fun x1 h => R109 E (pb (pb (codeOf fn109))) true 4 (fun _ => 0) kn kx kr (mkE [(1, x1)]) h := by
  funext x1 h
  unfold f109_2
  refine Eq.trans ?_ (R109_unf E _ _ _ _ _ _ _ _).symm
  generalize R109 E = R
  generalize LL = L
  generalize PP = P
  revert R L P
  refine id ?_
  intro R L P
  kernel_rfl
def f109_1 (E : Ev) (kr : AV → Heap → Res) (x1 : AV) (h : Heap) : Res :=
  ob (pFieldAddr PP 141 1 x1) fun x3 =>
  ob (pLoad PP 139 x3 h) fun x4 =>
  obP (E (.fn 142) [x4] h) fun x5 h5 =>
  ob (xun .not x5) fun x6 =>
  ob (pWant x6 false) fun c =>
  ob (sel c (pFieldAddr PP 141 2 x1) (some (.tuple []))) fun x8 =>
  ob (pWant x6 false) fun c_1 =>
  ob (sel c_1 (pLoad PP 139 x8 h5) (some (.tuple []))) fun x9 =>
  ob (pWant x6 false) fun c_2 =>
  obP (sel c_2 (E (.fn 142) [x9] h5) (some (.tuple [], h5))) fun x10 h10 =>
  ob (pWant x6 false) fun c_3 =>
  ob (sel c_3 (xun .not x10) (some (.tuple []))) fun x11 =>
  ob (pPick x6 (some (.bool true)) (some x11)) fun x12 =>
  ob (pWant x12 false) fun c_4 =>
  ob (sel c_4 (pFieldAddr PP 141 2 x1) (some (.tuple []))) fun x14 =>
  ob (pWant x12 false) fun c_5 =>
  ob (sel c_5 (pLoad PP 139 x14 h10) (some (.tuple []))) fun x15 =>
  ob (pWant x12 false) fun c_6 =>
  ob (sel c_6 (xlen PP h10 139 x15) (some (.tuple []))) fun x16 =>
  ob (pWant x12 false) fun c_7 =>
  ob (sel c_7 (xbin PP .eql 3 true x16 (.int .i64 0)) (some (.tuple []))) fun x17 =>
  ob (pPick x12 (some (.bool true)) (some x17)) fun x18 =>
  ob (pWant x18 false) fun c_8 =>
  ob (sel c_8 (pFieldAddr PP 141 0 x1) (some (.tuple []))) fun x20 =>
  ob (pWant x18 false) fun c_9 =>
  ob (sel c_9 (pLoad PP 4 x20 h10) (some (.tuple []))) fun x21 =>
  ob (pWant x18 false) fun c_10 =>
  ob (sel c_10 (some x21) (some (.tuple []))) fun x22 =>
  ob (pWant x22 true) fun c_11 =>
  ob (sel c_11 (pFieldAddr PP 141 1 x1) (some (.tuple []))) fun x23 =>
  ob (pWant x22 true) fun c_12 =>
  ob (sel c_12 (pLoad PP 139 x23 h10) (some (.tuple []))) fun x24 =>
  ob (pWant x22 true) fun c_13 =>
  ob (sel c_13 (xlen PP h10 139 x24) (some (.tuple []))) fun x25 =>
  ob (pWant x22 true) fun c_14 =>
  ob (sel c_14 (xbin PP .eql 3 true x25 (.int .i64 0)) (some (.tuple []))) fun x26 =>
  ob (pWant x18 false) fun c_15 =>
  ob (sel c_15 (pPick x22 (some x26) (some (.bool false))) (some (.tuple []))) fun x27 =>
  ob (pPick x18 (some (.bool true)) (some x27)) fun x28 =>
  pIf x28
   (kr (.bool false) h10)
   (f109_2 E kr x1 h10)
theorem f109_1_eq (E : Ev) (kn : K) (kx : Nat → K) (kr : K) : f109_1 E (fun y2 h => kr (mkE [(2, y2)]) h) = fun x1 h => R109 E (pb (codeOf fn109)) true 4 (fun _ => 0) kn kx kr (mkE [(1, x1)]) h := by
  funext x1 h
  unfold f109_1
  rw [f109_2_eq E kn kx kr]
  refine Eq.trans ?_ (R109_unf E _ _ _ _ _ _ _ _).symm
  generalize R109 E = R
  generalize LL = L
  generalize PP = P
  revert R L P
  refine id ?_
  intro R L P
  kernel_rfl
/-- theodolite/rat.Valid -/
def s109 (E : Ev) (x0 : AV) (h : Heap) : Res :=
  obP (some (pNew h 141 x0.cells)) fun x1 h1 =>
  f109_1 E r109 x1 h1
theorem s109_eq (E : Ev) (x0 : AV) (h : Heap) : xbodyR PP GG CC E LL fn109 [x0] h = s109 E x0 h := by
  unfold s109
  rw [r109_eq, f109_1_eq E (xret PP fn109) noK (xret PP fn109)]
  refine (bodyR_unf (c := (codeOf fn109)) (by kernel_rfl) (by kernel_rfl)).trans ?_
  show runS (R109 E) PP GG CC E fn109.ntmps LL none (resBits fn109.results.toList) (codeOf fn109) _ _ _ _ _ _ _ = _
  generalize R109 E = R
  generalize LL = L
  generalize PP = P
  symm
  revert R L P
  refine id ?_
  intro R L P
  kernel_rfl
def fn110 : Func := fnAt PP 110
def R110 (E : Ev) : RT := runR PP GG CC E 9 LL none 16
theorem R110_unf (E : Ev) (c : Code) (lv : Nat) (lx : Nat → Nat) (kn : K) (kx : Nat → K) (kr : K) (e : Env) (h : Heap) : R110 E c true lv lx kn kx kr e h = runS (R110 E) PP GG CC E 9 LL none 16 c lv lx kn kx kr e h := runR_unf _ _ _ _ _ _ _ _
def r110 (x4 : AV) (h : Heap) : Res := some (x4, h)
theorem r110_eq : r110 = fun x4 h => xret PP fn110 (mkE [(4, x4)]) h := by kernel_rfl
/-- slices.ContainsFunc[[]int,int] -/
def s110 (E : Ev) (x0 x1 : AV) (h : Heap) : Res :=
  obP (E (.fn 143) [x0, x1] h) fun x7 h7 =>
  ob (xbin PP .geq 3 true x7 (.int .i64 0)) fun x8 =>
  r110 x8 h7
theorem s110_eq (E : Ev) (x0 x1 : AV) (h : Heap) : xbodyR PP GG CC E LL fn110 [x0, x1] h = s110 E x0 x1 h := by
  unfold s110
  rw [r110_eq]
  refine (bodyR_unf (c := (codeOf fn110)) (by kernel_rfl) (by kernel_rfl)).trans ?_
  show runS (R110 E) PP GG CC E fn110.ntmps LL none (resBits fn110.results.toList) (codeOf fn110) _ _ _ _ _ _ _ = _
  generalize R110 E = R
  generalize LL = L
  generalize PP = P
  symm
  revert R L P
  refine id ?_
  intro R L P
  kernel_rfl
def fn111 : Func := fnAt PP 111
def R111 (E : Ev) : RT := runR PP GG CC E 8 LL none 8
theorem R111_unf (E : Ev) (c : Code) (lv : Nat) (lx : Nat → Nat) (kn : K) (kx : Nat → K) (kr : K) (e : Env) (h : Heap) : R111 E c true lv lx kn kx kr e h = runS (R111 E) PP GG CC E 8 LL none 8 c lv lx kn kx kr e h := runR_unf _ _ _ _ _ _ _ _
def r111 (x3 : AV) (h : Heap) : Res := some (x3, h)
theorem r111_eq : r111 = fun x3 h => xret PP fn111 (mkE [(3, x3)]) h := by kernel_rfl
/-- (*theodolite/term.Table).Make$1 -/
def s111 (E : Ev) (x0 x1 : AV) (h : Heap) : Res :=
  ob (pLoad PP 36 x1 h) fun x4 =>
  obP (E (.fn 71) [x4, x0] h) fun x6 h6 =>
  ob (xun .not x6) fun x7 =>
  r111 x7 h6
theorem s111_eq (E : Ev) (x0 x1 : AV) (h : Heap) : xbodyR PP GG CC E LL fn111 [x0, x1] h = s111 E x0 x1 h := by
  unfold s111
  rw [r111_eq]
  refine (bodyR_unf (c := (codeOf fn111)) (by kernel_rfl) (by kernel_rfl)).trans ?_
  show runS (R111 E) PP GG CC E fn111.ntmps LL none (resBits fn111.results.toList) (codeOf fn111) _ _ _ _ _ _ _ = _
  generalize R111 E = R
  generalize LL = L
  generalize PP = P
  symm
  revert R L P
  refine id ?_
  intro R L P
  kernel_rfl
def fn112 : Func := fnAt PP 112
def R112 (E : Ev) : RT := runR PP GG CC E 107 LL none 768
theorem R112_unf (E : Ev) (c : Code) (lv : Nat) (lx : Nat → Nat) (kn : K) (kx : Nat → K) (kr : K) (e : Env) (h : Heap) : R112 E c true lv lx kn kx kr e h = runS (R112 E) PP GG CC E 107 LL none 768 c lv lx kn kx kr e h := runR_unf _ _ _ _ _ _ _ _
def r112 (x8 x9 : AV) (h : Heap) : Res := some (.tuple [x8, x9], h)
theorem r112_eq : r112 = fun x8 x9 h => xret PP fn112 (mkE [(8, x8), (9, x9)]) h := by kernel_rfl
def f112_1 (E : Ev) (kr : AV → AV → Heap → Res) (x0 x1 x3 : AV) (h : Heap) : Res :=
  obP (E (.fn 147) [x0, x1, x3] h) fun x106 h106 =>
  kr (.int .i64 1) x106 h106
theorem f112_1_eq (E : Ev) (kn : K) (kx : Nat → K) (kr : K) : f112_1 E (fun y8 y9 h => kr (mkE [(8, y8), (9, y9)]) h) = fun x0 x1 x3 h => R112 E (pb (pb (codeOf fn112))) true 768 (fun _ => 0) kn kx kr (mkE [(0, x0), (1, x1), (3, x3)]) h := by
  funext x0 x1 x3 h
  unfold f112_1
  refine Eq.trans ?_ (R112_unf E _ _ _ _ _ _ _ _).symm
  generalize R112 E = R
  generalize LL = L
  generalize PP = P
  revert R L P
  refine id ?_
  intro R L P
  kernel_rfl
def f112_5 (E : Ev) (kn : AV → AV → AV → Heap → Res) (kr : AV → AV → Heap → Res) (x0 x1 x3 x94 : AV) (h : Heap) : Res :=
  pIf x94
   (obP (E (.fn 147) [x0, x1, x3] h) fun x102 h102 =>
   kr (.int .i64 0) x102 h102)
   (kn x0 x1 x3 h)
theorem f112_5_eq (E : Ev) (kn : K) (kx : Nat → K) (kr : K) : f112_5 E (fun y0 y1 y3 h => kn (mkE [(0, y0), (1, y1), (3, y3)]) h) (fun y8 y9 h => kr (mkE [(8, y8), (9, y9)]) h) = fun x0 x1 x3 x94 h => R112 E (pb (pb (pb (pb (pb (pb (pb (pb (pb (pb (pb (pb (pb (pb (pb (pa (pb (pa (pb (codeOf fn112)))))))))))))))))))) true 11 (fun i => sel (Nat.beq i 0) 11 ((fun _ => 0) i)) kn kx kr (mkE [(0, x0), (1, x1), (3, x3), (94, x94)]) h := by
  funext x0 x1 x3 x94 h
  unfold f112_5
  refine Eq.trans ?_ (R112_unf E _ _ _ _ _ _ _ _).symm
  generalize R112 E = R
  generalize LL = L
  generalize PP = P
  revert R L P
  refine id ?_
  intro R L P
  kernel_rfl
def f112_4 (E : Ev) (kn : AV → AV → AV → Heap → Res) (kr : AV → AV → Heap → Res) (x0 x1 x2 x3 x10 x45 : AV) (h : Heap) : Res :=
  pIf x45
   (obP (E (.fn 145) [x0, x3] h) fun x50 h50 =>
   kr (.int .i64 0) x50 h50)
   (ob (xbin PP .eql 3 true x10 (.int .i64 10)) fun x52 =>
   pIf x52
    (ob (xlen PP h 22 x3) fun x54 =>
    ob (xbin PP .neq 3 true x54 (.int .i64 3)) fun x55 =>
    ob (pWant x55 false) fun c =>
    ob (sel c (some x0) (some (.tuple []))) fun x57 =>
    ob (pWant x55 false) fun c_1 =>
    ob (sel c_1 (pNil x57) (some (.tuple []))) fun x58 =>
    ob (pWant x55 false) fun c_2 =>
    ob (sel c_2 (pFieldAddr PP 100 1 x58) (some (.tuple []))) fun x59 =>
    ob (pWant x55 false) fun c_3 =>
    ob (sel c_3 (pLoad PP 61 x59 h) (some (.tuple []))) fun x60 =>
    ob (pWant x55 false) fun c_4 =>
    ob (sel c_4 (some x3) (some (.tuple []))) fun x61 =>
    ob (pWant x55 false) fun c_5 =>
    ob (sel c_5 (xindexAddr PP 22 x61 (.int .i64 0)) (some (.tuple []))) fun x62 =>
    ob (pWant x55 false) fun c_6 =>
    ob (sel c_6 (pLoad PP 3 x62 h) (some (.tuple []))) fun x63 =>
    ob (pWant x55 false) fun c_7 =>
    ob (sel c_7 (xindexAddr PP 61 x60 x63) (some (.tuple []))) fun x64 =>
    ob (pWant x55 false) fun c_8 =>
    ob (sel c_8 (pFieldAddr PP 143 4 x64) (some (.tuple []))) fun x65 =>
    ob (pWant x55 false) fun c_9 =>
    ob (sel c_9 (pLoad PP 3 x65 h) (some (.tuple []))) fun x66 =>
    ob (pWant x55 false) fun c_10 =>
    ob (sel c_10 (xbin PP .neq 3 true x66 (.int .i64 0)) (some (.tuple []))) fun x67 =>
    ob (pPick x55 (some (.bool true)) (some x67)) fun x68 =>
    ob (pWant x68 false) fun c_11 =>
    ob (sel c_11 (some x0) (some (.tuple []))) fun x70 =>
    ob (pWant x68 false) fun c_12 =>
    ob (sel c_12 (some x3) (some (.tuple []))) fun x71 =>
    ob (pWant x68 false) fun c_13 =>
    obP (sel c_13 (xslice PP h 22 x71 (some (.int .i64 1)) none none) (some (.tuple [], h))) fun x72 h72 => sel (Nat.beq h72.nx h.nx) (
    sel (chkV x54 (xlen PP h72 22 x3)) (
    ob (ob (pWant x55 false) fun c => some (sel c (chkV x60 (pLoad PP 61 x59 h72)) true)) fun c_14 => sel c_14 (
    ob (ob (pWant x55 false) fun c => some (sel c (chkV x63 (pLoad PP 3 x62 h72)) true)) fun c_15 => sel c_15 (
    ob (ob (pWant x55 false) fun c => some (sel c (chkV x66 (pLoad PP 3 x65 h72)) true)) fun c_16 => sel c_16 (
    ob (ob (pWant x68 false) fun c => some (sel c (chkE h72 x72 (xslice PP h72 22 x71 (some (.int .i64 1)) none none)) true)) fun c_17 => sel c_17 (
    ob (pWant x68 false) fun c_18 =>
    obP (sel c_18 (E (.fn 145) [x70, x72] h72) (some (.tuple [], h72))) fun x73 h73 =>
    ob (pWant x68 false) fun c_19 =>
    ob (sel c_19 (xun .not x73) (some (.tuple []))) fun x74 =>
    ob (pPick x68 (some (.bool true)) (some x74)) fun x75 =>
    pIf x75
     (kr (.int .i64 0) (.bool false) h73)
     (ob (pNil x0) fun x77 =>
     ob (pFieldAddr PP 100 1 x77) fun x78 =>
     ob (pLoad PP 61 x78 h73) fun x79 =>
     ob (xindexAddr PP 22 x3 (.int .i64 1)) fun x81 =>
     ob (pLoad PP 3 x81 h73) fun x82 =>
     ob (xindexAddr PP 61 x79 x82) fun x83 =>
     ob (pFieldAddr PP 143 4 x83) fun x84 =>
     ob (pLoad PP 3 x84 h73) fun x85 =>
     sel (chkV x79 (pLoad PP 61 x78 h73)) (
     sel (chkV x82 (pLoad PP 3 x81 h73)) (
     sel (chkV x85 (pLoad PP 3 x84 h73)) (
     kr x85 (.bool true) h73) none) none) none)) none) none) none) none) none) none)
    (ob (xbin PP .eql 3 true x10 (.int .i64 12)) fun x87 =>
    pIf x87
     (obP (E (.fn 146) [x0, x2, x3] h) fun x91 h91 =>
     ob (pExtract 0 x91) fun x92 =>
     ob (pExtract 1 x91) fun x93 =>
     kr x92 x93 h91)
     (ob (xbin PP .eql 3 true x10 (.int .i64 17)) fun x95 =>
     pIf x95
      (f112_5 E kn kr x0 x1 x3 x95 h)
      (ob (xbin PP .eql 3 true x10 (.int .i64 18)) fun x96 =>
      pIf x96
       (f112_5 E kn kr x0 x1 x3 x96 h)
       (ob (xbin PP .eql 3 true x10 (.int .i64 19)) fun x97 =>
       pIf x97
        (f112_5 E kn kr x0 x1 x3 x97 h)
        (ob (xbin PP .eql 3 true x10 (.int .i64 20)) fun x98 =>
        f112_5 E kn kr x0 x1 x3 x98 h))))))
theorem f112_4_eq (E : Ev) (kn : K) (kx : Nat → K) (kr : K) : f112_4 E (fun y0 y1 y3 h => kn (mkE [(0, y0), (1, y1), (3, y3)]) h) (fun y8 y9 h => kr (mkE [(8, y8), (9, y9)]) h) = fun x0 x1 x2 x3 x10 x45 h => R112 E (pb (pb (pb (pb (pb (pb (pb (pb (pb (pa (pb (pa (pb (codeOf fn112)))))))))))))) true 11 (fun i => sel (Nat.beq i 0) 11 ((fun _ => 0) i)) kn kx kr (mkE [(0, x0), (1, x1), (2, x2), (3, x3), (10, x10), (45, x45)]) h := by
  funext x0 x1 x2 x3 x10 x45 h
  unfold f112_4
  rw [f112_5_eq E kn kx kr]
  refine Eq.trans ?_ (R112_unf E _ _ _ _ _ _ _ _).symm
  generalize R112 E = R
  generalize LL = L
  generalize PP = P
  revert R L P
  refine id ?_
  intro R L P
  kernel_rfl
def f112_3 (E : Ev) (kn : AV → AV → AV → Heap → Res) (kr : AV → AV → Heap → Res) (x0 x1 x2 x3 x10 x32 : AV) (h : Heap) : Res :=
  pIf x32
   (ob (xlen PP h 22 x3) fun x38 =>
   ob (xbin PP .geq 3 true x38 (.int .i64 2)) fun x39 =>
   ob (pWant x39 true) fun c =>
   ob (sel c (some x0) (some (.tuple []))) fun x41 =>
   ob (pWant x39 true) fun c_1 =>
   ob (sel c_1 (some x3) (some (.tuple []))) fun x42 =>
   ob (pWant x39 true) fun c_2 =>
   obP (sel c_2 (E (.fn 144) [x41, x42, (.int .i64 0)] h) (some (.tuple [], h))) fun x43 h43 =>
   ob (pPick x39 (some x43) (some (.bool false))) fun x44 =>
   kr (.int .i64 0) x44 h43)
   (ob (xbin PP .eql 3 true x10 (.int .i64 8)) fun x46 =>
   pIf x46
    (f112_4 E kn kr x0 x1 x2 x3 x10 x46 h)
    (ob (xbin PP .eql 3 true x10 (.int .i64 9)) fun x47 =>
    f112_4 E kn kr x0 x1 x2 x3 x10 x47 h))
theorem f112_3_eq (E : Ev) (kn : K) (kx : Nat → K) (kr : K) : f112_3 E (fun y0 y1 y3 h => kn (mkE [(0, y0), (1, y1), (3, y3)]) h) (fun y8 y9 h => kr (mkE [(8, y8), (9, y9)]) h) = fun x0 x1 x2 x3 x10 x32 h => R112 E (pb (pb (pb (pb (pb (pb (pb (pa (pb (pa (pb (codeOf fn112)))))))))))) true 11 (fun i => sel (Nat.beq i 0) 11 ((fun _ => 0) i)) kn kx kr (mkE [(0, x0), (1, x1), (2, x2), (3, x3), (10, x10), (32, x32)]) h := by
  funext x0 x1 x2 x3 x10 x32 h
  unfold f112_3
  rw [f112_4_eq E kn kx kr]
  refine Eq.trans ?_ (R112_unf E _ _ _ _ _ _ _ _).symm
  generalize R112 E = R
  generalize LL = L
  generalize PP = P
  revert R L P
  refine id ?_
  intro R L P
  kernel_rfl
def f112_2 (E : Ev) (kn : AV → AV → AV → Heap → Res) (kr : AV → AV → Heap → Res) (x0 x1 x2 x3 x10 x11 : AV) (h : Heap) : Res :=
  pIf x11
   (ob (xlen PP h 22 x3) fun x15 =>
   ob (xbin PP .eql 3 true x15 (.int .i64 0)) fun x16 =>
   kr (.int .i64 0) x16 h)
   (ob (xbin PP .eql 3 true x10 (.int .i64 11)) fun x18 =>
   pIf x18
    (ob (xlen PP h 22 x3) fun x20 =>
    ob (xbin PP .eql 3 true x20 (.int .i64 0)) fun x21 =>
    kr (.int .i64 1) x21 h)
    (ob (xbin PP .eql 3 true x10 (.int .i64 3)) fun x23 =>
    pIf x23
     (ob (xlen PP h 22 x3) fun x25 =>
     ob (xbin PP .eql 3 true x25 (.int .i64 1)) fun x26 =>
     ob (pWant x26 true) fun c =>
     ob (sel c (some x0) (some (.tuple []))) fun x28 =>
     ob (pWant x26 true) fun c_1 =>
     ob (sel c_1 (some x3) (some (.tuple []))) fun x29 =>
     ob (pWant x26 true) fun c_2 =>
     obP (sel c_2 (E (.fn 144) [x28, x29, (.int .i64 0)] h) (some (.tuple [], h))) fun x30 h30 =>
     ob (pPick x26 (some x30) (some (.bool false))) fun x31 =>
     kr (.int .i64 0) x31 h30)
     (ob (xbin PP .eql 3 true x10 (.int .i64 4)) fun x33 =>
     pIf x33
      (f112_3 E kn kr x0 x1 x2 x3 x10 x33 h)
      (ob (xbin PP .eql 3 true x10 (.int .i64 5)) fun x34 =>
      pIf x34
       (f112_3 E kn kr x0 x1 x2 x3 x10 x34 h)
       (ob (xbin PP .eql 3 true x10 (.int .i64 6)) fun x35 =>
       pIf x35
        (f112_3 E kn kr x0 x1 x2 x3 x10 x35 h)
        (ob (xbin PP .eql 3 true x10 (.int .i64 7)) fun x36 =>
        f112_3 E kn kr x0 x1 x2 x3 x10 x36 h))))))
theorem f112_2_eq (E : Ev) (kn : K) (kx : Nat → K) (kr : K) : f112_2 E (fun y0 y1 y3 h => kn (mkE [(0, y0), (1, y1), (3, y3)]) h) (fun y8 y9 h => kr (mkE [(8, y8), (9, y9)]) h) = fun x0 x1 x2 x3 x10 x11 h => R112 E (pb (pa (pb (pa (pb (codeOf fn112)))))) true 11 (fun i => sel (Nat.beq i 0) 11 ((fun _ => 0) i)) kn kx kr (mkE [(0, x0), (1, x1), (2, x2), (3, x3), (10, x10), (11, x11)]) h := by
  funext x0 x1 x2 x3 x10 x11 h
  unfold f112_2
  rw [f112_3_eq E kn kx kr]
  refine Eq.trans ?_ (R112_unf E _ _ _ _ _ _ _ _).symm
  generalize R112 E = R
  generalize LL = L
  generalize PP = P
  revert R L P
  refine id ?_
  intro R L P
  kernel_rfl
/-- (*theodolite/term.Table).sorted -/
def s112 (E : Ev) (x0 x1 x2 x3 : AV) (h : Heap) : Res :=
  ob (xbin PP .eql 3 true x1 (.int .i64 1)) fun x12 =>
  pIf x12
   (f112_2 E (f112_1 E r112) r112 x0 x1 x2 x3 x1 x12 h)
   (ob (xbin PP .eql 3 true x1 (.int .i64 2)) fun x13 =>
   f112_2 E (f112_1 E r112) r112 x0 x1 x2 x3 x1 x13 h)
theorem s112_eq (E : Ev) (x0 x1 x2 x3 : AV) (h : Heap) : xbodyR PP GG CC E LL fn112 [x0, x1, x2, x3] h = s112 E x0 x1 x2 x3 h := by
  unfold s112
  rw [r112_eq, f112_1_eq E (xret PP fn112) noK (xret PP fn112), f112_2_eq E (R112 E (pb (pb (codeOf fn112))) true 768 (fun _ => 0) (xret PP fn112) noK (xret PP fn112)) (fun i => sel (Nat.beq i 0) (R112 E (pb (pb (codeOf fn112))) true 768 (fun _ => 0) (xret PP fn112) noK (xret PP fn112)) (noK i)) (xret PP fn112)]
  refine (bodyR_unf (c := (codeOf fn112)) (by kernel_rfl) (by kernel_rfl)).trans ?_
  show runS (R112 E) PP GG CC E fn112.ntmps LL none (resBits fn112.results.toList) (codeOf fn112) _ _ _ _ _ _ _ = _
  generalize R112 E = R
  generalize LL = L
  generalize PP = P
  symm
  revert R L P
  refine id ?_
  intro R L P
  kernel_rfl
def fn116 : Func := fnAt PP 116
def R116 (E : Ev) : RT := runR PP GG CC E 19 LL none 16
theorem R116_unf (E : Ev) (c : Code) (lv : Nat) (lx : Nat → Nat) (kn : K) (kx : Nat → K) (kr : K) (e : Env) (h : Heap) : R116 E c true lv lx kn kx kr e h = runS (R116 E) PP GG CC E 19 LL none 16 c lv lx kn kx kr e h := runR_unf _ _ _ _ _ _ _ _
def r116 (x4 : AV) (h : Heap) : Res := some (x4, h)
theorem r116_eq : r116 = fun x4 h => xret PP fn116 (mkE [(4, x4)]) h := by kernel_rfl
def f116_1 (E : Ev) (kr : AV → Heap → Res) (h : Heap) : Res :=
  kr (.int .i64 (-1)) h
theorem f116_1_eq (E : Ev) (kn : K) (kx : Nat → K) (kr : K) : f116_1 E (fun y4 h => kr (mkE [(4, y4)]) h) = fun h => R116 E (pb (pb (codeOf fn116))) true 16 (fun _ => 0) kn kx kr (mkE []) h := by
  funext h
  unfold f116_1
  refine Eq.trans ?_ (R116_unf E _ _ _ _ _ _ _ _).symm
  generalize R116 E = R
  generalize LL = L
  generalize PP = P
  revert R L P
  refine id ?_
  intro R L P
  kernel_rfl
def f116_2 (E : Ev) (kn : AV → AV → AV → AV → Heap → Res) (k0 : Heap → Res) (kr : AV → Heap → Res) (x0 x1 x7 x8 : AV) (h : Heap) : Res :=
  ob (xbin PP .lss 3 false x8 x7) fun x9 =>
  pIf x9
   (ob (xindexAddr PP 77 x0 x8) fun x14 =>
   ob (pLoad PP 117 x14 h) fun x15 =>
   obP (xcallV ⟨PP, GG, CC, E⟩ x1 [x15] h) fun x16 h16 =>
   pIf x16
    (kr x8 h16)
    (ob (xbin PP .add 3 true x8 (.int .i64 1)) fun x18 =>
    kn x0 x1 x7 x18 h16))
   (k0 h)
theorem f116_2_eq (E : Ev) (kn : K) (kx : Nat → K) (kr : K) (e0 : K) (he0 : kx 0 = e0) : f116_2 E (fun y0 y1 y7 y8 h => kn (mkE [(0, y0), (1, y1), (7, y7), (8, y8)]) h) (fun h => e0 (mkE []) h) (fun y4 h => kr (mkE [(4, y4)]) h) = fun x0 x1 x7 x8 h => R116 E (pa (pa (pb (pa (pb (codeOf fn116)))))) true 387 (fun i => sel (Nat.beq i 0) 0 ((fun _ => 0) i)) kn kx kr (mkE [(0, x0), (1, x1), (7, x7), (8, x8)]) h := by
  subst he0
  funext x0 x1 x7 x8 h
  unfold f116_2
  refine Eq.trans ?_ (R116_unf E _ _ _ _ _ _ _ _).symm
  generalize R116 E = R
  generalize LL = L
  generalize PP = P
  revert R L P
  refine id ?_
  intro R L P
  kernel_rfl
/-- slices.IndexFunc[[]theodolite/script.Param,theodolite/script.Param] -/
def s116 (E : Ev) (x0 x1 : AV) (h : Heap) : Res :=
  ob (xlen PP h 77 x0) fun x7 =>
  lp b4 (fun k => f116_2 E k (f116_1 E r116) r116) LL x0 x1 x7 (.int .i64 0) h
theorem s116_eq (E : Ev) (x0 x1 : AV) (h : Heap) : xbodyR PP GG CC E LL fn116 [x0, x1] h = s116 E x0 x1 h := by
  unfold s116
  rw [r116_eq, f116_1_eq E (xret PP fn116) noK (xret PP fn116), lp4_eq 0 1 7 8 (fun k => (R116 E (pa (pa (pb (pa (pb (codeOf fn116)))))) true 387 (fun i => sel (Nat.beq i 0) 0 ((fun _ => 0) i)) k (fun i => sel (Nat.beq i 0) (R116 E (pb (pb (codeOf fn116))) true 16 (fun _ => 0) (xret PP fn116) noK (xret PP fn116)) (noK i)) (xret PP fn116))) (fun k => f116_2 E k (fun h => (R116 E (pb (pb (codeOf fn116))) true 16 (fun _ => 0) (xret PP fn116) noK (xret PP fn116)) (mkE []) h) (fun y4 h => (xret PP fn116) (mkE [(4, y4)]) h)) (fun k => f116_2_eq E k (fun i => sel (Nat.beq i 0) (R116 E (pb (pb (codeOf fn116))) true 16 (fun _ => 0) (xret PP fn116) noK (xret PP fn116)) (noK i)) (xret PP fn116) (R116 E (pb (pb (codeOf fn116))) true 16 (fun _ => 0) (xret PP fn116) noK (xret PP fn116)) rfl) LL]
  refine (bodyR_unf (c := (codeOf fn116)) (by kernel_rfl) (by kernel_rfl)).trans ?_
  show runS (R116 E) PP GG CC E fn116.ntmps LL none (resBits fn116.results.toList) (codeOf fn116) _ _ _ _ _ _ _ = _
  generalize R116 E = R
  generalize LL = L
  generalize PP = P
  symm
  revert R L P
  refine id ?_
  intro R L P
  kernel_rfl
def fn117 : Func := fnAt PP 117
def R117 (E : Ev) : RT := runR PP GG CC E 19 LL none 48
theorem R117_unf (E : Ev) (c : Code) (lv : Nat) (lx : Nat → Nat) (kn : K) (kx : Nat → K) (kr : K) (e : Env) (h : Heap) : R117 E c true lv lx kn kx kr e h = runS (R117 E) PP GG CC E 19 LL none 48 c lv lx kn kx kr e h := runR_unf _ _ _ _ _ _ _ _
def r117 (x4 x5 : AV) (h : Heap) : Res := some (.tuple [x4, x5], h)
theorem r117_eq : r117 = fun x4 x5 h => xret PP fn117 (mkE [(4, x4), (5, x5)]) h := by kernel_rfl
/-- (*strings.Builder).WriteString -/
def s117 (E : Ev) (x0 x1 : AV) (h : Heap) : Res :=
  obP (E (.fn 150) [x0] h) fun x7 h7 =>
  ob (pNil x0) fun x10 =>
  ob (pFieldAddr PP 204 1 x10) fun x11 =>
  ob (pLoad PP 41 x11 h7) fun x12 =>
  obP (xappend PP h7 41 9 x12 x1) fun x14 h14 =>
  ob (pNil x0) fun x15 =>
  ob (pFieldAddr PP 204 1 x15) fun x16 =>
  ob (pStore PP 41 x16 x14 h14) fun h0 =>
  ob (xlen PP h0 9 x1) fun x18 =>
  r117 x18 .nilIface h0
theorem s117_eq (E : Ev) (x0 x1 : AV) (h : Heap) : xbodyR PP GG CC E LL fn117 [x0, x1] h = s117 E x0 x1 h := by
  unfold s117
  rw [r117_eq]
  refine (bodyR_unf (c := (codeOf fn117)) (by kernel_rfl) (by kernel_rfl)).trans ?_
  show runS (R117 E) PP GG CC E fn117.ntmps LL none (resBits fn117.results.toList) (codeOf fn117) _ _ _ _ _ _ _ = _
  generalize R117 E = R
  generalize LL = L
  generalize PP = P
  symm
  revert R L P
  refine id ?_
  intro R L P
  kernel_rfl
def fn118 : Func := fnAt PP 118
def R118 (E : Ev) : RT := runR PP GG CC E 5 LL none 4
theorem R118_unf (E : Ev) (c : Code) (lv : Nat) (lx : Nat → Nat) (kn : K) (kx : Nat → K) (kr : K) (e : Env) (h : Heap) : R118 E c true lv lx kn kx kr e h = runS (R118 E) PP GG CC E 5 LL none 4 c lv lx kn kx kr e h := runR_unf _ _ _ _ _ _ _ _
def r118 (x2 : AV) (h : Heap) : Res := some (x2, h)
theorem r118_eq : r118 = fun x2 h => xret PP fn118 (mkE [(2, x2)]) h := by kernel_rfl
/-- strconv.Quote -/
def s118 (E : Ev) (x0 : AV) (h : Heap) : Res :=
  obP (E (.fn 151) [x0, (.int .u8 34), (.bool false), (.bool false)] h) fun x4 h4 =>
  r118 x4 h4
theorem s118_eq (E : Ev) (x0 : AV) (h : Heap) : xbodyR PP GG CC E LL fn118 [x0] h = s118 E x0 h := by
  unfold s118
  rw [r118_eq]
  refine (bodyR_unf (c := (codeOf fn118)) (by kernel_rfl) (by kernel_rfl)).trans ?_
  show runS (R118 E) PP GG CC E fn118.ntmps LL none (resBits fn118.results.toList) (codeOf fn118) _ _ _ _ _ _ _ = _
  generalize R118 E = R
  generalize LL = L
  generalize PP = P
  symm
  revert R L P
  refine id ?_
  intro R L P
  kernel_rfl
def fn119 : Func := fnAt PP 119
def R119 (E : Ev) : RT := runR PP GG CC E 5 LL none 4
theorem R119_unf (E : Ev) (c : Code) (lv : Nat) (lx : Nat → Nat) (kn : K) (kx : Nat → K) (kr : K) (e : Env) (h : Heap) : R119 E c true lv lx kn kx kr e h = runS (R119 E) PP GG CC E 5 LL none 4 c lv lx kn kx kr e h := runR_unf _ _ _ _ _ _ _ _
def r119 (x2 : AV) (h : Heap) : Res := some (x2, h)
theorem r119_eq : r119 = fun x2 h => xret PP fn119 (mkE [(2, x2)]) h := by kernel_rfl
/-- strconv.FormatBool -/
def s119 (E : Ev) (x0 : AV) (h : Heap) : Res :=
  obP (E (.fn 152) [x0] h) fun x4 h4 =>
  r119 x4 h4
theorem s119_eq (E : Ev) (x0 : AV) (h : Heap) : xbodyR PP GG CC E LL fn119 [x0] h = s119 E x0 h := by
  unfold s119
  rw [r119_eq]
  refine (bodyR_unf (c := (codeOf fn119)) (by kernel_rfl) (by kernel_rfl)).trans ?_
  show runS (R119 E) PP GG CC E fn119.ntmps LL none (resBits fn119.results.toList) (codeOf fn119) _ _ _ _ _ _ _ = _
  generalize R119 E = R
  generalize LL = L
  generalize PP = P
  symm
  revert R L P
  refine id ?_
  intro R L P
  kernel_rfl
def fn120 : Func := fnAt PP 120
def R120 (E : Ev) : RT := runR PP GG CC E 8 LL none 16
theorem R120_unf (E : Ev) (c : Code) (lv : Nat) (lx : Nat → Nat) (kn : K) (kx : Nat → K) (kr : K) (e : Env) (h : Heap) : R120 E c true lv lx kn kx kr e h = runS (R120 E) PP GG CC E 8 LL none 16 c lv lx kn kx kr e h := runR_unf _ _ _ _ _ _ _ _
def r120 (x4 : AV) (h : Heap) : Res := some (x4, h)
theorem r120_eq : r120 = fun x4 h => xret PP fn120 (mkE [(4, x4)]) h := by kernel_rfl
/-- strconv.FormatUint -/
def s120 (E : Ev) (x0 x1 : AV) (h : Heap) : Res :=
  obP (E (.fn 153) [x0, x1] h) fun x7 h7 =>
  r120 x7 h7
theorem s120_eq (E : Ev) (x0 x1 : AV) (h : Heap) : xbodyR PP GG CC E LL fn120 [x0, x1] h = s120 E x0 x1 h := by
  unfold s120
  rw [r120_eq]
  refine (bodyR_unf (c := (codeOf fn120)) (by kernel_rfl) (by kernel_rfl)).trans ?_
  show runS (R120 E) PP GG CC E fn120.ntmps LL none (resBits fn120.results.toList) (codeOf fn120) _ _ _ _ _ _ _ = _
  generalize R120 E = R
  generalize LL = L
  generalize PP = P
  symm
  revert R L P
  refine id ?_
  intro R L P
  kernel_rfl
def fn121 : Func := fnAt PP 121
def R121 (E : Ev) : RT := runR PP GG CC E 14 LL none 4
theorem R121_unf (E : Ev) (c : Code) (lv : Nat) (lx : Nat → Nat) (kn : K) (kx : Nat → K) (kr : K) (e : Env) (h : Heap) : R121 E c true lv lx kn kx kr e h = runS (R121 E) PP GG CC E 14 LL none 4 c lv lx kn kx kr e h := runR_unf _ _ _ _ _ _ _ _
def r121 (x2 : AV) (h : Heap) : Res := some (x2, h)
theorem r121_eq : r121 = fun x2 h => xret PP fn121 (mkE [(2, x2)]) h := by kernel_rfl
/-- (*strings.Builder).String -/
def s121 (E : Ev) (x0 : AV) (h : Heap) : Res :=
  ob (pNil x0) fun x4 =>
  ob (pFieldAddr PP 204 1 x4) fun x5 =>
  ob (pLoad PP 41 x5 h) fun x6 =>
  obP (xunsafeSliceData h x6) fun x7 h7 => sel (Nat.beq h7.nx h.nx) (
  ob (pNil x0) fun x9 =>
  ob (pFieldAddr PP 204 1 x9) fun x10 =>
  ob (pLoad PP 41 x10 h7) fun x11 =>
  ob (xlen PP h7 41 x11) fun x12 =>
  sel (chkV x6 (pLoad PP 41 x5 h7)) (
  sel (chkE h7 x7 (xunsafeSliceData h7 x6)) (
  sel (chkV x11 (pLoad PP 41 x10 h7)) (
  sel (chkV x12 (xlen PP h7 41 x11)) (
  obP (xunsafeString PP h7 241 x7 x12) fun x13 h13 =>
  r121 x13 h13) none) none) none) none) none
theorem s121_eq (E : Ev) (x0 : AV) (h : Heap) : xbodyR PP GG CC E LL fn121 [x0] h = s121 E x0 h := by
  unfold s121
  rw [r121_eq]
  refine (bodyR_unf (c := (codeOf fn121)) (by kernel_rfl) (by kernel_rfl)).trans ?_
  show runS (R121 E) PP GG CC E fn121.ntmps LL none (resBits fn121.results.toList) (codeOf fn121) _ _ _ _ _ _ _ = _
  generalize R121 E = R
  generalize LL = L
  generalize PP = P
  symm
  revert R L P
  refine id ?_
  intro R L P
  kernel_rfl
def fn122 : Func := fnAt PP 122
def R122 (E : Ev) : RT := runR PP GG CC E 8 LL none 4
theorem R122_unf (E : Ev) (c : Code) (lv : Nat) (lx : Nat → Nat) (kn : K) (kx : Nat → K) (kr : K) (e : Env) (h : Heap) : R122 E c true lv lx kn kx kr e h = runS (R122 E) PP GG CC E 8 LL none 4 c lv lx kn kx kr e h := runR_unf _ _ _ _ _ _ _ _
def r122 (x2 : AV) (h : Heap) : Res := some (x2, h)
theorem r122_eq : r122 = fun x2 h => xret PP fn122 (mkE [(2, x2)]) h := by kernel_rfl
/-- slices.Clone[[]uint64,uint64] -/
def s122 (E : Ev) (x0 : AV) (h : Heap) : Res :=
  ob (xbin PP .eql 139 true x0 .nilSlice) fun x4 =>
  pIf x4
   (r122 .nilSlice h)
   (obP (pBuildSlice PP h 139 0 []) fun x5 h5 =>
   obP (xappend PP h5 139 139 x5 x0) fun x7 h7 =>
   r122 x7 h7)
theorem s122_eq (E : Ev) (x0 : AV) (h : Heap) : xbodyR PP GG CC E LL fn122 [x0] h = s122 E x0 h := by
  unfold s122
  rw [r122_eq]
  refine (bodyR_unf (c := (codeOf fn122)) (by kernel_rfl) (by kernel_rfl)).trans ?_
  show runS (R122 E) PP GG CC E fn122.ntmps LL none (resBits fn122.results.toList) (codeOf fn122) _ _ _ _ _ _ _ = _
  generalize R122 E = R
  generalize LL = L
  generalize PP = P
  symm
  revert R L P
  refine id ?_
  intro R L P
  kernel_rfl
def fn123 : Func := fnAt PP 123
def R123 (E : Ev) : RT := runR PP GG CC E 54 LL none 16
theorem R123_unf (E : Ev) (c : Code) (lv : Nat) (lx : Nat → Nat) (kn : K) (kx : Nat → K) (kr : K) (e : Env) (h : Heap) : R123 E c true lv lx kn kx kr e h = runS (R123 E) PP GG CC E 54 LL none 16 c lv lx kn kx kr e h := runR_unf _ _ _ _ _ _ _ _
def r123 (x4 : AV) (h : Heap) : Res := some (x4, h)
theorem r123_eq : r123 = fun x4 h => xret PP fn123 (mkE [(4, x4)]) h := by kernel_rfl
def f123_1 (E : Ev) (kr : AV → Heap → Res) (x0 x1 : AV) (h : Heap) : Res :=
  ob (pInt PP 2 208 x0) fun x46 =>
  ob (xbin PP .lss 2 true x0 (.int .i64 0)) fun x49 =>
  obP (E (.fn 157) [.nilSlice, x46, x1, x49, (.bool false)] h) fun x50 h50 =>
  ob (pExtract 0 x50) fun x51 =>
  ob (pExtract 1 x50) fun x52 =>
  kr x52 h50
theorem f123_1_eq (E : Ev) (kn : K) (kx : Nat → K) (kr : K) : f123_1 E (fun y4 h => kr (mkE [(4, y4)]) h) = fun x0 x1 h => R123 E (pb (pb (codeOf fn123))) true 16 (fun _ => 0) kn kx kr (mkE [(0, x0), (1, x1)]) h := by
  funext x0 x1 h
  unfold f123_1
  refine Eq.trans ?_ (R123_unf E _ _ _ _ _ _ _ _).symm
  generalize R123 E = R
  generalize LL = L
  generalize PP = P
  revert R L P
  refine id ?_
  intro R L P
  kernel_rfl
def f123_2 (E : Ev) (kr : AV → Heap → Res) (x0 x5 x6 : AV) (h : Heap) : Res :=
  obP (E (.fn 155) [x6] h) fun x27 h27 =>
  ob (xbin PP .add 3 true (.int .i64 1) x27) fun x29 =>
  obP (xslice PP h27 242 x5 (some (.int .i64 1)) (some x29) none) fun x30 h30 =>
  obP (E (.fn 156) [x30, x6] h30) fun x32 h32 =>
  ob (xbin PP .lss 2 true x0 (.int .i64 0)) fun x34 =>
  pIf x34
   (ob (xindexAddr PP 242 x5 (.int .i64 0)) fun x35 =>
   ob (pStore PP 5 x35 (.int .u8 45) h32) fun h0 =>
   ob (xbin PP .add 3 true (.int .i64 1) x27) fun x37 =>
   obP (xslice PP h0 242 x5 none (some x37) none) fun x38 h38 =>
   obP (pConv PP h38 41 9 x38) fun x39 h39 =>
   kr x39 h39)
   (ob (xbin PP .add 3 true (.int .i64 1) x27) fun x41 =>
   obP (xslice PP h32 242 x5 (some (.int .i64 1)) (some x41) none) fun x42 h42 =>
   obP (pConv PP h42 41 9 x42) fun x43 h43 =>
   kr x43 h43)
theorem f123_2_eq (E : Ev) (kn : K) (kx : Nat → K) (kr : K) : f123_2 E (fun y4 h => kr (mkE [(4, y4)]) h) = fun x0 x5 x6 h => R123 E (pb (pb (pb (pb (pa (pb (pa (pb (codeOf fn123))))))))) true 3 (fun _ => 0) kn kx kr (mkE [(0, x0), (5, x5), (6, x6)]) h := by
  funext x0 x5 x6 h
  unfold f123_2
  refine Eq.trans ?_ (R123_unf E _ _ _ _ _ _ _ _).symm
  generalize R123 E = R
  generalize LL = L
  generalize PP = P
  revert R L P
  refine id ?_
  intro R L P
  kernel_rfl
/-- internal/strconv.FormatInt -/
def s123 (E : Ev) (x0 x1 : AV) (h : Heap) : Res :=
  ob (xbin PP .eql 3 true x1 (.int .i64 10)) fun x11 =>
  pIf x11
   (ob (xbin PP .leq 2 true (.int .i64 0) x0) fun x13 =>
   ob (pWant x13 true) fun c =>
   ob (sel c (some x0) (some (.tuple []))) fun x15 =>
   ob (pWant x13 true) fun c_1 =>
   ob (sel c_1 (xbin PP .lss 2 true x15 (.int .i64 100)) (some (.tuple []))) fun x16 =>
   ob (pPick x13 (some x16) (some (.bool false))) fun x17 =>
   pIf x17
    (obP (E (.fn 154) [x0] h) fun x19 h19 =>
    r123 x19 h19)
    (obP (ob (zeroC PP 242) fun z => some (pNew h 242 z)) fun x5 h5 =>
    ob (pInt PP 2 208 x0) fun x21 =>
    ob (xbin PP .lss 2 true x0 (.int .i64 0)) fun x23 =>
    pIf x23
     (ob (xun .neg x21) fun x25 =>
     f123_2 E r123 x0 x5 x25 h5)
     (f123_2 E r123 x0 x5 x21 h5)))
   (f123_1 E r123 x0 x1 h)
theorem s123_eq (E : Ev) (x0 x1 : AV) (h : Heap) : xbodyR PP GG CC E LL fn123 [x0, x1] h = s123 E x0 x1 h := by
  unfold s123
  rw [r123_eq, f123_1_eq E (xret PP fn123) noK (xret PP fn123), f123_2_eq E (R123 E (pb (pb (codeOf fn123))) true 16 (fun _ => 0) (xret PP fn123) noK (xret PP fn123)) noK (xret PP fn123)]
  refine (bodyR_unf (c := (codeOf fn123)) (by kernel_rfl) (by kernel_rfl)).trans ?_
  show runS (R123 E) PP GG CC E fn123.ntmps LL none (resBits fn123.results.toList) (codeOf fn123) _ _ _ _ _ _ _ = _
  generalize R123 E = R
  generalize LL = L
  generalize PP = P
  symm
  revert R L P
  refine id ?_
  intro R L P
  kernel_rfl
def fn124 : Func := fnAt PP 124
def R124 (E : Ev) : RT := runR PP GG CC E 19 LL none 0
theorem R124_unf (E : Ev) (c : Code) (lv : Nat) (lx : Nat → Nat) (kn : K) (kx : Nat → K) (kr : K) (e : Env) (h : Heap) : R124 E c true lv lx kn kx kr e h = runS (R124 E) PP GG CC E 19 LL none 0 c lv lx kn kx kr e h := runR_unf _ _ _ _ _ _ _ _
def r124 (h : Heap) : Res := some (.tuple [], h)
theorem r124_eq : r124 = fun h => xret PP fn124 (mkE []) h := by kernel_rfl
def f124_1 (E : Ev) (kn : AV → AV → AV → Heap → Res) (k0 : Heap → Res) (kr : Heap → Res) (x0 x1 x3 : AV) (h : Heap) : Res :=
  ob (xbin PP .geq 3 true x3 (.int .i64 0)) fun x8 =>
  pIf x8
   (ob (pLoad PP 107 x1 h) fun x13 =>
   ob (xindexAddr PP 107 x13 x3) fun x15 =>
   ob (pLoad PP 120 x15 h) fun x16 =>
   obP (xcallV ⟨PP, GG, CC, E⟩ x0 [x3, x16] h) fun x17 h17 =>
   ob (xun .not x17) fun x18 =>
   pIf x18
    (kr h17)
    (ob (xbin PP .sub 3 true x3 (.int .i64 1)) fun x10 =>
    kn x0 x1 x10 h17))
   (k0 h)
theorem f124_1_eq (E : Ev) (kn : K) (kx : Nat → K) (kr : K) (e0 : K) (he0 : kx 0 = e0) : f124_1 E (fun y0 y1 y3 h => kn (mkE [(0, y0), (1, y1), (3, y3)]) h) (fun h => e0 (mkE []) h) (fun h => kr (mkE []) h) = fun x0 x1 x3 h => R124 E (pa (pa (pb (codeOf fn124)))) true 11 (fun i => sel (Nat.beq i 0) 0 ((fun _ => 0) i)) kn kx kr (mkE [(0, x0), (1, x1), (3, x3)]) h := by
  subst he0
  funext x0 x1 x3 h
  unfold f124_1
  refine Eq.trans ?_ (R124_unf E _ _ _ _ _ _ _ _).symm
  generalize R124 E = R
  generalize LL = L
  generalize PP = P
  revert R L P
  refine id ?_
  intro R L P
  kernel_rfl
/-- slices.Backward[[]theodolite/elab.bound,theodolite/elab.bound]$1 -/
def s124 (E : Ev) (x0 x1 : AV) (h : Heap) : Res :=
  ob (pLoad PP 107 x1 h) fun x4 =>
  ob (xlen PP h 107 x4) fun x5 =>
  ob (xbin PP .sub 3 true x5 (.int .i64 1)) fun x6 =>
  lp b3 (fun k => f124_1 E k r124 r124) LL x0 x1 x6 h
theorem s124_eq (E : Ev) (x0 x1 : AV) (h : Heap) : xbodyR PP GG CC E LL fn124 [x0, x1] h = s124 E x0 x1 h := by
  unfold s124
  rw [r124_eq, lp3_eq 0 1 3 (fun k => (R124 E (pa (pa (pb (codeOf fn124)))) true 11 (fun i => sel (Nat.beq i 0) 0 ((fun _ => 0) i)) k (fun i => sel (Nat.beq i 0) (xret PP fn124) (noK i)) (xret PP fn124))) (fun k => f124_1 E k (fun h => (xret PP fn124) (mkE []) h) (fun h => (xret PP fn124) (mkE []) h)) (fun k => f124_1_eq E k (fun i => sel (Nat.beq i 0) (xret PP fn124) (noK i)) (xret PP fn124) (xret PP fn124) rfl) LL]
  refine (bodyR_unf (c := (codeOf fn124)) (by kernel_rfl) (by kernel_rfl)).trans ?_
  show runS (R124 E) PP GG CC E fn124.ntmps LL none (resBits fn124.results.toList) (codeOf fn124) _ _ _ _ _ _ _ = _
  generalize R124 E = R
  generalize LL = L
  generalize PP = P
  symm
  revert R L P
  refine id ?_
  intro R L P
  kernel_rfl
def fn125 : Func := fnAt PP 125
def R125 (E : Ev) : RT := runR PP GG CC E 25 LL none 16
theorem R125_unf (E : Ev) (c : Code) (lv : Nat) (lx : Nat → Nat) (kn : K) (kx : Nat → K) (kr : K) (e : Env) (h : Heap) : R125 E c true lv lx kn kx kr e h = runS (R125 E) PP GG CC E 25 LL none 16 c lv lx kn kx kr e h := runR_unf _ _ _ _ _ _ _ _
def r125 (x4 : AV) (h : Heap) : Res := ob (ob (pLoad PP 22 x4 h) fun v => some [v]) fun vs => some (one vs, h)
theorem r125_eq : r125 = fun x4 h => xret PP fn125 (mkE [(4, x4)]) h := by kernel_rfl
def f125_1 (E : Ev) (kr : AV → Heap → Res) (x4 : AV) (h : Heap) : Res :=
  ob (pLoad PP 22 x4 h) fun x24 =>
  ob (pStore PP 22 x4 x24 h) fun h0 =>
  kr x4 h0
theorem f125_1_eq (E : Ev) (kn : K) (kx : Nat → K) (kr : K) : f125_1 E (fun y4 h => kr (mkE [(4, y4)]) h) = fun x4 h => R125 E (pb (pb (pb (pb (pb (codeOf fn125)))))) true 16 (fun _ => 0) kn kx kr (mkE [(4, x4)]) h := by
  funext x4 h
  unfold f125_1
  refine Eq.trans ?_ (R125_unf E _ _ _ _ _ _ _ _).symm
  generalize R125 E = R
  generalize LL = L
  generalize PP = P
  revert R L P
  refine id ?_
  intro R L P
  kernel_rfl
def f125_3 (E : Ev) (kn : AV → AV → AV → AV → AV → AV → Heap → Res) (x2 x4 x6 x11 x12 x13 : AV) (h : Heap) : Res :=
  ob (xbin PP .add 3 true x13 (.int .i64 1)) fun x23 =>
  kn x2 x4 x6 x11 x12 x23 h
theorem f125_3_eq (E : Ev) (kn : K) (kx : Nat → K) (kr : K) : f125_3 E (fun y2 y4 y6 y11 y12 y13 h => kn (mkE [(2, y2), (4, y4), (6, y6), (11, y11), (12, y12), (13, y13)]) h) = fun x2 x4 x6 x11 x12 x13 h => R125 E (pb (pb (pb (pa (pa (pb (pa (pb (pb (pb (pb (codeOf fn125)))))))))))) true 14420 (fun i => sel (Nat.beq i 0) 16 ((fun _ => 0) i)) kn kx kr (mkE [(2, x2), (4, x4), (6, x6), (11, x11), (12, x12), (13, x13)]) h := by
  funext x2 x4 x6 x11 x12 x13 h
  unfold f125_3
  refine Eq.trans ?_ (R125_unf E _ _ _ _ _ _ _ _).symm
  generalize R125 E = R
  generalize LL = L
  generalize PP = P
  revert R L P
  refine id ?_
  intro R L P
  kernel_rfl
def f125_2 (E : Ev) (kn : AV → AV → AV → AV → AV → AV → Heap → Res) (k0 : AV → Heap → Res) (x2 x4 x6 x11 x12 x13 : AV) (h : Heap) : Res :=
  ob (xbin PP .lss 3 false x13 x12) fun x14 =>
  pIf x14
   (ob (xindexAddr PP 22 x11 x13) fun x15 =>
   ob (pLoad PP 3 x15 h) fun x16 =>
   ob (pLoad PP 36 x2 h) fun x17 =>
   obP (E (.fn 71) [x17, x16] h) fun x19 h19 =>
   pIf x19
    (ob (pLoad PP 248 x6 h19) fun x20 =>
    obP (xcallV ⟨PP, GG, CC, E⟩ x20 [x16] h19) fun x22 h22 =>
    f125_3 E kn x2 x4 x6 x11 x12 x13 h22)
    (f125_3 E kn x2 x4 x6 x11 x12 x13 h19))
   (k0 x4 h)
theorem f125_2_eq (E : Ev) (kn : K) (kx : Nat → K) (kr : K) (e0 : K) (he0 : kx 0 = e0) : f125_2 E (fun y2 y4 y6 y11 y12 y13 h => kn (mkE [(2, y2), (4, y4), (6, y6), (11, y11), (12, y12), (13, y13)]) h) (fun y4 h => e0 (mkE [(4, y4)]) h) = fun x2 x4 x6 x11 x12 x13 h => R125 E (pa (pa (pb (pa (pb (pb (pb (pb (codeOf fn125))))))))) true 14420 (fun i => sel (Nat.beq i 0) 16 ((fun _ => 0) i)) kn kx kr (mkE [(2, x2), (4, x4), (6, x6), (11, x11), (12, x12), (13, x13)]) h := by
  subst he0
  funext x2 x4 x6 x11 x12 x13 h
  unfold f125_2
  rw [f125_3_eq E kn kx kr]
  refine Eq.trans ?_ (R125_unf E _ _ _ _ _ _ _ _).symm
  generalize R125 E = R
  generalize LL = L
  generalize PP = P
  revert R L P
  refine id ?_
  intro R L P
  kernel_rfl
/-- (*theodolite/term.Table).Walk -/
def s125 (E : Ev) (x0 x1 : AV) (h : Heap) : Res :=
  obP (some (pNew h 36 x0.cells)) fun x2 h2 =>
  obP (ob (zeroC PP 22) fun z => some (pNew h2 22 z)) fun x4 h4 =>
  obP (some (pMakeMap h4)) fun x9 h9 =>
  obP (ob (zeroC PP 247) fun z => some (pNew h9 247 z)) fun x5 h5 =>
  ob (pStore PP 247 x5 x9 h5) fun h0 =>
  obP (ob (zeroC PP 248) fun z => some (pNew h0 248 z)) fun x6 h6 =>
  ob (pStore PP 248 x6 (.func 158 [] [x5, x2, x6, x4]) h6) fun h0_1 =>
  ob (xlen PP h0_1 22 x1) fun x12 =>
  lp b6 (fun k => f125_2 E k (f125_1 E r125)) LL x2 x4 x6 x1 x12 (.int .i64 0) h0_1
theorem s125_eq (E : Ev) (x0 x1 : AV) (h : Heap) : xbodyR PP GG CC E LL fn125 [x0, x1] h = s125 E x0 x1 h := by
  unfold s125
  rw [r125_eq, f125_1_eq E (xret PP fn125) noK (xret PP fn125), lp6_eq 2 4 6 11 12 13 (fun k => (R125 E (pa (pa (pb (pa (pb (pb (pb (pb (codeOf fn125))))))))) true 14420 (fun i => sel (Nat.beq i 0) 16 ((fun _ => 0) i)) k (fun i => sel (Nat.beq i 0) (R125 E (pb (pb (pb (pb (pb (codeOf fn125)))))) true 16 (fun _ => 0) (xret PP fn125) noK (xret PP fn125)) (noK i)) (xret PP fn125))) (fun k => f125_2 E k (fun y4 h => (R125 E (pb (pb (pb (pb (pb (codeOf fn125)))))) true 16 (fun _ => 0) (xret PP fn125) noK (xret PP fn125)) (mkE [(4, y4)]) h)) (fun k => f125_2_eq E k (fun i => sel (Nat.beq i 0) (R125 E (pb (pb (pb (pb (pb (codeOf fn125)))))) true 16 (fun _ => 0) (xret PP fn125) noK (xret PP fn125)) (noK i)) (xret PP fn125) (R125 E (pb (pb (pb (pb (pb (codeOf fn125)))))) true 16 (fun _ => 0) (xret PP fn125) noK (xret PP fn125)) rfl) LL]
  refine (bodyR_unf (c := (codeOf fn125)) (by kernel_rfl) (by kernel_rfl)).trans ?_
  show runS (R125 E) PP GG CC E fn125.ntmps LL none (resBits fn125.results.toList) (codeOf fn125) _ _ _ _ _ _ _ = _
  generalize R125 E = R
  generalize LL = L
  generalize PP = P
  symm
  revert R L P
  refine id ?_
  intro R L P
  kernel_rfl
def fn126 : Func := fnAt PP 126
def R126 (E : Ev) : RT := runR PP GG CC E 23 LL none 112
theorem R126_unf (E : Ev) (c : Code) (lv : Nat) (lx : Nat → Nat) (kn : K) (kx : Nat → K) (kr : K) (e : Env) (h : Heap) : R126 E c true lv lx kn kx kr e h = runS (R126 E) PP GG CC E 23 LL none 112 c lv lx kn kx kr e h := runR_unf _ _ _ _ _ _ _ _
def r126 (x4 x5 x6 : AV) (h : Heap) : Res := some (.tuple [x4, x5, x6], h)
theorem r126_eq : r126 = fun x4 x5 x6 h => xret PP fn126 (mkE [(4, x4), (5, x5), (6, x6)]) h := by kernel_rfl
/-- internal/stringslite.Cut -/
def s126 (E : Ev) (x0 x1 : AV) (h : Heap) : Res :=
  obP (E (.fn 159) [x0, x1] h) fun x10 h10 =>
  ob (xbin PP .geq 3 true x10 (.int .i64 0)) fun x12 =>
  pIf x12
   (obP (xslice PP h10 9 x0 none (some x10) none) fun x15 h15 => sel (Nat.beq h15.nx h10.nx) (
   ob (xlen PP h15 9 x1) fun x19 =>
   ob (xbin PP .add 3 false x10 x19) fun x20 =>
   obP (xslice PP h15 9 x0 (some x20) none none) fun x21 h21 => sel (Nat.beq h21.nx h15.nx) (
   sel (chkE h21 x15 (xslice PP h21 9 x0 none (some x10) none)) (
   sel (chkV x19 (xlen PP h21 9 x1)) (
   sel (chkE h21 x21 (xslice PP h21 9 x0 (some x20) none none)) (
   r126 x15 x21 (.bool true) h21) none) none) none) none) none)
   (r126 x0 (.str 0 0) (.bool false) h10)
theorem s126_eq (E : Ev) (x0 x1 : AV) (h : Heap) : xbodyR PP GG CC E LL fn126 [x0, x1] h = s126 E x0 x1 h := by
  unfold s126
  rw [r126_eq]
  refine (bodyR_unf (c := (codeOf fn126)) (by kernel_rfl) (by kernel_rfl)).trans ?_
  show runS (R126 E) PP GG CC E fn126.ntmps LL none (resBits fn126.results.toList) (codeOf fn126) _ _ _ _ _ _ _ = _
  generalize R126 E = R
  generalize LL = L
  generalize PP = P
  symm
  revert R L P
  refine id ?_
  intro R L P
  kernel_rfl
def fn127 : Func := fnAt PP 127
def R127 (E : Ev) : RT := runR PP GG CC E 43 LL none 16
theorem R127_unf (E : Ev) (c : Code) (lv : Nat) (lx : Nat → Nat) (kn : K) (kx : Nat → K) (kr : K) (e : Env) (h : Heap) : R127 E c true lv lx kn kx kr e h = runS (R127 E) PP GG CC E 43 LL none 16 c lv lx kn kx kr e h := runR_unf _ _ _ _ _ _ _ _
def r127 (x4 : AV) (h : Heap) : Res := some (x4, h)
theorem r127_eq : r127 = fun x4 h => xret PP fn127 (mkE [(4, x4)]) h := by kernel_rfl
def f127_1 (E : Ev) (kr : AV → Heap → Res) (x0 x1 : AV) (h : Heap) : Res :=
  ob (xlen PP h 9 x1) fun x15 =>
  ob (xbin PP .eql 3 true x15 (.int .i64 1)) fun x16 =>
  ob (pWant x16 true) fun c =>
  ob (sel c (some x1) (some (.tuple []))) fun x18 =>
  ob (pWant x16 true) fun c_1 =>
  ob (sel c_1 (xindex PP 9 x18 (.int .i64 0)) (some (.tuple []))) fun x19 =>
  ob (pWant x16 true) fun c_2 =>
  ob (sel c_2 (xbin PP .lss 5 true x19 (.int .u8 128)) (some (.tuple []))) fun x20 =>
  ob (pPick x16 (some x20) (some (.bool false))) fun x21 =>
  pIf x21
   (ob (xindex PP 9 x1 (.int .i64 0)) fun x24 =>
   ob (xindex PP 9 x1 (.int .i64 0)) fun x27 =>
   obP (E (.fn 128) [x0, x24] h) fun x25 h25 =>
   obP (E (.fn 160) [x25, x27] h25) fun x28 h28 =>
   kr x28 h28)
   (obP (E (.fn 129) [x1] h) fun x31 h31 =>
   ob (pExtract 0 x31) fun x32 =>
   ob (pExtract 1 x31) fun x33 =>
   obP (ob (zeroC PP 218) fun z => some (pNew h31 218 z)) fun x5 h5 =>
   ob (pStore PP 218 x5 x32 h5) fun h0 =>
   pIf x33
    (obP (E (.fn 130) [x0, x5] h0) fun x36 h36 =>
    obP (E (.fn 161) [x36, x5] h36) fun x37 h37 =>
    kr x37 h37)
    (obP (E (.fn 131) [x0, x1] h0) fun x40 h40 =>
    obP (E (.fn 162) [x40, x1] h40) fun x42 h42 =>
    kr x42 h42))
theorem f127_1_eq (E : Ev) (kn : K) (kx : Nat → K) (kr : K) : f127_1 E (fun y4 h => kr (mkE [(4, y4)]) h) = fun x0 x1 h => R127 E (pb (pb (codeOf fn127))) true 16 (fun _ => 0) kn kx kr (mkE [(0, x0), (1, x1)]) h := by
  funext x0 x1 h
  unfold f127_1
  refine Eq.trans ?_ (R127_unf E _ _ _ _ _ _ _ _).symm
  generalize R127 E = R
  generalize LL = L
  generalize PP = P
  revert R L P
  refine id ?_
  intro R L P
  kernel_rfl
/-- strings.Trim -/
def s127 (E : Ev) (x0 x1 : AV) (h : Heap) : Res :=
  ob (xbin PP .eql 9 true x0 (.str 0 0)) fun x8 =>
  ob (pWant x8 false) fun c =>
  ob (sel c (some x1) (some (.tuple []))) fun x10 =>
  ob (pWant x8 false) fun c_1 =>
  ob (sel c_1 (xbin PP .eql 9 true x10 (.str 0 0)) (some (.tuple []))) fun x11 =>
  ob (pPick x8 (some (.bool true)) (some x11)) fun x12 =>
  pIf x12
   (r127 x0 h)
   (f127_1 E r127 x0 x1 h)
theorem s127_eq (E : Ev) (x0 x1 : AV) (h : Heap) : xbodyR PP GG CC E LL fn127 [x0, x1] h = s127 E x0 x1 h := by
  unfold s127
  rw [r127_eq, f127_1_eq E (xret PP fn127) noK (xret PP fn127)]
  refine (bodyR_unf (c := (codeOf fn127)) (by kernel_rfl) (by kernel_rfl)).trans ?_
  show runS (R127 E) PP GG CC E fn127.ntmps LL none (resBits fn127.results.toList) (codeOf fn127) _ _ _ _ _ _ _ = _
  generalize R127 E = R
  generalize LL = L
  generalize PP = P
  symm
  revert R L P
  refine id ?_
  intro R L P
  kernel_rfl
def fn128 : Func := fnAt PP 128
def R128 (E : Ev) : RT := runR PP GG CC E 23 LL none 16
theorem R128_unf (E : Ev) (c : Code) (lv : Nat) (lx : Nat → Nat) (kn : K) (kx : Nat → K) (kr : K) (e : Env) (h : Heap) : R128 E c true lv lx kn kx kr e h = runS (R128 E) PP GG CC E 23 LL none 16 c lv lx kn kx kr e h := runR_unf _ _ _ _ _ _ _ _
def r128 (x4 : AV) (h : Heap) : Res := some (x4, h)
theorem r128_eq : r128 = fun x4 h => xret PP fn128 (mkE [(4, x4)]) h := by kernel_rfl
def f128_1 (E : Ev) (kr : AV → Heap → Res) (x0 : AV) (h : Heap) : Res :=
  kr x0 h
theorem f128_1_eq (E : Ev) (kn : K) (kx : Nat → K) (kr : K) : f128_1 E (fun y4 h => kr (mkE [(4, y4)]) h) = fun x0 h => R128 E (pb (pb (codeOf fn128))) true 16 (fun _ => 0) kn kx kr (mkE [(0, x0)]) h := by
  funext x0 h
  unfold f128_1
  refine Eq.trans ?_ (R128_unf E _ _ _ _ _ _ _ _).symm
  generalize R128 E = R
  generalize LL = L
  generalize PP = P
  revert R L P
  refine id ?_
  intro R L P
  kernel_rfl
def f128_2 (E : Ev) (kn : AV → AV → Heap → Res) (k0 : AV → Heap → Res) (x0 x1 : AV) (h : Heap) : Res :=
  ob (xlen PP h 9 x0) fun x6 =>
  ob (xbin PP .gtr 3 true x6 (.int .i64 0)) fun x7 =>
  ob (pWant x7 true) fun c =>
  ob (sel c (some x0) (some (.tuple []))) fun x9 =>
  ob (pWant x7 true) fun c_1 =>
  ob (sel c_1 (some x0) (some (.tuple []))) fun x10 =>
  ob (pWant x7 true) fun c_2 =>
  ob (sel c_2 (xlen PP h 9 x10) (some (.tuple []))) fun x11 =>
  ob (pWant x7 true) fun c_3 =>
  ob (sel c_3 (xbin PP .sub 3 true x11 (.int .i64 1)) (some (.tuple []))) fun x12 =>
  ob (pWant x7 true) fun c_4 =>
  ob (sel c_4 (xindex PP 9 x9 x12) (some (.tuple []))) fun x13 =>
  ob (pWant x7 true) fun c_5 =>
  ob (sel c_5 (some x1) (some (.tuple []))) fun x14 =>
  ob (pWant x7 true) fun c_6 =>
  ob (sel c_6 (xbin PP .eql 5 false x13 x14) (some (.tuple []))) fun x15 =>
  ob (pPick x7 (some x15) (some (.bool false))) fun x16 =>
  pIf x16
   (ob (xlen PP h 9 x0) fun x19 =>
   ob (xbin PP .sub 3 true x19 (.int .i64 1)) fun x20 =>
   obP (xslice PP h 9 x0 none (some x20) none) fun x21 h21 =>
   kn x21 x1 h21)
   (k0 x0 h)
theorem f128_2_eq (E : Ev) (kn : K) (kx : Nat → K) (kr : K) (e0 : K) (he0 : kx 0 = e0) : f128_2 E (fun y0 y1 h => kn (mkE [(0, y0), (1, y1)]) h) (fun y0 h => e0 (mkE [(0, y0)]) h) = fun x0 x1 h => R128 E (pa (pa (pa (pb (codeOf fn128))))) true 3 (fun i => sel (Nat.beq i 0) 1 ((fun _ => 0) i)) kn kx kr (mkE [(0, x0), (1, x1)]) h := by
  subst he0
  funext x0 x1 h
  unfold f128_2
  refine Eq.trans ?_ (R128_unf E _ _ _ _ _ _ _ _).symm
  generalize R128 E = R
  generalize LL = L
  generalize PP = P
  revert R L P
  refine id ?_
  intro R L P
  kernel_rfl
/-- strings.trimRightByte -/
def s128 (E : Ev) (x0 x1 : AV) (h : Heap) : Res :=
  lp b2 (fun k => f128_2 E k (f128_1 E r128)) LL x0 x1 h
theorem s128_eq (E : Ev) (x0 x1 : AV) (h : Heap) : xbodyR PP GG CC E LL fn128 [x0, x1] h = s128 E x0 x1 h := by
  unfold s128
  rw [r128_eq, f128_1_eq E (xret PP fn128) noK (xret PP fn128), lp2_eq 0 1 (fun k => (R128 E (pa (pa (pa (pb (codeOf fn128))))) true 3 (fun i => sel (Nat.beq i 0) 1 ((fun _ => 0) i)) k (fun i => sel (Nat.beq i 0) (R128 E (pb (pb (codeOf fn128))) true 16 (fun _ => 0) (xret PP fn128) noK (xret PP fn128)) (noK i)) (xret PP fn128))) (fun k => f128_2 E k (fun y0 h => (R128 E (pb (pb (codeOf fn128))) true 16 (fun _ => 0) (xret PP fn128) noK (xret PP fn128)) (mkE [(0, y0)]) h)) (fun k => f128_2_eq E k (fun i => sel (Nat.beq i 0) (R128 E (pb (pb (codeOf fn128))) true 16 (fun _ => 0) (xret PP fn128) noK (xret PP fn128)) (noK i)) (xret PP fn128) (R128 E (pb (pb (codeOf fn128))) true 16 (fun _ => 0) (xret PP fn128) noK (xret PP fn128)) rfl) LL]
  refine (bodyR_unf (c := (codeOf fn128)) (by kernel_rfl) (by kernel_rfl)).trans ?_
  show runS (R128 E) PP GG CC E fn128.ntmps LL none (resBits fn128.results.toList) (codeOf fn128) _ _ _ _ _ _ _ = _
  generalize R128 E = R
  generalize LL = L
  generalize PP = P
  symm
  revert R L P
  refine id ?_
  intro R L P
  kernel_rfl
def fn129 : Func := fnAt PP 129
def R129 (E : Ev) : RT := runR PP GG CC E 21 LL none 12
theorem R129_unf (E : Ev) (c : Code) (lv : Nat) (lx : Nat → Nat) (kn : K) (kx : Nat → K) (kr : K) (e : Env) (h : Heap) : R129 E c true lv lx kn kx kr e h = runS (R129 E) PP GG CC E 21 LL none 12 c lv lx kn kx kr e h := runR_unf _ _ _ _ _ _ _ _
def r129 (x2 x3 : AV) (h : Heap) : Res := ob (ob (pLoad PP 218 x2 h) fun v => ob (ob (some x3) fun v => some [v]) fun vs => some (v :: vs)) fun vs => some (one vs, h)
theorem r129_eq : r129 = fun x2 x3 h => xret PP fn129 (mkE [(2, x2), (3, x3)]) h := by kernel_rfl
def f129_1 (E : Ev) (kr : AV → AV → Heap → Res) (x2 : AV) (h : Heap) : Res :=
  ob (pLoad PP 218 x2 h) fun x20 =>
  ob (pStore PP 218 x2 x20 h) fun h0 =>
  kr x2 (.bool true) h0
theorem f129_1_eq (E : Ev) (kn : K) (kx : Nat → K) (kr : K) : f129_1 E (fun y2 y3 h => kr (mkE [(2, y2), (3, y3)]) h) = fun x2 h => R129 E (pb (pb (codeOf fn129))) true 12 (fun _ => 0) kn kx kr (mkE [(2, x2)]) h := by
  funext x2 h
  unfold f129_1
  refine Eq.trans ?_ (R129_unf E _ _ _ _ _ _ _ _).symm
  generalize R129 E = R
  generalize LL = L
  generalize PP = P
  revert R L P
  refine id ?_
  intro R L P
  kernel_rfl
def f129_2 (E : Ev) (kn : AV → AV → AV → Heap → Res) (k0 : AV → Heap → Res) (kr : AV → AV → Heap → Res) (x0 x2 x4 : AV) (h : Heap) : Res :=
  ob (xlen PP h 9 x0) fun x8 =>
  ob (xbin PP .lss 3 false x4 x8) fun x9 =>
  pIf x9
   (ob (xindex PP 9 x0 x4) fun x14 =>
   ob (xbin PP .geq 5 true x14 (.int .u8 128)) fun x16 =>
   pIf x16
    (ob (pLoad PP 218 x2 h) fun x17 =>
    ob (pStore PP 218 x2 x17 h) fun h0 =>
    kr x2 (.bool false) h0)
    (ob (xindexAddr PP 218 x2 x14) fun x19 =>
    ob (pStore PP 4 x19 (.bool true) h) fun h0 =>
    ob (xbin PP .add 3 true x4 (.int .i64 1)) fun x11 =>
    kn x0 x2 x11 h0))
   (k0 x2 h)
theorem f129_2_eq (E : Ev) (kn : K) (kx : Nat → K) (kr : K) (e0 : K) (he0 : kx 0 = e0) : f129_2 E (fun y0 y2 y4 h => kn (mkE [(0, y0), (2, y2), (4, y4)]) h) (fun y2 h => e0 (mkE [(2, y2)]) h) (fun y2 y3 h => kr (mkE [(2, y2), (3, y3)]) h) = fun x0 x2 x4 h => R129 E (pa (pa (pb (pa (pb (codeOf fn129)))))) true 21 (fun i => sel (Nat.beq i 0) 4 ((fun _ => 0) i)) kn kx kr (mkE [(0, x0), (2, x2), (4, x4)]) h := by
  subst he0
  funext x0 x2 x4 h
  unfold f129_2
  refine Eq.trans ?_ (R129_unf E _ _ _ _ _ _ _ _).symm
  generalize R129 E = R
  generalize LL = L
  generalize PP = P
  revert R L P
  refine id ?_
  intro R L P
  kernel_rfl
/-- strings.makeASCIISet -/
def s129 (E : Ev) (x0 : AV) (h : Heap) : Res :=
  obP (ob (zeroC PP 218) fun z => some (pNew h 218 z)) fun x2 h2 =>
  lp b3 (fun k => f129_2 E k (f129_1 E r129) r129) LL x0 x2 (.int .i64 0) h2
theorem s129_eq (E : Ev) (x0 : AV) (h : Heap) : xbodyR PP GG CC E LL fn129 [x0] h = s129 E x0 h := by
  unfold s129
  rw [r129_eq, f129_1_eq E (xret PP fn129) noK (xret PP fn129), lp3_eq 0 2 4 (fun k => (R129 E (pa (pa (pb (pa (pb (codeOf fn129)))))) true 21 (fun i => sel (Nat.beq i 0) 4 ((fun _ => 0) i)) k (fun i => sel (Nat.beq i 0) (R129 E (pb (pb (codeOf fn129))) true 12 (fun _ => 0) (xret PP fn129) noK (xret PP fn129)) (noK i)) (xret PP fn129))) (fun k => f129_2 E k (fun y2 h => (R129 E (pb (pb (codeOf fn129))) true 12 (fun _ => 0) (xret PP fn129) noK (xret PP fn129)) (mkE [(2, y2)]) h) (fun y2 y3 h => (xret PP fn129) (mkE [(2, y2), (3, y3)]) h)) (fun k => f129_2_eq E k (fun i => sel (Nat.beq i 0) (R129 E (pb (pb (codeOf fn129))) true 12 (fun _ => 0) (xret PP fn129) noK (xret PP fn129)) (noK i)) (xret PP fn129) (R129 E (pb (pb (codeOf fn129))) true 12 (fun _ => 0) (xret PP fn129) noK (xret PP fn129)) rfl) LL]
  refine (bodyR_unf (c := (codeOf fn129)) (by kernel_rfl) (by kernel_rfl)).trans ?_
  show runS (R129 E) PP GG CC E fn129.ntmps LL none (resBits fn129.results.toList) (codeOf fn129) _ _ _ _ _ _ _ = _
  generalize R129 E = R
  generalize LL = L
  generalize PP = P
  symm
  revert R L P
  refine id ?_
  intro R L P
  kernel_rfl
def fn130 : Func := fnAt PP 130
def R130 (E : Ev) : RT := runR PP GG CC E 22 LL none 16
theorem R130_unf (E : Ev) (c : Code) (lv : Nat) (lx : Nat → Nat) (kn : K) (kx : Nat → K) (kr : K) (e : Env) (h : Heap) : R130 E c true lv lx kn kx kr e h = runS (R130 E) PP GG CC E 22 LL none 16 c lv lx kn kx kr e h := runR_unf _ _ _ _ _ _ _ _
def r130 (x4 : AV) (h : Heap) : Res := some (x4, h)
theorem r130_eq : r130 = fun x4 h => xret PP fn130 (mkE [(4, x4)]) h := by kernel_rfl
def f130_1 (E : Ev) (kr : AV → Heap → Res) (x0 : AV) (h : Heap) : Res :=
  kr x0 h
theorem f130_1_eq (E : Ev) (kn : K) (kx : Nat → K) (kr : K) : f130_1 E (fun y4 h => kr (mkE [(4, y4)]) h) = fun x0 h => R130 E (pb (pb (codeOf fn130))) true 16 (fun _ => 0) kn kx kr (mkE [(0, x0)]) h := by
  funext x0 h
  unfold f130_1
  refine Eq.trans ?_ (R130_unf E _ _ _ _ _ _ _ _).symm
  generalize R130 E = R
  generalize LL = L
  generalize PP = P
  revert R L P
  refine id ?_
  intro R L P
  kernel_rfl
def f130_2 (E : Ev) (kn : AV → AV → Heap → Res) (k0 : AV → Heap → Res) (x0 x1 : AV) (h : Heap) : Res :=
  ob (xlen PP h 9 x0) fun x6 =>
  ob (xbin PP .gtr 3 true x6 (.int .i64 0)) fun x7 =>
  pIf x7
   (ob (xlen PP h 9 x0) fun x11 =>
   ob (xbin PP .sub 3 true x11 (.int .i64 1)) fun x12 =>
   ob (xindex PP 9 x0 x12) fun x13 =>
   obP (E (.fn 163) [x1, x13] h) fun x14 h14 =>
   ob (xun .not x14) fun x15 =>
   pIf x15
    (k0 x0 h14)
    (ob (xlen PP h14 9 x0) fun x18 =>
    ob (xbin PP .sub 3 true x18 (.int .i64 1)) fun x19 =>
    obP (xslice PP h14 9 x0 none (some x19) none) fun x20 h20 =>
    kn x20 x1 h20))
   (k0 x0 h)
theorem f130_2_eq (E : Ev) (kn : K) (kx : Nat → K) (kr : K) (e0 : K) (he0 : kx 0 = e0) : f130_2 E (fun y0 y1 h => kn (mkE [(0, y0), (1, y1)]) h) (fun y0 h => e0 (mkE [(0, y0)]) h) = fun x0 x1 h => R130 E (pa (pa (pa (pb (codeOf fn130))))) true 3 (fun i => sel (Nat.beq i 0) 1 ((fun _ => 0) i)) kn kx kr (mkE [(0, x0), (1, x1)]) h := by
  subst he0
  funext x0 x1 h
  unfold f130_2
  refine Eq.trans ?_ (R130_unf E _ _ _ _ _ _ _ _).symm
  generalize R130 E = R
  generalize LL = L
  generalize PP = P
  revert R L P
  refine id ?_
  intro R L P
  kernel_rfl
/-- strings.trimRightASCII -/
def s130 (E : Ev) (x0 x1 : AV) (h : Heap) : Res :=
  lp b2 (fun k => f130_2 E k (f130_1 E r130)) LL x0 x1 h
theorem s130_eq (E : Ev) (x0 x1 : AV) (h : Heap) : xbodyR PP GG CC E LL fn130 [x0, x1] h = s130 E x0 x1 h := by
  unfold s130
  rw [r130_eq, f130_1_eq E (xret PP fn130) noK (xret PP fn130), lp2_eq 0 1 (fun k => (R130 E (pa (pa (pa (pb (codeOf fn130))))) true 3 (fun i => sel (Nat.beq i 0) 1 ((fun _ => 0) i)) k (fun i => sel (Nat.beq i 0) (R130 E (pb (pb (codeOf fn130))) true 16 (fun _ => 0) (xret PP fn130) noK (xret PP fn130)) (noK i)) (xret PP fn130))) (fun k => f130_2 E k (fun y0 h => (R130 E (pb (pb (codeOf fn130))) true 16 (fun _ => 0) (xret PP fn130) noK (xret PP fn130)) (mkE [(0, y0)]) h)) (fun k => f130_2_eq E k (fun i => sel (Nat.beq i 0) (R130 E (pb (pb (codeOf fn130))) true 16 (fun _ => 0) (xret PP fn130) noK (xret PP fn130)) (noK i)) (xret PP fn130) (R130 E (pb (pb (codeOf fn130))) true 16 (fun _ => 0) (xret PP fn130) noK (xret PP fn130)) rfl) LL]
  refine (bodyR_unf (c := (codeOf fn130)) (by kernel_rfl) (by kernel_rfl)).trans ?_
  show runS (R130 E) PP GG CC E fn130.ntmps LL none (resBits fn130.results.toList) (codeOf fn130) _ _ _ _ _ _ _ = _
  generalize R130 E = R
  generalize LL = L
  generalize PP = P
  symm
  revert R L P
  refine id ?_
  intro R L P
  kernel_rfl
def fn132 : Func := fnAt PP 132
def R132 (E : Ev) : RT := runR PP GG CC E 20 LL none 16
theorem R132_unf (E : Ev) (c : Code) (lv : Nat) (lx : Nat → Nat) (kn : K) (kx : Nat → K) (kr : K) (e : Env) (h : Heap) : R132 E c true lv lx kn kx kr e h = runS (R132 E) PP GG CC E 20 LL none 16 c lv lx kn kx kr e h := runR_unf _ _ _ _ _ _ _ _
def r132 (x4 : AV) (h : Heap) : Res := some (x4, h)
theorem r132_eq : r132 = fun x4 h => xret PP fn132 (mkE [(4, x4)]) h := by kernel_rfl
def f132_1 (E : Ev) (kr : AV → Heap → Res) (x0 : AV) (h : Heap) : Res :=
  obP (E (.fn 122) [x0] h) fun x19 h19 =>
  kr x19 h19
theorem f132_1_eq (E : Ev) (kn : K) (kx : Nat → K) (kr : K) : f132_1 E (fun y4 h => kr (mkE [(4, y4)]) h) = fun x0 h => R132 E (pb (pb (codeOf fn132))) true 16 (fun _ => 0) kn kx kr (mkE [(0, x0)]) h := by
  funext x0 h
  unfold f132_1
  refine Eq.trans ?_ (R132_unf E _ _ _ _ _ _ _ _).symm
  generalize R132 E = R
  generalize LL = L
  generalize PP = P
  revert R L P
  refine id ?_
  intro R L P
  kernel_rfl
def f132_2 (E : Ev) (kn : AV → AV → Heap → Res) (k0 : AV → Heap → Res) (x0 x1 : AV) (h : Heap) : Res :=
  ob (xlen PP h 139 x1) fun x8 =>
  ob (xbin PP .gtr 3 true x8 (.int .i64 0)) fun x9 =>
  pIf x9
   (obP (E (.fn 135) [x0, x1] h) fun x13 h13 =>
   ob (pExtract 0 x13) fun x14 =>
   ob (pExtract 1 x13) fun x15 =>
   kn x1 x15 h13)
   (k0 x0 h)
theorem f132_2_eq (E : Ev) (kn : K) (kx : Nat → K) (kr : K) (e0 : K) (he0 : kx 0 = e0) : f132_2 E (fun y0 y1 h => kn (mkE [(0, y0), (1, y1)]) h) (fun y0 h => e0 (mkE [(0, y0)]) h) = fun x0 x1 h => R132 E (pa (pa (pa (pb (codeOf fn132))))) true 3 (fun i => sel (Nat.beq i 0) 1 ((fun _ => 0) i)) kn kx kr (mkE [(0, x0), (1, x1)]) h := by
  subst he0
  funext x0 x1 h
  unfold f132_2
  refine Eq.trans ?_ (R132_unf E _ _ _ _ _ _ _ _).symm
  generalize R132 E = R
  generalize LL = L
  generalize PP = P
  revert R L P
  refine id ?_
  intro R L P
  kernel_rfl
/-- theodolite/nat.Common -/
def s132 (E : Ev) (x0 x1 : AV) (h : Heap) : Res :=
  lp b2 (fun k => f132_2 E k (f132_1 E r132)) LL x0 x1 h
theorem s132_eq (E : Ev) (x0 x1 : AV) (h : Heap) : xbodyR PP GG CC E LL fn132 [x0, x1] h = s132 E x0 x1 h := by
  unfold s132
  rw [r132_eq, f132_1_eq E (xret PP fn132) noK (xret PP fn132), lp2_eq 0 1 (fun k => (R132 E (pa (pa (pa (pb (codeOf fn132))))) true 3 (fun i => sel (Nat.beq i 0) 1 ((fun _ => 0) i)) k (fun i => sel (Nat.beq i 0) (R132 E (pb (pb (codeOf fn132))) true 16 (fun _ => 0) (xret PP fn132) noK (xret PP fn132)) (noK i)) (xret PP fn132))) (fun k => f132_2 E k (fun y0 h => (R132 E (pb (pb (codeOf fn132))) true 16 (fun _ => 0) (xret PP fn132) noK (xret PP fn132)) (mkE [(0, y0)]) h)) (fun k => f132_2_eq E k (fun i => sel (Nat.beq i 0) (R132 E (pb (pb (codeOf fn132))) true 16 (fun _ => 0) (xret PP fn132) noK (xret PP fn132)) (noK i)) (xret PP fn132) (R132 E (pb (pb (codeOf fn132))) true 16 (fun _ => 0) (xret PP fn132) noK (xret PP fn132)) rfl) LL]
  refine (bodyR_unf (c := (codeOf fn132)) (by kernel_rfl) (by kernel_rfl)).trans ?_
  show runS (R132 E) PP GG CC E fn132.ntmps LL none (resBits fn132.results.toList) (codeOf fn132) _ _ _ _ _ _ _ = _
  generalize R132 E = R
  generalize LL = L
  generalize PP = P
  symm
  revert R L P
  refine id ?_
  intro R L P
  kernel_rfl
def fn133 : Func := fnAt PP 133
def R133 (E : Ev) : RT := runR PP GG CC E 41 LL none 16
theorem R133_unf (E : Ev) (c : Code) (lv : Nat) (lx : Nat → Nat) (kn : K) (kx : Nat → K) (kr : K) (e : Env) (h : Heap) : R133 E c true lv lx kn kx kr e h = runS (R133 E) PP GG CC E 41 LL none 16 c lv lx kn kx kr e h := runR_unf _ _ _ _ _ _ _ _
def r133 (x4 : AV) (h : Heap) : Res := some (x4, h)
theorem r133_eq : r133 = fun x4 h => xret PP fn133 (mkE [(4, x4)]) h := by kernel_rfl
def f133_1 (E : Ev) (kr : AV → Heap → Res) (h : Heap) : Res :=
  kr (.int .i64 0) h
theorem f133_1_eq (E : Ev) (kn : K) (kx : Nat → K) (kr : K) : f133_1 E (fun y4 h => kr (mkE [(4, y4)]) h) = fun h => R133 E (pb (pb (pb (codeOf fn133)))) true 16 (fun _ => 0) kn kx kr (mkE []) h := by
  funext h
  unfold f133_1
  refine Eq.trans ?_ (R133_unf E _ _ _ _ _ _ _ _).symm
  generalize R133 E = R
  generalize LL = L
  generalize PP = P
  revert R L P
  refine id ?_
  intro R L P
  kernel_rfl
def f133_2 (E : Ev) (kn : AV → AV → AV → Heap → Res) (k0 : Heap → Res) (kr : AV → Heap → Res) (x0 x1 x5 : AV) (h : Heap) : Res :=
  ob (xbin PP .geq 3 true x5 (.int .i64 0)) fun x20 =>
  pIf x20
   (ob (xindexAddr PP 139 x0 x5) fun x25 =>
   ob (pLoad PP 208 x25 h) fun x26 =>
   ob (xindexAddr PP 139 x1 x5) fun x29 =>
   ob (pLoad PP 208 x29 h) fun x30 =>
   ob (xbin PP .neq 208 false x26 x30) fun x31 =>
   sel (chkV x26 (pLoad PP 208 x25 h)) (
   sel (chkV x30 (pLoad PP 208 x29 h)) (
   pIf x31
    (ob (xindexAddr PP 139 x0 x5) fun x34 =>
    ob (pLoad PP 208 x34 h) fun x35 =>
    ob (xindexAddr PP 139 x1 x5) fun x38 =>
    ob (pLoad PP 208 x38 h) fun x39 =>
    sel (chkV x35 (pLoad PP 208 x34 h)) (
    sel (chkV x39 (pLoad PP 208 x38 h)) (
    obP (E (.fn 167) [x35, x39] h) fun x40 h40 =>
    kr x40 h40) none) none)
    (ob (xbin PP .sub 3 true x5 (.int .i64 1)) fun x22 =>
    kn x0 x1 x22 h)) none) none)
   (k0 h)
theorem f133_2_eq (E : Ev) (kn : K) (kx : Nat → K) (kr : K) (e0 : K) (he0 : kx 0 = e0) : f133_2 E (fun y0 y1 y5 h => kn (mkE [(0, y0), (1, y1), (5, y5)]) h) (fun h => e0 (mkE []) h) (fun y4 h => kr (mkE [(4, y4)]) h) = fun x0 x1 x5 h => R133 E (pa (pa (pb (pa (pb (pb (codeOf fn133))))))) true 35 (fun i => sel (Nat.beq i 0) 0 ((fun _ => 0) i)) kn kx kr (mkE [(0, x0), (1, x1), (5, x5)]) h := by
  subst he0
  funext x0 x1 x5 h
  unfold f133_2
  refine Eq.trans ?_ (R133_unf E _ _ _ _ _ _ _ _).symm
  generalize R133 E = R
  generalize LL = L
  generalize PP = P
  revert R L P
  refine id ?_
  intro R L P
  kernel_rfl
/-- theodolite/nat.Order -/
def s133 (E : Ev) (x0 x1 : AV) (h : Heap) : Res :=
  ob (xlen PP h 139 x0) fun x7 =>
  ob (xlen PP h 139 x1) fun x9 =>
  ob (xbin PP .neq 3 false x7 x9) fun x10 =>
  pIf x10
   (ob (xlen PP h 139 x0) fun x12 =>
   ob (xlen PP h 139 x1) fun x14 =>
   obP (E (.fn 166) [x12, x14] h) fun x15 h15 =>
   r133 x15 h15)
   (ob (xlen PP h 139 x0) fun x17 =>
   ob (xbin PP .sub 3 true x17 (.int .i64 1)) fun x18 =>
   lp b3 (fun k => f133_2 E k (f133_1 E r133) r133) LL x0 x1 x18 h)
theorem s133_eq (E : Ev) (x0 x1 : AV) (h : Heap) : xbodyR PP GG CC E LL fn133 [x0, x1] h = s133 E x0 x1 h := by
  unfold s133
  rw [r133_eq, f133_1_eq E (xret PP fn133) noK (xret PP fn133), lp3_eq 0 1 5 (fun k => (R133 E (pa (pa (pb (pa (pb (pb (codeOf fn133))))))) true 35 (fun i => sel (Nat.beq i 0) 0 ((fun _ => 0) i)) k (fun i => sel (Nat.beq i 0) (R133 E (pb (pb (pb (codeOf fn133)))) true 16 (fun _ => 0) (xret PP fn133) noK (xret PP fn133)) (noK i)) (xret PP fn133))) (fun k => f133_2 E k (fun h => (R133 E (pb (pb (pb (codeOf fn133)))) true 16 (fun _ => 0) (xret PP fn133) noK (xret PP fn133)) (mkE []) h) (fun y4 h => (xret PP fn133) (mkE [(4, y4)]) h)) (fun k => f133_2_eq E k (fun i => sel (Nat.beq i 0) (R133 E (pb (pb (pb (codeOf fn133)))) true 16 (fun _ => 0) (xret PP fn133) noK (xret PP fn133)) (noK i)) (xret PP fn133) (R133 E (pb (pb (pb (codeOf fn133)))) true 16 (fun _ => 0) (xret PP fn133) noK (xret PP fn133)) rfl) LL]
  refine (bodyR_unf (c := (codeOf fn133)) (by kernel_rfl) (by kernel_rfl)).trans ?_
  show runS (R133 E) PP GG CC E fn133.ntmps LL none (resBits fn133.results.toList) (codeOf fn133) _ _ _ _ _ _ _ = _
  generalize R133 E = R
  generalize LL = L
  generalize PP = P
  symm
  revert R L P
  refine id ?_
  intro R L P
  kernel_rfl
def fn134 : Func := fnAt PP 134
def R134 (E : Ev) : RT := runR PP GG CC E 2 LL none 1
theorem R134_unf (E : Ev) (c : Code) (lv : Nat) (lx : Nat → Nat) (kn : K) (kx : Nat → K) (kr : K) (e : Env) (h : Heap) : R134 E c true lv lx kn kx kr e h = runS (R134 E) PP GG CC E 2 LL none 1 c lv lx kn kx kr e h := runR_unf _ _ _ _ _ _ _ _
def r134 (x0 : AV) (h : Heap) : Res := some (x0, h)
theorem r134_eq : r134 = fun x0 h => xret PP fn134 (mkE [(0, x0)]) h := by kernel_rfl
/-- theodolite/rat.one -/
def s134 (E : Ev) (h : Heap) : Res :=
  obP (E (.fn 168) [(.int .i64 1)] h) fun x1 h1 =>
  r134 x1 h1
theorem s134_eq (E : Ev) (h : Heap) : xbodyR PP GG CC E LL fn134 [] h = s134 E h := by
  unfold s134
  rw [r134_eq]
  refine (bodyR_unf (c := (codeOf fn134)) (by kernel_rfl) (by kernel_rfl)).trans ?_
  show runS (R134 E) PP GG CC E fn134.ntmps LL none (resBits fn134.results.toList) (codeOf fn134) _ _ _ _ _ _ _ = _
  generalize R134 E = R
  generalize LL = L
  generalize PP = P
  symm
  revert R L P
  refine id ?_
  intro R L P
  kernel_rfl
def fn135 : Func := fnAt PP 135
def R135 (E : Ev) : RT := runR PP GG CC E 149 LL none 48
theorem R135_unf (E : Ev) (c : Code) (lv : Nat) (lx : Nat → Nat) (kn : K) (kx : Nat → K) (kr : K) (e : Env) (h : Heap) : R135 E c true lv lx kn kx kr e h = runS (R135 E) PP GG CC E 149 LL none 48 c lv lx kn kx kr e h := runR_unf _ _ _ _ _ _ _ _
def r135 (x4 x5 : AV) (h : Heap) : Res := some (.tuple [x4, x5], h)
theorem r135_eq : r135 = fun x4 x5 h => xret PP fn135 (mkE [(4, x4), (5, x5)]) h := by kernel_rfl
def f135_1 (E : Ev) (kr : AV → AV → Heap → Res) (x4 x9 x10 : AV) (h : Heap) : Res :=
  obP (E (.fn 140) [x4] h) fun x144 h144 =>
  obP (E (.fn 140) [x10] h144) fun x146 h146 =>
  obP (E (.fn 175) [x146, x9] h146) fun x148 h148 =>
  kr x144 x148 h148
theorem f135_1_eq (E : Ev) (kn : K) (kx : Nat → K) (kr : K) : f135_1 E (fun y4 y5 h => kr (mkE [(4, y4), (5, y5)]) h) = fun x4 x9 x10 h => R135 E (pb (pb (pb (pb (pb (pb (pb (pb (pb (codeOf fn135)))))))))) true 48 (fun _ => 0) kn kx kr (mkE [(4, x4), (9, x9), (10, x10)]) h := by
  funext x4 x9 x10 h
  unfold f135_1
  refine Eq.trans ?_ (R135_unf E _ _ _ _ _ _ _ _).symm
  generalize R135 E = R
  generalize LL = L
  generalize PP = P
  revert R L P
  refine id ?_
  intro R L P
  kernel_rfl
def f135_3 (E : Ev) (kn : AV → AV → AV → AV → AV → AV → Heap → Res) (x1 x4 x8 x9 x10 x11 : AV) (h : Heap) : Res :=
  ob (xbin PP .sub 3 true x11 (.int .i64 1)) fun x71 =>
  kn x1 x4 x8 x9 x10 x71 h
theorem f135_3_eq (E : Ev) (kn : K) (kx : Nat → K) (kr : K) : f135_3 E (fun y1 y4 y8 y9 y10 y11 h => kn (mkE [(1, y1), (4, y4), (8, y8), (9, y9), (10, y10), (11, y11)]) h) = fun x1 x4 x8 x9 x10 x11 h => R135 E (pb (pb (pa (pa (pb (pa (pb (pb (pb (pb (pb (pb (pb (pb (codeOf fn135))))))))))))))) true 3858 (fun i => sel (Nat.beq i 1) 1552 ((fun _ => 0) i)) kn kx kr (mkE [(1, x1), (4, x4), (8, x8), (9, x9), (10, x10), (11, x11)]) h := by
  funext x1 x4 x8 x9 x10 x11 h
  unfold f135_3
  refine Eq.trans ?_ (R135_unf E _ _ _ _ _ _ _ _).symm
  generalize R135 E = R
  generalize LL = L
  generalize PP = P
  revert R L P
  refine id ?_
  intro R L P
  kernel_rfl
def f135_4 (E : Ev) (kn : AV → AV → AV → AV → AV → AV → Heap → Res) (x1 x4 x8 x9 x10 x11 x12 : AV) (h : Heap) : Res :=
  ob (xindexAddr PP 139 x4 x11) fun x142 =>
  ob (pStore PP 208 x142 x12 h) fun h0 =>
  kn x1 x4 x8 x9 x10 x11 h0
theorem f135_4_eq (E : Ev) (kn : K) (kx : Nat → K) (kr : K) : f135_4 E (fun y1 y4 y8 y9 y10 y11 h => kn (mkE [(1, y1), (4, y4), (8, y8), (9, y9), (10, y10), (11, y11)]) h) = fun x1 x4 x8 x9 x10 x11 x12 h => R135 E (pb (pb (pa (pa (pb (pa (pa (pb (pa (pb (pb (pb (pb (pb (pb (pb (pb (codeOf fn135)))))))))))))))))) true 3858 (fun i => sel (Nat.beq i 2) 3858 ((fun i => sel (Nat.beq i 1) 1552 ((fun _ => 0) i)) i)) kn kx kr (mkE [(1, x1), (4, x4), (8, x8), (9, x9), (10, x10), (11, x11), (12, x12)]) h := by
  funext x1 x4 x8 x9 x10 x11 x12 h
  unfold f135_4
  refine Eq.trans ?_ (R135_unf E _ _ _ _ _ _ _ _).symm
  generalize R135 E = R
  generalize LL = L
  generalize PP = P
  revert R L P
  refine id ?_
  intro R L P
  kernel_rfl
def f135_5 (E : Ev) (kn : AV → AV → AV → AV → AV → AV → AV → AV → Heap → Res) (k3 : AV → AV → AV → AV → AV → AV → AV → Heap → Res) (x1 x4 x8 x9 x10 x11 x12 x13 : AV) (h : Heap) : Res :=
  pIf x13
   (ob (xbin PP .add 3 false x11 x8) fun x119 =>
   ob (xindexAddr PP 139 x10 x119) fun x120 =>
   ob (pLoad PP 208 x120 h) fun x121 =>
   ob (xbin PP .add 3 false x11 x8) fun x126 =>
   ob (xbin PP .add 3 true x126 (.int .i64 1)) fun x127 =>
   obP (xslice PP h 139 x10 (some x11) (some x127) none) fun x128 h128 =>
   obP (E (.fn 174) [x128, x1] h128) fun x130 h130 =>
   ob (xbin PP .add 3 false x11 x8) fun x134 =>
   ob (xindexAddr PP 139 x10 x134) fun x135 =>
   ob (pLoad PP 208 x135 h130) fun x136 =>
   ob (xbin PP .geq 208 false x136 x121) fun x138 =>
   ob (xbin PP .sub 208 true x12 (.int .u64 1)) fun x115 =>
   kn x1 x4 x8 x9 x10 x11 x115 x138 h130)
   (k3 x1 x4 x8 x9 x10 x11 x12 h)
theorem f135_5_eq (E : Ev) (kn : K) (kx : Nat → K) (kr : K) (e3 : K) (he3 : kx 3 = e3) : f135_5 E (fun y1 y4 y8 y9 y10 y11 y12 y13 h => kn (mkE [(1, y1), (4, y4), (8, y8), (9, y9), (10, y10), (11, y11), (12, y12), (13, y13)]) h) (fun y1 y4 y8 y9 y10 y11 y12 h => e3 (mkE [(1, y1), (4, y4), (8, y8), (9, y9), (10, y10), (11, y11), (12, y12)]) h) = fun x1 x4 x8 x9 x10 x11 x12 x13 h => R135 E (pa (pa (pb (pa (pb (pa (pa (pb (pa (pa (pb (pa (pb (pb (pb (pb (pb (pb (pb (pb (codeOf fn135))))))))))))))))))))) true 16146 (fun i => sel (Nat.beq i 3) 7954 ((fun i => sel (Nat.beq i 2) 3858 ((fun i => sel (Nat.beq i 1) 1552 ((fun _ => 0) i)) i)) i)) kn kx kr (mkE [(1, x1), (4, x4), (8, x8), (9, x9), (10, x10), (11, x11), (12, x12), (13, x13)]) h := by
  subst he3
  funext x1 x4 x8 x9 x10 x11 x12 x13 h
  unfold f135_5
  refine Eq.trans ?_ (R135_unf E _ _ _ _ _ _ _ _).symm
  generalize R135 E = R
  generalize LL = L
  generalize PP = P
  revert R L P
  refine id ?_
  intro R L P
  kernel_rfl
def f135_2 (E : Ev) (kn : AV → AV → AV → AV → AV → AV → Heap → Res) (k1 : AV → AV → AV → Heap → Res) (x1 x4 x8 x9 x10 x11 : AV) (h : Heap) : Res :=
  ob (xbin PP .geq 3 true x11 (.int .i64 0)) fun x69 =>
  pIf x69
   (ob (xbin PP .add 3 false x11 x8) fun x75 =>
   ob (xindexAddr PP 139 x10 x75) fun x76 =>
   ob (pLoad PP 208 x76 h) fun x77 =>
   ob (xbin PP .add 3 false x11 x8) fun x81 =>
   ob (xbin PP .sub 3 true x81 (.int .i64 1)) fun x82 =>
   ob (xindexAddr PP 139 x10 x82) fun x83 =>
   ob (pLoad PP 208 x83 h) fun x84 =>
   ob (xbin PP .add 3 false x11 x8) fun x88 =>
   ob (xbin PP .sub 3 true x88 (.int .i64 2)) fun x89 =>
   ob (xindexAddr PP 139 x10 x89) fun x90 =>
   ob (pLoad PP 208 x90 h) fun x91 =>
   ob (xbin PP .sub 3 true x8 (.int .i64 1)) fun x94 =>
   ob (xindexAddr PP 139 x1 x94) fun x95 =>
   ob (pLoad PP 208 x95 h) fun x96 =>
   ob (xbin PP .sub 3 true x8 (.int .i64 2)) fun x99 =>
   ob (xindexAddr PP 139 x1 x99) fun x100 =>
   ob (pLoad PP 208 x100 h) fun x101 =>
   sel (chkV x77 (pLoad PP 208 x76 h)) (
   sel (chkV x84 (pLoad PP 208 x83 h)) (
   sel (chkV x91 (pLoad PP 208 x90 h)) (
   sel (chkV x96 (pLoad PP 208 x95 h)) (
   sel (chkV x101 (pLoad PP 208 x100 h)) (
   obP (E (.fn 172) [x77, x84, x91, x96, x101] h) fun x102 h102 =>
   ob (xbin PP .add 3 false x11 x8) fun x107 =>
   ob (xbin PP .add 3 true x107 (.int .i64 1)) fun x108 =>
   obP (xslice PP h102 139 x10 (some x11) (some x108) none) fun x109 h109 =>
   obP (E (.fn 173) [x109, x1, x102] h109) fun x112 h112 =>
   lp b8 (fun k => f135_5 E k (f135_4 E (f135_3 E kn))) LL x1 x4 x8 x9 x10 x11 x102 x112 h112) none) none) none) none) none)
   (k1 x4 x9 x10 h)
theorem f135_2_eq (E : Ev) (kn : K) (kx : Nat → K) (kr : K) (e1 : K) (he1 : kx 1 = e1) : f135_2 E (fun y1 y4 y8 y9 y10 y11 h => kn (mkE [(1, y1), (4, y4), (8, y8), (9, y9), (10, y10), (11, y11)]) h) (fun y4 y9 y10 h => e1 (mkE [(4, y4), (9, y9), (10, y10)]) h) = fun x1 x4 x8 x9 x10 x11 h => R135 E (pa (pa (pb (pa (pb (pb (pb (pb (pb (pb (pb (pb (codeOf fn135))))))))))))) true 3858 (fun i => sel (Nat.beq i 1) 1552 ((fun _ => 0) i)) kn kx kr (mkE [(1, x1), (4, x4), (8, x8), (9, x9), (10, x10), (11, x11)]) h := by
  subst he1
  funext x1 x4 x8 x9 x10 x11 h
  unfold f135_2
  rw [f135_3_eq E kn kx kr, f135_4_eq E (R135 E (pb (pb (pa (pa (pb (pa (pb (pb (pb (pb (pb (pb (pb (pb (codeOf fn135))))))))))))))) true 3858 (fun i => sel (Nat.beq i 1) 1552 ((fun _ => 0) i)) kn kx kr) (fun i => sel (Nat.beq i 2) (R135 E (pb (pb (pa (pa (pb (pa (pb (pb (pb (pb (pb (pb (pb (pb (codeOf fn135))))))))))))))) true 3858 (fun i => sel (Nat.beq i 1) 1552 ((fun _ => 0) i)) kn kx kr) (kx i)) kr, lp8_eq 1 4 8 9 10 11 12 13 (fun k => (R135 E (pa (pa (pb (pa (pb (pa (pa (pb (pa (pa (pb (pa (pb (pb (pb (pb (pb (pb (pb (pb (codeOf fn135))))))))))))))))))))) true 16146 (fun i => sel (Nat.beq i 3) 7954 ((fun i => sel (Nat.beq i 2) 3858 ((fun i => sel (Nat.beq i 1) 1552 ((fun _ => 0) i)) i)) i)) k (fun i => sel (Nat.beq i 3) (R135 E (pb (pb (pa (pa (pb (pa (pa (pb (pa (pb (pb (pb (pb (pb (pb (pb (pb (codeOf fn135)))))))))))))))))) true 3858 (fun i => sel (Nat.beq i 2) 3858 ((fun i => sel (Nat.beq i 1) 1552 ((fun _ => 0) i)) i)) (R135 E (pb (pb (pa (pa (pb (pa (pb (pb (pb (pb (pb (pb (pb (pb (codeOf fn135))))))))))))))) true 3858 (fun i => sel (Nat.beq i 1) 1552 ((fun _ => 0) i)) kn kx kr) (fun i => sel (Nat.beq i 2) (R135 E (pb (pb (pa (pa (pb (pa (pb (pb (pb (pb (pb (pb (pb (pb (codeOf fn135))))))))))))))) true 3858 (fun i => sel (Nat.beq i 1) 1552 ((fun _ => 0) i)) kn kx kr) (kx i)) kr) ((fun i => sel (Nat.beq i 2) (R135 E (pb (pb (pa (pa (pb (pa (pb (pb (pb (pb (pb (pb (pb (pb (codeOf fn135))))))))))))))) true 3858 (fun i => sel (Nat.beq i 1) 1552 ((fun _ => 0) i)) kn kx kr) (kx i)) i)) kr)) (fun k => f135_5 E k (fun y1 y4 y8 y9 y10 y11 y12 h => (R135 E (pb (pb (pa (pa (pb (pa (pa (pb (pa (pb (pb (pb (pb (pb (pb (pb (pb (codeOf fn135)))))))))))))))))) true 3858 (fun i => sel (Nat.beq i 2) 3858 ((fun i => sel (Nat.beq i 1) 1552 ((fun _ => 0) i)) i)) (R135 E (pb (pb (pa (pa (pb (pa (pb (pb (pb (pb (pb (pb (pb (pb (codeOf fn135))))))))))))))) true 3858 (fun i => sel (Nat.beq i 1) 1552 ((fun _ => 0) i)) kn kx kr) (fun i => sel (Nat.beq i 2) (R135 E (pb (pb (pa (pa (pb (pa (pb (pb (pb (pb (pb (pb (pb (pb (codeOf fn135))))))))))))))) true 3858 (fun i => sel (Nat.beq i 1) 1552 ((fun _ => 0) i)) kn kx kr) (kx i)) kr) (mkE [(1, y1), (4, y4), (8, y8), (9, y9), (10, y10), (11, y11), (12, y12)]) h)) (fun k => f135_5_eq E k (fun i => sel (Nat.beq i 3) (R135 E (pb (pb (pa (pa (pb (pa (pa (pb (pa (pb (pb (pb (pb (pb (pb (pb (pb (codeOf fn135)))))))))))))))))) true 3858 (fun i => sel (Nat.beq i 2) 3858 ((fun i => sel (Nat.beq i 1) 1552 ((fun _ => 0) i)) i)) (R135 E (pb (pb (pa (pa (pb (pa (pb (pb (pb (pb (pb (pb (pb (pb (codeOf fn135))))))))))))))) true 3858 (fun i => sel (Nat.beq i 1) 1552 ((fun _ => 0) i)) kn kx kr) (fun i => sel (Nat.beq i 2) (R135 E (pb (pb (pa (pa (pb (pa (pb (pb (pb (pb (pb (pb (pb (pb (codeOf fn135))))))))))))))) true 3858 (fun i => sel (Nat.beq i 1) 1552 ((fun _ => 0) i)) kn kx kr) (kx i)) kr) ((fun i => sel (Nat.beq i 2) (R135 E (pb (pb (pa (pa (pb (pa (pb (pb (pb (pb (pb (pb (pb (pb (codeOf fn135))))))))))))))) true 3858 (fun i => sel (Nat.beq i 1) 1552 ((fun _ => 0) i)) kn kx kr) (kx i)) i)) kr (R135 E (pb (pb (pa (pa (pb (pa (pa (pb (pa (pb (pb (pb (pb (pb (pb (pb (pb (codeOf fn135)))))))))))))))))) true 3858 (fun i => sel (Nat.beq i 2) 3858 ((fun i => sel (Nat.beq i 1) 1552 ((fun _ => 0) i)) i)) (R135 E (pb (pb (pa (pa (pb (pa (pb (pb (pb (pb (pb (pb (pb (pb (codeOf fn135))))))))))))))) true 3858 (fun i => sel (Nat.beq i 1) 1552 ((fun _ => 0) i)) kn kx kr) (fun i => sel (Nat.beq i 2) (R135 E (pb (pb (pa (pa (pb (pa (pb (pb (pb (pb (pb (pb (pb (pb (codeOf fn135))))))))))))))) true 3858 (fun i => sel (Nat.beq i 1) 1552 ((fun _ => 0) i)) kn kx kr) (kx i)) kr) rfl) LL]
  refine Eq.trans ?_ (R135_unf E _ _ _ _ _ _ _ _).symm
  generalize R135 E = R
  generalize LL = L
  generalize PP = P
  revert R L P
  refine id ?_
  intro R L P
  kernel_rfl
/-- theodolite/nat.Quot -/
def s135 (E : Ev) (x0 x1 : AV) (h : Heap) : Res :=
  obP (E (.fn 133) [x0, x1] h) fun x18 h18 =>
  ob (xbin PP .lss 3 true x18 (.int .i64 0)) fun x19 =>
  pIf x19
   (obP (E (.fn 140) [x0] h18) fun x21 h21 =>
   obP (E (.fn 122) [x21] h21) fun x22 h22 =>
   r135 .nilSlice x22 h22)
   (ob (xlen PP h18 139 x1) fun x25 =>
   ob (xbin PP .eql 3 true x25 (.int .i64 1)) fun x26 =>
   pIf x26
    (ob (xindexAddr PP 139 x1 (.int .i64 0)) fun x30 =>
    ob (pLoad PP 208 x30 h18) fun x31 =>
    obP (E (.fn 169) [x0, x31] h18) fun x32 h32 =>
    ob (pExtract 0 x32) fun x33 =>
    ob (pExtract 1 x32) fun x34 =>
    obP (pBuildSlice PP h32 139 1 [(0, x34)]) fun x37 h37 =>
    obP (E (.fn 140) [x37] h37) fun x38 h38 =>
    r135 x33 x38 h38)
    (ob (xlen PP h18 139 x1) fun x40 =>
    ob (xbin PP .sub 3 true x40 (.int .i64 1)) fun x43 =>
    ob (xindexAddr PP 139 x1 x43) fun x44 =>
    ob (pLoad PP 208 x44 h18) fun x45 =>
    obP (E (.fn 170) [x45] h18) fun x46 h46 =>
    obP (E (.fn 171) [x1, x46] h46) fun x49 h49 =>
    ob (xlen PP h49 139 x0) fun x51 =>
    ob (xbin PP .add 3 true x51 (.int .i64 1)) fun x52 =>
    obP (xmake PP h49 139 x52 x52) fun x53 h53 =>
    obP (E (.fn 171) [x0, x46] h53) fun x57 h57 =>
    obP (xcopy PP h57 139 x53 x57) fun x58 h58 =>
    ob (xlen PP h58 139 x0) fun x60 =>
    ob (xbin PP .sub 3 false x60 x40) fun x62 =>
    ob (xbin PP .add 3 true x62 (.int .i64 1)) fun x63 =>
    obP (xmake PP h58 139 x63 x63) fun x64 h64 =>
    ob (xlen PP h64 139 x64) fun x66 =>
    ob (xbin PP .sub 3 true x66 (.int .i64 1)) fun x67 =>
    lp b6 (fun k => f135_2 E k (f135_1 E r135)) LL x49 x64 x40 x46 x53 x67 h64))
theorem s135_eq (E : Ev) (x0 x1 : AV) (h : Heap) : xbodyR PP GG CC E LL fn135 [x0, x1] h = s135 E x0 x1 h := by
  unfold s135
  rw [r135_eq, f135_1_eq E (xret PP fn135) noK (xret PP fn135), lp6_eq 1 4 8 9 10 11 (fun k => (R135 E (pa (pa (pb (pa (pb (pb (pb (pb (pb (pb (pb (pb (codeOf fn135))))))))))))) true 3858 (fun i => sel (Nat.beq i 1) 1552 ((fun _ => 0) i)) k (fun i => sel (Nat.beq i 1) (R135 E (pb (pb (pb (pb (pb (pb (pb (pb (pb (codeOf fn135)))))))))) true 48 (fun _ => 0) (xret PP fn135) noK (xret PP fn135)) (noK i)) (xret PP fn135))) (fun k => f135_2 E k (fun y4 y9 y10 h => (R135 E (pb (pb (pb (pb (pb (pb (pb (pb (pb (codeOf fn135)))))))))) true 48 (fun _ => 0) (xret PP fn135) noK (xret PP fn135)) (mkE [(4, y4), (9, y9), (10, y10)]) h)) (fun k => f135_2_eq E k (fun i => sel (Nat.beq i 1) (R135 E (pb (pb (pb (pb (pb (pb (pb (pb (pb (codeOf fn135)))))))))) true 48 (fun _ => 0) (xret PP fn135) noK (xret PP fn135)) (noK i)) (xret PP fn135) (R135 E (pb (pb (pb (pb (pb (pb (pb (pb (pb (codeOf fn135)))))))))) true 48 (fun _ => 0) (xret PP fn135) noK (xret PP fn135)) rfl) LL]
  refine (bodyR_unf (c := (codeOf fn135)) (by kernel_rfl) (by kernel_rfl)).trans ?_
  show runS (R135 E) PP GG CC E fn135.ntmps LL none (resBits fn135.results.toList) (codeOf fn135) _ _ _ _ _ _ _ = _
  generalize R135 E = R
  generalize LL = L
  generalize PP = P
  symm
  revert R L P
  refine id ?_
  intro R L P
  kernel_rfl
def fn136 : Func := fnAt PP 136
def R136 (E : Ev) : RT := runR PP GG CC E 37 LL none 16
theorem R136_unf (E : Ev) (c : Code) (lv : Nat) (lx : Nat → Nat) (kn : K) (kx : Nat → K) (kr : K) (e : Env) (h : Heap) : R136 E c true lv lx kn kx kr e h = runS (R136 E) PP GG CC E 37 LL none 16 c lv lx kn kx kr e h := runR_unf _ _ _ _ _ _ _ _
def r136 (x4 : AV) (h : Heap) : Res := some (x4, h)
theorem r136_eq : r136 = fun x4 h => xret PP fn136 (mkE [(4, x4)]) h := by kernel_rfl
def f136_1 (E : Ev) (kr : AV → Heap → Res) (x0 x1 : AV) (h : Heap) : Res :=
  ob (xlen PP h 9 x1) fun x15 =>
  ob (xbin PP .eql 3 true x15 (.int .i64 1)) fun x16 =>
  ob (pWant x16 true) fun c =>
  ob (sel c (some x1) (some (.tuple []))) fun x18 =>
  ob (pWant x16 true) fun c_1 =>
  ob (sel c_1 (xindex PP 9 x18 (.int .i64 0)) (some (.tuple []))) fun x19 =>
  ob (pWant x16 true) fun c_2 =>
  ob (sel c_2 (xbin PP .lss 5 true x19 (.int .u8 128)) (some (.tuple []))) fun x20 =>
  ob (pPick x16 (some x20) (some (.bool false))) fun x21 =>
  pIf x21
   (ob (xindex PP 9 x1 (.int .i64 0)) fun x24 =>
   obP (E (.fn 160) [x0, x24] h) fun x25 h25 =>
   kr x25 h25)
   (obP (E (.fn 129) [x1] h) fun x28 h28 =>
   ob (pExtract 0 x28) fun x29 =>
   ob (pExtract 1 x28) fun x30 =>
   obP (ob (zeroC PP 218) fun z => some (pNew h28 218 z)) fun x5 h5 =>
   ob (pStore PP 218 x5 x29 h5) fun h0 =>
   pIf x30
    (obP (E (.fn 161) [x0, x5] h0) fun x33 h33 =>
    kr x33 h33)
    (obP (E (.fn 162) [x0, x1] h0) fun x36 h36 =>
    kr x36 h36))
theorem f136_1_eq (E : Ev) (kn : K) (kx : Nat → K) (kr : K) : f136_1 E (fun y4 h => kr (mkE [(4, y4)]) h) = fun x0 x1 h => R136 E (pb (pb (codeOf fn136))) true 16 (fun _ => 0) kn kx kr (mkE [(0, x0), (1, x1)]) h := by
  funext x0 x1 h
  unfold f136_1
  refine Eq.trans ?_ (R136_unf E _ _ _ _ _ _ _ _).symm
  generalize R136 E = R
  generalize LL = L
  generalize PP = P
  revert R L P
  refine id ?_
  intro R L P
  kernel_rfl
/-- strings.TrimLeft -/
def s136 (E : Ev) (x0 x1 : AV) (h : Heap) : Res :=
  ob (xbin PP .eql 9 true x0 (.str 0 0)) fun x8 =>
  ob (pWant x8 false) fun c =>
  ob (sel c (some x1) (some (.tuple []))) fun x10 =>
  ob (pWant x8 false) fun c_1 =>
  ob (sel c_1 (xbin PP .eql 9 true x10 (.str 0 0)) (some (.tuple []))) fun x11 =>
  ob (pPick x8 (some (.bool true)) (some x11)) fun x12 =>
  pIf x12
   (r136 x0 h)
   (f136_1 E r136 x0 x1 h)
theorem s136_eq (E : Ev) (x0 x1 : AV) (h : Heap) : xbodyR PP GG CC E LL fn136 [x0, x1] h = s136 E x0 x1 h := by
  unfold s136
  rw [r136_eq, f136_1_eq E (xret PP fn136) noK (xret PP fn136)]
  refine (bodyR_unf (c := (codeOf fn136)) (by kernel_rfl) (by kernel_rfl)).trans ?_
  show runS (R136 E) PP GG CC E fn136.ntmps LL none (resBits fn136.results.toList) (codeOf fn136) _ _ _ _ _ _ _ = _
  generalize R136 E = R
  generalize LL = L
  generalize PP = P
  symm
  revert R L P
  refine id ?_
  intro R L P
  kernel_rfl
def fn137 : Func := fnAt PP 137
def R137 (E : Ev) : RT := runR PP GG CC E 26 LL none 192
theorem R137_unf (E : Ev) (c : Code) (lv : Nat) (lx : Nat → Nat) (kn : K) (kx : Nat → K) (kr : K) (e : Env) (h : Heap) : R137 E c true lv lx kn kx kr e h = runS (R137 E) PP GG CC E 26 LL none 192 c lv lx kn kx kr e h := runR_unf _ _ _ _ _ _ _ _
def r137 (x6 x7 : AV) (h : Heap) : Res := some (.tuple [x6, x7], h)
theorem r137_eq : r137 = fun x6 x7 h => xret PP fn137 (mkE [(6, x6), (7, x7)]) h := by kernel_rfl
/-- strconv.ParseUint -/
def s137 (E : Ev) (x0 x1 x2 : AV) (h : Heap) : Res :=
  obP (E (.fn 176) [x0, x1, x2] h) fun x14 h14 =>
  ob (pExtract 0 x14) fun x15 =>
  ob (pExtract 1 x14) fun x16 =>
  ob (xbin PP .neq 198 true x16 .nilIface) fun x18 =>
  pIf x18
   (obP (E (.fn 149) [(.str 9 2147778296661251613008), x0, x1, x2, x16] h14) fun x24 h24 =>
   r137 x15 x24 h24)
   (r137 x15 .nilIface h14)
theorem s137_eq (E : Ev) (x0 x1 x2 : AV) (h : Heap) : xbodyR PP GG CC E LL fn137 [x0, x1, x2] h = s137 E x0 x1 x2 h := by
  unfold s137
  rw [r137_eq]
  refine (bodyR_unf (c := (codeOf fn137)) (by kernel_rfl) (by kernel_rfl)).trans ?_
  show runS (R137 E) PP GG CC E fn137.ntmps LL none (resBits fn137.results.toList) (codeOf fn137) _ _ _ _ _ _ _ = _
  generalize R137 E = R
  generalize LL = L
  generalize PP = P
  symm
  revert R L P
  refine id ?_
  intro R L P
  kernel_rfl
def fn138 : Func := fnAt PP 138
def R138 (E : Ev) : RT := runR PP GG CC E 54 LL none 16
theorem R138_unf (E : Ev) (c : Code) (lv : Nat) (lx : Nat → Nat) (kn : K) (kx : Nat → K) (kr : K) (e : Env) (h : Heap) : R138 E c true lv lx kn kx kr e h = runS (R138 E) PP GG CC E 54 LL none 16 c lv lx kn kx kr e h := runR_unf _ _ _ _ _ _ _ _
def r138 (x4 : AV) (h : Heap) : Res := some (x4, h)
theorem r138_eq : r138 = fun x4 h => xret PP fn138 (mkE [(4, x4)]) h := by kernel_rfl
def f138_2 (E : Ev) (kr : AV → Heap → Res) (x0 x5 x6 : AV) (h : Heap) : Res :=
  ob (xlen PP h 139 x0) fun x49 =>
  ob (xindexAddr PP 139 x5 x49) fun x51 =>
  ob (pStore PP 208 x51 x6 h) fun h0 =>
  obP (E (.fn 140) [x5] h0) fun x53 h53 =>
  kr x53 h53
theorem f138_2_eq (E : Ev) (kn : K) (kx : Nat → K) (kr : K) : f138_2 E (fun y4 h => kr (mkE [(4, y4)]) h) = fun x0 x5 x6 h => R138 E (pb (pb (pb (pb (pb (codeOf fn138)))))) true 16 (fun _ => 0) kn kx kr (mkE [(0, x0), (5, x5), (6, x6)]) h := by
  funext x0 x5 x6 h
  unfold f138_2
  refine Eq.trans ?_ (R138_unf E _ _ _ _ _ _ _ _).symm
  generalize R138 E = R
  generalize LL = L
  generalize PP = P
  revert R L P
  refine id ?_
  intro R L P
  kernel_rfl
def f138_4 (E : Ev) (kn : AV → AV → AV → AV → AV → AV → AV → Heap → Res) (x0 x1 x5 x6 x21 x22 x23 : AV) (h : Heap) : Res :=
  ob (xbin PP .add 3 true x23 (.int .i64 1)) fun x46 =>
  kn x0 x1 x5 x6 x21 x22 x46 h
theorem f138_4_eq (E : Ev) (kn : K) (kx : Nat → K) (kr : K) : f138_4 E (fun y0 y1 y5 y6 y21 y22 y23 h => kn (mkE [(0, y0), (1, y1), (5, y5), (6, y6), (21, y21), (22, y22), (23, y23)]) h) = fun x0 x1 x5 x6 x21 x22 x23 h => R138 E (pb (pb (pb (pa (pa (pb (pa (pb (pb (pb (pb (codeOf fn138)))))))))))) true 14680163 (fun i => sel (Nat.beq i 0) 97 ((fun _ => 0) i)) kn kx kr (mkE [(0, x0), (1, x1), (5, x5), (6, x6), (21, x21), (22, x22), (23, x23)]) h := by
  funext x0 x1 x5 x6 x21 x22 x23 h
  unfold f138_4
  refine Eq.trans ?_ (R138_unf E _ _ _ _ _ _ _ _).symm
  generalize R138 E = R
  generalize LL = L
  generalize PP = P
  revert R L P
  refine id ?_
  intro R L P
  kernel_rfl
def f138_5 (E : Ev) (kn : AV → AV → AV → AV → AV → AV → AV → Heap → Res) (x0 x1 x5 x6 x7 x8 x9 x21 x22 x23 : AV) (h : Heap) : Res :=
  obP (xext .add64 [x8, x9, x6] h) fun x42 h42 =>
  ob (pExtract 0 x42) fun x43 =>
  ob (pExtract 1 x42) fun x44 =>
  ob (xindexAddr PP 139 x5 x7) fun x45 =>
  ob (pStore PP 208 x45 x43 h42) fun h0 =>
  kn x0 x1 x5 x44 x21 x22 x23 h0
theorem f138_5_eq (E : Ev) (kn : K) (kx : Nat → K) (kr : K) : f138_5 E (fun y0 y1 y5 y6 y21 y22 y23 h => kn (mkE [(0, y0), (1, y1), (5, y5), (6, y6), (21, y21), (22, y22), (23, y23)]) h) = fun x0 x1 x5 x6 x7 x8 x9 x21 x22 x23 h => R138 E (pb (pb (pb (pa (pa (pb (pb (pa (pa (pb (pa (pb (pb (pb (pb (codeOf fn138)))))))))))))))) true 14680163 (fun i => sel (Nat.beq i 1) 14680163 ((fun i => sel (Nat.beq i 0) 97 ((fun _ => 0) i)) i)) kn kx kr (mkE [(0, x0), (1, x1), (5, x5), (6, x6), (7, x7), (8, x8), (9, x9), (21, x21), (22, x22), (23, x23)]) h := by
  funext x0 x1 x5 x6 x7 x8 x9 x21 x22 x23 h
  unfold f138_5
  refine Eq.trans ?_ (R138_unf E _ _ _ _ _ _ _ _).symm
  generalize R138 E = R
  generalize LL = L
  generalize PP = P
  revert R L P
  refine id ?_
  intro R L P
  kernel_rfl
def f138_3 (E : Ev) (kn : AV → AV → AV → AV → AV → AV → AV → Heap → Res) (k0 : AV → AV → AV → Heap → Res) (x0 x1 x5 x6 x21 x22 x23 : AV) (h : Heap) : Res :=
  ob (xbin PP .lss 3 false x23 x22) fun x24 =>
  pIf x24
   (ob (xindexAddr PP 139 x21 x23) fun x26 =>
   ob (pLoad PP 208 x26 h) fun x27 =>
   ob (xlen PP h 139 x1) fun x30 =>
   ob (xbin PP .lss 3 false x23 x30) fun x31 =>
   pIf x31
    (ob (xindexAddr PP 139 x1 x23) fun x34 =>
    ob (pLoad PP 208 x34 h) fun x35 =>
    f138_5 E (f138_4 E kn) x0 x1 x5 x6 x23 x27 x35 x21 x22 x23 h)
    (f138_5 E (f138_4 E kn) x0 x1 x5 x6 x23 x27 (.int .u64 0) x21 x22 x23 h))
   (k0 x0 x5 x6 h)
theorem f138_3_eq (E : Ev) (kn : K) (kx : Nat → K) (kr : K) (e0 : K) (he0 : kx 0 = e0) : f138_3 E (fun y0 y1 y5 y6 y21 y22 y23 h => kn (mkE [(0, y0), (1, y1), (5, y5), (6, y6), (21, y21), (22, y22), (23, y23)]) h) (fun y0 y5 y6 h => e0 (mkE [(0, y0), (5, y5), (6, y6)]) h) = fun x0 x1 x5 x6 x21 x22 x23 h => R138 E (pa (pa (pb (pa (pb (pb (pb (pb (codeOf fn138))))))))) true 14680163 (fun i => sel (Nat.beq i 0) 97 ((fun _ => 0) i)) kn kx kr (mkE [(0, x0), (1, x1), (5, x5), (6, x6), (21, x21), (22, x22), (23, x23)]) h := by
  subst he0
  funext x0 x1 x5 x6 x21 x22 x23 h
  unfold f138_3
  rw [f138_4_eq E kn kx kr, f138_5_eq E (R138 E (pb (pb (pb (pa (pa (pb (pa (pb (pb (pb (pb (codeOf fn138)))))))))))) true 14680163 (fun i => sel (Nat.beq i 0) 97 ((fun _ => 0) i)) kn kx kr) (fun i => sel (Nat.beq i 1) (R138 E (pb (pb (pb (pa (pa (pb (pa (pb (pb (pb (pb (codeOf fn138)))))))))))) true 14680163 (fun i => sel (Nat.beq i 0) 97 ((fun _ => 0) i)) kn kx kr) (kx i)) kr]
  refine Eq.trans ?_ (R138_unf E _ _ _ _ _ _ _ _).symm
  generalize R138 E = R
  generalize LL = L
  generalize PP = P
  revert R L P
  refine id ?_
  intro R L P
  kernel_rfl
def f138_1 (E : Ev) (kr : AV → Heap → Res) (x0 x1 : AV) (h : Heap) : Res :=
  ob (xlen PP h 139 x0) fun x18 =>
  ob (xbin PP .add 3 true x18 (.int .i64 1)) fun x19 =>
  obP (xmake PP h 139 x19 x19) fun x20 h20 =>
  ob (xlen PP h20 139 x0) fun x22 =>
  lp b7 (fun k => f138_3 E k (f138_2 E kr)) LL x0 x1 x20 (.int .u64 0) x0 x22 (.int .i64 0) h20
theorem f138_1_eq (E : Ev) (kn : K) (kx : Nat → K) (kr : K) : f138_1 E (fun y4 h => kr (mkE [(4, y4)]) h) = fun x0 x1 h => R138 E (pb (pb (codeOf fn138))) true 16 (fun _ => 0) kn kx kr (mkE [(0, x0), (1, x1)]) h := by
  funext x0 x1 h
  unfold f138_1
  rw [f138_2_eq E kn kx kr, lp7_eq 0 1 5 6 21 22 23 (fun k => (R138 E (pa (pa (pb (pa (pb (pb (pb (pb (codeOf fn138))))))))) true 14680163 (fun i => sel (Nat.beq i 0) 97 ((fun _ => 0) i)) k (fun i => sel (Nat.beq i 0) (R138 E (pb (pb (pb (pb (pb (codeOf fn138)))))) true 16 (fun _ => 0) kn kx kr) (kx i)) kr)) (fun k => f138_3 E k (fun y0 y5 y6 h => (R138 E (pb (pb (pb (pb (pb (codeOf fn138)))))) true 16 (fun _ => 0) kn kx kr) (mkE [(0, y0), (5, y5), (6, y6)]) h)) (fun k => f138_3_eq E k (fun i => sel (Nat.beq i 0) (R138 E (pb (pb (pb (pb (pb (codeOf fn138)))))) true 16 (fun _ => 0) kn kx kr) (kx i)) kr (R138 E (pb (pb (pb (pb (pb (codeOf fn138)))))) true 16 (fun _ => 0) kn kx kr) rfl) LL]
  refine Eq.trans ?_ (R138_unf E _ _ _ _ _ _ _ _).symm
  generalize R138 E = R
  generalize LL = L
  generalize PP = P
  revert R L P
  refine id ?_
  intro R L P
  kernel_rfl
/-- theodolite/nat.Plus -/
def s138 (E : Ev) (x0 x1 : AV) (h : Heap) : Res :=
  ob (xlen PP h 139 x0) fun x11 =>
  ob (xlen PP h 139 x1) fun x13 =>
  ob (xbin PP .lss 3 false x11 x13) fun x14 =>
  pIf x14
   (f138_1 E r138 x1 x0 h)
   (f138_1 E r138 x0 x1 h)
theorem s138_eq (E : Ev) (x0 x1 : AV) (h : Heap) : xbodyR PP GG CC E LL fn138 [x0, x1] h = s138 E x0 x1 h := by
  unfold s138
  rw [r138_eq, f138_1_eq E (xret PP fn138) noK (xret PP fn138)]
  refine (bodyR_unf (c := (codeOf fn138)) (by kernel_rfl) (by kernel_rfl)).trans ?_
  show runS (R138 E) PP GG CC E fn138.ntmps LL none (resBits fn138.results.toList) (codeOf fn138) _ _ _ _ _ _ _ = _
  generalize R138 E = R
  generalize LL = L
  generalize PP = P
  symm
  revert R L P
  refine id ?_
  intro R L P
  kernel_rfl
end
end S14
