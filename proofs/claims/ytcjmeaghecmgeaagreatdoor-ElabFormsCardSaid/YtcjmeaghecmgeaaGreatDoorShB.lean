/- Own texts of this proof: Sh14b. -/
import Derived.Test.YtcjmeaghecmgeaaGreatDoorBase
set_option autoImplicit true
set_option relaxedAutoImplicit true
set_option linter.all false
open Go Go.Th Go.Proofs
set_option maxRecDepth 100000
set_option linter.unusedVariables false
namespace S14
noncomputable section
def fn47 : Func := fnAt PP 47
def R47 (E : Ev) : RT := runR PP GG CC E 18 LL none 48
theorem R47_unf (E : Ev) (c : Code) (lv : Nat) (lx : Nat → Nat) (kn : K) (kx : Nat → K) (kr : K) (e : Env) (h : Heap) : R47 E c true lv lx kn kx kr e h = runS (R47 E) PP GG CC E 18 LL none 48 c lv lx kn kx kr e h := runR_unf _ _ _ _ _ _ _ _
def r47 (x4 x5 : AV) (h : Heap) : Res := some (.tuple [x4, x5], h)
theorem r47_eq : r47 = fun x4 x5 h => xret PP fn47 (mkE [(4, x4), (5, x5)]) h := by kernel_rfl
/-- (*theodolite/term.Table).Sort -/
def s47 (E : Ev) (x0 x1 : AV) (h : Heap) : Res :=
  obP (E (.fn 71) [x0, x1] h) fun x8 h8 =>
  ob (xun .not x8) fun x9 =>
  pIf x9
   (r47 (.int .i64 0) (.bool false) h8)
   (ob (pNil x0) fun x11 =>
   ob (pFieldAddr PP 100 1 x11) fun x12 =>
   ob (pLoad PP 61 x12 h8) fun x13 =>
   ob (xindexAddr PP 61 x13 x1) fun x15 =>
   ob (pFieldAddr PP 143 4 x15) fun x16 =>
   ob (pLoad PP 3 x16 h8) fun x17 =>
   r47 x17 (.bool true) h8)
theorem s47_eq (E : Ev) (x0 x1 : AV) (h : Heap) : xbodyR PP GG CC E LL fn47 [x0, x1] h = s47 E x0 x1 h := by
  unfold s47
  rw [r47_eq]
  refine (bodyR_unf (c := (codeOf fn47)) (by kernel_rfl) (by kernel_rfl)).trans ?_
  show runS (R47 E) PP GG CC E fn47.ntmps LL none (resBits fn47.results.toList) (codeOf fn47) _ _ _ _ _ _ _ = _
  generalize R47 E = R
  generalize LL = L
  generalize PP = P
  symm
  revert R L P
  refine id ?_
  intro R L P
  kernel_rfl
def fn48 : Func := fnAt PP 48
def R48 (E : Ev) : RT := runR PP GG CC E 19 LL none 16
theorem R48_unf (E : Ev) (c : Code) (lv : Nat) (lx : Nat → Nat) (kn : K) (kx : Nat → K) (kr : K) (e : Env) (h : Heap) : R48 E c true lv lx kn kx kr e h = runS (R48 E) PP GG CC E 19 LL none 16 c lv lx kn kx kr e h := runR_unf _ _ _ _ _ _ _ _
def r48 (x4 : AV) (h : Heap) : Res := some (x4, h)
theorem r48_eq : r48 = fun x4 h => xret PP fn48 (mkE [(4, x4)]) h := by kernel_rfl
def f48_1 (E : Ev) (kr : AV → Heap → Res) (h : Heap) : Res :=
  kr (.int .i64 (-1)) h
theorem f48_1_eq (E : Ev) (kn : K) (kx : Nat → K) (kr : K) : f48_1 E (fun y4 h => kr (mkE [(4, y4)]) h) = fun h => R48 E (pb (pb (codeOf fn48))) true 16 (fun _ => 0) kn kx kr (mkE []) h := by
  funext h
  unfold f48_1
  refine Eq.trans ?_ (R48_unf E _ _ _ _ _ _ _ _).symm
  generalize R48 E = R
  generalize LL = L
  generalize PP = P
  revert R L P
  refine id ?_
  intro R L P
  kernel_rfl
def f48_2 (E : Ev) (kn : AV → AV → AV → AV → Heap → Res) (k0 : Heap → Res) (kr : AV → Heap → Res) (x0 x1 x7 x8 : AV) (h : Heap) : Res :=
  ob (xbin PP .lss 3 false x8 x7) fun x9 =>
  pIf x9
   (ob (xindexAddr PP 74 x0 x8) fun x14 =>
   ob (pLoad PP 84 x14 h) fun x15 =>
   obP (xcallV ⟨PP, GG, CC, E⟩ x1 [x15] h) fun x16 h16 =>
   pIf x16
    (kr x8 h16)
    (ob (xbin PP .add 3 true x8 (.int .i64 1)) fun x18 =>
    kn x0 x1 x7 x18 h16))
   (k0 h)
theorem f48_2_eq (E : Ev) (kn : K) (kx : Nat → K) (kr : K) (e0 : K) (he0 : kx 0 = e0) : f48_2 E (fun y0 y1 y7 y8 h => kn (mkE [(0, y0), (1, y1), (7, y7), (8, y8)]) h) (fun h => e0 (mkE []) h) (fun y4 h => kr (mkE [(4, y4)]) h) = fun x0 x1 x7 x8 h => R48 E (pa (pa (pb (pa (pb (codeOf fn48)))))) true 387 (fun i => sel (Nat.beq i 0) 0 ((fun _ => 0) i)) kn kx kr (mkE [(0, x0), (1, x1), (7, x7), (8, x8)]) h := by
  subst he0
  funext x0 x1 x7 x8 h
  unfold f48_2
  refine Eq.trans ?_ (R48_unf E _ _ _ _ _ _ _ _).symm
  generalize R48 E = R
  generalize LL = L
  generalize PP = P
  revert R L P
  refine id ?_
  intro R L P
  kernel_rfl
/-- slices.IndexFunc[[]theodolite/elab.def,theodolite/elab.def] -/
def s48 (E : Ev) (x0 x1 : AV) (h : Heap) : Res :=
  ob (xlen PP h 74 x0) fun x7 =>
  lp b4 (fun k => f48_2 E k (f48_1 E r48) r48) LL x0 x1 x7 (.int .i64 0) h
theorem s48_eq (E : Ev) (x0 x1 : AV) (h : Heap) : xbodyR PP GG CC E LL fn48 [x0, x1] h = s48 E x0 x1 h := by
  unfold s48
  rw [r48_eq, f48_1_eq E (xret PP fn48) noK (xret PP fn48), lp4_eq 0 1 7 8 (fun k => (R48 E (pa (pa (pb (pa (pb (codeOf fn48)))))) true 387 (fun i => sel (Nat.beq i 0) 0 ((fun _ => 0) i)) k (fun i => sel (Nat.beq i 0) (R48 E (pb (pb (codeOf fn48))) true 16 (fun _ => 0) (xret PP fn48) noK (xret PP fn48)) (noK i)) (xret PP fn48))) (fun k => f48_2 E k (fun h => (R48 E (pb (pb (codeOf fn48))) true 16 (fun _ => 0) (xret PP fn48) noK (xret PP fn48)) (mkE []) h) (fun y4 h => (xret PP fn48) (mkE [(4, y4)]) h)) (fun k => f48_2_eq E k (fun i => sel (Nat.beq i 0) (R48 E (pb (pb (codeOf fn48))) true 16 (fun _ => 0) (xret PP fn48) noK (xret PP fn48)) (noK i)) (xret PP fn48) (R48 E (pb (pb (codeOf fn48))) true 16 (fun _ => 0) (xret PP fn48) noK (xret PP fn48)) rfl) LL]
  refine (bodyR_unf (c := (codeOf fn48)) (by kernel_rfl) (by kernel_rfl)).trans ?_
  show runS (R48 E) PP GG CC E fn48.ntmps LL none (resBits fn48.results.toList) (codeOf fn48) _ _ _ _ _ _ _ = _
  generalize R48 E = R
  generalize LL = L
  generalize PP = P
  symm
  revert R L P
  refine id ?_
  intro R L P
  kernel_rfl
def fn49 : Func := fnAt PP 49
def R49 (E : Ev) : RT := runR PP GG CC E 8 LL none 8
theorem R49_unf (E : Ev) (c : Code) (lv : Nat) (lx : Nat → Nat) (kn : K) (kx : Nat → K) (kr : K) (e : Env) (h : Heap) : R49 E c true lv lx kn kx kr e h = runS (R49 E) PP GG CC E 8 LL none 8 c lv lx kn kx kr e h := runR_unf _ _ _ _ _ _ _ _
def r49 (x3 : AV) (h : Heap) : Res := some (x3, h)
theorem r49_eq : r49 = fun x3 h => xret PP fn49 (mkE [(3, x3)]) h := by kernel_rfl
/-- (*theodolite/elab.Defs).find$1 -/
def s49 (E : Ev) (x0 x1 : AV) (h : Heap) : Res :=
  obP (some (pNew h 84 x0.cells)) fun x2 h2 =>
  ob (pFieldAddr PP 84 0 x2) fun x4 =>
  ob (pLoad PP 9 x4 h2) fun x5 =>
  ob (pLoad PP 9 x1 h2) fun x6 =>
  ob (xbin PP .eql 9 false x5 x6) fun x7 =>
  r49 x7 h2
theorem s49_eq (E : Ev) (x0 x1 : AV) (h : Heap) : xbodyR PP GG CC E LL fn49 [x0, x1] h = s49 E x0 x1 h := by
  unfold s49
  rw [r49_eq]
  refine (bodyR_unf (c := (codeOf fn49)) (by kernel_rfl) (by kernel_rfl)).trans ?_
  show runS (R49 E) PP GG CC E fn49.ntmps LL none (resBits fn49.results.toList) (codeOf fn49) _ _ _ _ _ _ _ = _
  generalize R49 E = R
  generalize LL = L
  generalize PP = P
  symm
  revert R L P
  refine id ?_
  intro R L P
  kernel_rfl
def fn50 : Func := fnAt PP 50
def R50 (E : Ev) : RT := runR PP GG CC E 18 LL none 4
theorem R50_unf (E : Ev) (c : Code) (lv : Nat) (lx : Nat → Nat) (kn : K) (kx : Nat → K) (kr : K) (e : Env) (h : Heap) : R50 E c true lv lx kn kx kr e h = runS (R50 E) PP GG CC E 18 LL none 4 c lv lx kn kx kr e h := runR_unf _ _ _ _ _ _ _ _
def r50 (x2 : AV) (h : Heap) : Res := some (x2, h)
theorem r50_eq : r50 = fun x2 h => xret PP fn50 (mkE [(2, x2)]) h := by kernel_rfl
def f50_1 (E : Ev) (kr : AV → Heap → Res) (h : Heap) : Res :=
  kr (.bool false) h
theorem f50_1_eq (E : Ev) (kn : K) (kx : Nat → K) (kr : K) : f50_1 E (fun y2 h => kr (mkE [(2, y2)]) h) = fun h => R50 E (pb (pb (pb (codeOf fn50)))) true 4 (fun _ => 0) kn kx kr (mkE []) h := by
  funext h
  unfold f50_1
  refine Eq.trans ?_ (R50_unf E _ _ _ _ _ _ _ _).symm
  generalize R50 E = R
  generalize LL = L
  generalize PP = P
  revert R L P
  refine id ?_
  intro R L P
  kernel_rfl
def f50_2 (E : Ev) (kn : AV → AV → AV → Heap → Res) (k0 : Heap → Res) (kr : AV → Heap → Res) (x0 x3 x4 : AV) (h : Heap) : Res :=
  ob (xlen PP h 27 x3) fun x8 =>
  ob (xbin PP .lss 3 false x4 x8) fun x9 =>
  pIf x9
   (ob (xindexAddr PP 27 x3 x4) fun x14 =>
   ob (pLoad PP 9 x14 h) fun x15 =>
   ob (xbin PP .eql 9 false x15 x0) fun x17 =>
   pIf x17
    (kr (.bool true) h)
    (ob (xbin PP .add 3 true x4 (.int .i64 1)) fun x11 =>
    kn x0 x3 x11 h))
   (k0 h)
theorem f50_2_eq (E : Ev) (kn : K) (kx : Nat → K) (kr : K) (e0 : K) (he0 : kx 0 = e0) : f50_2 E (fun y0 y3 y4 h => kn (mkE [(0, y0), (3, y3), (4, y4)]) h) (fun h => e0 (mkE []) h) (fun y2 h => kr (mkE [(2, y2)]) h) = fun x0 x3 x4 h => R50 E (pa (pa (pb (pa (pb (pb (codeOf fn50))))))) true 25 (fun i => sel (Nat.beq i 0) 0 ((fun _ => 0) i)) kn kx kr (mkE [(0, x0), (3, x3), (4, x4)]) h := by
  subst he0
  funext x0 x3 x4 h
  unfold f50_2
  refine Eq.trans ?_ (R50_unf E _ _ _ _ _ _ _ _).symm
  generalize R50 E = R
  generalize LL = L
  generalize PP = P
  revert R L P
  refine id ?_
  intro R L P
  kernel_rfl
/-- theodolite/theodoliteref6.Reserved -/
def s50 (E : Ev) (x0 : AV) (h : Heap) : Res :=
  obP (pBuildSlice PP h 27 27 [(0, (.str 4 1702195828)), (1, (.str 5 435728179558)), (2, (.str 3 7630702)), (3, (.str 3 6581857)), (4, (.str 2 29295)), (5, (.str 2 15933)), (6, (.str 3 7499640)), (7, (.str 1 61)), (8, (.str 8 8386668330298337636)), (9, (.str 3 6648937)), (10, (.str 3 7628140)), (11, (.str 1 43)), (12, (.str 1 45)), (13, (.str 1 42)), (14, (.str 1 47)), (15, (.str 2 15676)), (16, (.str 1 60)), (17, (.str 2 15678)), (18, (.str 1 62)), (19, (.str 4 1819242306)), (20, (.str 4 1818322258)), (21, (.str 1 95)), (22, (.str 1 33)), (23, (.str 2 29537)), (24, (.str 6 126943989692517)), (25, (.str 6 119212747157350)), (26, (.str 3 7496048))]) fun x5 h5 =>
  lp b3 (fun k => f50_2 E k (f50_1 E r50) r50) LL x0 x5 (.int .i64 0) h5
theorem s50_eq (E : Ev) (x0 : AV) (h : Heap) : xbodyR PP GG CC E LL fn50 [x0] h = s50 E x0 h := by
  unfold s50
  rw [r50_eq, f50_1_eq E (xret PP fn50) noK (xret PP fn50), lp3_eq 0 3 4 (fun k => (R50 E (pa (pa (pb (pa (pb (pb (codeOf fn50))))))) true 25 (fun i => sel (Nat.beq i 0) 0 ((fun _ => 0) i)) k (fun i => sel (Nat.beq i 0) (R50 E (pb (pb (pb (codeOf fn50)))) true 4 (fun _ => 0) (xret PP fn50) noK (xret PP fn50)) (noK i)) (xret PP fn50))) (fun k => f50_2 E k (fun h => (R50 E (pb (pb (pb (codeOf fn50)))) true 4 (fun _ => 0) (xret PP fn50) noK (xret PP fn50)) (mkE []) h) (fun y2 h => (xret PP fn50) (mkE [(2, y2)]) h)) (fun k => f50_2_eq E k (fun i => sel (Nat.beq i 0) (R50 E (pb (pb (pb (codeOf fn50)))) true 4 (fun _ => 0) (xret PP fn50) noK (xret PP fn50)) (noK i)) (xret PP fn50) (R50 E (pb (pb (pb (codeOf fn50)))) true 4 (fun _ => 0) (xret PP fn50) noK (xret PP fn50)) rfl) LL]
  refine (bodyR_unf (c := (codeOf fn50)) (by kernel_rfl) (by kernel_rfl)).trans ?_
  show runS (R50 E) PP GG CC E fn50.ntmps LL none (resBits fn50.results.toList) (codeOf fn50) _ _ _ _ _ _ _ = _
  generalize R50 E = R
  generalize LL = L
  generalize PP = P
  symm
  revert R L P
  refine id ?_
  intro R L P
  kernel_rfl
def fn51 : Func := fnAt PP 51
def R51 (E : Ev) : RT := runR PP GG CC E 27 LL none 48
theorem R51_unf (E : Ev) (c : Code) (lv : Nat) (lx : Nat → Nat) (kn : K) (kx : Nat → K) (kr : K) (e : Env) (h : Heap) : R51 E c true lv lx kn kx kr e h = runS (R51 E) PP GG CC E 27 LL none 48 c lv lx kn kx kr e h := runR_unf _ _ _ _ _ _ _ _
def r51 (x4 x5 : AV) (h : Heap) : Res := ob (ob (pLoad PP 56 x4 h) fun v => ob (ob (some x5) fun v => some [v]) fun vs => some (v :: vs)) fun vs => some (one vs, h)
theorem r51_eq : r51 = fun x4 x5 h => xret PP fn51 (mkE [(4, x4), (5, x5)]) h := by kernel_rfl
/-- (*theodolite/sorts.Table).Find -/
def s51 (E : Ev) (x0 x1 : AV) (h : Heap) : Res :=
  obP (some (pNew h 9 x1.cells)) fun x3 h3 =>
  obP (ob (zeroC PP 56) fun z => some (pNew h3 56 z)) fun x4 h4 =>
  ob (xbin PP .eql 35 true x0 .nilPtr) fun x8 =>
  pIf x8
   (ob (xbuild PP 56 []) fun x9 =>
   ob (pStore PP 56 x4 x9 h4) fun h0 =>
   r51 x4 (.bool false) h0)
   (ob (pNil x0) fun x11 =>
   ob (pFieldAddr PP 89 1 x11) fun x12 =>
   ob (pLoad PP 47 x12 h4) fun x13 =>
   obP (E (.fn 72) [x13, (.func 73 [] [x3])] h4) fun x15 h15 =>
   ob (xbin PP .lss 3 true x15 (.int .i64 0)) fun x17 =>
   pIf x17
    (ob (xbuild PP 56 []) fun x18 =>
    ob (pStore PP 56 x4 x18 h15) fun h0 =>
    r51 x4 (.bool false) h0)
    (ob (pNil x0) fun x20 =>
    ob (pFieldAddr PP 89 1 x20) fun x21 =>
    ob (pLoad PP 47 x21 h15) fun x22 =>
    ob (xindexAddr PP 47 x22 x15) fun x24 =>
    ob (pLoad PP 56 x24 h15) fun x25 =>
    obP (E (.fn 33) [x25] h15) fun x26 h26 =>
    ob (pStore PP 56 x4 x26 h26) fun h0 =>
    r51 x4 (.bool true) h0))
theorem s51_eq (E : Ev) (x0 x1 : AV) (h : Heap) : xbodyR PP GG CC E LL fn51 [x0, x1] h = s51 E x0 x1 h := by
  unfold s51
  rw [r51_eq]
  refine (bodyR_unf (c := (codeOf fn51)) (by kernel_rfl) (by kernel_rfl)).trans ?_
  show runS (R51 E) PP GG CC E fn51.ntmps LL none (resBits fn51.results.toList) (codeOf fn51) _ _ _ _ _ _ _ = _
  generalize R51 E = R
  generalize LL = L
  generalize PP = P
  symm
  revert R L P
  refine id ?_
  intro R L P
  kernel_rfl
def fn52 : Func := fnAt PP 52
def R52 (E : Ev) : RT := runR PP GG CC E 8 LL none 4
theorem R52_unf (E : Ev) (c : Code) (lv : Nat) (lx : Nat → Nat) (kn : K) (kx : Nat → K) (kr : K) (e : Env) (h : Heap) : R52 E c true lv lx kn kx kr e h = runS (R52 E) PP GG CC E 8 LL none 4 c lv lx kn kx kr e h := runR_unf _ _ _ _ _ _ _ _
def r52 (x2 : AV) (h : Heap) : Res := some (x2, h)
theorem r52_eq : r52 = fun x2 h => xret PP fn52 (mkE [(2, x2)]) h := by kernel_rfl
/-- slices.Clone[[]int,int] -/
def s52 (E : Ev) (x0 : AV) (h : Heap) : Res :=
  ob (xbin PP .eql 22 true x0 .nilSlice) fun x4 =>
  pIf x4
   (r52 .nilSlice h)
   (obP (pBuildSlice PP h 22 0 []) fun x5 h5 =>
   obP (xappend PP h5 22 22 x5 x0) fun x7 h7 =>
   r52 x7 h7)
theorem s52_eq (E : Ev) (x0 : AV) (h : Heap) : xbodyR PP GG CC E LL fn52 [x0] h = s52 E x0 h := by
  unfold s52
  rw [r52_eq]
  refine (bodyR_unf (c := (codeOf fn52)) (by kernel_rfl) (by kernel_rfl)).trans ?_
  show runS (R52 E) PP GG CC E fn52.ntmps LL none (resBits fn52.results.toList) (codeOf fn52) _ _ _ _ _ _ _ = _
  generalize R52 E = R
  generalize LL = L
  generalize PP = P
  symm
  revert R L P
  refine id ?_
  intro R L P
  kernel_rfl
def fn53 : Func := fnAt PP 53
def R53 (E : Ev) : RT := runR PP GG CC E 17 LL none 4
theorem R53_unf (E : Ev) (c : Code) (lv : Nat) (lx : Nat → Nat) (kn : K) (kx : Nat → K) (kr : K) (e : Env) (h : Heap) : R53 E c true lv lx kn kx kr e h = runS (R53 E) PP GG CC E 17 LL none 4 c lv lx kn kx kr e h := runR_unf _ _ _ _ _ _ _ _
def r53 (x2 : AV) (h : Heap) : Res := some (x2, h)
theorem r53_eq : r53 = fun x2 h => xret PP fn53 (mkE [(2, x2)]) h := by kernel_rfl
def f53_1 (E : Ev) (kr : AV → Heap → Res) (x0 : AV) (h : Heap) : Res :=
  ob (xbin PP .eql 5 true x0 (.int .u8 32)) fun x4 =>
  ob (pWant x4 false) fun c =>
  ob (sel c (some x0) (some (.tuple []))) fun x6 =>
  ob (pWant x4 false) fun c_1 =>
  ob (sel c_1 (xbin PP .eql 5 true x6 (.int .u8 9)) (some (.tuple []))) fun x7 =>
  ob (pPick x4 (some (.bool true)) (some x7)) fun x8 =>
  ob (pWant x8 false) fun c_2 =>
  ob (sel c_2 (some x0) (some (.tuple []))) fun x10 =>
  ob (pWant x8 false) fun c_3 =>
  ob (sel c_3 (xbin PP .eql 5 true x10 (.int .u8 10)) (some (.tuple []))) fun x11 =>
  ob (pPick x8 (some (.bool true)) (some x11)) fun x12 =>
  ob (pWant x12 false) fun c_4 =>
  ob (sel c_4 (some x0) (some (.tuple []))) fun x14 =>
  ob (pWant x12 false) fun c_5 =>
  ob (sel c_5 (xbin PP .eql 5 true x14 (.int .u8 13)) (some (.tuple []))) fun x15 =>
  ob (pPick x12 (some (.bool true)) (some x15)) fun x16 =>
  kr x16 h
theorem f53_1_eq (E : Ev) (kn : K) (kx : Nat → K) (kr : K) : f53_1 E (fun y2 h => kr (mkE [(2, y2)]) h) = fun x0 h => R53 E (pb (codeOf fn53)) true 4 (fun _ => 0) kn kx kr (mkE [(0, x0)]) h := by
  funext x0 h
  unfold f53_1
  refine Eq.trans ?_ (R53_unf E _ _ _ _ _ _ _ _).symm
  generalize R53 E = R
  generalize LL = L
  generalize PP = P
  revert R L P
  refine id ?_
  intro R L P
  kernel_rfl
/-- theodolite/theodoliteref11.blank -/
def s53 (E : Ev) (x0 : AV) (h : Heap) : Res :=
  f53_1 E r53 x0 h
theorem s53_eq (E : Ev) (x0 : AV) (h : Heap) : xbodyR PP GG CC E LL fn53 [x0] h = s53 E x0 h := by
  unfold s53
  rw [r53_eq, f53_1_eq E (xret PP fn53) noK (xret PP fn53)]
  refine (bodyR_unf (c := (codeOf fn53)) (by kernel_rfl) (by kernel_rfl)).trans ?_
  show runS (R53 E) PP GG CC E fn53.ntmps LL none (resBits fn53.results.toList) (codeOf fn53) _ _ _ _ _ _ _ = _
  generalize R53 E = R
  generalize LL = L
  generalize PP = P
  symm
  revert R L P
  refine id ?_
  intro R L P
  kernel_rfl
def fn54 : Func := fnAt PP 54
def R54 (E : Ev) : RT := runR PP GG CC E 278 LL none 112
theorem R54_unf (E : Ev) (c : Code) (lv : Nat) (lx : Nat → Nat) (kn : K) (kx : Nat → K) (kr : K) (e : Env) (h : Heap) : R54 E c true lv lx kn kx kr e h = runS (R54 E) PP GG CC E 278 LL none 112 c lv lx kn kx kr e h := runR_unf _ _ _ _ _ _ _ _
def r54 (x4 x5 x6 : AV) (h : Heap) : Res := ob (ob (pLoad PP 71 x4 h) fun v => ob (ob (some x5) fun v => ob (ob (some x6) fun v => some [v]) fun vs => some (v :: vs)) fun vs => some (v :: vs)) fun vs => some (one vs, h)
theorem r54_eq : r54 = fun x4 x5 x6 h => xret PP fn54 (mkE [(4, x4), (5, x5), (6, x6)]) h := by kernel_rfl
def f54_1 (E : Ev) (kr : AV → AV → AV → Heap → Res) (x4 x8 x9 : AV) (h : Heap) : Res :=
  ob (pLoad PP 71 x8 h) fun x276 =>
  ob (pStore PP 71 x4 x276 h) fun h0 =>
  kr x4 x9 (.bool false) h0
theorem f54_1_eq (E : Ev) (kn : K) (kx : Nat → K) (kr : K) : f54_1 E (fun y4 y5 y6 h => kr (mkE [(4, y4), (5, y5), (6, y6)]) h) = fun x4 x8 x9 h => R54 E (pb (pb (pb (pb (pb (codeOf fn54)))))) true 112 (fun _ => 0) kn kx kr (mkE [(4, x4), (8, x8), (9, x9)]) h := by
  funext x4 x8 x9 h
  unfold f54_1
  refine Eq.trans ?_ (R54_unf E _ _ _ _ _ _ _ _).symm
  generalize R54 E = R
  generalize LL = L
  generalize PP = P
  revert R L P
  refine id ?_
  intro R L P
  kernel_rfl
def f54_2 (E : Ev) (kr : AV → AV → AV → Heap → Res) (x4 x8 x9 : AV) (h : Heap) : Res :=
  ob (pLoad PP 71 x8 h) fun x30 =>
  ob (pStore PP 71 x4 x30 h) fun h0 =>
  kr x4 x9 (.bool true) h0
theorem f54_2_eq (E : Ev) (kn : K) (kx : Nat → K) (kr : K) : f54_2 E (fun y4 y5 y6 h => kr (mkE [(4, y4), (5, y5), (6, y6)]) h) = fun x4 x8 x9 h => R54 E (pb (pb (pa (pb (pa (pa (pb (pb (pb (pb (codeOf fn54))))))))))) true 784 (fun i => sel (Nat.beq i 0) 784 ((fun _ => 0) i)) kn kx kr (mkE [(4, x4), (8, x8), (9, x9)]) h := by
  funext x4 x8 x9 h
  unfold f54_2
  refine Eq.trans ?_ (R54_unf E _ _ _ _ _ _ _ _).symm
  generalize R54 E = R
  generalize LL = L
  generalize PP = P
  revert R L P
  refine id ?_
  intro R L P
  kernel_rfl
def f54_3 (E : Ev) (kr : AV → AV → AV → Heap → Res) (x4 x8 x9 : AV) (h : Heap) : Res :=
  ob (pLoad PP 71 x8 h) fun x87 =>
  ob (pStore PP 71 x4 x87 h) fun h0 =>
  kr x4 x9 (.bool false) h0
theorem f54_3_eq (E : Ev) (kn : K) (kx : Nat → K) (kr : K) : f54_3 E (fun y4 y5 y6 h => kr (mkE [(4, y4), (5, y5), (6, y6)]) h) = fun x4 x8 x9 h => R54 E (pb (pb (pa (pb (pb (pb (pa (pa (pb (pb (pb (pb (codeOf fn54))))))))))))) true 784 (fun i => sel (Nat.beq i 0) 784 ((fun _ => 0) i)) kn kx kr (mkE [(4, x4), (8, x8), (9, x9)]) h := by
  funext x4 x8 x9 h
  unfold f54_3
  refine Eq.trans ?_ (R54_unf E _ _ _ _ _ _ _ _).symm
  generalize R54 E = R
  generalize LL = L
  generalize PP = P
  revert R L P
  refine id ?_
  intro R L P
  kernel_rfl
def f54_5 (E : Ev) (kn : AV → AV → AV → AV → Heap → Res) (kr : AV → AV → AV → Heap → Res) (x0 x4 x8 x9 : AV) (h : Heap) : Res :=
  ob (xbin PP .add 3 true x9 (.int .i64 1)) fun x66 =>
  ob (xlen PP h 41 x0) fun x68 =>
  ob (xbin PP .geq 3 false x66 x68) fun x69 =>
  ob (pWant x69 false) fun c =>
  ob (sel c (some x0) (some (.tuple []))) fun x71 =>
  ob (pWant x69 false) fun c_1 =>
  ob (sel c_1 (some x9) (some (.tuple []))) fun x72 =>
  ob (pWant x69 false) fun c_2 =>
  ob (sel c_2 (xbin PP .add 3 true x72 (.int .i64 1)) (some (.tuple []))) fun x73 =>
  ob (pWant x69 false) fun c_3 =>
  ob (sel c_3 (xindexAddr PP 41 x71 x73) (some (.tuple []))) fun x74 =>
  ob (pWant x69 false) fun c_4 =>
  ob (sel c_4 (pLoad PP 5 x74 h) (some (.tuple []))) fun x75 =>
  ob (pWant x69 false) fun c_5 =>
  ob (sel c_5 (xbin PP .neq 5 true x75 (.int .u8 34)) (some (.tuple []))) fun x76 =>
  ob (pPick x69 (some (.bool true)) (some x76)) fun x77 =>
  pIf x77
   (ob (pLoad PP 71 x8 h) fun x78 =>
   ob (xbin PP .add 3 true x9 (.int .i64 1)) fun x80 =>
   ob (pStore PP 71 x4 x78 h) fun h0 =>
   kr x4 x80 (.bool true) h0)
   (ob (pFieldAddr PP 71 1 x8) fun x81 =>
   ob (pLoad PP 9 x81 h) fun x82 =>
   ob (xbin PP .add 9 true x82 (.str 1 34)) fun x83 =>
   ob (pFieldAddr PP 71 1 x8) fun x84 =>
   ob (pStore PP 9 x84 x83 h) fun h0 =>
   ob (xbin PP .add 3 true x9 (.int .i64 2)) fun x86 =>
   kn x0 x4 x8 x86 h0)
theorem f54_5_eq (E : Ev) (kn : K) (kx : Nat → K) (kr : K) : f54_5 E (fun y0 y4 y8 y9 h => kn (mkE [(0, y0), (4, y4), (8, y8), (9, y9)]) h) (fun y4 y5 y6 h => kr (mkE [(4, y4), (5, y5), (6, y6)]) h) = fun x0 x4 x8 x9 h => R54 E (pb (pa (pb (pa (pa (pa (pb (pa (pb (pb (pb (pa (pa (pb (pb (pb (pb (codeOf fn54)))))))))))))))))) true 785 (fun i => sel (Nat.beq i 2) 785 ((fun i => sel (Nat.beq i 1) 784 ((fun i => sel (Nat.beq i 0) 784 ((fun _ => 0) i)) i)) i)) kn kx kr (mkE [(0, x0), (4, x4), (8, x8), (9, x9)]) h := by
  funext x0 x4 x8 x9 h
  unfold f54_5
  refine Eq.trans ?_ (R54_unf E _ _ _ _ _ _ _ _).symm
  generalize R54 E = R
  generalize LL = L
  generalize PP = P
  revert R L P
  refine id ?_
  intro R L P
  kernel_rfl
def f54_4 (E : Ev) (kn : AV → AV → AV → AV → Heap → Res) (k1 : AV → AV → AV → Heap → Res) (kr : AV → AV → AV → Heap → Res) (x0 x4 x8 x9 : AV) (h : Heap) : Res :=
  ob (xlen PP h 41 x0) fun x38 =>
  ob (xbin PP .lss 3 false x9 x38) fun x39 =>
  pIf x39
   (ob (xindexAddr PP 41 x0 x9) fun x42 =>
   ob (pLoad PP 5 x42 h) fun x43 =>
   ob (xbin PP .neq 5 true x43 (.int .u8 34)) fun x44 =>
   pIf x44
    (ob (xindexAddr PP 41 x0 x9) fun x47 =>
    ob (pLoad PP 5 x47 h) fun x48 =>
    obP (E (.fn 74) [x48] h) fun x49 h49 =>
    ob (xun .not x49) fun x50 =>
    pIf x50
     (ob (pLoad PP 71 x8 h49) fun x51 =>
     ob (pStore PP 71 x4 x51 h49) fun h0 =>
     kr x4 x9 (.bool false) h0)
     (ob (pFieldAddr PP 71 1 x8) fun x53 =>
     ob (pLoad PP 9 x53 h49) fun x54 =>
     ob (xbin PP .add 3 true x9 (.int .i64 1)) fun x58 =>
     obP (xslice PP h49 41 x0 (some x9) (some x58) none) fun x59 h59 => sel (Nat.beq h59.nx h49.nx) (
     obP (pConv PP h59 41 9 x59) fun x60 h60 => sel (Nat.beq h60.nx h59.nx) (
     ob (xbin PP .add 9 false x54 x60) fun x61 =>
     ob (pFieldAddr PP 71 1 x8) fun x62 =>
     sel (chkV x54 (pLoad PP 9 x53 h60)) (
     sel (chkE h60 x59 (xslice PP h60 41 x0 (some x9) (some x58) none)) (
     sel (chkE h60 x60 (pConv PP h60 41 9 x59)) (
     ob (pStore PP 9 x62 x61 h60) fun h0 =>
     ob (xbin PP .add 3 true x9 (.int .i64 1)) fun x64 =>
     kn x0 x4 x8 x64 h0) none) none) none) none) none))
    (f54_5 E kn kr x0 x4 x8 x9 h))
   (k1 x4 x8 x9 h)
theorem f54_4_eq (E : Ev) (kn : K) (kx : Nat → K) (kr : K) (e1 : K) (he1 : kx 1 = e1) : f54_4 E (fun y0 y4 y8 y9 h => kn (mkE [(0, y0), (4, y4), (8, y8), (9, y9)]) h) (fun y4 y8 y9 h => e1 (mkE [(4, y4), (8, y8), (9, y9)]) h) (fun y4 y5 y6 h => kr (mkE [(4, y4), (5, y5), (6, y6)]) h) = fun x0 x4 x8 x9 h => R54 E (pa (pa (pa (pb (pa (pb (pb (pb (pa (pa (pb (pb (pb (pb (codeOf fn54))))))))))))))) true 785 (fun i => sel (Nat.beq i 1) 784 ((fun i => sel (Nat.beq i 0) 784 ((fun _ => 0) i)) i)) kn kx kr (mkE [(0, x0), (4, x4), (8, x8), (9, x9)]) h := by
  subst he1
  funext x0 x4 x8 x9 h
  unfold f54_4
  rw [f54_5_eq E kn (fun i => sel (Nat.beq i 2) kn (kx i)) kr]
  refine Eq.trans ?_ (R54_unf E _ _ _ _ _ _ _ _).symm
  generalize R54 E = R
  generalize LL = L
  generalize PP = P
  revert R L P
  refine id ?_
  intro R L P
  kernel_rfl
def f54_6 (E : Ev) (kr : AV → AV → AV → Heap → Res) (x0 x1 x4 x8 x9 : AV) (h : Heap) : Res :=
  ob (xlen PP h 41 x0) fun x123 =>
  ob (xbin PP .geq 3 false x9 x123) fun x124 =>
  pIf x124
   (ob (pLoad PP 71 x8 h) fun x125 =>
   ob (pStore PP 71 x4 x125 h) fun h0 =>
   kr x4 x9 (.bool false) h0)
   (ob (xbin PP .add 3 true x1 (.int .i64 1)) fun x129 =>
   obP (xslice PP h 41 x0 (some x129) (some x9) none) fun x131 h131 =>
   obP (pConv PP h131 41 9 x131) fun x132 h132 =>
   ob (pFieldAddr PP 71 1 x8) fun x133 =>
   ob (pStore PP 9 x133 x132 h132) fun h0 =>
   ob (pLoad PP 71 x8 h0) fun x134 =>
   ob (xbin PP .add 3 true x9 (.int .i64 1)) fun x136 =>
   ob (pStore PP 71 x4 x134 h0) fun h0_1 =>
   kr x4 x136 (.bool true) h0_1)
theorem f54_6_eq (E : Ev) (kn : K) (kx : Nat → K) (kr : K) : f54_6 E (fun y4 y5 y6 h => kr (mkE [(4, y4), (5, y5), (6, y6)]) h) = fun x0 x1 x4 x8 x9 h => R54 E (pb (pb (pa (pb (pb (pb (pb (pb (pa (pa (pb (pb (pb (pb (codeOf fn54))))))))))))))) true 784 (fun i => sel (Nat.beq i 0) 784 ((fun _ => 0) i)) kn kx kr (mkE [(0, x0), (1, x1), (4, x4), (8, x8), (9, x9)]) h := by
  funext x0 x1 x4 x8 x9 h
  unfold f54_6
  refine Eq.trans ?_ (R54_unf E _ _ _ _ _ _ _ _).symm
  generalize R54 E = R
  generalize LL = L
  generalize PP = P
  revert R L P
  refine id ?_
  intro R L P
  kernel_rfl
def f54_8 (E : Ev) (kn : AV → AV → AV → AV → AV → Heap → Res) (kr : AV → AV → AV → Heap → Res) (x0 x1 x4 x8 x9 : AV) (h : Heap) : Res :=
  ob (xindexAddr PP 41 x0 x9) fun x106 =>
  ob (pLoad PP 5 x106 h) fun x107 =>
  obP (E (.fn 74) [x107] h) fun x108 h108 =>
  ob (xun .not x108) fun x109 =>
  ob (pWant x109 false) fun c =>
  ob (sel c (some x0) (some (.tuple []))) fun x111 =>
  ob (pWant x109 false) fun c_1 =>
  ob (sel c_1 (some x9) (some (.tuple []))) fun x112 =>
  ob (pWant x109 false) fun c_2 =>
  ob (sel c_2 (xindexAddr PP 41 x111 x112) (some (.tuple []))) fun x113 =>
  ob (pWant x109 false) fun c_3 =>
  ob (sel c_3 (pLoad PP 5 x113 h108) (some (.tuple []))) fun x114 =>
  ob (pWant x109 false) fun c_4 =>
  ob (sel c_4 (xbin PP .eql 5 true x114 (.int .u8 92)) (some (.tuple []))) fun x115 =>
  ob (pPick x109 (some (.bool true)) (some x115)) fun x116 =>
  pIf x116
   (ob (pLoad PP 71 x8 h108) fun x117 =>
   ob (pStore PP 71 x4 x117 h108) fun h0 =>
   kr x4 x9 (.bool false) h0)
   (ob (xbin PP .add 3 true x9 (.int .i64 1)) fun x120 =>
   kn x0 x1 x4 x8 x120 h108)
theorem f54_8_eq (E : Ev) (kn : K) (kx : Nat → K) (kr : K) : f54_8 E (fun y0 y1 y4 y8 y9 h => kn (mkE [(0, y0), (1, y1), (4, y4), (8, y8), (9, y9)]) h) (fun y4 y5 y6 h => kr (mkE [(4, y4), (5, y5), (6, y6)]) h) = fun x0 x1 x4 x8 x9 h => R54 E (pb (pa (pa (pa (pb (pa (pb (pb (pb (pb (pb (pa (pa (pb (pb (pb (pb (codeOf fn54)))))))))))))))))) true 787 (fun i => sel (Nat.beq i 3) 787 ((fun i => sel (Nat.beq i 0) 784 ((fun _ => 0) i)) i)) kn kx kr (mkE [(0, x0), (1, x1), (4, x4), (8, x8), (9, x9)]) h := by
  funext x0 x1 x4 x8 x9 h
  unfold f54_8
  refine Eq.trans ?_ (R54_unf E _ _ _ _ _ _ _ _).symm
  generalize R54 E = R
  generalize LL = L
  generalize PP = P
  revert R L P
  refine id ?_
  intro R L P
  kernel_rfl
def f54_7 (E : Ev) (kn : AV → AV → AV → AV → AV → Heap → Res) (k3 : AV → AV → AV → AV → AV → Heap → Res) (kr : AV → AV → AV → Heap → Res) (x0 x1 x4 x8 x9 : AV) (h : Heap) : Res :=
  ob (xlen PP h 41 x0) fun x95 =>
  ob (xbin PP .lss 3 false x9 x95) fun x96 =>
  ob (pWant x96 true) fun c =>
  ob (sel c (some x0) (some (.tuple []))) fun x98 =>
  ob (pWant x96 true) fun c_1 =>
  ob (sel c_1 (some x9) (some (.tuple []))) fun x99 =>
  ob (pWant x96 true) fun c_2 =>
  ob (sel c_2 (xindexAddr PP 41 x98 x99) (some (.tuple []))) fun x100 =>
  ob (pWant x96 true) fun c_3 =>
  ob (sel c_3 (pLoad PP 5 x100 h) (some (.tuple []))) fun x101 =>
  ob (pWant x96 true) fun c_4 =>
  ob (sel c_4 (xbin PP .neq 5 true x101 (.int .u8 124)) (some (.tuple []))) fun x102 =>
  ob (pPick x96 (some x102) (some (.bool false))) fun x103 =>
  pIf x103
   (f54_8 E kn kr x0 x1 x4 x8 x9 h)
   (k3 x0 x1 x4 x8 x9 h)
theorem f54_7_eq (E : Ev) (kn : K) (kx : Nat → K) (kr : K) (e3 : K) (he3 : kx 3 = e3) : f54_7 E (fun y0 y1 y4 y8 y9 h => kn (mkE [(0, y0), (1, y1), (4, y4), (8, y8), (9, y9)]) h) (fun y0 y1 y4 y8 y9 h => e3 (mkE [(0, y0), (1, y1), (4, y4), (8, y8), (9, y9)]) h) (fun y4 y5 y6 h => kr (mkE [(4, y4), (5, y5), (6, y6)]) h) = fun x0 x1 x4 x8 x9 h => R54 E (pa (pa (pa (pb (pa (pb (pb (pb (pb (pb (pa (pa (pb (pb (pb (pb (codeOf fn54))))))))))))))))) true 787 (fun i => sel (Nat.beq i 3) 787 ((fun i => sel (Nat.beq i 0) 784 ((fun _ => 0) i)) i)) kn kx kr (mkE [(0, x0), (1, x1), (4, x4), (8, x8), (9, x9)]) h := by
  subst he3
  funext x0 x1 x4 x8 x9 h
  unfold f54_7
  rw [f54_8_eq E kn kx kr]
  refine Eq.trans ?_ (R54_unf E _ _ _ _ _ _ _ _).symm
  generalize R54 E = R
  generalize LL = L
  generalize PP = P
  revert R L P
  refine id ?_
  intro R L P
  kernel_rfl
def f54_9 (E : Ev) (kr : AV → AV → AV → Heap → Res) (x0 x1 x4 x8 x9 : AV) (h : Heap) : Res :=
  ob (xbin PP .add 3 true x1 (.int .i64 1)) fun x156 =>
  obP (xslice PP h 41 x0 (some x156) (some x9) none) fun x158 h158 =>
  obP (pConv PP h158 41 9 x158) fun x159 h159 =>
  ob (pFieldAddr PP 71 1 x8) fun x160 =>
  ob (pStore PP 9 x160 x159 h159) fun h0 =>
  ob (pLoad PP 71 x8 h0) fun x161 =>
  ob (xbin PP .add 3 true x1 (.int .i64 1)) fun x165 =>
  ob (xbin PP .gtr 3 false x9 x165) fun x166 =>
  ob (pStore PP 71 x4 x161 h0) fun h0_1 =>
  kr x4 x9 x166 h0_1
theorem f54_9_eq (E : Ev) (kn : K) (kx : Nat → K) (kr : K) : f54_9 E (fun y4 y5 y6 h => kr (mkE [(4, y4), (5, y5), (6, y6)]) h) = fun x0 x1 x4 x8 x9 h => R54 E (pb (pb (pa (pb (pb (pb (pb (pb (pb (pb (pa (pa (pb (pb (pb (pb (codeOf fn54))))))))))))))))) true 784 (fun i => sel (Nat.beq i 0) 784 ((fun _ => 0) i)) kn kx kr (mkE [(0, x0), (1, x1), (4, x4), (8, x8), (9, x9)]) h := by
  funext x0 x1 x4 x8 x9 h
  unfold f54_9
  refine Eq.trans ?_ (R54_unf E _ _ _ _ _ _ _ _).symm
  generalize R54 E = R
  generalize LL = L
  generalize PP = P
  revert R L P
  refine id ?_
  intro R L P
  kernel_rfl
def f54_10 (E : Ev) (kn : AV → AV → AV → AV → AV → Heap → Res) (k5 : AV → AV → AV → AV → AV → Heap → Res) (x0 x1 x4 x8 x9 : AV) (h : Heap) : Res :=
  ob (xlen PP h 41 x0) fun x143 =>
  ob (xbin PP .lss 3 false x9 x143) fun x144 =>
  ob (pWant x144 true) fun c =>
  ob (sel c (some x0) (some (.tuple []))) fun x146 =>
  ob (pWant x144 true) fun c_1 =>
  ob (sel c_1 (some x9) (some (.tuple []))) fun x147 =>
  ob (pWant x144 true) fun c_2 =>
  ob (sel c_2 (xindexAddr PP 41 x146 x147) (some (.tuple []))) fun x148 =>
  ob (pWant x144 true) fun c_3 =>
  ob (sel c_3 (pLoad PP 5 x148 h) (some (.tuple []))) fun x149 =>
  ob (pWant x144 true) fun c_4 =>
  obP (sel c_4 (E (.fn 75) [x149] h) (some (.tuple [], h))) fun x150 h150 =>
  ob (pPick x144 (some x150) (some (.bool false))) fun x151 =>
  pIf x151
   (ob (xbin PP .add 3 true x9 (.int .i64 1)) fun x153 =>
   kn x0 x1 x4 x8 x153 h150)
   (k5 x0 x1 x4 x8 x9 h150)
theorem f54_10_eq (E : Ev) (kn : K) (kx : Nat → K) (kr : K) (e5 : K) (he5 : kx 5 = e5) : f54_10 E (fun y0 y1 y4 y8 y9 h => kn (mkE [(0, y0), (1, y1), (4, y4), (8, y8), (9, y9)]) h) (fun y0 y1 y4 y8 y9 h => e5 (mkE [(0, y0), (1, y1), (4, y4), (8, y8), (9, y9)]) h) = fun x0 x1 x4 x8 x9 h => R54 E (pa (pa (pa (pb (pa (pb (pb (pb (pb (pb (pb (pb (pa (pa (pb (pb (pb (pb (codeOf fn54))))))))))))))))))) true 787 (fun i => sel (Nat.beq i 5) 787 ((fun i => sel (Nat.beq i 0) 784 ((fun _ => 0) i)) i)) kn kx kr (mkE [(0, x0), (1, x1), (4, x4), (8, x8), (9, x9)]) h := by
  subst he5
  funext x0 x1 x4 x8 x9 h
  unfold f54_10
  refine Eq.trans ?_ (R54_unf E _ _ _ _ _ _ _ _).symm
  generalize R54 E = R
  generalize LL = L
  generalize PP = P
  revert R L P
  refine id ?_
  intro R L P
  kernel_rfl
def f54_14 (E : Ev) (kr : AV → AV → AV → Heap → Res) (x0 x1 x4 x7 x8 x9 x10 : AV) (h : Heap) : Res :=
  ob (pLoad PP 71 x8 h) fun x227 =>
  ob (xbin PP .neq 5 true x7 (.int .u8 48)) fun x230 =>
  ob (pWant x230 false) fun c =>
  ob (sel c (some x10) (some (.tuple []))) fun x232 =>
  ob (pWant x230 false) fun c_1 =>
  ob (sel c_1 (some x1) (some (.tuple []))) fun x233 =>
  ob (pWant x230 false) fun c_2 =>
  ob (sel c_2 (xbin PP .add 3 true x233 (.int .i64 1)) (some (.tuple []))) fun x234 =>
  ob (pWant x230 false) fun c_3 =>
  ob (sel c_3 (xbin PP .eql 3 false x232 x234) (some (.tuple []))) fun x235 =>
  ob (pPick x230 (some (.bool true)) (some x235)) fun x236 =>
  ob (pWant x236 true) fun c_4 =>
  ob (sel c_4 (some x9) (some (.tuple []))) fun x238 =>
  ob (pWant x236 true) fun c_5 =>
  ob (sel c_5 (some x0) (some (.tuple []))) fun x239 =>
  ob (pWant x236 true) fun c_6 =>
  ob (sel c_6 (xlen PP h 41 x239) (some (.tuple []))) fun x240 =>
  ob (pWant x236 true) fun c_7 =>
  ob (sel c_7 (xbin PP .geq 3 false x238 x240) (some (.tuple []))) fun x241 =>
  ob (pWant x236 true) fun c_8 =>
  ob (sel c_8 (some x241) (some (.tuple []))) fun x242 =>
  ob (pWant x242 false) fun c_9 =>
  ob (sel c_9 (some x0) (some (.tuple []))) fun x243 =>
  ob (pWant x242 false) fun c_10 =>
  ob (sel c_10 (some x9) (some (.tuple []))) fun x244 =>
  ob (pWant x242 false) fun c_11 =>
  ob (sel c_11 (xindexAddr PP 41 x243 x244) (some (.tuple []))) fun x245 =>
  ob (pWant x242 false) fun c_12 =>
  ob (sel c_12 (pLoad PP 5 x245 h) (some (.tuple []))) fun x246 =>
  sel (chkV x227 (pLoad PP 71 x8 h)) (
  ob (ob (pWant x236 true) fun c => some (sel c (chkV x240 (xlen PP h 41 x239)) true)) fun c_13 => sel c_13 (
  ob (ob (pWant x242 false) fun c => some (sel c (chkV x246 (pLoad PP 5 x245 h)) true)) fun c_14 => sel c_14 (
  ob (pWant x242 false) fun c_15 =>
  obP (sel c_15 (E (.fn 75) [x246] h) (some (.tuple [], h))) fun x247 h247 =>
  ob (pWant x242 false) fun c_16 =>
  ob (sel c_16 (xun .not x247) (some (.tuple []))) fun x248 =>
  ob (pWant x236 true) fun c_17 =>
  ob (sel c_17 (pPick x242 (some (.bool true)) (some x248)) (some (.tuple []))) fun x249 =>
  ob (pPick x236 (some x249) (some (.bool false))) fun x250 =>
  sel (chkV x227 (pLoad PP 71 x8 h247)) (
  ob (pStore PP 71 x4 x227 h247) fun h0 =>
  kr x4 x9 x250 h0) none) none) none) none
theorem f54_14_eq (E : Ev) (kn : K) (kx : Nat → K) (kr : K) : f54_14 E (fun y4 y5 y6 h => kr (mkE [(4, y4), (5, y5), (6, y6)]) h) = fun x0 x1 x4 x7 x8 x9 x10 h => R54 E (pb (pb (pb (pb (pb (pa (pb (pb (pb (pb (pb (pb (pb (pb (pb (pa (pa (pb (pb (pb (pb (codeOf fn54)))))))))))))))))))))) true 784 (fun i => sel (Nat.beq i 0) 784 ((fun _ => 0) i)) kn kx kr (mkE [(0, x0), (1, x1), (4, x4), (7, x7), (8, x8), (9, x9), (10, x10)]) h := by
  funext x0 x1 x4 x7 x8 x9 x10 h
  unfold f54_14
  refine Eq.trans ?_ (R54_unf E _ _ _ _ _ _ _ _).symm
  generalize R54 E = R
  generalize LL = L
  generalize PP = P
  revert R L P
  refine id ?_
  intro R L P
  kernel_rfl
def f54_13 (E : Ev) (kr : AV → AV → AV → Heap → Res) (x0 x1 x4 x7 x8 x9 x10 : AV) (h : Heap) : Res :=
  obP (xslice PP h 41 x0 (some x1) (some x9) none) fun x224 h224 =>
  obP (pConv PP h224 41 9 x224) fun x225 h225 =>
  ob (pFieldAddr PP 71 1 x8) fun x226 =>
  ob (pStore PP 9 x226 x225 h225) fun h0 =>
  f54_14 E kr x0 x1 x4 x7 x8 x9 x10 h0
theorem f54_13_eq (E : Ev) (kn : K) (kx : Nat → K) (kr : K) : f54_13 E (fun y4 y5 y6 h => kr (mkE [(4, y4), (5, y5), (6, y6)]) h) = fun x0 x1 x4 x7 x8 x9 x10 h => R54 E (pb (pb (pb (pb (pa (pb (pb (pb (pb (pb (pb (pb (pb (pb (pa (pa (pb (pb (pb (pb (codeOf fn54))))))))))))))))))))) true 784 (fun i => sel (Nat.beq i 0) 784 ((fun _ => 0) i)) kn kx kr (mkE [(0, x0), (1, x1), (4, x4), (7, x7), (8, x8), (9, x9), (10, x10)]) h := by
  funext x0 x1 x4 x7 x8 x9 x10 h
  unfold f54_13
  rw [f54_14_eq E kn kx kr]
  refine Eq.trans ?_ (R54_unf E _ _ _ _ _ _ _ _).symm
  generalize R54 E = R
  generalize LL = L
  generalize PP = P
  revert R L P
  refine id ?_
  intro R L P
  kernel_rfl
def f54_15 (E : Ev) (kn : AV → AV → AV → AV → AV → AV → AV → Heap → Res) (k9 : AV → AV → AV → AV → AV → AV → AV → Heap → Res) (x0 x1 x4 x7 x8 x9 x10 : AV) (h : Heap) : Res :=
  ob (xlen PP h 41 x0) fun x210 =>
  ob (xbin PP .lss 3 false x9 x210) fun x211 =>
  ob (pWant x211 true) fun c =>
  ob (sel c (some x0) (some (.tuple []))) fun x213 =>
  ob (pWant x211 true) fun c_1 =>
  ob (sel c_1 (some x9) (some (.tuple []))) fun x214 =>
  ob (pWant x211 true) fun c_2 =>
  ob (sel c_2 (xindexAddr PP 41 x213 x214) (some (.tuple []))) fun x215 =>
  ob (pWant x211 true) fun c_3 =>
  ob (sel c_3 (pLoad PP 5 x215 h) (some (.tuple []))) fun x216 =>
  ob (pWant x211 true) fun c_4 =>
  obP (sel c_4 (E (.fn 76) [x216] h) (some (.tuple [], h))) fun x217 h217 =>
  ob (pPick x211 (some x217) (some (.bool false))) fun x218 =>
  pIf x218
   (ob (xbin PP .add 3 true x9 (.int .i64 1)) fun x220 =>
   kn x0 x1 x4 x7 x8 x220 x10 h217)
   (k9 x0 x1 x4 x7 x8 x9 x10 h217)
theorem f54_15_eq (E : Ev) (kn : K) (kx : Nat → K) (kr : K) (e9 : K) (he9 : kx 9 = e9) : f54_15 E (fun y0 y1 y4 y7 y8 y9 y10 h => kn (mkE [(0, y0), (1, y1), (4, y4), (7, y7), (8, y8), (9, y9), (10, y10)]) h) (fun y0 y1 y4 y7 y8 y9 y10 h => e9 (mkE [(0, y0), (1, y1), (4, y4), (7, y7), (8, y8), (9, y9), (10, y10)]) h) = fun x0 x1 x4 x7 x8 x9 x10 h => R54 E (pa (pa (pb (pb (pa (pb (pa (pb (pb (pb (pa (pb (pb (pb (pb (pb (pb (pb (pb (pb (pa (pa (pb (pb (pb (pb (codeOf fn54))))))))))))))))))))))))))) true 1939 (fun i => sel (Nat.beq i 9) 1939 ((fun i => sel (Nat.beq i 0) 784 ((fun _ => 0) i)) i)) kn kx kr (mkE [(0, x0), (1, x1), (4, x4), (7, x7), (8, x8), (9, x9), (10, x10)]) h := by
  subst he9
  funext x0 x1 x4 x7 x8 x9 x10 h
  unfold f54_15
  refine Eq.trans ?_ (R54_unf E _ _ _ _ _ _ _ _).symm
  generalize R54 E = R
  generalize LL = L
  generalize PP = P
  revert R L P
  refine id ?_
  intro R L P
  kernel_rfl
def f54_12 (E : Ev) (kr : AV → AV → AV → Heap → Res) (x0 x1 x4 x7 x8 x9 x10 : AV) (h : Heap) : Res :=
  ob (xbin PP .add 3 true x9 (.int .i64 1)) fun x186 =>
  ob (xlen PP h 41 x0) fun x188 =>
  ob (xbin PP .lss 3 false x186 x188) fun x189 =>
  ob (pWant x189 true) fun c =>
  ob (sel c (some x0) (some (.tuple []))) fun x191 =>
  ob (pWant x189 true) fun c_1 =>
  ob (sel c_1 (some x9) (some (.tuple []))) fun x192 =>
  ob (pWant x189 true) fun c_2 =>
  ob (sel c_2 (xindexAddr PP 41 x191 x192) (some (.tuple []))) fun x193 =>
  ob (pWant x189 true) fun c_3 =>
  ob (sel c_3 (pLoad PP 5 x193 h) (some (.tuple []))) fun x194 =>
  ob (pWant x189 true) fun c_4 =>
  ob (sel c_4 (xbin PP .eql 5 true x194 (.int .u8 46)) (some (.tuple []))) fun x195 =>
  ob (pPick x189 (some x195) (some (.bool false))) fun x196 =>
  ob (pWant x196 true) fun c_5 =>
  ob (sel c_5 (some x0) (some (.tuple []))) fun x198 =>
  ob (pWant x196 true) fun c_6 =>
  ob (sel c_6 (some x9) (some (.tuple []))) fun x199 =>
  ob (pWant x196 true) fun c_7 =>
  ob (sel c_7 (xbin PP .add 3 true x199 (.int .i64 1)) (some (.tuple []))) fun x200 =>
  ob (pWant x196 true) fun c_8 =>
  ob (sel c_8 (xindexAddr PP 41 x198 x200) (some (.tuple []))) fun x201 =>
  ob (pWant x196 true) fun c_9 =>
  ob (sel c_9 (pLoad PP 5 x201 h) (some (.tuple []))) fun x202 =>
  ob (pWant x196 true) fun c_10 =>
  obP (sel c_10 (E (.fn 76) [x202] h) (some (.tuple [], h))) fun x203 h203 =>
  ob (pPick x196 (some x203) (some (.bool false))) fun x204 =>
  pIf x204
   (ob (pFieldAddr PP 71 0 x8) fun x205 =>
   ob (pStore PP 3 x205 (.int .i64 6) h203) fun h0 =>
   ob (xbin PP .add 3 true x9 (.int .i64 1)) fun x207 =>
   lp b7 (fun k => f54_15 E k (f54_13 E kr)) LL x0 x1 x4 x7 x8 x207 x10 h0)
   (f54_13 E kr x0 x1 x4 x7 x8 x9 x10 h203)
theorem f54_12_eq (E : Ev) (kn : K) (kx : Nat → K) (kr : K) : f54_12 E (fun y4 y5 y6 h => kr (mkE [(4, y4), (5, y5), (6, y6)]) h) = fun x0 x1 x4 x7 x8 x9 x10 h => R54 E (pb (pb (pb (pa (pb (pb (pb (pb (pb (pb (pb (pb (pb (pa (pa (pb (pb (pb (pb (codeOf fn54)))))))))))))))))))) true 784 (fun i => sel (Nat.beq i 0) 784 ((fun _ => 0) i)) kn kx kr (mkE [(0, x0), (1, x1), (4, x4), (7, x7), (8, x8), (9, x9), (10, x10)]) h := by
  funext x0 x1 x4 x7 x8 x9 x10 h
  unfold f54_12
  rw [f54_13_eq E kn kx kr, lp7_eq 0 1 4 7 8 9 10 (fun k => (R54 E (pa (pa (pb (pb (pa (pb (pa (pb (pb (pb (pa (pb (pb (pb (pb (pb (pb (pb (pb (pb (pa (pa (pb (pb (pb (pb (codeOf fn54))))))))))))))))))))))))))) true 1939 (fun i => sel (Nat.beq i 9) 1939 ((fun i => sel (Nat.beq i 0) 784 ((fun _ => 0) i)) i)) k (fun i => sel (Nat.beq i 9) (R54 E (pb (pb (pb (pb (pa (pb (pb (pb (pb (pb (pb (pb (pb (pb (pa (pa (pb (pb (pb (pb (codeOf fn54))))))))))))))))))))) true 784 (fun i => sel (Nat.beq i 0) 784 ((fun _ => 0) i)) kn kx kr) (kx i)) kr)) (fun k => f54_15 E k (fun y0 y1 y4 y7 y8 y9 y10 h => (R54 E (pb (pb (pb (pb (pa (pb (pb (pb (pb (pb (pb (pb (pb (pb (pa (pa (pb (pb (pb (pb (codeOf fn54))))))))))))))))))))) true 784 (fun i => sel (Nat.beq i 0) 784 ((fun _ => 0) i)) kn kx kr) (mkE [(0, y0), (1, y1), (4, y4), (7, y7), (8, y8), (9, y9), (10, y10)]) h)) (fun k => f54_15_eq E k (fun i => sel (Nat.beq i 9) (R54 E (pb (pb (pb (pb (pa (pb (pb (pb (pb (pb (pb (pb (pb (pb (pa (pa (pb (pb (pb (pb (codeOf fn54))))))))))))))))))))) true 784 (fun i => sel (Nat.beq i 0) 784 ((fun _ => 0) i)) kn kx kr) (kx i)) kr (R54 E (pb (pb (pb (pb (pa (pb (pb (pb (pb (pb (pb (pb (pb (pb (pa (pa (pb (pb (pb (pb (codeOf fn54))))))))))))))))))))) true 784 (fun i => sel (Nat.beq i 0) 784 ((fun _ => 0) i)) kn kx kr) rfl) LL]
  refine Eq.trans ?_ (R54_unf E _ _ _ _ _ _ _ _).symm
  generalize R54 E = R
  generalize LL = L
  generalize PP = P
  revert R L P
  refine id ?_
  intro R L P
  kernel_rfl
def f54_11 (E : Ev) (kr : AV → AV → AV → Heap → Res) (x0 x1 x4 x7 x8 x9 : AV) (h : Heap) : Res :=
  f54_12 E kr x0 x1 x4 x7 x8 x9 x9 h
theorem f54_11_eq (E : Ev) (kn : K) (kx : Nat → K) (kr : K) : f54_11 E (fun y4 y5 y6 h => kr (mkE [(4, y4), (5, y5), (6, y6)]) h) = fun x0 x1 x4 x7 x8 x9 h => R54 E (pb (pb (pa (pb (pb (pb (pb (pb (pb (pb (pb (pb (pa (pa (pb (pb (pb (pb (codeOf fn54))))))))))))))))))) true 784 (fun i => sel (Nat.beq i 0) 784 ((fun _ => 0) i)) kn kx kr (mkE [(0, x0), (1, x1), (4, x4), (7, x7), (8, x8), (9, x9)]) h := by
  funext x0 x1 x4 x7 x8 x9 h
  unfold f54_11
  rw [f54_12_eq E kn kx kr]
  refine Eq.trans ?_ (R54_unf E _ _ _ _ _ _ _ _).symm
  generalize R54 E = R
  generalize LL = L
  generalize PP = P
  revert R L P
  refine id ?_
  intro R L P
  kernel_rfl
def f54_16 (E : Ev) (kn : AV → AV → AV → AV → AV → AV → Heap → Res) (k7 : AV → AV → AV → AV → AV → AV → Heap → Res) (x0 x1 x4 x7 x8 x9 : AV) (h : Heap) : Res :=
  ob (xlen PP h 41 x0) fun x173 =>
  ob (xbin PP .lss 3 false x9 x173) fun x174 =>
  ob (pWant x174 true) fun c =>
  ob (sel c (some x0) (some (.tuple []))) fun x176 =>
  ob (pWant x174 true) fun c_1 =>
  ob (sel c_1 (some x9) (some (.tuple []))) fun x177 =>
  ob (pWant x174 true) fun c_2 =>
  ob (sel c_2 (xindexAddr PP 41 x176 x177) (some (.tuple []))) fun x178 =>
  ob (pWant x174 true) fun c_3 =>
  ob (sel c_3 (pLoad PP 5 x178 h) (some (.tuple []))) fun x179 =>
  ob (pWant x174 true) fun c_4 =>
  obP (sel c_4 (E (.fn 76) [x179] h) (some (.tuple [], h))) fun x180 h180 =>
  ob (pPick x174 (some x180) (some (.bool false))) fun x181 =>
  pIf x181
   (ob (xbin PP .add 3 true x9 (.int .i64 1)) fun x183 =>
   kn x0 x1 x4 x7 x8 x183 h180)
   (k7 x0 x1 x4 x7 x8 x9 h180)
theorem f54_16_eq (E : Ev) (kn : K) (kx : Nat → K) (kr : K) (e7 : K) (he7 : kx 7 = e7) : f54_16 E (fun y0 y1 y4 y7 y8 y9 h => kn (mkE [(0, y0), (1, y1), (4, y4), (7, y7), (8, y8), (9, y9)]) h) (fun y0 y1 y4 y7 y8 y9 h => e7 (mkE [(0, y0), (1, y1), (4, y4), (7, y7), (8, y8), (9, y9)]) h) = fun x0 x1 x4 x7 x8 x9 h => R54 E (pa (pa (pa (pb (pa (pb (pb (pb (pb (pb (pb (pb (pb (pb (pa (pa (pb (pb (pb (pb (codeOf fn54))))))))))))))))))))) true 915 (fun i => sel (Nat.beq i 7) 915 ((fun i => sel (Nat.beq i 0) 784 ((fun _ => 0) i)) i)) kn kx kr (mkE [(0, x0), (1, x1), (4, x4), (7, x7), (8, x8), (9, x9)]) h := by
  subst he7
  funext x0 x1 x4 x7 x8 x9 h
  unfold f54_16
  refine Eq.trans ?_ (R54_unf E _ _ _ _ _ _ _ _).symm
  generalize R54 E = R
  generalize LL = L
  generalize PP = P
  revert R L P
  refine id ?_
  intro R L P
  kernel_rfl
def f54_17 (E : Ev) (kr : AV → AV → AV → Heap → Res) (x0 x1 x4 x8 x9 : AV) (h : Heap) : Res :=
  obP (xslice PP h 41 x0 (some x1) (some x9) none) fun x271 h271 =>
  obP (pConv PP h271 41 9 x271) fun x272 h272 =>
  ob (pFieldAddr PP 71 1 x8) fun x273 =>
  ob (pStore PP 9 x273 x272 h272) fun h0 =>
  ob (pLoad PP 71 x8 h0) fun x274 =>
  ob (pStore PP 71 x4 x274 h0) fun h0_1 =>
  kr x4 x9 (.bool true) h0_1
theorem f54_17_eq (E : Ev) (kn : K) (kx : Nat → K) (kr : K) : f54_17 E (fun y4 y5 y6 h => kr (mkE [(4, y4), (5, y5), (6, y6)]) h) = fun x0 x1 x4 x8 x9 h => R54 E (pb (pb (pa (pb (pb (pb (pb (pb (pb (pb (pb (pb (pb (pb (pa (pa (pb (pb (pb (pb (codeOf fn54))))))))))))))))))))) true 784 (fun i => sel (Nat.beq i 0) 784 ((fun _ => 0) i)) kn kx kr (mkE [(0, x0), (1, x1), (4, x4), (8, x8), (9, x9)]) h := by
  funext x0 x1 x4 x8 x9 h
  unfold f54_17
  refine Eq.trans ?_ (R54_unf E _ _ _ _ _ _ _ _).symm
  generalize R54 E = R
  generalize LL = L
  generalize PP = P
  revert R L P
  refine id ?_
  intro R L P
  kernel_rfl
def f54_18 (E : Ev) (kn : AV → AV → AV → AV → AV → Heap → Res) (k11 : AV → AV → AV → AV → AV → Heap → Res) (x0 x1 x4 x8 x9 : AV) (h : Heap) : Res :=
  ob (xlen PP h 41 x0) fun x257 =>
  ob (xbin PP .lss 3 false x9 x257) fun x258 =>
  ob (pWant x258 true) fun c =>
  ob (sel c (some x0) (some (.tuple []))) fun x260 =>
  ob (pWant x258 true) fun c_1 =>
  ob (sel c_1 (some x9) (some (.tuple []))) fun x261 =>
  ob (pWant x258 true) fun c_2 =>
  ob (sel c_2 (xindexAddr PP 41 x260 x261) (some (.tuple []))) fun x262 =>
  ob (pWant x258 true) fun c_3 =>
  ob (sel c_3 (pLoad PP 5 x262 h) (some (.tuple []))) fun x263 =>
  ob (pWant x258 true) fun c_4 =>
  obP (sel c_4 (E (.fn 75) [x263] h) (some (.tuple [], h))) fun x264 h264 =>
  ob (pPick x258 (some x264) (some (.bool false))) fun x265 =>
  pIf x265
   (ob (xbin PP .add 3 true x9 (.int .i64 1)) fun x267 =>
   kn x0 x1 x4 x8 x267 h264)
   (k11 x0 x1 x4 x8 x9 h264)
theorem f54_18_eq (E : Ev) (kn : K) (kx : Nat → K) (kr : K) (e11 : K) (he11 : kx 11 = e11) : f54_18 E (fun y0 y1 y4 y8 y9 h => kn (mkE [(0, y0), (1, y1), (4, y4), (8, y8), (9, y9)]) h) (fun y0 y1 y4 y8 y9 h => e11 (mkE [(0, y0), (1, y1), (4, y4), (8, y8), (9, y9)]) h) = fun x0 x1 x4 x8 x9 h => R54 E (pa (pa (pa (pb (pa (pb (pb (pb (pb (pb (pb (pb (pb (pb (pb (pb (pa (pa (pb (pb (pb (pb (codeOf fn54))))))))))))))))))))))) true 787 (fun i => sel (Nat.beq i 11) 787 ((fun i => sel (Nat.beq i 0) 784 ((fun _ => 0) i)) i)) kn kx kr (mkE [(0, x0), (1, x1), (4, x4), (8, x8), (9, x9)]) h := by
  subst he11
  funext x0 x1 x4 x8 x9 h
  unfold f54_18
  refine Eq.trans ?_ (R54_unf E _ _ _ _ _ _ _ _).symm
  generalize R54 E = R
  generalize LL = L
  generalize PP = P
  revert R L P
  refine id ?_
  intro R L P
  kernel_rfl
/-- theodolite/theodoliteref11.word -/
def s54 (E : Ev) (x0 x1 : AV) (h : Heap) : Res :=
  obP (ob (zeroC PP 71) fun z => some (pNew h 71 z)) fun x4 h4 =>
  ob (xindexAddr PP 41 x0 x1) fun x13 =>
  ob (pLoad PP 5 x13 h4) fun x14 =>
  ob (xbuild PP 71 [(2, x1)]) fun x16 =>
  obP (ob (zeroC PP 71) fun z => some (pNew h4 71 z)) fun x8 h8 =>
  ob (pStore PP 71 x8 x16 h8) fun h0 =>
  ob (xbin PP .add 3 true x1 (.int .i64 1)) fun x18 =>
  ob (xbin PP .eql 5 true x14 (.int .u8 40)) fun x21 =>
  ob (pWant x21 false) fun c =>
  ob (sel c (some x14) (some (.tuple []))) fun x23 =>
  ob (pWant x21 false) fun c_1 =>
  ob (sel c_1 (xbin PP .eql 5 true x23 (.int .u8 41)) (some (.tuple []))) fun x24 =>
  ob (pPick x21 (some (.bool true)) (some x24)) fun x25 =>
  pIf x25
   (ob (pFieldAddr PP 71 0 x8) fun x26 =>
   ob (pStore PP 3 x26 (.int .i64 1) h0) fun h0_1 =>
   ob (xbin PP .eql 5 true x14 (.int .u8 41)) fun x28 =>
   pIf x28
    (ob (pFieldAddr PP 71 0 x8) fun x29 =>
    ob (pStore PP 3 x29 (.int .i64 2) h0_1) fun h0_2 =>
    f54_2 E r54 x4 x8 x18 h0_2)
    (f54_2 E r54 x4 x8 x18 h0_1))
   (ob (xbin PP .eql 5 true x14 (.int .u8 34)) fun x34 =>
   pIf x34
    (ob (pFieldAddr PP 71 0 x8) fun x35 =>
    ob (pStore PP 3 x35 (.int .i64 7) h0) fun h0_1 =>
    lp b4 (fun k => f54_4 E k (f54_3 E r54) r54) LL x0 x4 x8 x18 h0_1)
    (ob (xbin PP .eql 5 true x14 (.int .u8 124)) fun x91 =>
    pIf x91
     (ob (pFieldAddr PP 71 0 x8) fun x92 =>
     ob (pStore PP 3 x92 (.int .i64 3) h0) fun h0_1 =>
     lp b5 (fun k => f54_7 E k (f54_6 E r54) r54) LL x0 x1 x4 x8 x18 h0_1)
     (ob (xbin PP .eql 5 true x14 (.int .u8 58)) fun x139 =>
     pIf x139
      (ob (pFieldAddr PP 71 0 x8) fun x140 =>
      ob (pStore PP 3 x140 (.int .i64 4) h0) fun h0_1 =>
      lp b5 (fun k => f54_10 E k (f54_9 E r54)) LL x0 x1 x4 x8 x18 h0_1)
      (obP (E (.fn 76) [x14] h0) fun x169 h169 =>
      pIf x169
       (ob (pFieldAddr PP 71 0 x8) fun x170 =>
       ob (pStore PP 3 x170 (.int .i64 5) h169) fun h0_1 =>
       lp b6 (fun k => f54_16 E k (f54_11 E r54)) LL x0 x1 x4 x14 x8 x18 h0_1)
       (obP (E (.fn 75) [x14] h169) fun x253 h253 =>
       pIf x253
        (ob (pFieldAddr PP 71 0 x8) fun x254 =>
        ob (pStore PP 3 x254 (.int .i64 3) h253) fun h0_1 =>
        lp b5 (fun k => f54_18 E k (f54_17 E r54)) LL x0 x1 x4 x8 x18 h0_1)
        (f54_1 E r54 x4 x8 x18 h253))))))
theorem s54_eq (E : Ev) (x0 x1 : AV) (h : Heap) : xbodyR PP GG CC E LL fn54 [x0, x1] h = s54 E x0 x1 h := by
  unfold s54
  rw [r54_eq, f54_1_eq E (xret PP fn54) noK (xret PP fn54), f54_2_eq E (R54 E (pb (pb (pb (pb (pb (codeOf fn54)))))) true 112 (fun _ => 0) (xret PP fn54) noK (xret PP fn54)) (fun i => sel (Nat.beq i 0) (R54 E (pb (pb (pb (pb (pb (codeOf fn54)))))) true 112 (fun _ => 0) (xret PP fn54) noK (xret PP fn54)) (noK i)) (xret PP fn54), f54_3_eq E (R54 E (pb (pb (pb (pb (pb (codeOf fn54)))))) true 112 (fun _ => 0) (xret PP fn54) noK (xret PP fn54)) (fun i => sel (Nat.beq i 0) (R54 E (pb (pb (pb (pb (pb (codeOf fn54)))))) true 112 (fun _ => 0) (xret PP fn54) noK (xret PP fn54)) (noK i)) (xret PP fn54), lp4_eq 0 4 8 9 (fun k => (R54 E (pa (pa (pa (pb (pa (pb (pb (pb (pa (pa (pb (pb (pb (pb (codeOf fn54))))))))))))))) true 785 (fun i => sel (Nat.beq i 1) 784 ((fun i => sel (Nat.beq i 0) 784 ((fun _ => 0) i)) i)) k (fun i => sel (Nat.beq i 1) (R54 E (pb (pb (pa (pb (pb (pb (pa (pa (pb (pb (pb (pb (codeOf fn54))))))))))))) true 784 (fun i => sel (Nat.beq i 0) 784 ((fun _ => 0) i)) (R54 E (pb (pb (pb (pb (pb (codeOf fn54)))))) true 112 (fun _ => 0) (xret PP fn54) noK (xret PP fn54)) (fun i => sel (Nat.beq i 0) (R54 E (pb (pb (pb (pb (pb (codeOf fn54)))))) true 112 (fun _ => 0) (xret PP fn54) noK (xret PP fn54)) (noK i)) (xret PP fn54)) ((fun i => sel (Nat.beq i 0) (R54 E (pb (pb (pb (pb (pb (codeOf fn54)))))) true 112 (fun _ => 0) (xret PP fn54) noK (xret PP fn54)) (noK i)) i)) (xret PP fn54))) (fun k => f54_4 E k (fun y4 y8 y9 h => (R54 E (pb (pb (pa (pb (pb (pb (pa (pa (pb (pb (pb (pb (codeOf fn54))))))))))))) true 784 (fun i => sel (Nat.beq i 0) 784 ((fun _ => 0) i)) (R54 E (pb (pb (pb (pb (pb (codeOf fn54)))))) true 112 (fun _ => 0) (xret PP fn54) noK (xret PP fn54)) (fun i => sel (Nat.beq i 0) (R54 E (pb (pb (pb (pb (pb (codeOf fn54)))))) true 112 (fun _ => 0) (xret PP fn54) noK (xret PP fn54)) (noK i)) (xret PP fn54)) (mkE [(4, y4), (8, y8), (9, y9)]) h) (fun y4 y5 y6 h => (xret PP fn54) (mkE [(4, y4), (5, y5), (6, y6)]) h)) (fun k => f54_4_eq E k (fun i => sel (Nat.beq i 1) (R54 E (pb (pb (pa (pb (pb (pb (pa (pa (pb (pb (pb (pb (codeOf fn54))))))))))))) true 784 (fun i => sel (Nat.beq i 0) 784 ((fun _ => 0) i)) (R54 E (pb (pb (pb (pb (pb (codeOf fn54)))))) true 112 (fun _ => 0) (xret PP fn54) noK (xret PP fn54)) (fun i => sel (Nat.beq i 0) (R54 E (pb (pb (pb (pb (pb (codeOf fn54)))))) true 112 (fun _ => 0) (xret PP fn54) noK (xret PP fn54)) (noK i)) (xret PP fn54)) ((fun i => sel (Nat.beq i 0) (R54 E (pb (pb (pb (pb (pb (codeOf fn54)))))) true 112 (fun _ => 0) (xret PP fn54) noK (xret PP fn54)) (noK i)) i)) (xret PP fn54) (R54 E (pb (pb (pa (pb (pb (pb (pa (pa (pb (pb (pb (pb (codeOf fn54))))))))))))) true 784 (fun i => sel (Nat.beq i 0) 784 ((fun _ => 0) i)) (R54 E (pb (pb (pb (pb (pb (codeOf fn54)))))) true 112 (fun _ => 0) (xret PP fn54) noK (xret PP fn54)) (fun i => sel (Nat.beq i 0) (R54 E (pb (pb (pb (pb (pb (codeOf fn54)))))) true 112 (fun _ => 0) (xret PP fn54) noK (xret PP fn54)) (noK i)) (xret PP fn54)) rfl) LL, f54_6_eq E (R54 E (pb (pb (pb (pb (pb (codeOf fn54)))))) true 112 (fun _ => 0) (xret PP fn54) noK (xret PP fn54)) (fun i => sel (Nat.beq i 0) (R54 E (pb (pb (pb (pb (pb (codeOf fn54)))))) true 112 (fun _ => 0) (xret PP fn54) noK (xret PP fn54)) (noK i)) (xret PP fn54), lp5_eq 0 1 4 8 9 (fun k => (R54 E (pa (pa (pa (pb (pa (pb (pb (pb (pb (pb (pa (pa (pb (pb (pb (pb (codeOf fn54))))))))))))))))) true 787 (fun i => sel (Nat.beq i 3) 787 ((fun i => sel (Nat.beq i 0) 784 ((fun _ => 0) i)) i)) k (fun i => sel (Nat.beq i 3) (R54 E (pb (pb (pa (pb (pb (pb (pb (pb (pa (pa (pb (pb (pb (pb (codeOf fn54))))))))))))))) true 784 (fun i => sel (Nat.beq i 0) 784 ((fun _ => 0) i)) (R54 E (pb (pb (pb (pb (pb (codeOf fn54)))))) true 112 (fun _ => 0) (xret PP fn54) noK (xret PP fn54)) (fun i => sel (Nat.beq i 0) (R54 E (pb (pb (pb (pb (pb (codeOf fn54)))))) true 112 (fun _ => 0) (xret PP fn54) noK (xret PP fn54)) (noK i)) (xret PP fn54)) ((fun i => sel (Nat.beq i 0) (R54 E (pb (pb (pb (pb (pb (codeOf fn54)))))) true 112 (fun _ => 0) (xret PP fn54) noK (xret PP fn54)) (noK i)) i)) (xret PP fn54))) (fun k => f54_7 E k (fun y0 y1 y4 y8 y9 h => (R54 E (pb (pb (pa (pb (pb (pb (pb (pb (pa (pa (pb (pb (pb (pb (codeOf fn54))))))))))))))) true 784 (fun i => sel (Nat.beq i 0) 784 ((fun _ => 0) i)) (R54 E (pb (pb (pb (pb (pb (codeOf fn54)))))) true 112 (fun _ => 0) (xret PP fn54) noK (xret PP fn54)) (fun i => sel (Nat.beq i 0) (R54 E (pb (pb (pb (pb (pb (codeOf fn54)))))) true 112 (fun _ => 0) (xret PP fn54) noK (xret PP fn54)) (noK i)) (xret PP fn54)) (mkE [(0, y0), (1, y1), (4, y4), (8, y8), (9, y9)]) h) (fun y4 y5 y6 h => (xret PP fn54) (mkE [(4, y4), (5, y5), (6, y6)]) h)) (fun k => f54_7_eq E k (fun i => sel (Nat.beq i 3) (R54 E (pb (pb (pa (pb (pb (pb (pb (pb (pa (pa (pb (pb (pb (pb (codeOf fn54))))))))))))))) true 784 (fun i => sel (Nat.beq i 0) 784 ((fun _ => 0) i)) (R54 E (pb (pb (pb (pb (pb (codeOf fn54)))))) true 112 (fun _ => 0) (xret PP fn54) noK (xret PP fn54)) (fun i => sel (Nat.beq i 0) (R54 E (pb (pb (pb (pb (pb (codeOf fn54)))))) true 112 (fun _ => 0) (xret PP fn54) noK (xret PP fn54)) (noK i)) (xret PP fn54)) ((fun i => sel (Nat.beq i 0) (R54 E (pb (pb (pb (pb (pb (codeOf fn54)))))) true 112 (fun _ => 0) (xret PP fn54) noK (xret PP fn54)) (noK i)) i)) (xret PP fn54) (R54 E (pb (pb (pa (pb (pb (pb (pb (pb (pa (pa (pb (pb (pb (pb (codeOf fn54))))))))))))))) true 784 (fun i => sel (Nat.beq i 0) 784 ((fun _ => 0) i)) (R54 E (pb (pb (pb (pb (pb (codeOf fn54)))))) true 112 (fun _ => 0) (xret PP fn54) noK (xret PP fn54)) (fun i => sel (Nat.beq i 0) (R54 E (pb (pb (pb (pb (pb (codeOf fn54)))))) true 112 (fun _ => 0) (xret PP fn54) noK (xret PP fn54)) (noK i)) (xret PP fn54)) rfl) LL, f54_9_eq E (R54 E (pb (pb (pb (pb (pb (codeOf fn54)))))) true 112 (fun _ => 0) (xret PP fn54) noK (xret PP fn54)) (fun i => sel (Nat.beq i 0) (R54 E (pb (pb (pb (pb (pb (codeOf fn54)))))) true 112 (fun _ => 0) (xret PP fn54) noK (xret PP fn54)) (noK i)) (xret PP fn54), lp5_eq 0 1 4 8 9 (fun k => (R54 E (pa (pa (pa (pb (pa (pb (pb (pb (pb (pb (pb (pb (pa (pa (pb (pb (pb (pb (codeOf fn54))))))))))))))))))) true 787 (fun i => sel (Nat.beq i 5) 787 ((fun i => sel (Nat.beq i 0) 784 ((fun _ => 0) i)) i)) k (fun i => sel (Nat.beq i 5) (R54 E (pb (pb (pa (pb (pb (pb (pb (pb (pb (pb (pa (pa (pb (pb (pb (pb (codeOf fn54))))))))))))))))) true 784 (fun i => sel (Nat.beq i 0) 784 ((fun _ => 0) i)) (R54 E (pb (pb (pb (pb (pb (codeOf fn54)))))) true 112 (fun _ => 0) (xret PP fn54) noK (xret PP fn54)) (fun i => sel (Nat.beq i 0) (R54 E (pb (pb (pb (pb (pb (codeOf fn54)))))) true 112 (fun _ => 0) (xret PP fn54) noK (xret PP fn54)) (noK i)) (xret PP fn54)) ((fun i => sel (Nat.beq i 0) (R54 E (pb (pb (pb (pb (pb (codeOf fn54)))))) true 112 (fun _ => 0) (xret PP fn54) noK (xret PP fn54)) (noK i)) i)) (xret PP fn54))) (fun k => f54_10 E k (fun y0 y1 y4 y8 y9 h => (R54 E (pb (pb (pa (pb (pb (pb (pb (pb (pb (pb (pa (pa (pb (pb (pb (pb (codeOf fn54))))))))))))))))) true 784 (fun i => sel (Nat.beq i 0) 784 ((fun _ => 0) i)) (R54 E (pb (pb (pb (pb (pb (codeOf fn54)))))) true 112 (fun _ => 0) (xret PP fn54) noK (xret PP fn54)) (fun i => sel (Nat.beq i 0) (R54 E (pb (pb (pb (pb (pb (codeOf fn54)))))) true 112 (fun _ => 0) (xret PP fn54) noK (xret PP fn54)) (noK i)) (xret PP fn54)) (mkE [(0, y0), (1, y1), (4, y4), (8, y8), (9, y9)]) h)) (fun k => f54_10_eq E k (fun i => sel (Nat.beq i 5) (R54 E (pb (pb (pa (pb (pb (pb (pb (pb (pb (pb (pa (pa (pb (pb (pb (pb (codeOf fn54))))))))))))))))) true 784 (fun i => sel (Nat.beq i 0) 784 ((fun _ => 0) i)) (R54 E (pb (pb (pb (pb (pb (codeOf fn54)))))) true 112 (fun _ => 0) (xret PP fn54) noK (xret PP fn54)) (fun i => sel (Nat.beq i 0) (R54 E (pb (pb (pb (pb (pb (codeOf fn54)))))) true 112 (fun _ => 0) (xret PP fn54) noK (xret PP fn54)) (noK i)) (xret PP fn54)) ((fun i => sel (Nat.beq i 0) (R54 E (pb (pb (pb (pb (pb (codeOf fn54)))))) true 112 (fun _ => 0) (xret PP fn54) noK (xret PP fn54)) (noK i)) i)) (xret PP fn54) (R54 E (pb (pb (pa (pb (pb (pb (pb (pb (pb (pb (pa (pa (pb (pb (pb (pb (codeOf fn54))))))))))))))))) true 784 (fun i => sel (Nat.beq i 0) 784 ((fun _ => 0) i)) (R54 E (pb (pb (pb (pb (pb (codeOf fn54)))))) true 112 (fun _ => 0) (xret PP fn54) noK (xret PP fn54)) (fun i => sel (Nat.beq i 0) (R54 E (pb (pb (pb (pb (pb (codeOf fn54)))))) true 112 (fun _ => 0) (xret PP fn54) noK (xret PP fn54)) (noK i)) (xret PP fn54)) rfl) LL, f54_11_eq E (R54 E (pb (pb (pb (pb (pb (codeOf fn54)))))) true 112 (fun _ => 0) (xret PP fn54) noK (xret PP fn54)) (fun i => sel (Nat.beq i 0) (R54 E (pb (pb (pb (pb (pb (codeOf fn54)))))) true 112 (fun _ => 0) (xret PP fn54) noK (xret PP fn54)) (noK i)) (xret PP fn54), lp6_eq 0 1 4 7 8 9 (fun k => (R54 E (pa (pa (pa (pb (pa (pb (pb (pb (pb (pb (pb (pb (pb (pb (pa (pa (pb (pb (pb (pb (codeOf fn54))))))))))))))))))))) true 915 (fun i => sel (Nat.beq i 7) 915 ((fun i => sel (Nat.beq i 0) 784 ((fun _ => 0) i)) i)) k (fun i => sel (Nat.beq i 7) (R54 E (pb (pb (pa (pb (pb (pb (pb (pb (pb (pb (pb (pb (pa (pa (pb (pb (pb (pb (codeOf fn54))))))))))))))))))) true 784 (fun i => sel (Nat.beq i 0) 784 ((fun _ => 0) i)) (R54 E (pb (pb (pb (pb (pb (codeOf fn54)))))) true 112 (fun _ => 0) (xret PP fn54) noK (xret PP fn54)) (fun i => sel (Nat.beq i 0) (R54 E (pb (pb (pb (pb (pb (codeOf fn54)))))) true 112 (fun _ => 0) (xret PP fn54) noK (xret PP fn54)) (noK i)) (xret PP fn54)) ((fun i => sel (Nat.beq i 0) (R54 E (pb (pb (pb (pb (pb (codeOf fn54)))))) true 112 (fun _ => 0) (xret PP fn54) noK (xret PP fn54)) (noK i)) i)) (xret PP fn54))) (fun k => f54_16 E k (fun y0 y1 y4 y7 y8 y9 h => (R54 E (pb (pb (pa (pb (pb (pb (pb (pb (pb (pb (pb (pb (pa (pa (pb (pb (pb (pb (codeOf fn54))))))))))))))))))) true 784 (fun i => sel (Nat.beq i 0) 784 ((fun _ => 0) i)) (R54 E (pb (pb (pb (pb (pb (codeOf fn54)))))) true 112 (fun _ => 0) (xret PP fn54) noK (xret PP fn54)) (fun i => sel (Nat.beq i 0) (R54 E (pb (pb (pb (pb (pb (codeOf fn54)))))) true 112 (fun _ => 0) (xret PP fn54) noK (xret PP fn54)) (noK i)) (xret PP fn54)) (mkE [(0, y0), (1, y1), (4, y4), (7, y7), (8, y8), (9, y9)]) h)) (fun k => f54_16_eq E k (fun i => sel (Nat.beq i 7) (R54 E (pb (pb (pa (pb (pb (pb (pb (pb (pb (pb (pb (pb (pa (pa (pb (pb (pb (pb (codeOf fn54))))))))))))))))))) true 784 (fun i => sel (Nat.beq i 0) 784 ((fun _ => 0) i)) (R54 E (pb (pb (pb (pb (pb (codeOf fn54)))))) true 112 (fun _ => 0) (xret PP fn54) noK (xret PP fn54)) (fun i => sel (Nat.beq i 0) (R54 E (pb (pb (pb (pb (pb (codeOf fn54)))))) true 112 (fun _ => 0) (xret PP fn54) noK (xret PP fn54)) (noK i)) (xret PP fn54)) ((fun i => sel (Nat.beq i 0) (R54 E (pb (pb (pb (pb (pb (codeOf fn54)))))) true 112 (fun _ => 0) (xret PP fn54) noK (xret PP fn54)) (noK i)) i)) (xret PP fn54) (R54 E (pb (pb (pa (pb (pb (pb (pb (pb (pb (pb (pb (pb (pa (pa (pb (pb (pb (pb (codeOf fn54))))))))))))))))))) true 784 (fun i => sel (Nat.beq i 0) 784 ((fun _ => 0) i)) (R54 E (pb (pb (pb (pb (pb (codeOf fn54)))))) true 112 (fun _ => 0) (xret PP fn54) noK (xret PP fn54)) (fun i => sel (Nat.beq i 0) (R54 E (pb (pb (pb (pb (pb (codeOf fn54)))))) true 112 (fun _ => 0) (xret PP fn54) noK (xret PP fn54)) (noK i)) (xret PP fn54)) rfl) LL, f54_17_eq E (R54 E (pb (pb (pb (pb (pb (codeOf fn54)))))) true 112 (fun _ => 0) (xret PP fn54) noK (xret PP fn54)) (fun i => sel (Nat.beq i 0) (R54 E (pb (pb (pb (pb (pb (codeOf fn54)))))) true 112 (fun _ => 0) (xret PP fn54) noK (xret PP fn54)) (noK i)) (xret PP fn54), lp5_eq 0 1 4 8 9 (fun k => (R54 E (pa (pa (pa (pb (pa (pb (pb (pb (pb (pb (pb (pb (pb (pb (pb (pb (pa (pa (pb (pb (pb (pb (codeOf fn54))))))))))))))))))))))) true 787 (fun i => sel (Nat.beq i 11) 787 ((fun i => sel (Nat.beq i 0) 784 ((fun _ => 0) i)) i)) k (fun i => sel (Nat.beq i 11) (R54 E (pb (pb (pa (pb (pb (pb (pb (pb (pb (pb (pb (pb (pb (pb (pa (pa (pb (pb (pb (pb (codeOf fn54))))))))))))))))))))) true 784 (fun i => sel (Nat.beq i 0) 784 ((fun _ => 0) i)) (R54 E (pb (pb (pb (pb (pb (codeOf fn54)))))) true 112 (fun _ => 0) (xret PP fn54) noK (xret PP fn54)) (fun i => sel (Nat.beq i 0) (R54 E (pb (pb (pb (pb (pb (codeOf fn54)))))) true 112 (fun _ => 0) (xret PP fn54) noK (xret PP fn54)) (noK i)) (xret PP fn54)) ((fun i => sel (Nat.beq i 0) (R54 E (pb (pb (pb (pb (pb (codeOf fn54)))))) true 112 (fun _ => 0) (xret PP fn54) noK (xret PP fn54)) (noK i)) i)) (xret PP fn54))) (fun k => f54_18 E k (fun y0 y1 y4 y8 y9 h => (R54 E (pb (pb (pa (pb (pb (pb (pb (pb (pb (pb (pb (pb (pb (pb (pa (pa (pb (pb (pb (pb (codeOf fn54))))))))))))))))))))) true 784 (fun i => sel (Nat.beq i 0) 784 ((fun _ => 0) i)) (R54 E (pb (pb (pb (pb (pb (codeOf fn54)))))) true 112 (fun _ => 0) (xret PP fn54) noK (xret PP fn54)) (fun i => sel (Nat.beq i 0) (R54 E (pb (pb (pb (pb (pb (codeOf fn54)))))) true 112 (fun _ => 0) (xret PP fn54) noK (xret PP fn54)) (noK i)) (xret PP fn54)) (mkE [(0, y0), (1, y1), (4, y4), (8, y8), (9, y9)]) h)) (fun k => f54_18_eq E k (fun i => sel (Nat.beq i 11) (R54 E (pb (pb (pa (pb (pb (pb (pb (pb (pb (pb (pb (pb (pb (pb (pa (pa (pb (pb (pb (pb (codeOf fn54))))))))))))))))))))) true 784 (fun i => sel (Nat.beq i 0) 784 ((fun _ => 0) i)) (R54 E (pb (pb (pb (pb (pb (codeOf fn54)))))) true 112 (fun _ => 0) (xret PP fn54) noK (xret PP fn54)) (fun i => sel (Nat.beq i 0) (R54 E (pb (pb (pb (pb (pb (codeOf fn54)))))) true 112 (fun _ => 0) (xret PP fn54) noK (xret PP fn54)) (noK i)) (xret PP fn54)) ((fun i => sel (Nat.beq i 0) (R54 E (pb (pb (pb (pb (pb (codeOf fn54)))))) true 112 (fun _ => 0) (xret PP fn54) noK (xret PP fn54)) (noK i)) i)) (xret PP fn54) (R54 E (pb (pb (pa (pb (pb (pb (pb (pb (pb (pb (pb (pb (pb (pb (pa (pa (pb (pb (pb (pb (codeOf fn54))))))))))))))))))))) true 784 (fun i => sel (Nat.beq i 0) 784 ((fun _ => 0) i)) (R54 E (pb (pb (pb (pb (pb (codeOf fn54)))))) true 112 (fun _ => 0) (xret PP fn54) noK (xret PP fn54)) (fun i => sel (Nat.beq i 0) (R54 E (pb (pb (pb (pb (pb (codeOf fn54)))))) true 112 (fun _ => 0) (xret PP fn54) noK (xret PP fn54)) (noK i)) (xret PP fn54)) rfl) LL]
  refine (bodyR_unf (c := (codeOf fn54)) (by kernel_rfl) (by kernel_rfl)).trans ?_
  show runS (R54 E) PP GG CC E fn54.ntmps LL none (resBits fn54.results.toList) (codeOf fn54) _ _ _ _ _ _ _ = _
  generalize R54 E = R
  generalize LL = L
  generalize PP = P
  symm
  revert R L P
  refine id ?_
  intro R L P
  kernel_rfl
def fn55 : Func := fnAt PP 55
def R55 (E : Ev) : RT := runR PP GG CC E 77 LL none 240
theorem R55_unf (E : Ev) (c : Code) (lv : Nat) (lx : Nat → Nat) (kn : K) (kx : Nat → K) (kr : K) (e : Env) (h : Heap) : R55 E c true lv lx kn kx kr e h = runS (R55 E) PP GG CC E 77 LL none 240 c lv lx kn kx kr e h := runR_unf _ _ _ _ _ _ _ _
def r55 (x4 x5 x6 x7 : AV) (h : Heap) : Res := ob (ob (pLoad PP 73 x4 h) fun v => ob (ob (some x5) fun v => ob (ob (some x6) fun v => ob (ob (some x7) fun v => some [v]) fun vs => some (v :: vs)) fun vs => some (v :: vs)) fun vs => some (v :: vs)) fun vs => some (one vs, h)
theorem r55_eq : r55 = fun x4 x5 x6 x7 h => xret PP fn55 (mkE [(4, x4), (5, x5), (6, x6), (7, x7)]) h := by kernel_rfl
def f55_1 (E : Ev) (kr : AV → AV → AV → AV → Heap → Res) (x0 x1 x4 x8 x9 : AV) (h : Heap) : Res :=
  ob (pLoad PP 73 x8 h) fun x66 =>
  ob (xbin PP .add 3 true x1 (.int .i64 1)) fun x68 =>
  ob (xlen PP h 101 x0) fun x70 =>
  ob (xminmax false x68 x70) fun x71 =>
  ob (xlen PP h 101 x0) fun x75 =>
  ob (xbin PP .lss 3 false x1 x75) fun x76 =>
  ob (pStore PP 73 x4 x66 h) fun h0 =>
  kr x4 x71 x9 x76 h0
theorem f55_1_eq (E : Ev) (kn : K) (kx : Nat → K) (kr : K) : f55_1 E (fun y4 y5 y6 y7 h => kr (mkE [(4, y4), (5, y5), (6, y6), (7, y7)]) h) = fun x0 x1 x4 x8 x9 h => R55 E (pb (pb (pb (pb (pb (pb (codeOf fn55))))))) true 240 (fun _ => 0) kn kx kr (mkE [(0, x0), (1, x1), (4, x4), (8, x8), (9, x9)]) h := by
  funext x0 x1 x4 x8 x9 h
  unfold f55_1
  refine Eq.trans ?_ (R55_unf E _ _ _ _ _ _ _ _).symm
  generalize R55 E = R
  generalize LL = L
  generalize PP = P
  revert R L P
  refine id ?_
  intro R L P
  kernel_rfl
def f55_2 (E : Ev) (kn : AV → AV → AV → AV → AV → Heap → Res) (k0 : AV → AV → AV → AV → AV → Heap → Res) (kr : AV → AV → AV → AV → Heap → Res) (x0 x1 x4 x8 x9 : AV) (h : Heap) : Res :=
  ob (xlen PP h 101 x0) fun x32 =>
  ob (xbin PP .lss 3 false x1 x32) fun x33 =>
  ob (pWant x33 true) fun c =>
  ob (sel c (some x0) (some (.tuple []))) fun x35 =>
  ob (pWant x33 true) fun c_1 =>
  ob (sel c_1 (some x1) (some (.tuple []))) fun x36 =>
  ob (pWant x33 true) fun c_2 =>
  ob (sel c_2 (xindexAddr PP 101 x35 x36) (some (.tuple []))) fun x37 =>
  ob (pWant x33 true) fun c_3 =>
  ob (sel c_3 (pFieldAddr PP 71 0 x37) (some (.tuple []))) fun x38 =>
  ob (pWant x33 true) fun c_4 =>
  ob (sel c_4 (pLoad PP 3 x38 h) (some (.tuple []))) fun x39 =>
  ob (pWant x33 true) fun c_5 =>
  ob (sel c_5 (xbin PP .neq 3 true x39 (.int .i64 2)) (some (.tuple []))) fun x40 =>
  ob (pPick x33 (some x40) (some (.bool false))) fun x41 =>
  pIf x41
   (obP (E (.fn 55) [x0, x1] h) fun x45 h45 =>
   ob (pExtract 0 x45) fun x46 =>
   ob (pExtract 1 x45) fun x47 =>
   ob (pExtract 2 x45) fun x48 =>
   ob (pExtract 3 x45) fun x49 =>
   obP (ob (zeroC PP 73) fun z => some (pNew h45 73 z)) fun x10 h10 =>
   ob (pStore PP 73 x10 x46 h10) fun h0 =>
   ob (xbin PP .add 3 true x48 (.int .i64 1)) fun x52 =>
   ob (xminmax true x9 x52) fun x53 =>
   ob (xun .not x49) fun x55 =>
   pIf x55
    (ob (pLoad PP 73 x8 h0) fun x56 =>
    ob (pStore PP 73 x4 x56 h0) fun h0_1 =>
    kr x4 x47 x53 (.bool false) h0_1)
    (ob (pFieldAddr PP 73 2 x8) fun x59 =>
    ob (pLoad PP 67 x59 h0) fun x60 =>
    ob (pLoad PP 73 x10 h0) fun x61 =>
    obP (pBuildSlice PP h0 67 1 [(0, x61)]) fun x62 h62 =>
    obP (xappend PP h62 67 67 x60 x62) fun x63 h63 =>
    ob (pFieldAddr PP 73 2 x8) fun x64 =>
    ob (pStore PP 67 x64 x63 h63) fun h0_1 =>
    kn x0 x47 x4 x8 x53 h0_1))
   (k0 x0 x1 x4 x8 x9 h)
theorem f55_2_eq (E : Ev) (kn : K) (kx : Nat → K) (kr : K) (e0 : K) (he0 : kx 0 = e0) : f55_2 E (fun y0 y1 y4 y8 y9 h => kn (mkE [(0, y0), (1, y1), (4, y4), (8, y8), (9, y9)]) h) (fun y0 y1 y4 y8 y9 h => e0 (mkE [(0, y0), (1, y1), (4, y4), (8, y8), (9, y9)]) h) (fun y4 y5 y6 y7 h => kr (mkE [(4, y4), (5, y5), (6, y6), (7, y7)]) h) = fun x0 x1 x4 x8 x9 h => R55 E (pa (pa (pa (pb (pb (pb (pb (pb (codeOf fn55))))))))) true 787 (fun i => sel (Nat.beq i 0) 787 ((fun _ => 0) i)) kn kx kr (mkE [(0, x0), (1, x1), (4, x4), (8, x8), (9, x9)]) h := by
  subst he0
  funext x0 x1 x4 x8 x9 h
  unfold f55_2
  refine Eq.trans ?_ (R55_unf E _ _ _ _ _ _ _ _).symm
  generalize R55 E = R
  generalize LL = L
  generalize PP = P
  revert R L P
  refine id ?_
  intro R L P
  kernel_rfl
/-- theodolite/theodoliteref11.tree -/
def s55 (E : Ev) (x0 x1 : AV) (h : Heap) : Res :=
  obP (ob (zeroC PP 73) fun z => some (pNew h 73 z)) fun x4 h4 =>
  ob (xindexAddr PP 101 x0 x1) fun x16 =>
  ob (pFieldAddr PP 71 0 x16) fun x17 =>
  ob (pLoad PP 3 x17 h4) fun x18 =>
  ob (xbin PP .neq 3 true x18 (.int .i64 1)) fun x19 =>
  pIf x19
   (ob (xindexAddr PP 101 x0 x1) fun x22 =>
   ob (pLoad PP 71 x22 h4) fun x23 =>
   ob (xbuild PP 73 [(1, x23)]) fun x24 =>
   ob (xbin PP .add 3 true x1 (.int .i64 1)) fun x26 =>
   ob (pStore PP 73 x4 x24 h4) fun h0 =>
   r55 x4 x26 (.int .i64 0) (.bool true) h0)
   (ob (xbuild PP 73 [(0, (.bool true))]) fun x27 =>
   obP (ob (zeroC PP 73) fun z => some (pNew h4 73 z)) fun x8 h8 =>
   ob (pStore PP 73 x8 x27 h8) fun h0 =>
   ob (xbin PP .add 3 true x1 (.int .i64 1)) fun x29 =>
   lp b5 (fun k => f55_2 E k (f55_1 E r55) r55) LL x0 x29 x4 x8 (.int .i64 1) h0)
theorem s55_eq (E : Ev) (x0 x1 : AV) (h : Heap) : xbodyR PP GG CC E LL fn55 [x0, x1] h = s55 E x0 x1 h := by
  unfold s55
  rw [r55_eq, f55_1_eq E (xret PP fn55) noK (xret PP fn55), lp5_eq 0 1 4 8 9 (fun k => (R55 E (pa (pa (pa (pb (pb (pb (pb (pb (codeOf fn55))))))))) true 787 (fun i => sel (Nat.beq i 0) 787 ((fun _ => 0) i)) k (fun i => sel (Nat.beq i 0) (R55 E (pb (pb (pb (pb (pb (pb (codeOf fn55))))))) true 240 (fun _ => 0) (xret PP fn55) noK (xret PP fn55)) (noK i)) (xret PP fn55))) (fun k => f55_2 E k (fun y0 y1 y4 y8 y9 h => (R55 E (pb (pb (pb (pb (pb (pb (codeOf fn55))))))) true 240 (fun _ => 0) (xret PP fn55) noK (xret PP fn55)) (mkE [(0, y0), (1, y1), (4, y4), (8, y8), (9, y9)]) h) (fun y4 y5 y6 y7 h => (xret PP fn55) (mkE [(4, y4), (5, y5), (6, y6), (7, y7)]) h)) (fun k => f55_2_eq E k (fun i => sel (Nat.beq i 0) (R55 E (pb (pb (pb (pb (pb (pb (codeOf fn55))))))) true 240 (fun _ => 0) (xret PP fn55) noK (xret PP fn55)) (noK i)) (xret PP fn55) (R55 E (pb (pb (pb (pb (pb (pb (codeOf fn55))))))) true 240 (fun _ => 0) (xret PP fn55) noK (xret PP fn55)) rfl) LL]
  refine (bodyR_unf (c := (codeOf fn55)) (by kernel_rfl) (by kernel_rfl)).trans ?_
  show runS (R55 E) PP GG CC E fn55.ntmps LL none (resBits fn55.results.toList) (codeOf fn55) _ _ _ _ _ _ _ = _
  generalize R55 E = R
  generalize LL = L
  generalize PP = P
  symm
  revert R L P
  refine id ?_
  intro R L P
  kernel_rfl
def fn56 : Func := fnAt PP 56
def R56 (E : Ev) : RT := runR PP GG CC E 102 LL none 48
theorem R56_unf (E : Ev) (c : Code) (lv : Nat) (lx : Nat → Nat) (kn : K) (kx : Nat → K) (kr : K) (e : Env) (h : Heap) : R56 E c true lv lx kn kx kr e h = runS (R56 E) PP GG CC E 102 LL none 48 c lv lx kn kx kr e h := runR_unf _ _ _ _ _ _ _ _
def r56 (x4 x5 : AV) (h : Heap) : Res := some (.tuple [x4, x5], h)
theorem r56_eq : r56 = fun x4 x5 h => xret PP fn56 (mkE [(4, x4), (5, x5)]) h := by kernel_rfl
def f56_1 (E : Ev) (kr : AV → AV → Heap → Res) (x0 x1 : AV) (h : Heap) : Res :=
  ob (xlen PP h 67 x1) fun x16 =>
  ob (xbin PP .eql 3 true x16 (.int .i64 0)) fun x17 =>
  ob (pWant x17 false) fun c =>
  ob (sel c (some x1) (some (.tuple []))) fun x19 =>
  ob (pWant x17 false) fun c_1 =>
  ob (sel c_1 (xindexAddr PP 67 x19 (.int .i64 0)) (some (.tuple []))) fun x20 =>
  ob (pWant x17 false) fun c_2 =>
  ob (sel c_2 (pFieldAddr PP 73 0 x20) (some (.tuple []))) fun x21 =>
  ob (pWant x17 false) fun c_3 =>
  ob (sel c_3 (pLoad PP 4 x21 h) (some (.tuple []))) fun x22 =>
  ob (pPick x17 (some (.bool true)) (some x22)) fun x23 =>
  ob (pWant x23 false) fun c_4 =>
  ob (sel c_4 (some x1) (some (.tuple []))) fun x25 =>
  ob (pWant x23 false) fun c_5 =>
  ob (sel c_5 (xindexAddr PP 67 x25 (.int .i64 0)) (some (.tuple []))) fun x26 =>
  ob (pWant x23 false) fun c_6 =>
  ob (sel c_6 (pFieldAddr PP 73 1 x26) (some (.tuple []))) fun x27 =>
  ob (pWant x23 false) fun c_7 =>
  ob (sel c_7 (pFieldAddr PP 71 0 x27) (some (.tuple []))) fun x28 =>
  ob (pWant x23 false) fun c_8 =>
  ob (sel c_8 (pLoad PP 3 x28 h) (some (.tuple []))) fun x29 =>
  ob (pWant x23 false) fun c_9 =>
  ob (sel c_9 (xbin PP .neq 3 true x29 (.int .i64 3)) (some (.tuple []))) fun x30 =>
  ob (pPick x23 (some (.bool true)) (some x30)) fun x31 =>
  pIf x31
   (kr (.int .i64 0) (.int .i64 2) h)
   (ob (xindexAddr PP 67 x1 (.int .i64 0)) fun x33 =>
   ob (pFieldAddr PP 73 1 x33) fun x34 =>
   ob (pFieldAddr PP 71 1 x34) fun x35 =>
   ob (pLoad PP 9 x35 h) fun x36 =>
   ob (xbin PP .eql 9 true x36 (.str 3 7628140)) fun x38 =>
   pIf x38
    (obP (xslice PP h 67 x1 (some (.int .i64 1)) none none) fun x41 h41 =>
    obP (E (.fn 77) [x0, x41] h41) fun x42 h42 =>
    ob (pExtract 0 x42) fun x43 =>
    ob (pExtract 1 x42) fun x44 =>
    kr x43 x44 h42)
    (obP (E (.fn 78) [x36] h) fun x47 h47 =>
    ob (pExtract 0 x47) fun x48 =>
    ob (pExtract 1 x47) fun x49 =>
    ob (xun .not x49) fun x51 =>
    ob (pWant x51 true) fun c_10 =>
    ob (sel c_10 (some x36) (some (.tuple []))) fun x53 =>
    ob (pWant x51 true) fun c_11 =>
    obP (sel c_11 (E (.fn 45) [x53] h47) (some (.tuple [], h47))) fun x54 h54 =>
    ob (pPick x51 (some x54) (some (.bool false))) fun x55 =>
    pIf x55
     (kr (.int .i64 0) (.int .i64 2) h54)
     (obP (xslice PP h54 67 x1 (some (.int .i64 1)) none none) fun x59 h59 =>
     obP (E (.fn 79) [x0, x59] h59) fun x60 h60 =>
     ob (pExtract 0 x60) fun x61 =>
     ob (pExtract 1 x60) fun x62 =>
     ob (xbin PP .neq 29 true x62 (.int .i64 0)) fun x64 =>
     pIf x64
      (kr (.int .i64 0) x62 h60)
      (pIf x49
       (obP (E (.fn 80) [x0, x48, x61] h60) fun x70 h70 =>
       ob (pExtract 0 x70) fun x71 =>
       ob (pExtract 1 x70) fun x72 =>
       kr x71 x72 h70)
       (obP (E (.fn 81) [x0, x36] h60) fun x76 h76 =>
       ob (pExtract 0 x76) fun x77 =>
       ob (pExtract 1 x76) fun x78 =>
       pIf x78
        (kr (.int .i64 0) (.int .i64 3) h76)
        (ob (pNil x0) fun x82 =>
        ob (pFieldAddr PP 109 2 x82) fun x83 =>
        ob (pLoad PP 37 x83 h76) fun x84 =>
        obP (E (.fn 26) [x84, x36] h76) fun x86 h86 =>
        ob (pExtract 0 x86) fun x87 =>
        ob (pExtract 1 x86) fun x88 =>
        obP (ob (zeroC PP 84) fun z => some (pNew h86 84 z)) fun x13 h13 =>
        ob (pStore PP 84 x13 x87 h13) fun h0 =>
        pIf x88
         (ob (pLoad PP 84 x13 h0) fun x91 =>
         obP (E (.fn 82) [x0, x91, x61] h0) fun x93 h93 =>
         ob (pExtract 0 x93) fun x94 =>
         ob (pExtract 1 x93) fun x95 =>
         kr x94 x95 h93)
         (obP (E (.fn 83) [x0, x36, x61] h0) fun x99 h99 =>
         ob (pExtract 0 x99) fun x100 =>
         ob (pExtract 1 x99) fun x101 =>
         kr x100 x101 h99)))))))
theorem f56_1_eq (E : Ev) (kn : K) (kx : Nat → K) (kr : K) : f56_1 E (fun y4 y5 h => kr (mkE [(4, y4), (5, y5)]) h) = fun x0 x1 h => R56 E (pb (codeOf fn56)) true 48 (fun _ => 0) kn kx kr (mkE [(0, x0), (1, x1)]) h := by
  funext x0 x1 h
  unfold f56_1
  refine Eq.trans ?_ (R56_unf E _ _ _ _ _ _ _ _).symm
  generalize R56 E = R
  generalize LL = L
  generalize PP = P
  revert R L P
  refine id ?_
  intro R L P
  kernel_rfl
/-- (*theodolite/elab.maker).list -/
def s56 (E : Ev) (x0 x1 : AV) (h : Heap) : Res :=
  f56_1 E r56 x0 x1 h
theorem s56_eq (E : Ev) (x0 x1 : AV) (h : Heap) : xbodyR PP GG CC E LL fn56 [x0, x1] h = s56 E x0 x1 h := by
  unfold s56
  rw [r56_eq, f56_1_eq E (xret PP fn56) noK (xret PP fn56)]
  refine (bodyR_unf (c := (codeOf fn56)) (by kernel_rfl) (by kernel_rfl)).trans ?_
  show runS (R56 E) PP GG CC E fn56.ntmps LL none (resBits fn56.results.toList) (codeOf fn56) _ _ _ _ _ _ _ = _
  generalize R56 E = R
  generalize LL = L
  generalize PP = P
  symm
  revert R L P
  refine id ?_
  intro R L P
  kernel_rfl
def fn57 : Func := fnAt PP 57
def R57 (E : Ev) : RT := runR PP GG CC E 24 LL none 48
theorem R57_unf (E : Ev) (c : Code) (lv : Nat) (lx : Nat → Nat) (kn : K) (kx : Nat → K) (kr : K) (e : Env) (h : Heap) : R57 E c true lv lx kn kx kr e h = runS (R57 E) PP GG CC E 24 LL none 48 c lv lx kn kx kr e h := runR_unf _ _ _ _ _ _ _ _
def r57 (x4 x5 : AV) (h : Heap) : Res := some (.tuple [x4, x5], h)
theorem r57_eq : r57 = fun x4 x5 h => xret PP fn57 (mkE [(4, x4), (5, x5)]) h := by kernel_rfl
/-- (*theodolite/elab.maker).number -/
def s57 (E : Ev) (x0 x1 : AV) (h : Heap) : Res :=
  obP (E (.fn 84) [x1] h) fun x10 h10 =>
  ob (pExtract 0 x10) fun x11 =>
  ob (pExtract 1 x10) fun x12 =>
  obP (ob (zeroC PP 141) fun z => some (pNew h10 141 z)) fun x6 h6 =>
  ob (pStore PP 141 x6 x11 h6) fun h0 =>
  ob (xbin PP .neq 29 true x12 (.int .i64 0)) fun x14 =>
  pIf x14
   (r57 (.int .i64 0) x12 h0)
   (ob (pNil x0) fun x17 =>
   ob (pFieldAddr PP 109 0 x17) fun x18 =>
   ob (pLoad PP 36 x18 h0) fun x19 =>
   ob (pLoad PP 141 x6 h0) fun x20 =>
   sel (chkV x19 (pLoad PP 36 x18 h0)) (
   sel (chkV x20 (pLoad PP 141 x6 h0)) (
   obP (E (.fn 85) [x19, (.int .i64 11), (.str 0 0), x20, .nilSlice] h0) fun x21 h21 =>
   ob (pExtract 0 x21) fun x22 =>
   ob (pExtract 1 x21) fun x23 =>
   r57 x22 x23 h21) none) none)
theorem s57_eq (E : Ev) (x0 x1 : AV) (h : Heap) : xbodyR PP GG CC E LL fn57 [x0, x1] h = s57 E x0 x1 h := by
  unfold s57
  rw [r57_eq]
  refine (bodyR_unf (c := (codeOf fn57)) (by kernel_rfl) (by kernel_rfl)).trans ?_
  show runS (R57 E) PP GG CC E fn57.ntmps LL none (resBits fn57.results.toList) (codeOf fn57) _ _ _ _ _ _ _ = _
  generalize R57 E = R
  generalize LL = L
  generalize PP = P
  symm
  revert R L P
  refine id ?_
  intro R L P
  kernel_rfl
def fn58 : Func := fnAt PP 58
def R58 (E : Ev) : RT := runR PP GG CC E 64 LL none 48
theorem R58_unf (E : Ev) (c : Code) (lv : Nat) (lx : Nat → Nat) (kn : K) (kx : Nat → K) (kr : K) (e : Env) (h : Heap) : R58 E c true lv lx kn kx kr e h = runS (R58 E) PP GG CC E 64 LL none 48 c lv lx kn kx kr e h := runR_unf _ _ _ _ _ _ _ _
def r58 (x4 x5 : AV) (h : Heap) : Res := some (.tuple [x4, x5], h)
theorem r58_eq : r58 = fun x4 x5 h => xret PP fn58 (mkE [(4, x4), (5, x5)]) h := by kernel_rfl
/-- (*theodolite/elab.maker).symbol -/
def s58 (E : Ev) (x0 x1 : AV) (h : Heap) : Res :=
  obP (E (.fn 81) [x0, x1] h) fun x13 h13 =>
  ob (pExtract 0 x13) fun x14 =>
  ob (pExtract 1 x13) fun x15 =>
  pIf x15
   (r58 x14 (.int .i64 0) h13)
   (ob (xbin PP .eql 9 true x1 (.str 4 1702195828)) fun x20 =>
   pIf x20
    (ob (pNil x0) fun x22 =>
    ob (pFieldAddr PP 109 0 x22) fun x23 =>
    ob (pLoad PP 36 x23 h13) fun x24 =>
    ob (xbuild PP 141 []) fun x25 =>
    obP (E (.fn 85) [x24, (.int .i64 1), (.str 0 0), x25, .nilSlice] h13) fun x26 h26 =>
    ob (pExtract 0 x26) fun x27 =>
    ob (pExtract 1 x26) fun x28 =>
    r58 x27 x28 h26)
    (ob (xbin PP .eql 9 true x1 (.str 5 435728179558)) fun x31 =>
    pIf x31
     (ob (pNil x0) fun x33 =>
     ob (pFieldAddr PP 109 0 x33) fun x34 =>
     ob (pLoad PP 36 x34 h13) fun x35 =>
     ob (xbuild PP 141 []) fun x36 =>
     obP (E (.fn 85) [x35, (.int .i64 2), (.str 0 0), x36, .nilSlice] h13) fun x37 h37 =>
     ob (pExtract 0 x37) fun x38 =>
     ob (pExtract 1 x37) fun x39 =>
     r58 x38 x39 h37)
     (obP (E (.fn 45) [x1] h13) fun x42 h42 =>
     pIf x42
      (r58 (.int .i64 0) (.int .i64 2) h42)
      (ob (pNil x0) fun x45 =>
      ob (pFieldAddr PP 109 2 x45) fun x46 =>
      ob (pLoad PP 37 x46 h42) fun x47 =>
      obP (E (.fn 26) [x47, x1] h42) fun x49 h49 =>
      ob (pExtract 0 x49) fun x50 =>
      ob (pExtract 1 x49) fun x51 =>
      obP (ob (zeroC PP 84) fun z => some (pNew h49 84 z)) fun x8 h8 =>
      ob (pStore PP 84 x8 x50 h8) fun h0 =>
      pIf x51
       (ob (pFieldAddr PP 84 1 x8) fun x53 =>
       ob (pLoad PP 22 x53 h0) fun x54 =>
       ob (xlen PP h0 22 x54) fun x55 =>
       ob (xbin PP .gtr 3 true x55 (.int .i64 0)) fun x56 =>
       pIf x56
        (r58 (.int .i64 0) (.int .i64 3) h0)
        (ob (pFieldAddr PP 84 3 x8) fun x57 =>
        ob (pLoad PP 3 x57 h0) fun x58 =>
        r58 x58 (.int .i64 0) h0))
       (obP (E (.fn 83) [x0, x1, .nilSlice] h0) fun x61 h61 =>
       ob (pExtract 0 x61) fun x62 =>
       ob (pExtract 1 x61) fun x63 =>
       r58 x62 x63 h61)))))
theorem s58_eq (E : Ev) (x0 x1 : AV) (h : Heap) : xbodyR PP GG CC E LL fn58 [x0, x1] h = s58 E x0 x1 h := by
  unfold s58
  rw [r58_eq]
  refine (bodyR_unf (c := (codeOf fn58)) (by kernel_rfl) (by kernel_rfl)).trans ?_
  show runS (R58 E) PP GG CC E fn58.ntmps LL none (resBits fn58.results.toList) (codeOf fn58) _ _ _ _ _ _ _ = _
  generalize R58 E = R
  generalize LL = L
  generalize PP = P
  symm
  revert R L P
  refine id ?_
  intro R L P
  kernel_rfl
def fn59 : Func := fnAt PP 59
def R59 (E : Ev) : RT := runR PP GG CC E 15 LL none 16
theorem R59_unf (E : Ev) (c : Code) (lv : Nat) (lx : Nat → Nat) (kn : K) (kx : Nat → K) (kr : K) (e : Env) (h : Heap) : R59 E c true lv lx kn kx kr e h = runS (R59 E) PP GG CC E 15 LL none 16 c lv lx kn kx kr e h := runR_unf _ _ _ _ _ _ _ _
def r59 (x4 : AV) (h : Heap) : Res := some (x4, h)
theorem r59_eq : r59 = fun x4 h => xret PP fn59 (mkE [(4, x4)]) h := by kernel_rfl
def f59_1 (E : Ev) (kr : AV → Heap → Res) (x1 x2 : AV) (h : Heap) : Res :=
  ob (pFieldAddr PP 73 0 x2) fun x5 =>
  ob (pLoad PP 4 x5 h) fun x6 =>
  ob (xun .not x6) fun x7 =>
  ob (pWant x7 true) fun c =>
  ob (sel c (pFieldAddr PP 73 1 x2) (some (.tuple []))) fun x9 =>
  ob (pWant x7 true) fun c_1 =>
  ob (sel c_1 (pFieldAddr PP 71 0 x9) (some (.tuple []))) fun x10 =>
  ob (pWant x7 true) fun c_2 =>
  ob (sel c_2 (pLoad PP 3 x10 h) (some (.tuple []))) fun x11 =>
  ob (pWant x7 true) fun c_3 =>
  ob (sel c_3 (some x1) (some (.tuple []))) fun x12 =>
  ob (pWant x7 true) fun c_4 =>
  ob (sel c_4 (xbin PP .eql 3 false x11 x12) (some (.tuple []))) fun x13 =>
  ob (pPick x7 (some x13) (some (.bool false))) fun x14 =>
  kr x14 h
theorem f59_1_eq (E : Ev) (kn : K) (kx : Nat → K) (kr : K) : f59_1 E (fun y4 h => kr (mkE [(4, y4)]) h) = fun x1 x2 h => R59 E (pb (codeOf fn59)) true 16 (fun _ => 0) kn kx kr (mkE [(1, x1), (2, x2)]) h := by
  funext x1 x2 h
  unfold f59_1
  refine Eq.trans ?_ (R59_unf E _ _ _ _ _ _ _ _).symm
  generalize R59 E = R
  generalize LL = L
  generalize PP = P
  revert R L P
  refine id ?_
  intro R L P
  kernel_rfl
/-- theodolite/script.is -/
def s59 (E : Ev) (x0 x1 : AV) (h : Heap) : Res :=
  obP (some (pNew h 73 x0.cells)) fun x2 h2 =>
  f59_1 E r59 x1 x2 h2
theorem s59_eq (E : Ev) (x0 x1 : AV) (h : Heap) : xbodyR PP GG CC E LL fn59 [x0, x1] h = s59 E x0 x1 h := by
  unfold s59
  rw [r59_eq, f59_1_eq E (xret PP fn59) noK (xret PP fn59)]
  refine (bodyR_unf (c := (codeOf fn59)) (by kernel_rfl) (by kernel_rfl)).trans ?_
  show runS (R59 E) PP GG CC E fn59.ntmps LL none (resBits fn59.results.toList) (codeOf fn59) _ _ _ _ _ _ _ = _
  generalize R59 E = R
  generalize LL = L
  generalize PP = P
  symm
  revert R L P
  refine id ?_
  intro R L P
  kernel_rfl
def fn65 : Func := fnAt PP 65
def R65 (E : Ev) : RT := runR PP GG CC E 121 LL none 16
theorem R65_unf (E : Ev) (c : Code) (lv : Nat) (lx : Nat → Nat) (kn : K) (kx : Nat → K) (kr : K) (e : Env) (h : Heap) : R65 E c true lv lx kn kx kr e h = runS (R65 E) PP GG CC E 121 LL none 16 c lv lx kn kx kr e h := runR_unf _ _ _ _ _ _ _ _
def r65 (x4 : AV) (h : Heap) : Res := some (x4, h)
theorem r65_eq : r65 = fun x4 h => xret PP fn65 (mkE [(4, x4)]) h := by kernel_rfl
def f65_2 (E : Ev) (kr : AV → Heap → Res) (x0 x1 : AV) (h : Heap) : Res :=
  ob (xindexAddr PP 67 x1 (.int .i64 0)) fun x90 =>
  ob (pLoad PP 73 x90 h) fun x91 =>
  obP (E (.fn 39) [x91] h) fun x92 h92 =>
  ob (pExtract 0 x92) fun x93 =>
  ob (pExtract 1 x92) fun x94 =>
  ob (xindexAddr PP 67 x1 (.int .i64 2)) fun x97 =>
  ob (pLoad PP 73 x97 h92) fun x98 =>
  obP (E (.fn 39) [x98] h92) fun x99 h99 =>
  ob (pExtract 0 x99) fun x100 =>
  ob (pExtract 1 x99) fun x101 =>
  ob (xindexAddr PP 67 x1 (.int .i64 3)) fun x108 =>
  ob (pLoad PP 73 x108 h99) fun x109 =>
  obP (E (.fn 66) [x109] h99) fun x110 h110 =>
  ob (pNil x0) fun x111 =>
  ob (pFieldAddr PP 79 1 x111) fun x112 =>
  ob (pStore PP 9 x112 x93 h110) fun h0 =>
  ob (pNil x0) fun x113 =>
  ob (pFieldAddr PP 79 3 x113) fun x114 =>
  ob (pStore PP 9 x114 x100 h0) fun h0_1 =>
  ob (pNil x0) fun x115 =>
  ob (pFieldAddr PP 79 4 x115) fun x116 =>
  ob (pStore PP 73 x116 x110 h0_1) fun h0_2 =>
  ob (pWant x94 true) fun c =>
  ob (sel c (some x101) (some (.tuple []))) fun x119 =>
  ob (pPick x94 (some x119) (some (.bool false))) fun x120 =>
  kr x120 h0_2
theorem f65_2_eq (E : Ev) (kn : K) (kx : Nat → K) (kr : K) : f65_2 E (fun y4 h => kr (mkE [(4, y4)]) h) = fun x0 x1 h => R65 E (pb (pb (pb (codeOf fn65)))) true 16 (fun _ => 0) kn kx kr (mkE [(0, x0), (1, x1)]) h := by
  funext x0 x1 h
  unfold f65_2
  refine Eq.trans ?_ (R65_unf E _ _ _ _ _ _ _ _).symm
  generalize R65 E = R
  generalize LL = L
  generalize PP = P
  revert R L P
  refine id ?_
  intro R L P
  kernel_rfl
def f65_4 (E : Ev) (kn : AV → AV → AV → AV → AV → Heap → Res) (x0 x1 x29 x30 x31 : AV) (h : Heap) : Res :=
  ob (xbin PP .add 3 true x31 (.int .i64 1)) fun x87 =>
  kn x0 x1 x29 x30 x87 h
theorem f65_4_eq (E : Ev) (kn : K) (kx : Nat → K) (kr : K) : f65_4 E (fun y0 y1 y29 y30 y31 h => kn (mkE [(0, y0), (1, y1), (29, y29), (30, y30), (31, y31)]) h) = fun x0 x1 x29 x30 x31 h => R65 E (pb (pb (pb (pa (pa (pb (pa (pb (pb (codeOf fn65)))))))))) true 3758096387 (fun i => sel (Nat.beq i 0) 3 ((fun _ => 0) i)) kn kx kr (mkE [(0, x0), (1, x1), (29, x29), (30, x30), (31, x31)]) h := by
  funext x0 x1 x29 x30 x31 h
  unfold f65_4
  refine Eq.trans ?_ (R65_unf E _ _ _ _ _ _ _ _).symm
  generalize R65 E = R
  generalize LL = L
  generalize PP = P
  revert R L P
  refine id ?_
  intro R L P
  kernel_rfl
def f65_6 (E : Ev) (kn : AV → AV → AV → AV → AV → Heap → Res) (kr : AV → Heap → Res) (x0 x1 x7 x8 x9 x10 x11 x29 x30 x31 : AV) (h : Heap) : Res :=
  ob (xun .not x8) fun x67 =>
  ob (pWant x67 false) fun c =>
  ob (sel c (some x10) (some (.tuple []))) fun x69 =>
  ob (pWant x67 false) fun c_1 =>
  ob (sel c_1 (xun .not x69) (some (.tuple []))) fun x70 =>
  ob (pPick x67 (some (.bool true)) (some x70)) fun x71 =>
  ob (pWant x71 false) fun c_2 =>
  ob (sel c_2 (some x11) (some (.tuple []))) fun x73 =>
  ob (pPick x71 (some (.bool true)) (some x73)) fun x74 =>
  pIf x74
   (kr (.bool false) h)
   (ob (pNil x0) fun x77 =>
   ob (pFieldAddr PP 79 2 x77) fun x78 =>
   ob (pLoad PP 77 x78 h) fun x79 =>
   ob (pLoad PP 9 x7 h) fun x80 =>
   ob (xbuild PP 117 [(0, x80), (1, x9)]) fun x82 =>
   obP (pBuildSlice PP h 77 1 [(0, x82)]) fun x83 h83 =>
   sel (chkV x79 (pLoad PP 77 x78 h83)) (
   sel (chkV x80 (pLoad PP 9 x7 h83)) (
   obP (xappend PP h83 77 77 x79 x83) fun x84 h84 =>
   ob (pNil x0) fun x85 =>
   ob (pFieldAddr PP 79 2 x85) fun x86 =>
   ob (pStore PP 77 x86 x84 h84) fun h0 =>
   kn x0 x1 x29 x30 x31 h0) none) none)
theorem f65_6_eq (E : Ev) (kn : K) (kx : Nat → K) (kr : K) : f65_6 E (fun y0 y1 y29 y30 y31 h => kn (mkE [(0, y0), (1, y1), (29, y29), (30, y30), (31, y31)]) h) (fun y4 h => kr (mkE [(4, y4)]) h) = fun x0 x1 x7 x8 x9 x10 x11 x29 x30 x31 h => R65 E (pb (pb (pb (pb (pb (pa (pa (pb (pb (pa (pa (pb (pa (pb (pb (codeOf fn65)))))))))))))))) true 3758096387 (fun i => sel (Nat.beq i 1) 3758096387 ((fun i => sel (Nat.beq i 0) 3 ((fun _ => 0) i)) i)) kn kx kr (mkE [(0, x0), (1, x1), (7, x7), (8, x8), (9, x9), (10, x10), (11, x11), (29, x29), (30, x30), (31, x31)]) h := by
  funext x0 x1 x7 x8 x9 x10 x11 x29 x30 x31 h
  unfold f65_6
  refine Eq.trans ?_ (R65_unf E _ _ _ _ _ _ _ _).symm
  generalize R65 E = R
  generalize LL = L
  generalize PP = P
  revert R L P
  refine id ?_
  intro R L P
  kernel_rfl
def f65_5 (E : Ev) (kn : AV → AV → AV → AV → AV → Heap → Res) (kr : AV → Heap → Res) (x0 x1 x6 x29 x30 x31 : AV) (h : Heap) : Res :=
  ob (pFieldAddr PP 73 0 x6) fun x35 =>
  ob (pLoad PP 4 x35 h) fun x36 =>
  ob (xun .not x36) fun x37 =>
  ob (pWant x37 false) fun c =>
  ob (sel c (pFieldAddr PP 73 2 x6) (some (.tuple []))) fun x39 =>
  ob (pWant x37 false) fun c_1 =>
  ob (sel c_1 (pLoad PP 67 x39 h) (some (.tuple []))) fun x40 =>
  ob (pWant x37 false) fun c_2 =>
  ob (sel c_2 (xlen PP h 67 x40) (some (.tuple []))) fun x41 =>
  ob (pWant x37 false) fun c_3 =>
  ob (sel c_3 (xbin PP .neq 3 true x41 (.int .i64 2)) (some (.tuple []))) fun x42 =>
  ob (pPick x37 (some (.bool true)) (some x42)) fun x43 =>
  pIf x43
   (kr (.bool false) h)
   (ob (pFieldAddr PP 73 2 x6) fun x45 =>
   ob (pLoad PP 67 x45 h) fun x46 =>
   ob (xindexAddr PP 67 x46 (.int .i64 0)) fun x47 =>
   ob (pLoad PP 73 x47 h) fun x48 =>
   obP (E (.fn 39) [x48] h) fun x49 h49 =>
   ob (pExtract 0 x49) fun x50 =>
   ob (pExtract 1 x49) fun x51 =>
   obP (ob (zeroC PP 9) fun z => some (pNew h49 9 z)) fun x7 h7 =>
   ob (pStore PP 9 x7 x50 h7) fun h0 =>
   ob (pFieldAddr PP 73 2 x6) fun x53 =>
   ob (pLoad PP 67 x53 h0) fun x54 =>
   ob (xindexAddr PP 67 x54 (.int .i64 1)) fun x55 =>
   ob (pLoad PP 73 x55 h0) fun x56 =>
   obP (E (.fn 39) [x56] h0) fun x57 h57 =>
   ob (pExtract 0 x57) fun x58 =>
   ob (pExtract 1 x57) fun x59 =>
   ob (pNil x0) fun x61 =>
   ob (pFieldAddr PP 79 2 x61) fun x62 =>
   ob (pLoad PP 77 x62 h57) fun x63 =>
   obP (E (.fn 88) [x63, (.func 89 [] [x7])] h57) fun x65 h65 =>
   f65_6 E kn kr x0 x1 x7 x51 x58 x59 x65 x29 x30 x31 h65)
theorem f65_5_eq (E : Ev) (kn : K) (kx : Nat → K) (kr : K) : f65_5 E (fun y0 y1 y29 y30 y31 h => kn (mkE [(0, y0), (1, y1), (29, y29), (30, y30), (31, y31)]) h) (fun y4 h => kr (mkE [(4, y4)]) h) = fun x0 x1 x6 x29 x30 x31 h => R65 E (pb (pa (pa (pb (pb (pa (pa (pb (pa (pb (pb (codeOf fn65)))))))))))) true 3758096387 (fun i => sel (Nat.beq i 1) 3758096387 ((fun i => sel (Nat.beq i 0) 3 ((fun _ => 0) i)) i)) kn kx kr (mkE [(0, x0), (1, x1), (6, x6), (29, x29), (30, x30), (31, x31)]) h := by
  funext x0 x1 x6 x29 x30 x31 h
  unfold f65_5
  rw [f65_6_eq E kn kx kr]
  refine Eq.trans ?_ (R65_unf E _ _ _ _ _ _ _ _).symm
  generalize R65 E = R
  generalize LL = L
  generalize PP = P
  revert R L P
  refine id ?_
  intro R L P
  kernel_rfl
def f65_3 (E : Ev) (kn : AV → AV → AV → AV → AV → Heap → Res) (k0 : AV → AV → Heap → Res) (kr : AV → Heap → Res) (x0 x1 x29 x30 x31 : AV) (h : Heap) : Res :=
  ob (xbin PP .lss 3 false x31 x30) fun x32 =>
  pIf x32
   (ob (xindexAddr PP 67 x29 x31) fun x33 =>
   ob (pLoad PP 73 x33 h) fun x34 =>
   obP (ob (zeroC PP 73) fun z => some (pNew h 73 z)) fun x6 h6 =>
   ob (pStore PP 73 x6 x34 h6) fun h0 =>
   f65_5 E (f65_4 E kn) kr x0 x1 x6 x29 x30 x31 h0)
   (k0 x0 x1 h)
theorem f65_3_eq (E : Ev) (kn : K) (kx : Nat → K) (kr : K) (e0 : K) (he0 : kx 0 = e0) : f65_3 E (fun y0 y1 y29 y30 y31 h => kn (mkE [(0, y0), (1, y1), (29, y29), (30, y30), (31, y31)]) h) (fun y0 y1 h => e0 (mkE [(0, y0), (1, y1)]) h) (fun y4 h => kr (mkE [(4, y4)]) h) = fun x0 x1 x29 x30 x31 h => R65 E (pa (pa (pb (pa (pb (pb (codeOf fn65))))))) true 3758096387 (fun i => sel (Nat.beq i 0) 3 ((fun _ => 0) i)) kn kx kr (mkE [(0, x0), (1, x1), (29, x29), (30, x30), (31, x31)]) h := by
  subst he0
  funext x0 x1 x29 x30 x31 h
  unfold f65_3
  rw [f65_4_eq E kn kx kr, f65_5_eq E (R65 E (pb (pb (pb (pa (pa (pb (pa (pb (pb (codeOf fn65)))))))))) true 3758096387 (fun i => sel (Nat.beq i 0) 3 ((fun _ => 0) i)) kn kx kr) (fun i => sel (Nat.beq i 1) (R65 E (pb (pb (pb (pa (pa (pb (pa (pb (pb (codeOf fn65)))))))))) true 3758096387 (fun i => sel (Nat.beq i 0) 3 ((fun _ => 0) i)) kn kx kr) (kx i)) kr]
  refine Eq.trans ?_ (R65_unf E _ _ _ _ _ _ _ _).symm
  generalize R65 E = R
  generalize LL = L
  generalize PP = P
  revert R L P
  refine id ?_
  intro R L P
  kernel_rfl
def f65_1 (E : Ev) (kr : AV → Heap → Res) (x0 x1 : AV) (h : Heap) : Res :=
  ob (xlen PP h 67 x1) fun x17 =>
  ob (xbin PP .neq 3 true x17 (.int .i64 4)) fun x18 =>
  ob (pWant x18 false) fun c =>
  ob (sel c (some x1) (some (.tuple []))) fun x20 =>
  ob (pWant x18 false) fun c_1 =>
  ob (sel c_1 (xindexAddr PP 67 x20 (.int .i64 1)) (some (.tuple []))) fun x21 =>
  ob (pWant x18 false) fun c_2 =>
  ob (sel c_2 (pFieldAddr PP 73 0 x21) (some (.tuple []))) fun x22 =>
  ob (pWant x18 false) fun c_3 =>
  ob (sel c_3 (pLoad PP 4 x22 h) (some (.tuple []))) fun x23 =>
  ob (pWant x18 false) fun c_4 =>
  ob (sel c_4 (xun .not x23) (some (.tuple []))) fun x24 =>
  ob (pPick x18 (some (.bool true)) (some x24)) fun x25 =>
  pIf x25
   (kr (.bool false) h)
   (ob (xindexAddr PP 67 x1 (.int .i64 1)) fun x27 =>
   ob (pFieldAddr PP 73 2 x27) fun x28 =>
   ob (pLoad PP 67 x28 h) fun x29 =>
   ob (xlen PP h 67 x29) fun x30 =>
   lp b5 (fun k => f65_3 E k (f65_2 E kr) kr) LL x0 x1 x29 x30 (.int .i64 0) h)
theorem f65_1_eq (E : Ev) (kn : K) (kx : Nat → K) (kr : K) : f65_1 E (fun y4 h => kr (mkE [(4, y4)]) h) = fun x0 x1 h => R65 E (pb (codeOf fn65)) true 16 (fun _ => 0) kn kx kr (mkE [(0, x0), (1, x1)]) h := by
  funext x0 x1 h
  unfold f65_1
  rw [f65_2_eq E kn kx kr, lp5_eq 0 1 29 30 31 (fun k => (R65 E (pa (pa (pb (pa (pb (pb (codeOf fn65))))))) true 3758096387 (fun i => sel (Nat.beq i 0) 3 ((fun _ => 0) i)) k (fun i => sel (Nat.beq i 0) (R65 E (pb (pb (pb (codeOf fn65)))) true 16 (fun _ => 0) kn kx kr) (kx i)) kr)) (fun k => f65_3 E k (fun y0 y1 h => (R65 E (pb (pb (pb (codeOf fn65)))) true 16 (fun _ => 0) kn kx kr) (mkE [(0, y0), (1, y1)]) h) (fun y4 h => kr (mkE [(4, y4)]) h)) (fun k => f65_3_eq E k (fun i => sel (Nat.beq i 0) (R65 E (pb (pb (pb (codeOf fn65)))) true 16 (fun _ => 0) kn kx kr) (kx i)) kr (R65 E (pb (pb (pb (codeOf fn65)))) true 16 (fun _ => 0) kn kx kr) rfl) LL]
  refine Eq.trans ?_ (R65_unf E _ _ _ _ _ _ _ _).symm
  generalize R65 E = R
  generalize LL = L
  generalize PP = P
  revert R L P
  refine id ?_
  intro R L P
  kernel_rfl
/-- (*theodolite/script.Command).define -/
def s65 (E : Ev) (x0 x1 : AV) (h : Heap) : Res :=
  f65_1 E r65 x0 x1 h
theorem s65_eq (E : Ev) (x0 x1 : AV) (h : Heap) : xbodyR PP GG CC E LL fn65 [x0, x1] h = s65 E x0 x1 h := by
  unfold s65
  rw [r65_eq, f65_1_eq E (xret PP fn65) noK (xret PP fn65)]
  refine (bodyR_unf (c := (codeOf fn65)) (by kernel_rfl) (by kernel_rfl)).trans ?_
  show runS (R65 E) PP GG CC E fn65.ntmps LL none (resBits fn65.results.toList) (codeOf fn65) _ _ _ _ _ _ _ = _
  generalize R65 E = R
  generalize LL = L
  generalize PP = P
  symm
  revert R L P
  refine id ?_
  intro R L P
  kernel_rfl
def fn66 : Func := fnAt PP 66
def R66 (E : Ev) : RT := runR PP GG CC E 25 LL none 4
theorem R66_unf (E : Ev) (c : Code) (lv : Nat) (lx : Nat → Nat) (kn : K) (kx : Nat → K) (kr : K) (e : Env) (h : Heap) : R66 E c true lv lx kn kx kr e h = runS (R66 E) PP GG CC E 25 LL none 4 c lv lx kn kx kr e h := runR_unf _ _ _ _ _ _ _ _
def r66 (x2 : AV) (h : Heap) : Res := ob (ob (pLoad PP 73 x2 h) fun v => some [v]) fun vs => some (one vs, h)
theorem r66_eq : r66 = fun x2 h => xret PP fn66 (mkE [(2, x2)]) h := by kernel_rfl
def f66_1 (E : Ev) (kr : AV → Heap → Res) (x1 x2 : AV) (h : Heap) : Res :=
  ob (pLoad PP 73 x1 h) fun x24 =>
  ob (pStore PP 73 x2 x24 h) fun h0 =>
  kr x2 h0
theorem f66_1_eq (E : Ev) (kn : K) (kx : Nat → K) (kr : K) : f66_1 E (fun y2 h => kr (mkE [(2, y2)]) h) = fun x1 x2 h => R66 E (pb (pb (pb (codeOf fn66)))) true 4 (fun _ => 0) kn kx kr (mkE [(1, x1), (2, x2)]) h := by
  funext x1 x2 h
  unfold f66_1
  refine Eq.trans ?_ (R66_unf E _ _ _ _ _ _ _ _).symm
  generalize R66 E = R
  generalize LL = L
  generalize PP = P
  revert R L P
  refine id ?_
  intro R L P
  kernel_rfl
def f66_2 (E : Ev) (kn : AV → AV → AV → AV → AV → Heap → Res) (k0 : AV → AV → Heap → Res) (x1 x2 x10 x11 x12 : AV) (h : Heap) : Res :=
  ob (xbin PP .lss 3 false x12 x11) fun x13 =>
  pIf x13
   (ob (xindexAddr PP 67 x10 x12) fun x15 =>
   ob (pLoad PP 73 x15 h) fun x16 =>
   obP (ob (zeroC PP 73) fun z => some (pNew h 73 z)) fun x4 h4 =>
   ob (pStore PP 73 x4 x16 h4) fun h0 =>
   ob (pFieldAddr PP 73 2 x1) fun x17 =>
   ob (pLoad PP 67 x17 h0) fun x18 =>
   ob (pLoad PP 73 x4 h0) fun x20 =>
   sel (chkV x18 (pLoad PP 67 x17 h0)) (
   sel (chkV x20 (pLoad PP 73 x4 h0)) (
   obP (E (.fn 66) [x20] h0) fun x21 h21 =>
   ob (xindexAddr PP 67 x18 x12) fun x22 =>
   sel (chkV x18 (pLoad PP 67 x17 h21)) (
   ob (pStore PP 73 x22 x21 h21) fun h0_1 =>
   ob (xbin PP .add 3 true x12 (.int .i64 1)) fun x23 =>
   kn x1 x2 x10 x11 x23 h0_1) none) none) none)
   (k0 x1 x2 h)
theorem f66_2_eq (E : Ev) (kn : K) (kx : Nat → K) (kr : K) (e0 : K) (he0 : kx 0 = e0) : f66_2 E (fun y1 y2 y10 y11 y12 h => kn (mkE [(1, y1), (2, y2), (10, y10), (11, y11), (12, y12)]) h) (fun y1 y2 h => e0 (mkE [(1, y1), (2, y2)]) h) = fun x1 x2 x10 x11 x12 h => R66 E (pa (pa (pb (pa (pb (pb (codeOf fn66))))))) true 7174 (fun i => sel (Nat.beq i 0) 6 ((fun _ => 0) i)) kn kx kr (mkE [(1, x1), (2, x2), (10, x10), (11, x11), (12, x12)]) h := by
  subst he0
  funext x1 x2 x10 x11 x12 h
  unfold f66_2
  refine Eq.trans ?_ (R66_unf E _ _ _ _ _ _ _ _).symm
  generalize R66 E = R
  generalize LL = L
  generalize PP = P
  revert R L P
  refine id ?_
  intro R L P
  kernel_rfl
/-- theodolite/sexp.Copy -/
def s66 (E : Ev) (x0 : AV) (h : Heap) : Res :=
  obP (some (pNew h 73 x0.cells)) fun x1 h1 =>
  obP (ob (zeroC PP 73) fun z => some (pNew h1 73 z)) fun x2 h2 =>
  ob (pFieldAddr PP 73 2 x1) fun x5 =>
  ob (pLoad PP 67 x5 h2) fun x6 =>
  obP (E (.fn 90) [x6] h2) fun x7 h7 =>
  ob (pFieldAddr PP 73 2 x1) fun x8 =>
  ob (pStore PP 67 x8 x7 h7) fun h0 =>
  ob (pFieldAddr PP 73 2 x1) fun x9 =>
  ob (pLoad PP 67 x9 h0) fun x10 =>
  ob (xlen PP h0 67 x10) fun x11 =>
  lp b5 (fun k => f66_2 E k (f66_1 E r66)) LL x1 x2 x10 x11 (.int .i64 0) h0
theorem s66_eq (E : Ev) (x0 : AV) (h : Heap) : xbodyR PP GG CC E LL fn66 [x0] h = s66 E x0 h := by
  unfold s66
  rw [r66_eq, f66_1_eq E (xret PP fn66) noK (xret PP fn66), lp5_eq 1 2 10 11 12 (fun k => (R66 E (pa (pa (pb (pa (pb (pb (codeOf fn66))))))) true 7174 (fun i => sel (Nat.beq i 0) 6 ((fun _ => 0) i)) k (fun i => sel (Nat.beq i 0) (R66 E (pb (pb (pb (codeOf fn66)))) true 4 (fun _ => 0) (xret PP fn66) noK (xret PP fn66)) (noK i)) (xret PP fn66))) (fun k => f66_2 E k (fun y1 y2 h => (R66 E (pb (pb (pb (codeOf fn66)))) true 4 (fun _ => 0) (xret PP fn66) noK (xret PP fn66)) (mkE [(1, y1), (2, y2)]) h)) (fun k => f66_2_eq E k (fun i => sel (Nat.beq i 0) (R66 E (pb (pb (pb (codeOf fn66)))) true 4 (fun _ => 0) (xret PP fn66) noK (xret PP fn66)) (noK i)) (xret PP fn66) (R66 E (pb (pb (pb (codeOf fn66)))) true 4 (fun _ => 0) (xret PP fn66) noK (xret PP fn66)) rfl) LL]
  refine (bodyR_unf (c := (codeOf fn66)) (by kernel_rfl) (by kernel_rfl)).trans ?_
  show runS (R66 E) PP GG CC E fn66.ntmps LL none (resBits fn66.results.toList) (codeOf fn66) _ _ _ _ _ _ _ = _
  generalize R66 E = R
  generalize LL = L
  generalize PP = P
  symm
  revert R L P
  refine id ?_
  intro R L P
  kernel_rfl
def fn69 : Func := fnAt PP 69
def R69 (E : Ev) : RT := runR PP GG CC E 72 LL none 48
theorem R69_unf (E : Ev) (c : Code) (lv : Nat) (lx : Nat → Nat) (kn : K) (kx : Nat → K) (kr : K) (e : Env) (h : Heap) : R69 E c true lv lx kn kx kr e h = runS (R69 E) PP GG CC E 72 LL none 48 c lv lx kn kx kr e h := runR_unf _ _ _ _ _ _ _ _
def r69 (x4 x5 : AV) (h : Heap) : Res := some (.tuple [x4, x5], h)
theorem r69_eq : r69 = fun x4 x5 h => xret PP fn69 (mkE [(4, x4), (5, x5)]) h := by kernel_rfl
/-- (*theodolite/term.Table).put -/
def s69 (E : Ev) (x0 x1 : AV) (h : Heap) : Res :=
  obP (some (pNew h 143 x1.cells)) fun x3 h3 =>
  ob (pLoad PP 143 x3 h3) fun x9 =>
  obP (E (.fn 91) [x9] h3) fun x10 h10 =>
  ob (pNil x0) fun x13 =>
  ob (pFieldAddr PP 100 3 x13) fun x14 =>
  ob (pLoad PP 97 x14 h10) fun x15 =>
  ob (xlookup PP h10 97 x15 x10 true) fun x17 =>
  ob (pExtract 0 x17) fun x18 =>
  ob (pExtract 1 x17) fun x19 =>
  pIf x19
   (r69 x18 (.int .i64 0) h10)
   (ob (pNil x0) fun x23 =>
   ob (pFieldAddr PP 100 1 x23) fun x24 =>
   ob (pLoad PP 61 x24 h10) fun x25 =>
   ob (xlen PP h10 61 x25) fun x26 =>
   ob (pNil x0) fun x28 =>
   ob (pFieldAddr PP 100 5 x28) fun x29 =>
   ob (pLoad PP 3 x29 h10) fun x30 =>
   ob (xbin PP .geq 3 false x26 x30) fun x31 =>
   sel (chkV x25 (pLoad PP 61 x24 h10)) (
   sel (chkV x26 (xlen PP h10 61 x25)) (
   sel (chkV x30 (pLoad PP 3 x29 h10)) (
   pIf x31
    (r69 (.int .i64 0) (.int .i64 4) h10)
    (ob (pNil x0) fun x35 =>
    ob (pFieldAddr PP 100 1 x35) fun x36 =>
    ob (pLoad PP 61 x36 h10) fun x37 =>
    ob (pLoad PP 143 x3 h10) fun x38 =>
    ob (pNil x0) fun x43 =>
    ob (pFieldAddr PP 100 2 x43) fun x44 =>
    ob (pLoad PP 98 x44 h10) fun x45 =>
    ob (pLoad PP 143 x3 h10) fun x47 =>
    sel (chkV x37 (pLoad PP 61 x36 h10)) (
    sel (chkV x38 (pLoad PP 143 x3 h10)) (
    sel (chkV x45 (pLoad PP 98 x44 h10)) (
    sel (chkV x47 (pLoad PP 143 x3 h10)) (
    obP (E (.fn 92) [x38] h10) fun x39 h39 =>
    obP (pBuildSlice PP h39 61 1 [(0, x39)]) fun x40 h40 =>
    sel (chkV x37 (pLoad PP 61 x36 h40)) (
    sel (chkV x45 (pLoad PP 98 x44 h40)) (
    sel (chkV x47 (pLoad PP 143 x3 h40)) (
    obP (xappend PP h40 61 61 x37 x40) fun x41 h41 =>
    sel (chkV x45 (pLoad PP 98 x44 h41)) (
    sel (chkV x47 (pLoad PP 143 x3 h41)) (
    obP (E (.fn 93) [x0, x47] h41) fun x48 h48 =>
    obP (pBuildSlice PP h48 98 1 [(0, x48)]) fun x49 h49 =>
    sel (chkV x45 (pLoad PP 98 x44 h49)) (
    obP (xappend PP h49 98 98 x45 x49) fun x50 h50 =>
    ob (pNil x0) fun x51 =>
    ob (pFieldAddr PP 100 1 x51) fun x52 =>
    ob (pStore PP 61 x52 x41 h50) fun h0 =>
    ob (pNil x0) fun x53 =>
    ob (pFieldAddr PP 100 2 x53) fun x54 =>
    ob (pStore PP 98 x54 x50 h0) fun h0_1 =>
    ob (pNil x0) fun x56 =>
    ob (pFieldAddr PP 100 3 x56) fun x57 =>
    ob (pLoad PP 97 x57 h0_1) fun x58 =>
    ob (pNil x0) fun x61 =>
    ob (pFieldAddr PP 100 1 x61) fun x62 =>
    ob (pLoad PP 61 x62 h0_1) fun x63 =>
    ob (xlen PP h0_1 61 x63) fun x64 =>
    ob (xbin PP .sub 3 true x64 (.int .i64 1)) fun x65 =>
    sel (chkV x58 (pLoad PP 97 x57 h0_1)) (
    sel (chkV x63 (pLoad PP 61 x62 h0_1)) (
    sel (chkV x64 (xlen PP h0_1 61 x63)) (
    ob (xmapSet PP h0_1 97 x58 x10 x65) fun h0_2 =>
    ob (pNil x0) fun x67 =>
    ob (pFieldAddr PP 100 3 x67) fun x68 =>
    ob (pLoad PP 97 x68 h0_2) fun x69 =>
    ob (xlookup PP h0_2 97 x69 x10 false) fun x71 =>
    r69 x71 (.int .i64 0) h0_2) none) none) none) none) none) none) none) none) none) none) none) none) none)) none) none) none)
theorem s69_eq (E : Ev) (x0 x1 : AV) (h : Heap) : xbodyR PP GG CC E LL fn69 [x0, x1] h = s69 E x0 x1 h := by
  unfold s69
  rw [r69_eq]
  refine (bodyR_unf (c := (codeOf fn69)) (by kernel_rfl) (by kernel_rfl)).trans ?_
  show runS (R69 E) PP GG CC E fn69.ntmps LL none (resBits fn69.results.toList) (codeOf fn69) _ _ _ _ _ _ _ = _
  generalize R69 E = R
  generalize LL = L
  generalize PP = P
  symm
  revert R L P
  refine id ?_
  intro R L P
  kernel_rfl
def fn70 : Func := fnAt PP 70
def R70 (E : Ev) : RT := runR PP GG CC E 5 LL none 4
theorem R70_unf (E : Ev) (c : Code) (lv : Nat) (lx : Nat → Nat) (kn : K) (kx : Nat → K) (kr : K) (e : Env) (h : Heap) : R70 E c true lv lx kn kx kr e h = runS (R70 E) PP GG CC E 5 LL none 4 c lv lx kn kx kr e h := runR_unf _ _ _ _ _ _ _ _
def r70 (x2 : AV) (h : Heap) : Res := some (x2, h)
theorem r70_eq : r70 = fun x2 h => xret PP fn70 (mkE [(2, x2)]) h := by kernel_rfl
/-- strconv.Itoa -/
def s70 (E : Ev) (x0 : AV) (h : Heap) : Res :=
  obP (E (.fn 94) [x0] h) fun x4 h4 =>
  r70 x4 h4
theorem s70_eq (E : Ev) (x0 : AV) (h : Heap) : xbodyR PP GG CC E LL fn70 [x0] h = s70 E x0 h := by
  unfold s70
  rw [r70_eq]
  refine (bodyR_unf (c := (codeOf fn70)) (by kernel_rfl) (by kernel_rfl)).trans ?_
  show runS (R70 E) PP GG CC E fn70.ntmps LL none (resBits fn70.results.toList) (codeOf fn70) _ _ _ _ _ _ _ = _
  generalize R70 E = R
  generalize LL = L
  generalize PP = P
  symm
  revert R L P
  refine id ?_
  intro R L P
  kernel_rfl
def fn71 : Func := fnAt PP 71
def R71 (E : Ev) : RT := runR PP GG CC E 13 LL none 16
theorem R71_unf (E : Ev) (c : Code) (lv : Nat) (lx : Nat → Nat) (kn : K) (kx : Nat → K) (kr : K) (e : Env) (h : Heap) : R71 E c true lv lx kn kx kr e h = runS (R71 E) PP GG CC E 13 LL none 16 c lv lx kn kx kr e h := runR_unf _ _ _ _ _ _ _ _
def r71 (x4 : AV) (h : Heap) : Res := some (x4, h)
theorem r71_eq : r71 = fun x4 h => xret PP fn71 (mkE [(4, x4)]) h := by kernel_rfl
def f71_1 (E : Ev) (kr : AV → Heap → Res) (x0 x1 : AV) (h : Heap) : Res :=
  ob (xbin PP .geq 3 true x1 (.int .i64 0)) fun x6 =>
  ob (pWant x6 true) fun c =>
  ob (sel c (some x1) (some (.tuple []))) fun x8 =>
  ob (pWant x6 true) fun c_1 =>
  ob (sel c_1 (some x0) (some (.tuple []))) fun x9 =>
  ob (pWant x6 true) fun c_2 =>
  obP (sel c_2 (E (.fn 95) [x9] h) (some (.tuple [], h))) fun x10 h10 =>
  ob (pWant x6 true) fun c_3 =>
  ob (sel c_3 (xbin PP .lss 3 false x8 x10) (some (.tuple []))) fun x11 =>
  ob (pPick x6 (some x11) (some (.bool false))) fun x12 =>
  kr x12 h10
theorem f71_1_eq (E : Ev) (kn : K) (kx : Nat → K) (kr : K) : f71_1 E (fun y4 h => kr (mkE [(4, y4)]) h) = fun x0 x1 h => R71 E (pb (codeOf fn71)) true 16 (fun _ => 0) kn kx kr (mkE [(0, x0), (1, x1)]) h := by
  funext x0 x1 h
  unfold f71_1
  refine Eq.trans ?_ (R71_unf E _ _ _ _ _ _ _ _).symm
  generalize R71 E = R
  generalize LL = L
  generalize PP = P
  revert R L P
  refine id ?_
  intro R L P
  kernel_rfl
/-- (*theodolite/term.Table).has -/
def s71 (E : Ev) (x0 x1 : AV) (h : Heap) : Res :=
  f71_1 E r71 x0 x1 h
theorem s71_eq (E : Ev) (x0 x1 : AV) (h : Heap) : xbodyR PP GG CC E LL fn71 [x0, x1] h = s71 E x0 x1 h := by
  unfold s71
  rw [r71_eq, f71_1_eq E (xret PP fn71) noK (xret PP fn71)]
  refine (bodyR_unf (c := (codeOf fn71)) (by kernel_rfl) (by kernel_rfl)).trans ?_
  show runS (R71 E) PP GG CC E fn71.ntmps LL none (resBits fn71.results.toList) (codeOf fn71) _ _ _ _ _ _ _ = _
  generalize R71 E = R
  generalize LL = L
  generalize PP = P
  symm
  revert R L P
  refine id ?_
  intro R L P
  kernel_rfl
def fn72 : Func := fnAt PP 72
def R72 (E : Ev) : RT := runR PP GG CC E 19 LL none 16
theorem R72_unf (E : Ev) (c : Code) (lv : Nat) (lx : Nat → Nat) (kn : K) (kx : Nat → K) (kr : K) (e : Env) (h : Heap) : R72 E c true lv lx kn kx kr e h = runS (R72 E) PP GG CC E 19 LL none 16 c lv lx kn kx kr e h := runR_unf _ _ _ _ _ _ _ _
def r72 (x4 : AV) (h : Heap) : Res := some (x4, h)
theorem r72_eq : r72 = fun x4 h => xret PP fn72 (mkE [(4, x4)]) h := by kernel_rfl
def f72_1 (E : Ev) (kr : AV → Heap → Res) (h : Heap) : Res :=
  kr (.int .i64 (-1)) h
theorem f72_1_eq (E : Ev) (kn : K) (kx : Nat → K) (kr : K) : f72_1 E (fun y4 h => kr (mkE [(4, y4)]) h) = fun h => R72 E (pb (pb (codeOf fn72))) true 16 (fun _ => 0) kn kx kr (mkE []) h := by
  funext h
  unfold f72_1
  refine Eq.trans ?_ (R72_unf E _ _ _ _ _ _ _ _).symm
  generalize R72 E = R
  generalize LL = L
  generalize PP = P
  revert R L P
  refine id ?_
  intro R L P
  kernel_rfl
def f72_2 (E : Ev) (kn : AV → AV → AV → AV → Heap → Res) (k0 : Heap → Res) (kr : AV → Heap → Res) (x0 x1 x7 x8 : AV) (h : Heap) : Res :=
  ob (xbin PP .lss 3 false x8 x7) fun x9 =>
  pIf x9
   (ob (xindexAddr PP 47 x0 x8) fun x14 =>
   ob (pLoad PP 56 x14 h) fun x15 =>
   obP (xcallV ⟨PP, GG, CC, E⟩ x1 [x15] h) fun x16 h16 =>
   pIf x16
    (kr x8 h16)
    (ob (xbin PP .add 3 true x8 (.int .i64 1)) fun x18 =>
    kn x0 x1 x7 x18 h16))
   (k0 h)
theorem f72_2_eq (E : Ev) (kn : K) (kx : Nat → K) (kr : K) (e0 : K) (he0 : kx 0 = e0) : f72_2 E (fun y0 y1 y7 y8 h => kn (mkE [(0, y0), (1, y1), (7, y7), (8, y8)]) h) (fun h => e0 (mkE []) h) (fun y4 h => kr (mkE [(4, y4)]) h) = fun x0 x1 x7 x8 h => R72 E (pa (pa (pb (pa (pb (codeOf fn72)))))) true 387 (fun i => sel (Nat.beq i 0) 0 ((fun _ => 0) i)) kn kx kr (mkE [(0, x0), (1, x1), (7, x7), (8, x8)]) h := by
  subst he0
  funext x0 x1 x7 x8 h
  unfold f72_2
  refine Eq.trans ?_ (R72_unf E _ _ _ _ _ _ _ _).symm
  generalize R72 E = R
  generalize LL = L
  generalize PP = P
  revert R L P
  refine id ?_
  intro R L P
  kernel_rfl
/-- slices.IndexFunc[[]theodolite/api.Fun,theodolite/api.Fun] -/
def s72 (E : Ev) (x0 x1 : AV) (h : Heap) : Res :=
  ob (xlen PP h 47 x0) fun x7 =>
  lp b4 (fun k => f72_2 E k (f72_1 E r72) r72) LL x0 x1 x7 (.int .i64 0) h
theorem s72_eq (E : Ev) (x0 x1 : AV) (h : Heap) : xbodyR PP GG CC E LL fn72 [x0, x1] h = s72 E x0 x1 h := by
  unfold s72
  rw [r72_eq, f72_1_eq E (xret PP fn72) noK (xret PP fn72), lp4_eq 0 1 7 8 (fun k => (R72 E (pa (pa (pb (pa (pb (codeOf fn72)))))) true 387 (fun i => sel (Nat.beq i 0) 0 ((fun _ => 0) i)) k (fun i => sel (Nat.beq i 0) (R72 E (pb (pb (codeOf fn72))) true 16 (fun _ => 0) (xret PP fn72) noK (xret PP fn72)) (noK i)) (xret PP fn72))) (fun k => f72_2 E k (fun h => (R72 E (pb (pb (codeOf fn72))) true 16 (fun _ => 0) (xret PP fn72) noK (xret PP fn72)) (mkE []) h) (fun y4 h => (xret PP fn72) (mkE [(4, y4)]) h)) (fun k => f72_2_eq E k (fun i => sel (Nat.beq i 0) (R72 E (pb (pb (codeOf fn72))) true 16 (fun _ => 0) (xret PP fn72) noK (xret PP fn72)) (noK i)) (xret PP fn72) (R72 E (pb (pb (codeOf fn72))) true 16 (fun _ => 0) (xret PP fn72) noK (xret PP fn72)) rfl) LL]
  refine (bodyR_unf (c := (codeOf fn72)) (by kernel_rfl) (by kernel_rfl)).trans ?_
  show runS (R72 E) PP GG CC E fn72.ntmps LL none (resBits fn72.results.toList) (codeOf fn72) _ _ _ _ _ _ _ = _
  generalize R72 E = R
  generalize LL = L
  generalize PP = P
  symm
  revert R L P
  refine id ?_
  intro R L P
  kernel_rfl
def fn73 : Func := fnAt PP 73
def R73 (E : Ev) : RT := runR PP GG CC E 8 LL none 8
theorem R73_unf (E : Ev) (c : Code) (lv : Nat) (lx : Nat → Nat) (kn : K) (kx : Nat → K) (kr : K) (e : Env) (h : Heap) : R73 E c true lv lx kn kx kr e h = runS (R73 E) PP GG CC E 8 LL none 8 c lv lx kn kx kr e h := runR_unf _ _ _ _ _ _ _ _
def r73 (x3 : AV) (h : Heap) : Res := some (x3, h)
theorem r73_eq : r73 = fun x3 h => xret PP fn73 (mkE [(3, x3)]) h := by kernel_rfl
/-- (*theodolite/sorts.Table).Find$1 -/
def s73 (E : Ev) (x0 x1 : AV) (h : Heap) : Res :=
  obP (some (pNew h 56 x0.cells)) fun x2 h2 =>
  ob (pFieldAddr PP 56 0 x2) fun x4 =>
  ob (pLoad PP 9 x4 h2) fun x5 =>
  ob (pLoad PP 9 x1 h2) fun x6 =>
  ob (xbin PP .eql 9 false x5 x6) fun x7 =>
  r73 x7 h2
theorem s73_eq (E : Ev) (x0 x1 : AV) (h : Heap) : xbodyR PP GG CC E LL fn73 [x0, x1] h = s73 E x0 x1 h := by
  unfold s73
  rw [r73_eq]
  refine (bodyR_unf (c := (codeOf fn73)) (by kernel_rfl) (by kernel_rfl)).trans ?_
  show runS (R73 E) PP GG CC E fn73.ntmps LL none (resBits fn73.results.toList) (codeOf fn73) _ _ _ _ _ _ _ = _
  generalize R73 E = R
  generalize LL = L
  generalize PP = P
  symm
  revert R L P
  refine id ?_
  intro R L P
  kernel_rfl
def fn74 : Func := fnAt PP 74
def R74 (E : Ev) : RT := runR PP GG CC E 17 LL none 4
theorem R74_unf (E : Ev) (c : Code) (lv : Nat) (lx : Nat → Nat) (kn : K) (kx : Nat → K) (kr : K) (e : Env) (h : Heap) : R74 E c true lv lx kn kx kr e h = runS (R74 E) PP GG CC E 17 LL none 4 c lv lx kn kx kr e h := runR_unf _ _ _ _ _ _ _ _
def r74 (x2 : AV) (h : Heap) : Res := some (x2, h)
theorem r74_eq : r74 = fun x2 h => xret PP fn74 (mkE [(2, x2)]) h := by kernel_rfl
def f74_1 (E : Ev) (kr : AV → Heap → Res) (x0 : AV) (h : Heap) : Res :=
  ob (xbin PP .geq 5 true x0 (.int .u8 33)) fun x4 =>
  ob (pWant x4 true) fun c =>
  ob (sel c (some x0) (some (.tuple []))) fun x6 =>
  ob (pWant x4 true) fun c_1 =>
  ob (sel c_1 (xbin PP .leq 5 true x6 (.int .u8 126)) (some (.tuple []))) fun x7 =>
  ob (pPick x4 (some x7) (some (.bool false))) fun x8 =>
  ob (pWant x8 false) fun c_2 =>
  ob (sel c_2 (some x0) (some (.tuple []))) fun x10 =>
  ob (pWant x8 false) fun c_3 =>
  ob (sel c_3 (xbin PP .geq 5 true x10 (.int .u8 128)) (some (.tuple []))) fun x11 =>
  ob (pPick x8 (some (.bool true)) (some x11)) fun x12 =>
  ob (pWant x12 false) fun c_4 =>
  ob (sel c_4 (some x0) (some (.tuple []))) fun x14 =>
  ob (pWant x12 false) fun c_5 =>
  obP (sel c_5 (E (.fn 53) [x14] h) (some (.tuple [], h))) fun x15 h15 =>
  ob (pPick x12 (some (.bool true)) (some x15)) fun x16 =>
  kr x16 h15
theorem f74_1_eq (E : Ev) (kn : K) (kx : Nat → K) (kr : K) : f74_1 E (fun y2 h => kr (mkE [(2, y2)]) h) = fun x0 h => R74 E (pb (codeOf fn74)) true 4 (fun _ => 0) kn kx kr (mkE [(0, x0)]) h := by
  funext x0 h
  unfold f74_1
  refine Eq.trans ?_ (R74_unf E _ _ _ _ _ _ _ _).symm
  generalize R74 E = R
  generalize LL = L
  generalize PP = P
  revert R L P
  refine id ?_
  intro R L P
  kernel_rfl
/-- theodolite/theodoliteref11.prints -/
def s74 (E : Ev) (x0 : AV) (h : Heap) : Res :=
  f74_1 E r74 x0 h
theorem s74_eq (E : Ev) (x0 : AV) (h : Heap) : xbodyR PP GG CC E LL fn74 [x0] h = s74 E x0 h := by
  unfold s74
  rw [r74_eq, f74_1_eq E (xret PP fn74) noK (xret PP fn74)]
  refine (bodyR_unf (c := (codeOf fn74)) (by kernel_rfl) (by kernel_rfl)).trans ?_
  show runS (R74 E) PP GG CC E fn74.ntmps LL none (resBits fn74.results.toList) (codeOf fn74) _ _ _ _ _ _ _ = _
  generalize R74 E = R
  generalize LL = L
  generalize PP = P
  symm
  revert R L P
  refine id ?_
  intro R L P
  kernel_rfl
def fn75 : Func := fnAt PP 75
def R75 (E : Ev) : RT := runR PP GG CC E 34 LL none 4
theorem R75_unf (E : Ev) (c : Code) (lv : Nat) (lx : Nat → Nat) (kn : K) (kx : Nat → K) (kr : K) (e : Env) (h : Heap) : R75 E c true lv lx kn kx kr e h = runS (R75 E) PP GG CC E 34 LL none 4 c lv lx kn kx kr e h := runR_unf _ _ _ _ _ _ _ _
def r75 (x2 : AV) (h : Heap) : Res := some (x2, h)
theorem r75_eq : r75 = fun x2 h => xret PP fn75 (mkE [(2, x2)]) h := by kernel_rfl
def f75_2 (E : Ev) (kr : AV → Heap → Res) (h : Heap) : Res :=
  kr (.bool false) h
theorem f75_2_eq (E : Ev) (kn : K) (kx : Nat → K) (kr : K) : f75_2 E (fun y2 h => kr (mkE [(2, y2)]) h) = fun h => R75 E (pb (pb (pb (pb (codeOf fn75))))) true 4 (fun _ => 0) kn kx kr (mkE []) h := by
  funext h
  unfold f75_2
  refine Eq.trans ?_ (R75_unf E _ _ _ _ _ _ _ _).symm
  generalize R75 E = R
  generalize LL = L
  generalize PP = P
  revert R L P
  refine id ?_
  intro R L P
  kernel_rfl
def f75_3 (E : Ev) (kn : AV → AV → AV → Heap → Res) (k0 : Heap → Res) (kr : AV → Heap → Res) (x0 x3 x4 : AV) (h : Heap) : Res :=
  ob (xlen PP h 9 x3) fun x25 =>
  ob (xbin PP .lss 3 false x4 x25) fun x26 =>
  pIf x26
   (ob (xindex PP 9 x3 x4) fun x31 =>
   ob (xbin PP .eql 5 false x31 x0) fun x33 =>
   pIf x33
    (kr (.bool true) h)
    (ob (xbin PP .add 3 true x4 (.int .i64 1)) fun x28 =>
    kn x0 x3 x28 h))
   (k0 h)
theorem f75_3_eq (E : Ev) (kn : K) (kx : Nat → K) (kr : K) (e0 : K) (he0 : kx 0 = e0) : f75_3 E (fun y0 y3 y4 h => kn (mkE [(0, y0), (3, y3), (4, y4)]) h) (fun h => e0 (mkE []) h) (fun y2 h => kr (mkE [(2, y2)]) h) = fun x0 x3 x4 h => R75 E (pa (pa (pb (pa (pb (pb (pb (codeOf fn75)))))))) true 25 (fun i => sel (Nat.beq i 0) 0 ((fun _ => 0) i)) kn kx kr (mkE [(0, x0), (3, x3), (4, x4)]) h := by
  subst he0
  funext x0 x3 x4 h
  unfold f75_3
  refine Eq.trans ?_ (R75_unf E _ _ _ _ _ _ _ _).symm
  generalize R75 E = R
  generalize LL = L
  generalize PP = P
  revert R L P
  refine id ?_
  intro R L P
  kernel_rfl
def f75_1 (E : Ev) (kr : AV → Heap → Res) (x0 : AV) (h : Heap) : Res :=
  obP (E (.fn 76) [x0] h) fun x6 h6 =>
  ob (pWant x6 false) fun c =>
  ob (sel c (some x0) (some (.tuple []))) fun x8 =>
  ob (pWant x6 false) fun c_1 =>
  ob (sel c_1 (xbin PP .geq 5 true x8 (.int .u8 97)) (some (.tuple []))) fun x9 =>
  ob (pWant x6 false) fun c_2 =>
  ob (sel c_2 (some x9) (some (.tuple []))) fun x10 =>
  ob (pWant x10 true) fun c_3 =>
  ob (sel c_3 (some x0) (some (.tuple []))) fun x11 =>
  ob (pWant x10 true) fun c_4 =>
  ob (sel c_4 (xbin PP .leq 5 true x11 (.int .u8 122)) (some (.tuple []))) fun x12 =>
  ob (pWant x6 false) fun c_5 =>
  ob (sel c_5 (pPick x10 (some x12) (some (.bool false))) (some (.tuple []))) fun x13 =>
  ob (pPick x6 (some (.bool true)) (some x13)) fun x14 =>
  ob (pWant x14 false) fun c_6 =>
  ob (sel c_6 (some x0) (some (.tuple []))) fun x16 =>
  ob (pWant x14 false) fun c_7 =>
  ob (sel c_7 (xbin PP .geq 5 true x16 (.int .u8 65)) (some (.tuple []))) fun x17 =>
  ob (pWant x14 false) fun c_8 =>
  ob (sel c_8 (some x17) (some (.tuple []))) fun x18 =>
  ob (pWant x18 true) fun c_9 =>
  ob (sel c_9 (some x0) (some (.tuple []))) fun x19 =>
  ob (pWant x18 true) fun c_10 =>
  ob (sel c_10 (xbin PP .leq 5 true x19 (.int .u8 90)) (some (.tuple []))) fun x20 =>
  ob (pWant x14 false) fun c_11 =>
  ob (sel c_11 (pPick x18 (some x20) (some (.bool false))) (some (.tuple []))) fun x21 =>
  ob (pPick x14 (some (.bool true)) (some x21)) fun x22 =>
  pIf x22
   (kr (.bool true) h6)
   (lp b3 (fun k => f75_3 E k (f75_2 E kr) kr) LL x0 (.str 17 16077252716956066045773200450159617515902) (.int .i64 0) h6)
theorem f75_1_eq (E : Ev) (kn : K) (kx : Nat → K) (kr : K) : f75_1 E (fun y2 h => kr (mkE [(2, y2)]) h) = fun x0 h => R75 E (pb (codeOf fn75)) true 4 (fun _ => 0) kn kx kr (mkE [(0, x0)]) h := by
  funext x0 h
  unfold f75_1
  rw [f75_2_eq E kn kx kr, lp3_eq 0 3 4 (fun k => (R75 E (pa (pa (pb (pa (pb (pb (pb (codeOf fn75)))))))) true 25 (fun i => sel (Nat.beq i 0) 0 ((fun _ => 0) i)) k (fun i => sel (Nat.beq i 0) (R75 E (pb (pb (pb (pb (codeOf fn75))))) true 4 (fun _ => 0) kn kx kr) (kx i)) kr)) (fun k => f75_3 E k (fun h => (R75 E (pb (pb (pb (pb (codeOf fn75))))) true 4 (fun _ => 0) kn kx kr) (mkE []) h) (fun y2 h => kr (mkE [(2, y2)]) h)) (fun k => f75_3_eq E k (fun i => sel (Nat.beq i 0) (R75 E (pb (pb (pb (pb (codeOf fn75))))) true 4 (fun _ => 0) kn kx kr) (kx i)) kr (R75 E (pb (pb (pb (pb (codeOf fn75))))) true 4 (fun _ => 0) kn kx kr) rfl) LL]
  refine Eq.trans ?_ (R75_unf E _ _ _ _ _ _ _ _).symm
  generalize R75 E = R
  generalize LL = L
  generalize PP = P
  revert R L P
  refine id ?_
  intro R L P
  kernel_rfl
/-- theodolite/theodoliteref11.sign -/
def s75 (E : Ev) (x0 : AV) (h : Heap) : Res :=
  f75_1 E r75 x0 h
theorem s75_eq (E : Ev) (x0 : AV) (h : Heap) : xbodyR PP GG CC E LL fn75 [x0] h = s75 E x0 h := by
  unfold s75
  rw [r75_eq, f75_1_eq E (xret PP fn75) noK (xret PP fn75)]
  refine (bodyR_unf (c := (codeOf fn75)) (by kernel_rfl) (by kernel_rfl)).trans ?_
  show runS (R75 E) PP GG CC E fn75.ntmps LL none (resBits fn75.results.toList) (codeOf fn75) _ _ _ _ _ _ _ = _
  generalize R75 E = R
  generalize LL = L
  generalize PP = P
  symm
  revert R L P
  refine id ?_
  intro R L P
  kernel_rfl
def fn76 : Func := fnAt PP 76
def R76 (E : Ev) : RT := runR PP GG CC E 9 LL none 4
theorem R76_unf (E : Ev) (c : Code) (lv : Nat) (lx : Nat → Nat) (kn : K) (kx : Nat → K) (kr : K) (e : Env) (h : Heap) : R76 E c true lv lx kn kx kr e h = runS (R76 E) PP GG CC E 9 LL none 4 c lv lx kn kx kr e h := runR_unf _ _ _ _ _ _ _ _
def r76 (x2 : AV) (h : Heap) : Res := some (x2, h)
theorem r76_eq : r76 = fun x2 h => xret PP fn76 (mkE [(2, x2)]) h := by kernel_rfl
/-- theodolite/theodoliteref11.digit -/
def s76 (E : Ev) (x0 : AV) (h : Heap) : Res :=
  ob (xbin PP .geq 5 true x0 (.int .u8 48)) fun x4 =>
  ob (pWant x4 true) fun c =>
  ob (sel c (some x0) (some (.tuple []))) fun x6 =>
  ob (pWant x4 true) fun c_1 =>
  ob (sel c_1 (xbin PP .leq 5 true x6 (.int .u8 57)) (some (.tuple []))) fun x7 =>
  ob (pPick x4 (some x7) (some (.bool false))) fun x8 =>
  r76 x8 h
theorem s76_eq (E : Ev) (x0 : AV) (h : Heap) : xbodyR PP GG CC E LL fn76 [x0] h = s76 E x0 h := by
  unfold s76
  rw [r76_eq]
  refine (bodyR_unf (c := (codeOf fn76)) (by kernel_rfl) (by kernel_rfl)).trans ?_
  show runS (R76 E) PP GG CC E fn76.ntmps LL none (resBits fn76.results.toList) (codeOf fn76) _ _ _ _ _ _ _ = _
  generalize R76 E = R
  generalize LL = L
  generalize PP = P
  symm
  revert R L P
  refine id ?_
  intro R L P
  kernel_rfl
def fn77 : Func := fnAt PP 77
def R77 (E : Ev) : RT := runR PP GG CC E 79 LL none 48
theorem R77_unf (E : Ev) (c : Code) (lv : Nat) (lx : Nat → Nat) (kn : K) (kx : Nat → K) (kr : K) (e : Env) (h : Heap) : R77 E c true lv lx kn kx kr e h = runS (R77 E) PP GG CC E 79 LL none 48 c lv lx kn kx kr e h := runR_unf _ _ _ _ _ _ _ _
def r77 (x4 x5 : AV) (h : Heap) : Res := some (.tuple [x4, x5], h)
theorem r77_eq : r77 = fun x4 x5 h => xret PP fn77 (mkE [(4, x4), (5, x5)]) h := by kernel_rfl
def f77_1 (E : Ev) (kr : AV → AV → Heap → Res) (x0 x1 x11 : AV) (h : Heap) : Res :=
  ob (xindexAddr PP 67 x1 (.int .i64 1)) fun x63 =>
  ob (pLoad PP 73 x63 h) fun x64 =>
  obP (E (.fn 38) [x0, x64] h) fun x65 h65 =>
  ob (pExtract 0 x65) fun x66 =>
  ob (pExtract 1 x65) fun x67 =>
  ob (pNil x0) fun x70 =>
  ob (pFieldAddr PP 109 3 x70) fun x71 =>
  ob (pLoad PP 107 x71 h65) fun x72 =>
  obP (xslice PP h65 107 x72 none (some x11) none) fun x74 h74 =>
  ob (pNil x0) fun x75 =>
  ob (pFieldAddr PP 109 3 x75) fun x76 =>
  ob (pStore PP 107 x76 x74 h74) fun h0 =>
  kr x66 x67 h0
theorem f77_1_eq (E : Ev) (kn : K) (kx : Nat → K) (kr : K) : f77_1 E (fun y4 y5 h => kr (mkE [(4, y4), (5, y5)]) h) = fun x0 x1 x11 h => R77 E (pb (pb (pb (pb (pb (pb (pb (codeOf fn77)))))))) true 48 (fun _ => 0) kn kx kr (mkE [(0, x0), (1, x1), (11, x11)]) h := by
  funext x0 x1 x11 h
  unfold f77_1
  refine Eq.trans ?_ (R77_unf E _ _ _ _ _ _ _ _).symm
  generalize R77 E = R
  generalize LL = L
  generalize PP = P
  revert R L P
  refine id ?_
  intro R L P
  kernel_rfl
def f77_2 (E : Ev) (kn : AV → AV → AV → AV → AV → AV → AV → Heap → Res) (k0 : AV → AV → AV → Heap → Res) (x0 x1 x9 x11 x37 x38 x39 : AV) (h : Heap) : Res :=
  ob (xbin PP .lss 3 false x39 x38) fun x40 =>
  pIf x40
   (ob (xindexAddr PP 27 x37 x39) fun x42 =>
   ob (pLoad PP 9 x42 h) fun x43 =>
   ob (pNil x0) fun x46 =>
   ob (pFieldAddr PP 109 3 x46) fun x47 =>
   ob (pLoad PP 107 x47 h) fun x48 =>
   ob (xindexAddr PP 22 x9 x39) fun x52 =>
   ob (pLoad PP 3 x52 h) fun x53 =>
   ob (xbuild PP 120 [(0, x43), (1, x53)]) fun x54 =>
   obP (pBuildSlice PP h 107 1 [(0, x54)]) fun x55 h55 =>
   sel (chkV x48 (pLoad PP 107 x47 h55)) (
   sel (chkV x53 (pLoad PP 3 x52 h55)) (
   obP (xappend PP h55 107 107 x48 x55) fun x56 h56 =>
   ob (pNil x0) fun x57 =>
   ob (pFieldAddr PP 109 3 x57) fun x58 =>
   ob (pStore PP 107 x58 x56 h56) fun h0 =>
   ob (xbin PP .add 3 true x39 (.int .i64 1)) fun x59 =>
   kn x0 x1 x9 x11 x37 x38 x59 h0) none) none)
   (k0 x0 x1 x11 h)
theorem f77_2_eq (E : Ev) (kn : K) (kx : Nat → K) (kr : K) (e0 : K) (he0 : kx 0 = e0) : f77_2 E (fun y0 y1 y9 y11 y37 y38 y39 h => kn (mkE [(0, y0), (1, y1), (9, y9), (11, y11), (37, y37), (38, y38), (39, y39)]) h) (fun y0 y1 y11 h => e0 (mkE [(0, y0), (1, y1), (11, y11)]) h) = fun x0 x1 x9 x11 x37 x38 x39 h => R77 E (pa (pa (pb (pa (pb (pb (pb (pb (pb (pb (codeOf fn77))))))))))) true 962072676867 (fun i => sel (Nat.beq i 0) 2051 ((fun _ => 0) i)) kn kx kr (mkE [(0, x0), (1, x1), (9, x9), (11, x11), (37, x37), (38, x38), (39, x39)]) h := by
  subst he0
  funext x0 x1 x9 x11 x37 x38 x39 h
  unfold f77_2
  refine Eq.trans ?_ (R77_unf E _ _ _ _ _ _ _ _).symm
  generalize R77 E = R
  generalize LL = L
  generalize PP = P
  revert R L P
  refine id ?_
  intro R L P
  kernel_rfl
/-- (*theodolite/elab.maker).let -/
def s77 (E : Ev) (x0 x1 : AV) (h : Heap) : Res :=
  obP (E (.fn 96) [x1] h) fun x17 h17 =>
  ob (pExtract 0 x17) fun x18 =>
  ob (pExtract 1 x17) fun x19 =>
  ob (pExtract 2 x17) fun x20 =>
  ob (xun .not x20) fun x22 =>
  pIf x22
   (r77 (.int .i64 0) (.int .i64 2) h17)
   (obP (E (.fn 79) [x0, x19] h17) fun x26 h26 =>
   ob (pExtract 0 x26) fun x27 =>
   ob (pExtract 1 x26) fun x28 =>
   ob (xbin PP .neq 29 true x28 (.int .i64 0)) fun x30 =>
   pIf x30
    (r77 (.int .i64 0) x28 h26)
    (ob (pNil x0) fun x33 =>
    ob (pFieldAddr PP 109 3 x33) fun x34 =>
    ob (pLoad PP 107 x34 h26) fun x35 =>
    ob (xlen PP h26 107 x35) fun x36 =>
    ob (xlen PP h26 27 x18) fun x38 =>
    lp b7 (fun k => f77_2 E k (f77_1 E r77)) LL x0 x1 x27 x36 x18 x38 (.int .i64 0) h26))
theorem s77_eq (E : Ev) (x0 x1 : AV) (h : Heap) : xbodyR PP GG CC E LL fn77 [x0, x1] h = s77 E x0 x1 h := by
  unfold s77
  rw [r77_eq, f77_1_eq E (xret PP fn77) noK (xret PP fn77), lp7_eq 0 1 9 11 37 38 39 (fun k => (R77 E (pa (pa (pb (pa (pb (pb (pb (pb (pb (pb (codeOf fn77))))))))))) true 962072676867 (fun i => sel (Nat.beq i 0) 2051 ((fun _ => 0) i)) k (fun i => sel (Nat.beq i 0) (R77 E (pb (pb (pb (pb (pb (pb (pb (codeOf fn77)))))))) true 48 (fun _ => 0) (xret PP fn77) noK (xret PP fn77)) (noK i)) (xret PP fn77))) (fun k => f77_2 E k (fun y0 y1 y11 h => (R77 E (pb (pb (pb (pb (pb (pb (pb (codeOf fn77)))))))) true 48 (fun _ => 0) (xret PP fn77) noK (xret PP fn77)) (mkE [(0, y0), (1, y1), (11, y11)]) h)) (fun k => f77_2_eq E k (fun i => sel (Nat.beq i 0) (R77 E (pb (pb (pb (pb (pb (pb (pb (codeOf fn77)))))))) true 48 (fun _ => 0) (xret PP fn77) noK (xret PP fn77)) (noK i)) (xret PP fn77) (R77 E (pb (pb (pb (pb (pb (pb (pb (codeOf fn77)))))))) true 48 (fun _ => 0) (xret PP fn77) noK (xret PP fn77)) rfl) LL]
  refine (bodyR_unf (c := (codeOf fn77)) (by kernel_rfl) (by kernel_rfl)).trans ?_
  show runS (R77 E) PP GG CC E fn77.ntmps LL none (resBits fn77.results.toList) (codeOf fn77) _ _ _ _ _ _ _ = _
  generalize R77 E = R
  generalize LL = L
  generalize PP = P
  symm
  revert R L P
  refine id ?_
  intro R L P
  kernel_rfl
def fn78 : Func := fnAt PP 78
def R78 (E : Ev) : RT := runR PP GG CC E 14 LL none 12
theorem R78_unf (E : Ev) (c : Code) (lv : Nat) (lx : Nat → Nat) (kn : K) (kx : Nat → K) (kr : K) (e : Env) (h : Heap) : R78 E c true lv lx kn kx kr e h = runS (R78 E) PP GG CC E 14 LL none 12 c lv lx kn kx kr e h := runR_unf _ _ _ _ _ _ _ _
def r78 (x2 x3 : AV) (h : Heap) : Res := some (.tuple [x2, x3], h)
theorem r78_eq : r78 = fun x2 x3 h => xret PP fn78 (mkE [(2, x2), (3, x3)]) h := by kernel_rfl
/-- theodolite/elab.op -/
def s78 (E : Ev) (x0 : AV) (h : Heap) : Res :=
  obP (E (.fn 41) [(.str 50 626658932658519613438179258382518428236371876344723915106369893171513203014334302028362183388228254330737509715231928174)] h) fun x5 h5 =>
  obP (E (.fn 40) [x5, x0] h5) fun x7 h7 =>
  ob (xbin PP .lss 3 true x7 (.int .i64 0)) fun x9 =>
  pIf x9
   (r78 (.int .i64 0) (.bool false) h7)
   (obP (E (.fn 97) [] h7) fun x10 h10 =>
   ob (xindexAddr PP 22 x10 x7) fun x12 =>
   ob (pLoad PP 3 x12 h10) fun x13 =>
   r78 x13 (.bool true) h10)
theorem s78_eq (E : Ev) (x0 : AV) (h : Heap) : xbodyR PP GG CC E LL fn78 [x0] h = s78 E x0 h := by
  unfold s78
  rw [r78_eq]
  refine (bodyR_unf (c := (codeOf fn78)) (by kernel_rfl) (by kernel_rfl)).trans ?_
  show runS (R78 E) PP GG CC E fn78.ntmps LL none (resBits fn78.results.toList) (codeOf fn78) _ _ _ _ _ _ _ = _
  generalize R78 E = R
  generalize LL = L
  generalize PP = P
  symm
  revert R L P
  refine id ?_
  intro R L P
  kernel_rfl
def fn79 : Func := fnAt PP 79
def R79 (E : Ev) : RT := runR PP GG CC E 31 LL none 48
theorem R79_unf (E : Ev) (c : Code) (lv : Nat) (lx : Nat → Nat) (kn : K) (kx : Nat → K) (kr : K) (e : Env) (h : Heap) : R79 E c true lv lx kn kx kr e h = runS (R79 E) PP GG CC E 31 LL none 48 c lv lx kn kx kr e h := runR_unf _ _ _ _ _ _ _ _
def r79 (x4 x5 : AV) (h : Heap) : Res := some (.tuple [x4, x5], h)
theorem r79_eq : r79 = fun x4 x5 h => xret PP fn79 (mkE [(4, x4), (5, x5)]) h := by kernel_rfl
def f79_1 (E : Ev) (kr : AV → AV → Heap → Res) (x4 : AV) (h : Heap) : Res :=
  kr x4 (.int .i64 0) h
theorem f79_1_eq (E : Ev) (kn : K) (kx : Nat → K) (kr : K) : f79_1 E (fun y4 y5 h => kr (mkE [(4, y4), (5, y5)]) h) = fun x4 h => R79 E (pb (pb (codeOf fn79))) true 48 (fun _ => 0) kn kx kr (mkE [(4, x4)]) h := by
  funext x4 h
  unfold f79_1
  refine Eq.trans ?_ (R79_unf E _ _ _ _ _ _ _ _).symm
  generalize R79 E = R
  generalize LL = L
  generalize PP = P
  revert R L P
  refine id ?_
  intro R L P
  kernel_rfl
def f79_2 (E : Ev) (kn : AV → AV → AV → AV → AV → Heap → Res) (k0 : AV → Heap → Res) (kr : AV → AV → Heap → Res) (x0 x4 x10 x11 x12 : AV) (h : Heap) : Res :=
  ob (xbin PP .lss 3 false x12 x11) fun x13 =>
  pIf x13
   (ob (xindexAddr PP 67 x10 x12) fun x14 =>
   ob (pLoad PP 73 x14 h) fun x15 =>
   obP (ob (zeroC PP 73) fun z => some (pNew h 73 z)) fun x7 h7 =>
   ob (pStore PP 73 x7 x15 h7) fun h0 =>
   ob (pLoad PP 73 x7 h0) fun x18 =>
   obP (E (.fn 38) [x0, x18] h0) fun x19 h19 =>
   ob (pExtract 0 x19) fun x20 =>
   ob (pExtract 1 x19) fun x21 =>
   ob (xbin PP .neq 29 true x21 (.int .i64 0)) fun x23 =>
   pIf x23
    (kr .nilSlice x21 h19)
    (obP (pBuildSlice PP h19 22 1 [(0, x20)]) fun x27 h27 =>
    obP (xappend PP h27 22 22 x4 x27) fun x28 h28 =>
    ob (xbin PP .add 3 true x12 (.int .i64 1)) fun x29 =>
    kn x0 x28 x10 x11 x29 h28))
   (k0 x4 h)
theorem f79_2_eq (E : Ev) (kn : K) (kx : Nat → K) (kr : K) (e0 : K) (he0 : kx 0 = e0) : f79_2 E (fun y0 y4 y10 y11 y12 h => kn (mkE [(0, y0), (4, y4), (10, y10), (11, y11), (12, y12)]) h) (fun y4 h => e0 (mkE [(4, y4)]) h) (fun y4 y5 h => kr (mkE [(4, y4), (5, y5)]) h) = fun x0 x4 x10 x11 x12 h => R79 E (pa (pa (pb (pa (pb (codeOf fn79)))))) true 7185 (fun i => sel (Nat.beq i 0) 16 ((fun _ => 0) i)) kn kx kr (mkE [(0, x0), (4, x4), (10, x10), (11, x11), (12, x12)]) h := by
  subst he0
  funext x0 x4 x10 x11 x12 h
  unfold f79_2
  refine Eq.trans ?_ (R79_unf E _ _ _ _ _ _ _ _).symm
  generalize R79 E = R
  generalize LL = L
  generalize PP = P
  revert R L P
  refine id ?_
  intro R L P
  kernel_rfl
/-- (*theodolite/elab.maker).all -/
def s79 (E : Ev) (x0 x1 : AV) (h : Heap) : Res :=
  ob (xlen PP h 67 x1) fun x11 =>
  lp b5 (fun k => f79_2 E k (f79_1 E r79) r79) LL x0 .nilSlice x1 x11 (.int .i64 0) h
theorem s79_eq (E : Ev) (x0 x1 : AV) (h : Heap) : xbodyR PP GG CC E LL fn79 [x0, x1] h = s79 E x0 x1 h := by
  unfold s79
  rw [r79_eq, f79_1_eq E (xret PP fn79) noK (xret PP fn79), lp5_eq 0 4 10 11 12 (fun k => (R79 E (pa (pa (pb (pa (pb (codeOf fn79)))))) true 7185 (fun i => sel (Nat.beq i 0) 16 ((fun _ => 0) i)) k (fun i => sel (Nat.beq i 0) (R79 E (pb (pb (codeOf fn79))) true 48 (fun _ => 0) (xret PP fn79) noK (xret PP fn79)) (noK i)) (xret PP fn79))) (fun k => f79_2 E k (fun y4 h => (R79 E (pb (pb (codeOf fn79))) true 48 (fun _ => 0) (xret PP fn79) noK (xret PP fn79)) (mkE [(4, y4)]) h) (fun y4 y5 h => (xret PP fn79) (mkE [(4, y4), (5, y5)]) h)) (fun k => f79_2_eq E k (fun i => sel (Nat.beq i 0) (R79 E (pb (pb (codeOf fn79))) true 48 (fun _ => 0) (xret PP fn79) noK (xret PP fn79)) (noK i)) (xret PP fn79) (R79 E (pb (pb (codeOf fn79))) true 48 (fun _ => 0) (xret PP fn79) noK (xret PP fn79)) rfl) LL]
  refine (bodyR_unf (c := (codeOf fn79)) (by kernel_rfl) (by kernel_rfl)).trans ?_
  show runS (R79 E) PP GG CC E fn79.ntmps LL none (resBits fn79.results.toList) (codeOf fn79) _ _ _ _ _ _ _ = _
  generalize R79 E = R
  generalize LL = L
  generalize PP = P
  symm
  revert R L P
  refine id ?_
  intro R L P
  kernel_rfl
def fn80 : Func := fnAt PP 80
def R80 (E : Ev) : RT := runR PP GG CC E 51 LL none 192
theorem R80_unf (E : Ev) (c : Code) (lv : Nat) (lx : Nat → Nat) (kn : K) (kx : Nat → K) (kr : K) (e : Env) (h : Heap) : R80 E c true lv lx kn kx kr e h = runS (R80 E) PP GG CC E 51 LL none 192 c lv lx kn kx kr e h := runR_unf _ _ _ _ _ _ _ _
def r80 (x6 x7 : AV) (h : Heap) : Res := some (.tuple [x6, x7], h)
theorem r80_eq : r80 = fun x6 x7 h => xret PP fn80 (mkE [(6, x6), (7, x7)]) h := by kernel_rfl
def f80_1 (E : Ev) (kr : AV → AV → Heap → Res) (x0 x1 x2 : AV) (h : Heap) : Res :=
  ob (pNil x0) fun x42 =>
  ob (pFieldAddr PP 109 0 x42) fun x43 =>
  ob (pLoad PP 36 x43 h) fun x44 =>
  ob (xbuild PP 141 []) fun x46 =>
  obP (E (.fn 85) [x44, x1, (.str 0 0), x46, x2] h) fun x48 h48 =>
  ob (pExtract 0 x48) fun x49 =>
  ob (pExtract 1 x48) fun x50 =>
  kr x49 x50 h48
theorem f80_1_eq (E : Ev) (kn : K) (kx : Nat → K) (kr : K) : f80_1 E (fun y6 y7 h => kr (mkE [(6, y6), (7, y7)]) h) = fun x0 x1 x2 h => R80 E (pb (pb (codeOf fn80))) true 192 (fun _ => 0) kn kx kr (mkE [(0, x0), (1, x1), (2, x2)]) h := by
  funext x0 x1 x2 h
  unfold f80_1
  refine Eq.trans ?_ (R80_unf E _ _ _ _ _ _ _ _).symm
  generalize R80 E = R
  generalize LL = L
  generalize PP = P
  revert R L P
  refine id ?_
  intro R L P
  kernel_rfl
def f80_3 (E : Ev) (kn : AV → AV → AV → Heap → Res) (kr : AV → AV → Heap → Res) (x0 x1 x2 x8 x33 : AV) (h : Heap) : Res :=
  pIf x33
   (ob (xbin PP .neq 3 true x8 (.int .i64 1)) fun x37 =>
   pIf x37
    (kr (.int .i64 0) (.int .i64 3) h)
    (ob (xindexAddr PP 22 x2 (.int .i64 0)) fun x39 =>
    ob (pLoad PP 3 x39 h) fun x40 =>
    kr x40 (.int .i64 0) h))
   (kn x0 x1 x2 h)
theorem f80_3_eq (E : Ev) (kn : K) (kx : Nat → K) (kr : K) : f80_3 E (fun y0 y1 y2 h => kn (mkE [(0, y0), (1, y1), (2, y2)]) h) (fun y6 y7 h => kr (mkE [(6, y6), (7, y7)]) h) = fun x0 x1 x2 x8 x33 h => R80 E (pb (pb (pb (pa (pb (pb (pa (pb (pa (pb (codeOf fn80))))))))))) true 7 (fun i => sel (Nat.beq i 0) 7 ((fun _ => 0) i)) kn kx kr (mkE [(0, x0), (1, x1), (2, x2), (8, x8), (33, x33)]) h := by
  funext x0 x1 x2 x8 x33 h
  unfold f80_3
  refine Eq.trans ?_ (R80_unf E _ _ _ _ _ _ _ _).symm
  generalize R80 E = R
  generalize LL = L
  generalize PP = P
  revert R L P
  refine id ?_
  intro R L P
  kernel_rfl
def f80_2 (E : Ev) (kn : AV → AV → AV → Heap → Res) (kr : AV → AV → Heap → Res) (x0 x1 x2 x8 x24 x25 : AV) (h : Heap) : Res :=
  pIf x25
   (ob (xbin PP .neq 3 true x8 (.int .i64 0)) fun x29 =>
   pIf x29
    (kr (.int .i64 0) (.int .i64 3) h)
    (ob (xindexAddr PP 22 x2 (.int .i64 0)) fun x31 =>
    ob (pLoad PP 3 x31 h) fun x32 =>
    kr x32 (.int .i64 0) h))
   (ob (xbin PP .eql 3 true x24 (.int .i64 13)) fun x34 =>
   pIf x34
    (f80_3 E kn kr x0 x1 x2 x8 x34 h)
    (ob (xbin PP .eql 3 true x24 (.int .i64 15)) fun x35 =>
    f80_3 E kn kr x0 x1 x2 x8 x35 h))
theorem f80_2_eq (E : Ev) (kn : K) (kx : Nat → K) (kr : K) : f80_2 E (fun y0 y1 y2 h => kn (mkE [(0, y0), (1, y1), (2, y2)]) h) (fun y6 y7 h => kr (mkE [(6, y6), (7, y7)]) h) = fun x0 x1 x2 x8 x24 x25 h => R80 E (pb (pa (pb (pb (pa (pb (pa (pb (codeOf fn80))))))))) true 7 (fun i => sel (Nat.beq i 0) 7 ((fun _ => 0) i)) kn kx kr (mkE [(0, x0), (1, x1), (2, x2), (8, x8), (24, x24), (25, x25)]) h := by
  funext x0 x1 x2 x8 x24 x25 h
  unfold f80_2
  rw [f80_3_eq E kn kx kr]
  refine Eq.trans ?_ (R80_unf E _ _ _ _ _ _ _ _).symm
  generalize R80 E = R
  generalize LL = L
  generalize PP = P
  revert R L P
  refine id ?_
  intro R L P
  kernel_rfl
/-- (*theodolite/elab.maker).operate -/
def s80 (E : Ev) (x0 x1 x2 : AV) (h : Heap) : Res :=
  ob (xlen PP h 22 x2) fun x11 =>
  ob (xbin PP .eql 3 true x11 (.int .i64 1)) fun x12 =>
  pIf x12
   (ob (pNil x0) fun x15 =>
   ob (pFieldAddr PP 109 0 x15) fun x16 =>
   ob (pLoad PP 36 x16 h) fun x17 =>
   ob (xindexAddr PP 22 x2 (.int .i64 0)) fun x19 =>
   ob (pLoad PP 3 x19 h) fun x20 =>
   sel (chkV x17 (pLoad PP 36 x16 h)) (
   sel (chkV x20 (pLoad PP 3 x19 h)) (
   obP (E (.fn 47) [x17, x20] h) fun x21 h21 =>
   ob (pExtract 0 x21) fun x22 =>
   ob (pExtract 1 x21) fun x23 =>
   ob (xbin PP .eql 3 true x1 (.int .i64 4)) fun x26 =>
   pIf x26
    (f80_2 E (f80_1 E r80) r80 x0 x1 x2 x22 x1 x26 h21)
    (ob (xbin PP .eql 3 true x1 (.int .i64 5)) fun x27 =>
    f80_2 E (f80_1 E r80) r80 x0 x1 x2 x22 x1 x27 h21)) none) none)
   (f80_1 E r80 x0 x1 x2 h)
theorem s80_eq (E : Ev) (x0 x1 x2 : AV) (h : Heap) : xbodyR PP GG CC E LL fn80 [x0, x1, x2] h = s80 E x0 x1 x2 h := by
  unfold s80
  rw [r80_eq, f80_1_eq E (xret PP fn80) noK (xret PP fn80), f80_2_eq E (R80 E (pb (pb (codeOf fn80))) true 192 (fun _ => 0) (xret PP fn80) noK (xret PP fn80)) (fun i => sel (Nat.beq i 0) (R80 E (pb (pb (codeOf fn80))) true 192 (fun _ => 0) (xret PP fn80) noK (xret PP fn80)) (noK i)) (xret PP fn80)]
  refine (bodyR_unf (c := (codeOf fn80)) (by kernel_rfl) (by kernel_rfl)).trans ?_
  show runS (R80 E) PP GG CC E fn80.ntmps LL none (resBits fn80.results.toList) (codeOf fn80) _ _ _ _ _ _ _ = _
  generalize R80 E = R
  generalize LL = L
  generalize PP = P
  symm
  revert R L P
  refine id ?_
  intro R L P
  kernel_rfl
def fn81 : Func := fnAt PP 81
def R81 (E : Ev) : RT := runR PP GG CC E 21 LL none 48
theorem R81_unf (E : Ev) (c : Code) (lv : Nat) (lx : Nat → Nat) (kn : K) (kx : Nat → K) (kr : K) (e : Env) (h : Heap) : R81 E c true lv lx kn kx kr e h = runS (R81 E) PP GG CC E 21 LL none 48 c lv lx kn kx kr e h := runR_unf _ _ _ _ _ _ _ _
def r81 (x4 x5 : AV) (h : Heap) : Res := ob (ob (pLoad PP 3 x4 h) fun v => ob (ob (pLoad PP 4 x5 h) fun v => some [v]) fun vs => some (v :: vs)) fun vs => some (one vs, h)
theorem r81_eq : r81 = fun x4 x5 h => xret PP fn81 (mkE [(4, x4), (5, x5)]) h := by kernel_rfl
def f81_1 (E : Ev) (kr : AV → AV → Heap → Res) (x4 x5 : AV) (h : Heap) : Res :=
  ob (pStore PP 3 x4 (.int .i64 0) h) fun h0 =>
  ob (pStore PP 4 x5 (.bool false) h0) fun h0_1 =>
  kr x4 x5 h0_1
theorem f81_1_eq (E : Ev) (kn : K) (kx : Nat → K) (kr : K) : f81_1 E (fun y4 y5 h => kr (mkE [(4, y4), (5, y5)]) h) = fun x4 x5 h => R81 E (pb (pb (codeOf fn81))) true 48 (fun _ => 0) kn kx kr (mkE [(4, x4), (5, x5)]) h := by
  funext x4 x5 h
  unfold f81_1
  refine Eq.trans ?_ (R81_unf E _ _ _ _ _ _ _ _).symm
  generalize R81 E = R
  generalize LL = L
  generalize PP = P
  revert R L P
  refine id ?_
  intro R L P
  kernel_rfl
/-- (*theodolite/elab.maker).find -/
def s81 (E : Ev) (x0 x1 : AV) (h : Heap) : Res :=
  obP (some (pNew h 9 x1.cells)) fun x3 h3 =>
  obP (ob (zeroC PP 3) fun z => some (pNew h3 3 z)) fun x4 h4 =>
  obP (ob (zeroC PP 4) fun z => some (pNew h4 4 z)) fun x5 h5 =>
  ob (pNil x0) fun x9 =>
  ob (pFieldAddr PP 109 3 x9) fun x10 =>
  ob (pLoad PP 107 x10 h5) fun x11 =>
  obP (E (.fn 98) [x11] h5) fun x12 h12 =>
  sel (roundOk none h12) (obP (xranged ⟨PP, GG, CC, E⟩ x12 (.yield h12.nx) ⟨Nat.succ h12.nx, h12.ob.set h12.nx (some (.loop 0 none (mkE [(3, x3), (4, x4), (5, x5), (12, x12)]) 21 [13, 14] (pa (pa (pb (pa (pb (codeOf fn81)))))) (pb (pa (pb (pa (pb (codeOf fn81))))))))⟩) fun _ hr =>
   ob (hr.ob.at h12.nx) fun o => pEnd o
    (f81_1 E r81 x4 x5 ⟨hr.nx, hr.ob.set h12.nx none⟩)
    (fun i => none)
    (r81 x4 x5 ⟨hr.nx, hr.ob.set h12.nx none⟩)) none
theorem s81_eq (E : Ev) (x0 x1 : AV) (h : Heap) : xbodyR PP GG CC E LL fn81 [x0, x1] h = s81 E x0 x1 h := by
  unfold s81
  rw [r81_eq, f81_1_eq E (xret PP fn81) noK (xret PP fn81)]
  refine (bodyR_unf (c := (codeOf fn81)) (by kernel_rfl) (by kernel_rfl)).trans ?_
  show runS (R81 E) PP GG CC E fn81.ntmps LL none (resBits fn81.results.toList) (codeOf fn81) _ _ _ _ _ _ _ = _
  generalize R81 E = R
  generalize LL = L
  generalize PP = P
  symm
  revert R L P
  refine id ?_
  intro R L P
  kernel_rfl
def fn82 : Func := fnAt PP 82
def R82 (E : Ev) : RT := runR PP GG CC E 76 LL none 192
theorem R82_unf (E : Ev) (c : Code) (lv : Nat) (lx : Nat → Nat) (kn : K) (kx : Nat → K) (kr : K) (e : Env) (h : Heap) : R82 E c true lv lx kn kx kr e h = runS (R82 E) PP GG CC E 76 LL none 192 c lv lx kn kx kr e h := runR_unf _ _ _ _ _ _ _ _
def r82 (x6 x7 : AV) (h : Heap) : Res := some (.tuple [x6, x7], h)
theorem r82_eq : r82 = fun x6 x7 h => xret PP fn82 (mkE [(6, x6), (7, x7)]) h := by kernel_rfl
def f82_2 (E : Ev) (kr : AV → AV → Heap → Res) (x0 x4 x8 : AV) (h : Heap) : Res :=
  ob (pNil x0) fun x60 =>
  ob (pFieldAddr PP 109 0 x60) fun x61 =>
  ob (pLoad PP 36 x61 h) fun x62 =>
  ob (pFieldAddr PP 84 3 x4) fun x63 =>
  ob (pLoad PP 3 x63 h) fun x64 =>
  obP (pBuildSlice PP h 22 1 [(0, x64)]) fun x65 h65 =>
  sel (chkV x62 (pLoad PP 36 x61 h65)) (
  sel (chkV x64 (pLoad PP 3 x63 h65)) (
  obP (E (.fn 99) [x62, x65, (.func 100 [] [x8])] h65) fun x67 h67 =>
  ob (pExtract 0 x67) fun x68 =>
  ob (pExtract 1 x67) fun x69 =>
  ob (xbin PP .neq 29 true x69 (.int .i64 0)) fun x71 =>
  pIf x71
   (kr (.int .i64 0) x69 h67)
   (ob (xindexAddr PP 22 x68 (.int .i64 0)) fun x74 =>
   ob (pLoad PP 3 x74 h67) fun x75 =>
   kr x75 (.int .i64 0) h67)) none) none
theorem f82_2_eq (E : Ev) (kn : K) (kx : Nat → K) (kr : K) : f82_2 E (fun y6 y7 h => kr (mkE [(6, y6), (7, y7)]) h) = fun x0 x4 x8 h => R82 E (pb (pb (pb (pb (codeOf fn82))))) true 192 (fun _ => 0) kn kx kr (mkE [(0, x0), (4, x4), (8, x8)]) h := by
  funext x0 x4 x8 h
  unfold f82_2
  refine Eq.trans ?_ (R82_unf E _ _ _ _ _ _ _ _).symm
  generalize R82 E = R
  generalize LL = L
  generalize PP = P
  revert R L P
  refine id ?_
  intro R L P
  kernel_rfl
def f82_3 (E : Ev) (kn : AV → AV → AV → AV → AV → AV → Heap → Res) (k0 : AV → AV → AV → Heap → Res) (kr : AV → AV → Heap → Res) (x0 x4 x8 x27 x28 x29 : AV) (h : Heap) : Res :=
  ob (xbin PP .lss 3 false x29 x28) fun x30 =>
  pIf x30
   (ob (xindexAddr PP 22 x27 x29) fun x32 =>
   ob (pLoad PP 3 x32 h) fun x33 =>
   ob (pNil x0) fun x36 =>
   ob (pFieldAddr PP 109 0 x36) fun x37 =>
   ob (pLoad PP 36 x37 h) fun x38 =>
   obP (E (.fn 47) [x38, x33] h) fun x40 h40 =>
   ob (pExtract 0 x40) fun x41 =>
   ob (pExtract 1 x40) fun x42 =>
   ob (pFieldAddr PP 84 2 x4) fun x44 =>
   ob (pLoad PP 22 x44 h40) fun x45 =>
   ob (xindexAddr PP 22 x45 x29) fun x47 =>
   ob (pLoad PP 3 x47 h40) fun x48 =>
   ob (xbin PP .neq 3 false x41 x48) fun x49 =>
   pIf x49
    (kr (.int .i64 0) (.int .i64 3) h40)
    (ob (pLoad PP 174 x8 h40) fun x50 =>
    ob (pFieldAddr PP 84 1 x4) fun x51 =>
    ob (pLoad PP 22 x51 h40) fun x52 =>
    ob (xindexAddr PP 22 x52 x29) fun x54 =>
    ob (pLoad PP 3 x54 h40) fun x55 =>
    sel (chkV x50 (pLoad PP 174 x8 h40)) (
    sel (chkV x52 (pLoad PP 22 x51 h40)) (
    sel (chkV x55 (pLoad PP 3 x54 h40)) (
    ob (xmapSet PP h40 174 x50 x55 x33) fun h0 =>
    ob (xbin PP .add 3 true x29 (.int .i64 1)) fun x57 =>
    kn x0 x4 x8 x27 x28 x57 h0) none) none) none))
   (k0 x0 x4 x8 h)
theorem f82_3_eq (E : Ev) (kn : K) (kx : Nat → K) (kr : K) (e0 : K) (he0 : kx 0 = e0) : f82_3 E (fun y0 y4 y8 y27 y28 y29 h => kn (mkE [(0, y0), (4, y4), (8, y8), (27, y27), (28, y28), (29, y29)]) h) (fun y0 y4 y8 h => e0 (mkE [(0, y0), (4, y4), (8, y8)]) h) (fun y6 y7 h => kr (mkE [(6, y6), (7, y7)]) h) = fun x0 x4 x8 x27 x28 x29 h => R82 E (pa (pa (pb (pa (pb (pb (pb (codeOf fn82)))))))) true 939524369 (fun i => sel (Nat.beq i 0) 273 ((fun _ => 0) i)) kn kx kr (mkE [(0, x0), (4, x4), (8, x8), (27, x27), (28, x28), (29, x29)]) h := by
  subst he0
  funext x0 x4 x8 x27 x28 x29 h
  unfold f82_3
  refine Eq.trans ?_ (R82_unf E _ _ _ _ _ _ _ _).symm
  generalize R82 E = R
  generalize LL = L
  generalize PP = P
  revert R L P
  refine id ?_
  intro R L P
  kernel_rfl
def f82_1 (E : Ev) (kr : AV → AV → Heap → Res) (x0 x2 x4 : AV) (h : Heap) : Res :=
  ob (xlen PP h 22 x2) fun x16 =>
  ob (pFieldAddr PP 84 1 x4) fun x17 =>
  ob (pLoad PP 22 x17 h) fun x18 =>
  ob (xlen PP h 22 x18) fun x19 =>
  ob (xbin PP .neq 3 false x16 x19) fun x20 =>
  ob (pWant x20 false) fun c =>
  ob (sel c (some x2) (some (.tuple []))) fun x22 =>
  ob (pWant x20 false) fun c_1 =>
  ob (sel c_1 (xlen PP h 22 x22) (some (.tuple []))) fun x23 =>
  ob (pWant x20 false) fun c_2 =>
  ob (sel c_2 (xbin PP .eql 3 true x23 (.int .i64 0)) (some (.tuple []))) fun x24 =>
  ob (pPick x20 (some (.bool true)) (some x24)) fun x25 =>
  pIf x25
   (kr (.int .i64 0) (.int .i64 3) h)
   (obP (some (pMakeMap h)) fun x26 h26 =>
   obP (ob (zeroC PP 174) fun z => some (pNew h26 174 z)) fun x8 h8 =>
   ob (pStore PP 174 x8 x26 h8) fun h0 =>
   ob (xlen PP h0 22 x2) fun x28 =>
   lp b6 (fun k => f82_3 E k (f82_2 E kr) kr) LL x0 x4 x8 x2 x28 (.int .i64 0) h0)
theorem f82_1_eq (E : Ev) (kn : K) (kx : Nat → K) (kr : K) : f82_1 E (fun y6 y7 h => kr (mkE [(6, y6), (7, y7)]) h) = fun x0 x2 x4 h => R82 E (pb (codeOf fn82)) true 192 (fun _ => 0) kn kx kr (mkE [(0, x0), (2, x2), (4, x4)]) h := by
  funext x0 x2 x4 h
  unfold f82_1
  rw [f82_2_eq E kn kx kr, lp6_eq 0 4 8 27 28 29 (fun k => (R82 E (pa (pa (pb (pa (pb (pb (pb (codeOf fn82)))))))) true 939524369 (fun i => sel (Nat.beq i 0) 273 ((fun _ => 0) i)) k (fun i => sel (Nat.beq i 0) (R82 E (pb (pb (pb (pb (codeOf fn82))))) true 192 (fun _ => 0) kn kx kr) (kx i)) kr)) (fun k => f82_3 E k (fun y0 y4 y8 h => (R82 E (pb (pb (pb (pb (codeOf fn82))))) true 192 (fun _ => 0) kn kx kr) (mkE [(0, y0), (4, y4), (8, y8)]) h) (fun y6 y7 h => kr (mkE [(6, y6), (7, y7)]) h)) (fun k => f82_3_eq E k (fun i => sel (Nat.beq i 0) (R82 E (pb (pb (pb (pb (codeOf fn82))))) true 192 (fun _ => 0) kn kx kr) (kx i)) kr (R82 E (pb (pb (pb (pb (codeOf fn82))))) true 192 (fun _ => 0) kn kx kr) rfl) LL]
  refine Eq.trans ?_ (R82_unf E _ _ _ _ _ _ _ _).symm
  generalize R82 E = R
  generalize LL = L
  generalize PP = P
  revert R L P
  refine id ?_
  intro R L P
  kernel_rfl
/-- (*theodolite/elab.maker).call -/
def s82 (E : Ev) (x0 x1 x2 : AV) (h : Heap) : Res :=
  obP (some (pNew h 84 x1.cells)) fun x4 h4 =>
  f82_1 E r82 x0 x2 x4 h4
theorem s82_eq (E : Ev) (x0 x1 x2 : AV) (h : Heap) : xbodyR PP GG CC E LL fn82 [x0, x1, x2] h = s82 E x0 x1 x2 h := by
  unfold s82
  rw [r82_eq, f82_1_eq E (xret PP fn82) noK (xret PP fn82)]
  refine (bodyR_unf (c := (codeOf fn82)) (by kernel_rfl) (by kernel_rfl)).trans ?_
  show runS (R82 E) PP GG CC E fn82.ntmps LL none (resBits fn82.results.toList) (codeOf fn82) _ _ _ _ _ _ _ = _
  generalize R82 E = R
  generalize LL = L
  generalize PP = P
  symm
  revert R L P
  refine id ?_
  intro R L P
  kernel_rfl
def fn83 : Func := fnAt PP 83
def R83 (E : Ev) : RT := runR PP GG CC E 31 LL none 192
theorem R83_unf (E : Ev) (c : Code) (lv : Nat) (lx : Nat → Nat) (kn : K) (kx : Nat → K) (kr : K) (e : Env) (h : Heap) : R83 E c true lv lx kn kx kr e h = runS (R83 E) PP GG CC E 31 LL none 192 c lv lx kn kx kr e h := runR_unf _ _ _ _ _ _ _ _
def r83 (x6 x7 : AV) (h : Heap) : Res := some (.tuple [x6, x7], h)
theorem r83_eq : r83 = fun x6 x7 h => xret PP fn83 (mkE [(6, x6), (7, x7)]) h := by kernel_rfl
/-- (*theodolite/elab.maker).app -/
def s83 (E : Ev) (x0 x1 x2 : AV) (h : Heap) : Res :=
  ob (pNil x0) fun x12 =>
  ob (pFieldAddr PP 109 1 x12) fun x13 =>
  ob (pLoad PP 35 x13 h) fun x14 =>
  obP (E (.fn 51) [x14, x1] h) fun x16 h16 =>
  ob (pExtract 0 x16) fun x17 =>
  ob (pExtract 1 x16) fun x18 =>
  obP (ob (zeroC PP 56) fun z => some (pNew h16 56 z)) fun x8 h8 =>
  ob (pStore PP 56 x8 x17 h8) fun h0 =>
  ob (xun .not x18) fun x20 =>
  pIf x20
   (r83 (.int .i64 0) (.int .i64 5) h0)
   (ob (pNil x0) fun x22 =>
   ob (pFieldAddr PP 109 0 x22) fun x23 =>
   ob (pLoad PP 36 x23 h0) fun x24 =>
   ob (xbuild PP 141 []) fun x26 =>
   obP (E (.fn 85) [x24, (.int .i64 12), x1, x26, x2] h0) fun x28 h28 =>
   ob (pExtract 0 x28) fun x29 =>
   ob (pExtract 1 x28) fun x30 =>
   r83 x29 x30 h28)
theorem s83_eq (E : Ev) (x0 x1 x2 : AV) (h : Heap) : xbodyR PP GG CC E LL fn83 [x0, x1, x2] h = s83 E x0 x1 x2 h := by
  unfold s83
  rw [r83_eq]
  refine (bodyR_unf (c := (codeOf fn83)) (by kernel_rfl) (by kernel_rfl)).trans ?_
  show runS (R83 E) PP GG CC E fn83.ntmps LL none (resBits fn83.results.toList) (codeOf fn83) _ _ _ _ _ _ _ = _
  generalize R83 E = R
  generalize LL = L
  generalize PP = P
  symm
  revert R L P
  refine id ?_
  intro R L P
  kernel_rfl
def fn84 : Func := fnAt PP 84
def R84 (E : Ev) : RT := runR PP GG CC E 46 LL none 12
theorem R84_unf (E : Ev) (c : Code) (lv : Nat) (lx : Nat → Nat) (kn : K) (kx : Nat → K) (kr : K) (e : Env) (h : Heap) : R84 E c true lv lx kn kx kr e h = runS (R84 E) PP GG CC E 46 LL none 12 c lv lx kn kx kr e h := runR_unf _ _ _ _ _ _ _ _
def r84 (x2 x3 : AV) (h : Heap) : Res := ob (ob (pLoad PP 141 x2 h) fun v => ob (ob (some x3) fun v => some [v]) fun vs => some (v :: vs)) fun vs => some (one vs, h)
theorem r84_eq : r84 = fun x2 x3 h => xret PP fn84 (mkE [(2, x2), (3, x3)]) h := by kernel_rfl
def f84_2 (E : Ev) (kr : AV → AV → Heap → Res) (x2 x4 x5 : AV) (h : Heap) : Res :=
  ob (xlen PP h 9 x5) fun x28 =>
  ob (xbin PP .gtr 3 true x28 (.int .i64 4096)) fun x29 =>
  ob (pWant x29 false) fun c =>
  ob (sel c (some x4) (some (.tuple []))) fun x31 =>
  ob (pWant x29 false) fun c_1 =>
  ob (sel c_1 (xlen PP h 9 x31) (some (.tuple []))) fun x32 =>
  ob (pWant x29 false) fun c_2 =>
  ob (sel c_2 (xbin PP .gtr 3 true x32 (.int .i64 4096)) (some (.tuple []))) fun x33 =>
  ob (pPick x29 (some (.bool true)) (some x33)) fun x34 =>
  pIf x34
   (ob (xbuild PP 141 []) fun x35 =>
   ob (pStore PP 141 x2 x35 h) fun h0 =>
   kr x2 (.int .i64 4) h0)
   (ob (xbin PP .add 9 false x4 x5) fun x38 =>
   obP (E (.fn 106) [x38] h) fun x39 h39 =>
   ob (xlen PP h39 9 x5) fun x41 =>
   obP (E (.fn 107) [x41] h39) fun x42 h42 =>
   obP (E (.fn 105) [(.bool false), x39, x42] h42) fun x43 h43 =>
   ob (pExtract 0 x43) fun x44 =>
   ob (pExtract 1 x43) fun x45 =>
   ob (pStore PP 141 x2 x44 h43) fun h0 =>
   kr x2 x45 h0)
theorem f84_2_eq (E : Ev) (kn : K) (kx : Nat → K) (kr : K) : f84_2 E (fun y2 y3 h => kr (mkE [(2, y2), (3, y3)]) h) = fun x2 x4 x5 h => R84 E (pb (pb (pb (pb (codeOf fn84))))) true 12 (fun _ => 0) kn kx kr (mkE [(2, x2), (4, x4), (5, x5)]) h := by
  funext x2 x4 x5 h
  unfold f84_2
  refine Eq.trans ?_ (R84_unf E _ _ _ _ _ _ _ _).symm
  generalize R84 E = R
  generalize LL = L
  generalize PP = P
  revert R L P
  refine id ?_
  intro R L P
  kernel_rfl
def f84_1 (E : Ev) (kr : AV → AV → Heap → Res) (x2 x4 x5 x6 : AV) (h : Heap) : Res :=
  obP (E (.fn 102) [x4] h) fun x14 h14 =>
  ob (xun .not x14) fun x15 =>
  ob (pWant x15 false) fun c =>
  ob (sel c (some x6) (some (.tuple []))) fun x17 =>
  ob (pWant x15 false) fun c_1 =>
  ob (sel c_1 (some x17) (some (.tuple []))) fun x18 =>
  ob (pWant x18 true) fun c_2 =>
  ob (sel c_2 (some x5) (some (.tuple []))) fun x19 =>
  ob (pWant x18 true) fun c_3 =>
  obP (sel c_3 (E (.fn 103) [x19] h14) (some (.tuple [], h14))) fun x20 h20 =>
  ob (pWant x18 true) fun c_4 =>
  ob (sel c_4 (xun .not x20) (some (.tuple []))) fun x21 =>
  ob (pWant x15 false) fun c_5 =>
  ob (sel c_5 (pPick x18 (some x21) (some (.bool false))) (some (.tuple []))) fun x22 =>
  ob (pPick x15 (some (.bool true)) (some x22)) fun x23 =>
  pIf x23
   (ob (xbuild PP 141 []) fun x24 =>
   ob (pStore PP 141 x2 x24 h20) fun h0 =>
   kr x2 (.int .i64 2) h0)
   (obP (E (.fn 104) [x5, (.str 1 48)] h20) fun x26 h26 =>
   f84_2 E kr x2 x4 x26 h26)
theorem f84_1_eq (E : Ev) (kn : K) (kx : Nat → K) (kr : K) : f84_1 E (fun y2 y3 h => kr (mkE [(2, y2), (3, y3)]) h) = fun x2 x4 x5 x6 h => R84 E (pb (pb (codeOf fn84))) true 12 (fun _ => 0) kn kx kr (mkE [(2, x2), (4, x4), (5, x5), (6, x6)]) h := by
  funext x2 x4 x5 x6 h
  unfold f84_1
  rw [f84_2_eq E kn kx kr]
  refine Eq.trans ?_ (R84_unf E _ _ _ _ _ _ _ _).symm
  generalize R84 E = R
  generalize LL = L
  generalize PP = P
  revert R L P
  refine id ?_
  intro R L P
  kernel_rfl
/-- theodolite/decimal.Parse -/
def s84 (E : Ev) (x0 : AV) (h : Heap) : Res :=
  obP (ob (zeroC PP 141) fun z => some (pNew h 141 z)) fun x2 h2 =>
  obP (E (.fn 101) [x0, (.str 1 46)] h2) fun x9 h9 =>
  ob (pExtract 0 x9) fun x10 =>
  ob (pExtract 1 x9) fun x11 =>
  ob (pExtract 2 x9) fun x12 =>
  f84_1 E r84 x2 x10 x11 x12 h9
theorem s84_eq (E : Ev) (x0 : AV) (h : Heap) : xbodyR PP GG CC E LL fn84 [x0] h = s84 E x0 h := by
  unfold s84
  rw [r84_eq, f84_1_eq E (xret PP fn84) noK (xret PP fn84)]
  refine (bodyR_unf (c := (codeOf fn84)) (by kernel_rfl) (by kernel_rfl)).trans ?_
  show runS (R84 E) PP GG CC E fn84.ntmps LL none (resBits fn84.results.toList) (codeOf fn84) _ _ _ _ _ _ _ = _
  generalize R84 E = R
  generalize LL = L
  generalize PP = P
  symm
  revert R L P
  refine id ?_
  intro R L P
  kernel_rfl
def fn85 : Func := fnAt PP 85
def R85 (E : Ev) : RT := runR PP GG CC E 75 LL none 3072
theorem R85_unf (E : Ev) (c : Code) (lv : Nat) (lx : Nat → Nat) (kn : K) (kx : Nat → K) (kr : K) (e : Env) (h : Heap) : R85 E c true lv lx kn kx kr e h = runS (R85 E) PP GG CC E 75 LL none 3072 c lv lx kn kx kr e h := runR_unf _ _ _ _ _ _ _ _
def r85 (x10 x11 : AV) (h : Heap) : Res := some (.tuple [x10, x11], h)
theorem r85_eq : r85 = fun x10 x11 h => xret PP fn85 (mkE [(10, x10), (11, x11)]) h := by kernel_rfl
def f85_2 (E : Ev) (kr : AV → AV → Heap → Res) (x1 x2 x4 x5 x8 : AV) (h : Heap) : Res :=
  ob (pLoad PP 36 x5 h) fun x56 =>
  obP (E (.fn 112) [x56, x1, x2, x4] h) fun x60 h60 =>
  ob (pExtract 0 x60) fun x61 =>
  ob (pExtract 1 x60) fun x62 =>
  ob (xun .not x62) fun x64 =>
  pIf x64
   (kr (.int .i64 0) (.int .i64 3) h60)
   (ob (pLoad PP 36 x5 h60) fun x65 =>
   ob (pLoad PP 141 x8 h60) fun x68 =>
   ob (xbuild PP 143 [(0, x1), (1, x2), (2, x68), (3, x4), (4, x61)]) fun x71 =>
   obP (E (.fn 69) [x65, x71] h60) fun x72 h72 =>
   ob (pExtract 0 x72) fun x73 =>
   ob (pExtract 1 x72) fun x74 =>
   kr x73 x74 h72)
theorem f85_2_eq (E : Ev) (kn : K) (kx : Nat → K) (kr : K) : f85_2 E (fun y10 y11 h => kr (mkE [(10, y10), (11, y11)]) h) = fun x1 x2 x4 x5 x8 h => R85 E (pb (pb (codeOf fn85))) true 3072 (fun _ => 0) kn kx kr (mkE [(1, x1), (2, x2), (4, x4), (5, x5), (8, x8)]) h := by
  funext x1 x2 x4 x5 x8 h
  unfold f85_2
  refine Eq.trans ?_ (R85_unf E _ _ _ _ _ _ _ _).symm
  generalize R85 E = R
  generalize LL = L
  generalize PP = P
  revert R L P
  refine id ?_
  intro R L P
  kernel_rfl
def f85_3 (E : Ev) (kn : AV → AV → AV → AV → AV → Heap → Res) (kr : AV → AV → Heap → Res) (x1 x2 x4 x5 x8 x30 : AV) (h : Heap) : Res :=
  pIf x30
   (kr (.int .i64 0) (.int .i64 1) h)
   (obP (E (.fn 110) [x4, (.func 111 [] [x5])] h) fun x54 h54 =>
   pIf x54
    (kr (.int .i64 0) (.int .i64 1) h54)
    (kn x1 x2 x4 x5 x8 h54))
theorem f85_3_eq (E : Ev) (kn : K) (kx : Nat → K) (kr : K) : f85_3 E (fun y1 y2 y4 y5 y8 h => kn (mkE [(1, y1), (2, y2), (4, y4), (5, y5), (8, y8)]) h) (fun y10 y11 h => kr (mkE [(10, y10), (11, y11)]) h) = fun x1 x2 x4 x5 x8 x30 h => R85 E (pb (pb (pb (pa (pa (pb (codeOf fn85))))))) true 310 (fun i => sel (Nat.beq i 0) 310 ((fun _ => 0) i)) kn kx kr (mkE [(1, x1), (2, x2), (4, x4), (5, x5), (8, x8), (30, x30)]) h := by
  funext x1 x2 x4 x5 x8 x30 h
  unfold f85_3
  refine Eq.trans ?_ (R85_unf E _ _ _ _ _ _ _ _).symm
  generalize R85 E = R
  generalize LL = L
  generalize PP = P
  revert R L P
  refine id ?_
  intro R L P
  kernel_rfl
def f85_1 (E : Ev) (kr : AV → AV → Heap → Res) (x1 x2 x4 x5 x8 : AV) (h : Heap) : Res :=
  ob (pLoad PP 36 x5 h) fun x15 =>
  ob (xbin PP .eql 36 true x15 .nilPtr) fun x16 =>
  ob (pWant x16 false) fun c =>
  ob (sel c (some x1) (some (.tuple []))) fun x18 =>
  ob (pWant x16 false) fun c_1 =>
  ob (sel c_1 (xbin PP .lss 3 true x18 (.int .i64 1)) (some (.tuple []))) fun x19 =>
  ob (pPick x16 (some (.bool true)) (some x19)) fun x20 =>
  ob (pWant x20 false) fun c_2 =>
  ob (sel c_2 (some x1) (some (.tuple []))) fun x22 =>
  ob (pWant x20 false) fun c_3 =>
  ob (sel c_3 (xbin PP .gtr 3 true x22 (.int .i64 20)) (some (.tuple []))) fun x23 =>
  ob (pPick x20 (some (.bool true)) (some x23)) fun x24 =>
  ob (pWant x24 false) fun c_4 =>
  ob (sel c_4 (some x4) (some (.tuple []))) fun x26 =>
  ob (pWant x24 false) fun c_5 =>
  ob (sel c_5 (xlen PP h 22 x26) (some (.tuple []))) fun x27 =>
  ob (pWant x24 false) fun c_6 =>
  ob (sel c_6 (xbin PP .gtr 3 true x27 (.int .i64 64)) (some (.tuple []))) fun x28 =>
  ob (pPick x24 (some (.bool true)) (some x28)) fun x29 =>
  pIf x29
   (kr (.int .i64 0) (.int .i64 1) h)
   (ob (xbin PP .neq 3 true x1 (.int .i64 12)) fun x32 =>
   ob (pWant x32 true) fun c_7 =>
   ob (sel c_7 (some x2) (some (.tuple []))) fun x34 =>
   ob (pWant x32 true) fun c_8 =>
   ob (sel c_8 (xbin PP .neq 9 true x34 (.str 0 0)) (some (.tuple []))) fun x35 =>
   ob (pPick x32 (some x35) (some (.bool false))) fun x36 =>
   pIf x36
    (f85_3 E (f85_2 E kr) kr x1 x2 x4 x5 x8 x36 h)
    (ob (xbin PP .neq 3 true x1 (.int .i64 11)) fun x38 =>
    ob (pWant x38 true) fun c_9 =>
    ob (sel c_9 (pLoad PP 141 x8 h) (some (.tuple []))) fun x40 =>
    ob (pWant x38 true) fun c_10 =>
    obP (sel c_10 (E (.fn 108) [x40] h) (some (.tuple [], h))) fun x41 h41 =>
    ob (pWant x38 true) fun c_11 =>
    ob (sel c_11 (xun .not x41) (some (.tuple []))) fun x42 =>
    ob (pPick x38 (some x42) (some (.bool false))) fun x43 =>
    pIf x43
     (f85_3 E (f85_2 E kr) kr x1 x2 x4 x5 x8 x43 h41)
     (ob (xbin PP .eql 3 true x1 (.int .i64 11)) fun x45 =>
     ob (pWant x45 true) fun c_12 =>
     ob (sel c_12 (pLoad PP 141 x8 h41) (some (.tuple []))) fun x47 =>
     ob (pWant x45 true) fun c_13 =>
     obP (sel c_13 (E (.fn 109) [x47] h41) (some (.tuple [], h41))) fun x48 h48 =>
     ob (pWant x45 true) fun c_14 =>
     ob (sel c_14 (xun .not x48) (some (.tuple []))) fun x49 =>
     ob (pPick x45 (some x49) (some (.bool false))) fun x50 =>
     f85_3 E (f85_2 E kr) kr x1 x2 x4 x5 x8 x50 h48)))
theorem f85_1_eq (E : Ev) (kn : K) (kx : Nat → K) (kr : K) : f85_1 E (fun y10 y11 h => kr (mkE [(10, y10), (11, y11)]) h) = fun x1 x2 x4 x5 x8 h => R85 E (pb (codeOf fn85)) true 3072 (fun _ => 0) kn kx kr (mkE [(1, x1), (2, x2), (4, x4), (5, x5), (8, x8)]) h := by
  funext x1 x2 x4 x5 x8 h
  unfold f85_1
  rw [f85_2_eq E kn kx kr, f85_3_eq E (R85 E (pb (pb (codeOf fn85))) true 3072 (fun _ => 0) kn kx kr) (fun i => sel (Nat.beq i 0) (R85 E (pb (pb (codeOf fn85))) true 3072 (fun _ => 0) kn kx kr) (kx i)) kr]
  refine Eq.trans ?_ (R85_unf E _ _ _ _ _ _ _ _).symm
  generalize R85 E = R
  generalize LL = L
  generalize PP = P
  revert R L P
  refine id ?_
  intro R L P
  kernel_rfl
/-- (*theodolite/term.Table).Make -/
def s85 (E : Ev) (x0 x1 x2 x3 x4 : AV) (h : Heap) : Res :=
  obP (some (pNew h 36 x0.cells)) fun x5 h5 =>
  obP (some (pNew h5 141 x3.cells)) fun x8 h8 =>
  f85_1 E r85 x1 x2 x4 x5 x8 h8
theorem s85_eq (E : Ev) (x0 x1 x2 x3 x4 : AV) (h : Heap) : xbodyR PP GG CC E LL fn85 [x0, x1, x2, x3, x4] h = s85 E x0 x1 x2 x3 x4 h := by
  unfold s85
  rw [r85_eq, f85_1_eq E (xret PP fn85) noK (xret PP fn85)]
  refine (bodyR_unf (c := (codeOf fn85)) (by kernel_rfl) (by kernel_rfl)).trans ?_
  show runS (R85 E) PP GG CC E fn85.ntmps LL none (resBits fn85.results.toList) (codeOf fn85) _ _ _ _ _ _ _ = _
  generalize R85 E = R
  generalize LL = L
  generalize PP = P
  symm
  revert R L P
  refine id ?_
  intro R L P
  kernel_rfl
def fn88 : Func := fnAt PP 88
def R88 (E : Ev) : RT := runR PP GG CC E 9 LL none 16
theorem R88_unf (E : Ev) (c : Code) (lv : Nat) (lx : Nat → Nat) (kn : K) (kx : Nat → K) (kr : K) (e : Env) (h : Heap) : R88 E c true lv lx kn kx kr e h = runS (R88 E) PP GG CC E 9 LL none 16 c lv lx kn kx kr e h := runR_unf _ _ _ _ _ _ _ _
def r88 (x4 : AV) (h : Heap) : Res := some (x4, h)
theorem r88_eq : r88 = fun x4 h => xret PP fn88 (mkE [(4, x4)]) h := by kernel_rfl
/-- slices.ContainsFunc[[]theodolite/script.Param,theodolite/script.Param] -/
def s88 (E : Ev) (x0 x1 : AV) (h : Heap) : Res :=
  obP (E (.fn 116) [x0, x1] h) fun x7 h7 =>
  ob (xbin PP .geq 3 true x7 (.int .i64 0)) fun x8 =>
  r88 x8 h7
theorem s88_eq (E : Ev) (x0 x1 : AV) (h : Heap) : xbodyR PP GG CC E LL fn88 [x0, x1] h = s88 E x0 x1 h := by
  unfold s88
  rw [r88_eq]
  refine (bodyR_unf (c := (codeOf fn88)) (by kernel_rfl) (by kernel_rfl)).trans ?_
  show runS (R88 E) PP GG CC E fn88.ntmps LL none (resBits fn88.results.toList) (codeOf fn88) _ _ _ _ _ _ _ = _
  generalize R88 E = R
  generalize LL = L
  generalize PP = P
  symm
  revert R L P
  refine id ?_
  intro R L P
  kernel_rfl
def fn90 : Func := fnAt PP 90
def R90 (E : Ev) : RT := runR PP GG CC E 8 LL none 4
theorem R90_unf (E : Ev) (c : Code) (lv : Nat) (lx : Nat → Nat) (kn : K) (kx : Nat → K) (kr : K) (e : Env) (h : Heap) : R90 E c true lv lx kn kx kr e h = runS (R90 E) PP GG CC E 8 LL none 4 c lv lx kn kx kr e h := runR_unf _ _ _ _ _ _ _ _
def r90 (x2 : AV) (h : Heap) : Res := some (x2, h)
theorem r90_eq : r90 = fun x2 h => xret PP fn90 (mkE [(2, x2)]) h := by kernel_rfl
/-- slices.Clone[[]theodolite/api.Tree,theodolite/api.Tree] -/
def s90 (E : Ev) (x0 : AV) (h : Heap) : Res :=
  ob (xbin PP .eql 67 true x0 .nilSlice) fun x4 =>
  pIf x4
   (r90 .nilSlice h)
   (obP (pBuildSlice PP h 67 0 []) fun x5 h5 =>
   obP (xappend PP h5 67 67 x5 x0) fun x7 h7 =>
   r90 x7 h7)
theorem s90_eq (E : Ev) (x0 : AV) (h : Heap) : xbodyR PP GG CC E LL fn90 [x0] h = s90 E x0 h := by
  unfold s90
  rw [r90_eq]
  refine (bodyR_unf (c := (codeOf fn90)) (by kernel_rfl) (by kernel_rfl)).trans ?_
  show runS (R90 E) PP GG CC E fn90.ntmps LL none (resBits fn90.results.toList) (codeOf fn90) _ _ _ _ _ _ _ = _
  generalize R90 E = R
  generalize LL = L
  generalize PP = P
  symm
  revert R L P
  refine id ?_
  intro R L P
  kernel_rfl
def fn91 : Func := fnAt PP 91
def R91 (E : Ev) : RT := runR PP GG CC E 71 LL none 4
theorem R91_unf (E : Ev) (c : Code) (lv : Nat) (lx : Nat → Nat) (kn : K) (kx : Nat → K) (kr : K) (e : Env) (h : Heap) : R91 E c true lv lx kn kx kr e h = runS (R91 E) PP GG CC E 71 LL none 4 c lv lx kn kx kr e h := runR_unf _ _ _ _ _ _ _ _
def r91 (x2 : AV) (h : Heap) : Res := some (x2, h)
theorem r91_eq : r91 = fun x2 h => xret PP fn91 (mkE [(2, x2)]) h := by kernel_rfl
def f91_2 (E : Ev) (kr : AV → Heap → Res) (x3 : AV) (h : Heap) : Res :=
  obP (E (.fn 121) [x3] h) fun x70 h70 =>
  kr x70 h70
theorem f91_2_eq (E : Ev) (kn : K) (kx : Nat → K) (kr : K) : f91_2 E (fun y2 h => kr (mkE [(2, y2)]) h) = fun x3 h => R91 E (pb (pb (pb (pb (pb (codeOf fn91)))))) true 4 (fun _ => 0) kn kx kr (mkE [(3, x3)]) h := by
  funext x3 h
  unfold f91_2
  refine Eq.trans ?_ (R91_unf E _ _ _ _ _ _ _ _).symm
  generalize R91 E = R
  generalize LL = L
  generalize PP = P
  revert R L P
  refine id ?_
  intro R L P
  kernel_rfl
def f91_4 (E : Ev) (kn : AV → AV → AV → AV → Heap → Res) (x3 x51 x52 x53 : AV) (h : Heap) : Res :=
  ob (xbin PP .add 3 true x53 (.int .i64 1)) fun x69 =>
  kn x3 x51 x52 x69 h
theorem f91_4_eq (E : Ev) (kn : K) (kx : Nat → K) (kr : K) : f91_4 E (fun y3 y51 y52 y53 h => kn (mkE [(3, y3), (51, y51), (52, y52), (53, y53)]) h) = fun x3 x51 x52 x53 h => R91 E (pb (pb (pb (pa (pa (pb (pb (pa (pb (pa (pb (pb (pb (pb (codeOf fn91))))))))))))))) true 15762598695796744 (fun i => sel (Nat.beq i 2) 8 ((fun _ => 0) i)) kn kx kr (mkE [(3, x3), (51, x51), (52, x52), (53, x53)]) h := by
  funext x3 x51 x52 x53 h
  unfold f91_4
  refine Eq.trans ?_ (R91_unf E _ _ _ _ _ _ _ _).symm
  generalize R91 E = R
  generalize LL = L
  generalize PP = P
  revert R L P
  refine id ?_
  intro R L P
  kernel_rfl
def f91_5 (E : Ev) (kn : AV → AV → AV → AV → AV → AV → AV → Heap → Res) (k4 : AV → AV → AV → AV → Heap → Res) (x3 x51 x52 x53 x58 x59 x60 : AV) (h : Heap) : Res :=
  ob (xbin PP .lss 3 false x60 x59) fun x61 =>
  pIf x61
   (ob (xindexAddr PP 139 x58 x60) fun x62 =>
   ob (pLoad PP 208 x62 h) fun x63 =>
   obP (E (.fn 120) [x63, (.int .i64 10)] h) fun x65 h65 =>
   ob (xbin PP .add 9 true x65 (.str 1 44)) fun x66 =>
   obP (E (.fn 117) [x3, x66] h65) fun x67 h67 =>
   ob (xbin PP .add 3 true x60 (.int .i64 1)) fun x68 =>
   kn x3 x51 x52 x53 x58 x59 x68 h67)
   (k4 x3 x51 x52 x53 h)
theorem f91_5_eq (E : Ev) (kn : K) (kx : Nat → K) (kr : K) (e4 : K) (he4 : kx 4 = e4) : f91_5 E (fun y3 y51 y52 y53 y58 y59 y60 h => kn (mkE [(3, y3), (51, y51), (52, y52), (53, y53), (58, y58), (59, y59), (60, y60)]) h) (fun y3 y51 y52 y53 h => e4 (mkE [(3, y3), (51, y51), (52, y52), (53, y53)]) h) = fun x3 x51 x52 x53 x58 x59 x60 h => R91 E (pa (pa (pb (pb (pb (pa (pa (pb (pb (pa (pa (pb (pb (pa (pb (pa (pb (pb (pb (pb (codeOf fn91))))))))))))))))))))) true 2033375231757778952 (fun i => sel (Nat.beq i 4) 15762598695796744 ((fun i => sel (Nat.beq i 3) 15762598695796744 ((fun i => sel (Nat.beq i 2) 8 ((fun _ => 0) i)) i)) i)) kn kx kr (mkE [(3, x3), (51, x51), (52, x52), (53, x53), (58, x58), (59, x59), (60, x60)]) h := by
  subst he4
  funext x3 x51 x52 x53 x58 x59 x60 h
  unfold f91_5
  refine Eq.trans ?_ (R91_unf E _ _ _ _ _ _ _ _).symm
  generalize R91 E = R
  generalize LL = L
  generalize PP = P
  revert R L P
  refine id ?_
  intro R L P
  kernel_rfl
def f91_3 (E : Ev) (kn : AV → AV → AV → AV → Heap → Res) (k2 : AV → Heap → Res) (x3 x51 x52 x53 : AV) (h : Heap) : Res :=
  ob (xbin PP .lss 3 false x53 x52) fun x54 =>
  pIf x54
   (ob (xindexAddr PP 207 x51 x53) fun x55 =>
   ob (pLoad PP 139 x55 h) fun x56 =>
   obP (E (.fn 117) [x3, (.str 1 47)] h) fun x57 h57 =>
   ob (xlen PP h57 139 x56) fun x59 =>
   lp b7 (fun k => f91_5 E k (f91_4 E kn)) LL x3 x51 x52 x53 x56 x59 (.int .i64 0) h57)
   (k2 x3 h)
theorem f91_3_eq (E : Ev) (kn : K) (kx : Nat → K) (kr : K) (e2 : K) (he2 : kx 2 = e2) : f91_3 E (fun y3 y51 y52 y53 h => kn (mkE [(3, y3), (51, y51), (52, y52), (53, y53)]) h) (fun y3 h => e2 (mkE [(3, y3)]) h) = fun x3 x51 x52 x53 h => R91 E (pa (pa (pb (pb (pa (pb (pa (pb (pb (pb (pb (codeOf fn91)))))))))))) true 15762598695796744 (fun i => sel (Nat.beq i 2) 8 ((fun _ => 0) i)) kn kx kr (mkE [(3, x3), (51, x51), (52, x52), (53, x53)]) h := by
  subst he2
  funext x3 x51 x52 x53 h
  unfold f91_3
  rw [f91_4_eq E kn kx kr, lp7_eq 3 51 52 53 58 59 60 (fun k => (R91 E (pa (pa (pb (pb (pb (pa (pa (pb (pb (pa (pa (pb (pb (pa (pb (pa (pb (pb (pb (pb (codeOf fn91))))))))))))))))))))) true 2033375231757778952 (fun i => sel (Nat.beq i 4) 15762598695796744 ((fun i => sel (Nat.beq i 3) 15762598695796744 ((fun i => sel (Nat.beq i 2) 8 ((fun _ => 0) i)) i)) i)) k (fun i => sel (Nat.beq i 4) (R91 E (pb (pb (pb (pa (pa (pb (pb (pa (pb (pa (pb (pb (pb (pb (codeOf fn91))))))))))))))) true 15762598695796744 (fun i => sel (Nat.beq i 2) 8 ((fun _ => 0) i)) kn kx kr) ((fun i => sel (Nat.beq i 3) (R91 E (pb (pb (pb (pa (pa (pb (pb (pa (pb (pa (pb (pb (pb (pb (codeOf fn91))))))))))))))) true 15762598695796744 (fun i => sel (Nat.beq i 2) 8 ((fun _ => 0) i)) kn kx kr) (kx i)) i)) kr)) (fun k => f91_5 E k (fun y3 y51 y52 y53 h => (R91 E (pb (pb (pb (pa (pa (pb (pb (pa (pb (pa (pb (pb (pb (pb (codeOf fn91))))))))))))))) true 15762598695796744 (fun i => sel (Nat.beq i 2) 8 ((fun _ => 0) i)) kn kx kr) (mkE [(3, y3), (51, y51), (52, y52), (53, y53)]) h)) (fun k => f91_5_eq E k (fun i => sel (Nat.beq i 4) (R91 E (pb (pb (pb (pa (pa (pb (pb (pa (pb (pa (pb (pb (pb (pb (codeOf fn91))))))))))))))) true 15762598695796744 (fun i => sel (Nat.beq i 2) 8 ((fun _ => 0) i)) kn kx kr) ((fun i => sel (Nat.beq i 3) (R91 E (pb (pb (pb (pa (pa (pb (pb (pa (pb (pa (pb (pb (pb (pb (codeOf fn91))))))))))))))) true 15762598695796744 (fun i => sel (Nat.beq i 2) 8 ((fun _ => 0) i)) kn kx kr) (kx i)) i)) kr (R91 E (pb (pb (pb (pa (pa (pb (pb (pa (pb (pa (pb (pb (pb (pb (codeOf fn91))))))))))))))) true 15762598695796744 (fun i => sel (Nat.beq i 2) 8 ((fun _ => 0) i)) kn kx kr) rfl) LL]
  refine Eq.trans ?_ (R91_unf E _ _ _ _ _ _ _ _).symm
  generalize R91 E = R
  generalize LL = L
  generalize PP = P
  revert R L P
  refine id ?_
  intro R L P
  kernel_rfl
def f91_1 (E : Ev) (kr : AV → Heap → Res) (x1 x3 : AV) (h : Heap) : Res :=
  ob (pFieldAddr PP 143 0 x1) fun x36 =>
  ob (pLoad PP 3 x36 h) fun x37 =>
  ob (xbin PP .eql 3 true x37 (.int .i64 11)) fun x38 =>
  pIf x38
   (ob (pFieldAddr PP 143 2 x1) fun x39 =>
   ob (pFieldAddr PP 141 0 x39) fun x40 =>
   ob (pLoad PP 4 x40 h) fun x41 =>
   obP (E (.fn 119) [x41] h) fun x42 h42 =>
   ob (xbin PP .add 9 true (.str 1 32) x42) fun x43 =>
   obP (E (.fn 117) [x3, x43] h42) fun x44 h44 =>
   ob (pFieldAddr PP 143 2 x1) fun x45 =>
   ob (pFieldAddr PP 141 1 x45) fun x46 =>
   ob (pLoad PP 139 x46 h44) fun x47 =>
   ob (pFieldAddr PP 143 2 x1) fun x48 =>
   ob (pFieldAddr PP 141 2 x48) fun x49 =>
   ob (pLoad PP 139 x49 h44) fun x50 =>
   obP (pBuildSlice PP h44 207 2 [(0, x47), (1, x50)]) fun x51 h51 =>
   ob (xlen PP h51 207 x51) fun x52 =>
   lp b4 (fun k => f91_3 E k (f91_2 E kr)) LL x3 x51 x52 (.int .i64 0) h51)
   (f91_2 E kr x3 h)
theorem f91_1_eq (E : Ev) (kn : K) (kx : Nat → K) (kr : K) : f91_1 E (fun y2 h => kr (mkE [(2, y2)]) h) = fun x1 x3 h => R91 E (pb (pb (pb (pb (codeOf fn91))))) true 4 (fun _ => 0) kn kx kr (mkE [(1, x1), (3, x3)]) h := by
  funext x1 x3 h
  unfold f91_1
  rw [f91_2_eq E kn kx kr, lp4_eq 3 51 52 53 (fun k => (R91 E (pa (pa (pb (pb (pa (pb (pa (pb (pb (pb (pb (codeOf fn91)))))))))))) true 15762598695796744 (fun i => sel (Nat.beq i 2) 8 ((fun _ => 0) i)) k (fun i => sel (Nat.beq i 2) (R91 E (pb (pb (pb (pb (pb (codeOf fn91)))))) true 4 (fun _ => 0) kn kx kr) (kx i)) kr)) (fun k => f91_3 E k (fun y3 h => (R91 E (pb (pb (pb (pb (pb (codeOf fn91)))))) true 4 (fun _ => 0) kn kx kr) (mkE [(3, y3)]) h)) (fun k => f91_3_eq E k (fun i => sel (Nat.beq i 2) (R91 E (pb (pb (pb (pb (pb (codeOf fn91)))))) true 4 (fun _ => 0) kn kx kr) (kx i)) kr (R91 E (pb (pb (pb (pb (pb (codeOf fn91)))))) true 4 (fun _ => 0) kn kx kr) rfl) LL]
  refine Eq.trans ?_ (R91_unf E _ _ _ _ _ _ _ _).symm
  generalize R91 E = R
  generalize LL = L
  generalize PP = P
  revert R L P
  refine id ?_
  intro R L P
  kernel_rfl
def f91_6 (E : Ev) (kn : AV → AV → AV → AV → AV → Heap → Res) (k0 : AV → AV → Heap → Res) (x1 x3 x25 x26 x27 : AV) (h : Heap) : Res :=
  ob (xbin PP .lss 3 false x27 x26) fun x28 =>
  pIf x28
   (ob (xindexAddr PP 22 x25 x27) fun x29 =>
   ob (pLoad PP 3 x29 h) fun x30 =>
   obP (E (.fn 70) [x30] h) fun x32 h32 =>
   ob (xbin PP .add 9 true (.str 1 32) x32) fun x33 =>
   obP (E (.fn 117) [x3, x33] h32) fun x34 h34 =>
   ob (xbin PP .add 3 true x27 (.int .i64 1)) fun x35 =>
   kn x1 x3 x25 x26 x35 h34)
   (k0 x1 x3 h)
theorem f91_6_eq (E : Ev) (kn : K) (kx : Nat → K) (kr : K) (e0 : K) (he0 : kx 0 = e0) : f91_6 E (fun y1 y3 y25 y26 y27 h => kn (mkE [(1, y1), (3, y3), (25, y25), (26, y26), (27, y27)]) h) (fun y1 y3 h => e0 (mkE [(1, y1), (3, y3)]) h) = fun x1 x3 x25 x26 x27 h => R91 E (pa (pa (pb (pa (pb (pb (pb (codeOf fn91)))))))) true 234881034 (fun i => sel (Nat.beq i 0) 10 ((fun _ => 0) i)) kn kx kr (mkE [(1, x1), (3, x3), (25, x25), (26, x26), (27, x27)]) h := by
  subst he0
  funext x1 x3 x25 x26 x27 h
  unfold f91_6
  refine Eq.trans ?_ (R91_unf E _ _ _ _ _ _ _ _).symm
  generalize R91 E = R
  generalize LL = L
  generalize PP = P
  revert R L P
  refine id ?_
  intro R L P
  kernel_rfl
/-- theodolite/term.key -/
def s91 (E : Ev) (x0 : AV) (h : Heap) : Res :=
  obP (some (pNew h 143 x0.cells)) fun x1 h1 =>
  obP (ob (zeroC PP 204) fun z => some (pNew h1 204 z)) fun x3 h3 =>
  ob (pFieldAddr PP 143 0 x1) fun x10 =>
  ob (pLoad PP 3 x10 h3) fun x11 =>
  ob (pFieldAddr PP 143 4 x1) fun x14 =>
  ob (pLoad PP 3 x14 h3) fun x15 =>
  ob (pFieldAddr PP 143 1 x1) fun x19 =>
  ob (pLoad PP 9 x19 h3) fun x20 =>
  sel (chkV x11 (pLoad PP 3 x10 h3)) (
  sel (chkV x15 (pLoad PP 3 x14 h3)) (
  sel (chkV x20 (pLoad PP 9 x19 h3)) (
  obP (E (.fn 70) [x11] h3) fun x12 h12 =>
  ob (xbin PP .add 9 true x12 (.str 1 32)) fun x13 =>
  sel (chkV x15 (pLoad PP 3 x14 h12)) (
  sel (chkV x20 (pLoad PP 9 x19 h12)) (
  obP (E (.fn 70) [x15] h12) fun x16 h16 =>
  ob (xbin PP .add 9 false x13 x16) fun x17 =>
  ob (xbin PP .add 9 true x17 (.str 1 32)) fun x18 =>
  sel (chkV x20 (pLoad PP 9 x19 h16)) (
  obP (E (.fn 118) [x20] h16) fun x21 h21 =>
  ob (xbin PP .add 9 false x18 x21) fun x22 =>
  obP (E (.fn 117) [x3, x22] h21) fun x23 h23 =>
  ob (pFieldAddr PP 143 3 x1) fun x24 =>
  ob (pLoad PP 22 x24 h23) fun x25 =>
  ob (xlen PP h23 22 x25) fun x26 =>
  lp b5 (fun k => f91_6 E k (f91_1 E r91)) LL x1 x3 x25 x26 (.int .i64 0) h23) none) none) none) none) none) none
theorem s91_eq (E : Ev) (x0 : AV) (h : Heap) : xbodyR PP GG CC E LL fn91 [x0] h = s91 E x0 h := by
  unfold s91
  rw [r91_eq, f91_1_eq E (xret PP fn91) noK (xret PP fn91), lp5_eq 1 3 25 26 27 (fun k => (R91 E (pa (pa (pb (pa (pb (pb (pb (codeOf fn91)))))))) true 234881034 (fun i => sel (Nat.beq i 0) 10 ((fun _ => 0) i)) k (fun i => sel (Nat.beq i 0) (R91 E (pb (pb (pb (pb (codeOf fn91))))) true 4 (fun _ => 0) (xret PP fn91) noK (xret PP fn91)) (noK i)) (xret PP fn91))) (fun k => f91_6 E k (fun y1 y3 h => (R91 E (pb (pb (pb (pb (codeOf fn91))))) true 4 (fun _ => 0) (xret PP fn91) noK (xret PP fn91)) (mkE [(1, y1), (3, y3)]) h)) (fun k => f91_6_eq E k (fun i => sel (Nat.beq i 0) (R91 E (pb (pb (pb (pb (codeOf fn91))))) true 4 (fun _ => 0) (xret PP fn91) noK (xret PP fn91)) (noK i)) (xret PP fn91) (R91 E (pb (pb (pb (pb (codeOf fn91))))) true 4 (fun _ => 0) (xret PP fn91) noK (xret PP fn91)) rfl) LL]
  refine (bodyR_unf (c := (codeOf fn91)) (by kernel_rfl) (by kernel_rfl)).trans ?_
  show runS (R91 E) PP GG CC E fn91.ntmps LL none (resBits fn91.results.toList) (codeOf fn91) _ _ _ _ _ _ _ = _
  generalize R91 E = R
  generalize LL = L
  generalize PP = P
  symm
  revert R L P
  refine id ?_
  intro R L P
  kernel_rfl
end
end S14
