/- Own texts of this proof: ThG1, ThG2, ThR1, ThR2, ThR3, ThR4. -/
import Derived.Test.YtcjmeaghecmgeaaGreatDoorLibA
import Derived.Test.YtcjmeaghecmgeaaGreatDoorLibD
set_option autoImplicit true
set_option relaxedAutoImplicit true
set_option linter.all false
namespace Go.Th
noncomputable section

/-! The same evaluation, laid out for the kernel: every case is a closed constant under a recursor, and what follows is handed on. -/
abbrev Kv := AV → Heap → Res
theorem ob_assoc {α β γ : Type} (x : Option α) (f : α → Option β) (g : β → Option γ) : ob (ob x f) g = ob x fun a => ob (f a) g := by cases x <;> rfl
theorem ob_sel {α β : Type} (c : Bool) (x y : Option α) (g : α → Option β) : ob (sel c x y) g = sel c (ob x g) (ob y g) := by cases c <;> rfl

/-! Operands. -/
def opdF : Operand → Nat → Env → Option AV := Operand.rec (motive := fun _ => Nat → Env → Option AV) (fun t _ e => e.at t) (fun v _ _ => ofV 5 v) (fun g G _ => sel (Nat.blt g G) (some (.ptr g 0)) none) (fun f _ _ => some (.func f [] []))
theorem opdF_eq (x : Operand) (G : Nat) (e : Env) : opdF x G e = opd G e x := by cases x <;> rfl

/-! Numbers. -/
def ibool (b : Bool) : Option AV := some (.bool b)
def inum (k : IntKind) (n : Int) : Option AV := some (.int k (xwrap k n))
def xintF : BinOp → IntKind → Int → Int → Option AV := BinOp.rec (motive := fun _ => IntKind → Int → Int → Option AV)
  (fun k a b => inum k (Int.add a b)) (fun k a b => inum k (Int.sub a b)) (fun k a b => inum k (Int.mul a b))
  (fun k a b => sel (xieq b 0) none (some (.int k (xquo k a b)))) (fun k a b => sel (xieq b 0) none (some (.int k (xrem a b))))
  (fun k a b => xbits .and k a b) (fun k a b => xbits .or k a b) (fun k a b => xbits .xor k a b) (fun _ _ _ => none) (fun _ _ _ => none) (fun k a b => mbits .andNot k a b)
  (fun _ a b => ibool (xieq a b)) (fun _ a b => ibool (xnot (xieq a b))) (fun _ a b => ibool (xilt a b)) (fun _ a b => ibool (xile a b)) (fun _ a b => ibool (xilt b a)) (fun _ a b => ibool (xile b a))
theorem xintF_eq (op : BinOp) (k : IntKind) (a b : Int) : xintF op k a b = xint op k a b := by cases op <;> rfl
def xarithF : BinOp → IntKind → Int → IntKind → Int → Option AV := BinOp.rec (motive := fun _ => IntKind → Int → IntKind → Int → Option AV)
  (fun k x k' y => sel (kindEq k k') (inum k (Int.add x y)) none) (fun k x k' y => sel (kindEq k k') (inum k (Int.sub x y)) none) (fun k x k' y => sel (kindEq k k') (inum k (Int.mul x y)) none)
  (fun k x k' y => sel (kindEq k k') (xintF .quo k x y) none) (fun k x k' y => sel (kindEq k k') (xintF .rem k x y) none)
  (fun k x k' y => sel (kindEq k k') (xbits .and k x y) none) (fun k x k' y => sel (kindEq k k') (xbits .or k x y) none) (fun k x k' y => sel (kindEq k k') (xbits .xor k x y) none)
  (fun k x _ y => xshift .shl k x y) (fun k x _ y => xshift .shr k x y) (fun k x k' y => sel (kindEq k k') (mbits .andNot k x y) none)
  (fun k x k' y => sel (kindEq k k') (ibool (xieq x y)) none) (fun k x k' y => sel (kindEq k k') (ibool (xnot (xieq x y))) none) (fun k x k' y => sel (kindEq k k') (ibool (xilt x y)) none)
  (fun k x k' y => sel (kindEq k k') (ibool (xile x y)) none) (fun k x k' y => sel (kindEq k k') (ibool (xilt y x)) none) (fun k x k' y => sel (kindEq k k') (ibool (xile y x)) none)
/-- what a value is, by cases that are closed -/
def avI (v : AV) {β : Type} (f : IntKind → Int → β) (d : β) : β := match v with | .int k n => f k n | _ => d
def xbinF (op : BinOp) (P : Program) (t : TypeId) (cst : Bool) (a b : AV) : Option AV := match a with
  | .int k x => (match b with
    | .int k' y => xarithF op k x k' y
    | _ => none)
  | .str l1 b1 => (match b with | .str l2 b2 => xstr op l1 b1 l2 b2 | _ => none)
  | _ => xcmp P op t cst a b
theorem xbinF_eq (op : BinOp) (P : Program) (t : TypeId) (cst : Bool) (a b : AV) : xbinF op P t cst a b = xbin P op t cst a b := by
  cases a <;> try rfl
  cases b <;> try rfl
  cases op <;> rfl
end
end Go.Th

namespace Go.Th
noncomputable section

abbrev Ev := Tgt → List AV → Heap → Option (AV × Heap)
/-! Each operation: its operands, the program's tables, what it calls, the state, what goes on. -/
abbrev OpF := Program → Nat → (Nat → Fwd) → Ev → Env → Heap → Kv → Res
def kMove (x : Operand) : OpF := fun _ G _ _ e h k => ob (opdF x G e) fun v => k v h
def kPick (c a b : Operand) : OpF := fun _ G _ _ e h k => ob (opdF c G e) fun v => (match v with | .bool t => sel t (ob (opdF a G e) fun u => k u h) (ob (opdF b G e) fun u => k u h) | _ => none)
def kLoad (t : TypeId) (a : Operand) : OpF := fun P G _ _ e h k => ob (opdF a G e) fun p => (match p with | .ptr b off => ob (xload P h t b off) fun v => k v h | _ => none)
def kStore (t : TypeId) (a x : Operand) : OpF := fun P G _ _ e h k => ob (opdF a G e) fun p => ob (opdF x G e) fun v => (match p with | .ptr b off => ob (xstore P h t b off v) fun h' => k (.tuple []) h' | _ => none)
def kNil (x : Operand) : OpF := fun _ G _ _ e h k => ob (opdF x G e) fun v => (match v with | .ptr b off => k (.ptr b off) h | .func f a b => k (.func f a b) h | _ => none)
def kBin (op : BinOp) (t : TypeId) (x y : Operand) (_ : TypeId) : OpF := fun P G _ _ e h k => ob (opdF x G e) fun a => ob (opdF y G e) fun b => ob (xbinF op P t (sel (isConstO x) true (isConstO y)) a b) fun v => k v h
def kFieldAddr (s : TypeId) (x : Operand) (f : Nat) : OpF := fun P G _ _ e h k => ob (opdF x G e) fun p => (match p with | .ptr b off => ob (xfieldAddr P s f b off) fun v => k v h | _ => none)
def kField (s : TypeId) (x : Operand) (f : Nat) : OpF := fun P G _ _ e h k => ob (opdF x G e) fun p => (match p with | .agg cs => ob (xfield P s f cs) fun v => k v h | _ => none)
def kIndexAddr (t : TypeId) (x i : Operand) : OpF := fun P G _ _ e h k => ob (opdF x G e) fun a => ob (opdF i G e) fun b => ob (xindexAddr P t a b) fun v => k v h
def kIndex (t : TypeId) (x i : Operand) : OpF := fun P G _ _ e h k => ob (opdF x G e) fun a => ob (opdF i G e) fun b => ob (xindex P t a b) fun v => k v h
def kExtract (x : Operand) (i : Nat) : OpF := fun _ G _ _ e h k => ob (opdF x G e) fun v => (match v with | .tuple vs => ob vs[i]? fun r => k r h | _ => none)
def kUn (op : UnOp) (_ : TypeId) (x : Operand) : OpF := fun _ G _ _ e h k => ob (opdF x G e) fun a => ob (xun op a) fun v => k v h
/-- the others: as before -/
def kOth (op : Op) : OpF := fun P G C E e h k => ob (xop ⟨P, G, C, E⟩ op e h) fun r => k r.1 r.2
def kCall (c : Call) : OpF := fun P G C E e h k => ob (xcallO ⟨P, G, C, E⟩ e c h) fun r => k r.1 r.2
def xopK : Op → OpF := Op.rec (motive := fun _ => OpF)
  kMove kMove kPick (fun t => kOth (.alloc t)) (fun t x => kOth (.box t x)) (fun t ps => kOth (.build t ps)) (fun t l ps => kOth (.buildSlice t l ps)) (fun t m k x => kOth (.insert t m k x))
  kLoad kStore (fun g => kOth (.ready g)) (fun g => kOth (.waits g)) kNil kBin kUn (fun s t x => kOth (.convert s t x)) (fun t x => kOth (.sliceToArrayPointer t x)) (fun t x => kOth (.makeInterface t x))
  (fun f a b => kOth (.makeFunc f a b)) (fun t r => kOth (.makeMap t r)) (fun t s => kOth (.makeChan t s)) (fun t l c => kOth (.makeSlice t l c)) (fun t x l h m => kOth (.slice t x l h m))
  kFieldAddr kField kIndexAddr kIndex (fun t x i ok => kOth (.lookup t x i ok)) (fun t m k x => kOth (.mapUpdate t m k x)) (fun t m k => kOth (.mapEntry t m k)) (fun t m s x => kOth (.entryStore t m s x))
  (fun t x => kOth (.range t x)) (fun i s => kOth (.next i s)) (fun i => kOth (.entry i)) (fun x t u ok => kOth (.typeAssert x t u ok)) kExtract kCall (fun c => kOth (.go c)) (fun c => kOth (.defer c))
  (fun x => kOth (.panic x)) (fun c x => kOth (.send c x)) (fun t c ok => kOth (.recv t c ok)) (fun cs b => kOth (.select cs b))
theorem ob_pure (h : Heap) (x : Option AV) (k : Kv) : (ob (pure' h x) fun r => k r.1 r.2) = ob x fun v => k v h := by cases x <;> rfl
theorem xopK_eq (op : Op) (P : Program) (G : Nat) (C : Nat → Fwd) (E : Ev) (e : Env) (h : Heap) (k : Kv) : xopK op P G C E e h k = ob (xop ⟨P, G, C, E⟩ op e h) fun r => k r.1 r.2 := by
  cases op with
  | move x => show kMove x P G C E e h k = _; simp only [kMove, xop, ob_pure, opdF_eq]
  | assign x => show kMove x P G C E e h k = _; simp only [kMove, xop, ob_pure, opdF_eq]
  | pick c a b =>
    show kPick c a b P G C E e h k = _
    simp only [kPick, xop, opdF_eq, ob_assoc]
    congr 1; funext v
    cases v <;> try rfl
    rename_i t
    cases t <;> simp only [sel, ob_pure]
  | load t a =>
    show kLoad t a P G C E e h k = _
    simp only [kLoad, xop, opdF_eq, ob_assoc]
    congr 1; funext v
    cases v <;> try rfl
    simp only [ob_pure]
  | store t a x =>
    show kStore t a x P G C E e h k = _
    simp only [kStore, xop, opdF_eq, ob_assoc]
    congr 1; funext v
    congr 1; funext u
    cases v <;> try rfl
    simp only [unit', ob_assoc, ob_some]
  | nilCheck x =>
    show kNil x P G C E e h k = _
    simp only [kNil, xop, opdF_eq, ob_assoc]
    congr 1; funext v
    cases v <;> rfl
  | binOp op t x y u =>
    show kBin op t x y u P G C E e h k = _
    simp only [kBin, xop, opdF_eq, ob_assoc, ob_pure, xbinF_eq]
  | unOp op t x =>
    show kUn op t x P G C E e h k = _
    simp only [kUn, xop, opdF_eq, ob_assoc, ob_pure]
  | fieldAddr s x f =>
    show kFieldAddr s x f P G C E e h k = _
    simp only [kFieldAddr, xop, opdF_eq, ob_assoc]
    congr 1; funext v
    cases v <;> try rfl
    simp only [ob_pure]
  | field s x f =>
    show kField s x f P G C E e h k = _
    simp only [kField, xop, opdF_eq, ob_assoc]
    congr 1; funext v
    cases v <;> try rfl
    simp only [ob_pure]
  | indexAddr t x i =>
    show kIndexAddr t x i P G C E e h k = _
    simp only [kIndexAddr, xop, opdF_eq, ob_assoc, ob_pure]
  | index t x i =>
    show kIndex t x i P G C E e h k = _
    simp only [kIndex, xop, opdF_eq, ob_assoc, ob_pure]
  | extract x i =>
    show kExtract x i P G C E e h k = _
    simp only [kExtract, xop, opdF_eq, ob_assoc]
    congr 1; funext v
    cases v <;> try rfl
    simp only [ob_assoc, ob_some]
  | _ => rfl

/-! Regions in their order. -/
abbrev Ke := Env → Heap → Res
def stepK (P : Program) (G : Nat) (C : Nat → Fwd) (E : Ev) (slots : List (Option Tmp)) : Oper → Env → Heap → Ke → Res := fun o e h k =>
  Option.rec (motive := fun _ => Res)
    (xopK o.op P G C E e h fun v h' => k (putE e o.dst v) h')
    (fun _ => ob (wantE slots e o) fun b => sel b (xopK o.op P G C E e h fun v h' => k (putE e o.dst v) h') (k (putE e o.dst (.tuple [])) h)) o.guard
def stepsK (P : Program) (G : Nat) (C : Nat → Fwd) (E : Ev) (slots : List (Option Tmp)) : List Oper → Env → Heap → Ke → Res :=
  List.rec (motive := fun _ => Env → Heap → Ke → Res) (fun e h k => k e h) (fun o _ ih e h k => stepK P G C E slots o e h fun e' h' => ih e' h' k)
def allDst (N : Nat) : List Oper → Bool
  | [] => true
  | o :: l => sel (dstOk N o.dst) (allDst N l) false
theorem stepK_eq {P : Program} {G : Nat} {C : Nat → Fwd} {E : Ev} {N : Nat} {slots : List (Option Tmp)} {o : Oper} (hd : dstOk N o.dst = true) (e : Env) (h : Heap) (k : Ke) :
    stepK P G C E slots o e h k = ob (xstep ⟨P, G, C, E⟩ N slots o e h) fun r => k r.1 r.2 := by
  unfold xstep
  rw [hd, sel_true]
  unfold stepK
  cases hg : o.guard with
  | none =>
    simp only [wantE, hg, ob_some, sel_true, ob_assoc, xopK_eq]
  | some p =>
    simp only [ob_assoc, xopK_eq]
    congr 1; funext b
    cases b with
    | true => simp only [sel_true, ob_assoc, ob_some]
    | false => simp only [sel_false, ob_some]
theorem stepsK_eq {P : Program} {G : Nat} {C : Nat → Fwd} {E : Ev} {N : Nat} {slots : List (Option Tmp)} : ∀ (l : List Oper), allDst N l = true → ∀ (e : Env) (h : Heap) (k : Ke),
    stepsK P G C E slots l e h k = ob (xsteps ⟨P, G, C, E⟩ N slots l e h) fun r => k r.1 r.2 := by
  intro l
  induction l with
  | nil => intro _ e h k; rfl
  | cons o l ih =>
    intro hd e h k
    unfold allDst at hd
    rw [sel_eq] at hd
    split at hd
    · rename_i ho
      show stepK P G C E slots o e h (fun e' h' => stepsK P G C E slots l e' h' k) = _
      rw [stepK_eq ho]
      simp only [xsteps, ob_assoc]
      congr 1; funext r
      exact ih hd _ _ _
    · cases hd
def regionK (P : Program) (G : Nat) (C : Nat → Fwd) (E : Ev) (N : Nat) (ops : Array Oper) (draw : Bool) : Ke → Ke := fun k e h => Bool.rec (motive := fun _ => Res)
  (sel (allDst N ops.toList) (stepsK P G C E (slotsOf ops.toList) ops.toList e h k) none)
  (ob (xregion ⟨P, G, C, E⟩ N ops.toList true e h) fun r => k r.1 r.2) draw
theorem regionK_some {P : Program} {G : Nat} {C : Nat → Fwd} {E : Ev} {N : Nat} {ops : Array Oper} {draw : Bool} {k : Ke} {e : Env} {h : Heap} {r : AV × Heap} (hx : regionK P G C E N ops draw k e h = some r) :
    (ob (xregion ⟨P, G, C, E⟩ N ops.toList draw e h) fun r => k r.1 r.2) = some r := by
  cases draw with
  | true => exact hx
  | false =>
    have hx : sel (allDst N ops.toList) (stepsK P G C E (slotsOf ops.toList) ops.toList e h k) none = some r := hx
    replace hx := sel_some hx
    rw [stepsK_eq _ hx.1] at hx
    exact hx.2
end
end Go.Th

namespace Go.Th
noncomputable section

/-! What an operation comes to: a value; a value and a heap; a heap. -/
inductive Ac where
  | val (x : Option AV)
  | pur (x : Option AV)
  | eff (x : Option (AV × Heap))
  | sto (x : Option Heap)
/-- as 'ob', of a great height: it is unfolded first -/
def tallest : Unit := (fun (_ : Cx → Op → Env → Heap → Option (AV × Heap)) => ()) (fun X op e h => xop X op e h)
def obM {α β : Type} (x : Option α) (f : α → Option β) : Option β := (fun (_ : Unit) => Option.rec (motive := fun _ => Option β) none f x) tallest
theorem obM_eq {α β : Type} (x : Option α) (f : α → Option β) : obM x f = ob x f := rfl
def obP (x : Option (AV × Heap)) (f : AV → Heap → Res) : Res := ob x fun r => f r.1 r.2
theorem obP_def (x : Option (AV × Heap)) (f : AV → Heap → Res) : obP x f = ob x fun r => f r.1 r.2 := rfl
theorem obP_some (v : AV) (h : Heap) (f : AV → Heap → Res) : obP (some (v, h)) f = f v h := rfl
theorem obP_eq {x : Option (AV × Heap)} {f : AV → Heap → Res} {r : AV × Heap} (h : obP x f = some r) : ∃ v h', x = some (v, h') ∧ f v h' = some r := by
  obtain ⟨⟨v, h'⟩, q1, q2⟩ := ob_eq h
  exact ⟨v, h', q1, q2⟩
def Ac.res (h : Heap) : Ac → Option (AV × Heap)
  | .val x => ob x fun v => some (v, h)
  | .pur x => ob x fun v => some (v, h)
  | .eff x => x
  | .sto x => ob x fun h' => some (.tuple [], h')
def Ac.go (h : Heap) (k : AV → Heap → Res) : Ac → Res
  | .val x => obM x fun v => k v h
  | .pur x => ob x fun v => k v h
  | .eff x => obP x k
  | .sto x => ob x fun h' => k (.tuple []) h'
theorem Ac.go_eq (h : Heap) (k : AV → Heap → Res) (a : Ac) : a.go h k = ob (a.res h) fun r => k r.1 r.2 := by
  cases a <;> simp only [Ac.go, Ac.res, obM_eq, obP_def, ob_assoc, ob_some]
/-- only if it is wanted -/
def Ac.guard (b : Bool) (h : Heap) : Ac → Ac
  | .val x => .pur (sel b x (some (.tuple [])))
  | .pur x => .pur (sel b x (some (.tuple [])))
  | .eff x => .eff (sel b x (some (.tuple [], h)))
  | .sto x => .sto (sel b x (some h))
theorem Ac.guard_res (b : Bool) (h : Heap) (a : Ac) : (a.guard b h).res h = sel b (a.res h) (some (.tuple [], h)) := by
  cases a <;> cases b <;> rfl

def pWant (v : AV) (want : Bool) : Option Bool := match v with | .bool b => some (sel b want (xnot want)) | _ => some false
theorem pWant_bool (b w : Bool) : pWant (.bool b) w = some (sel b w (xnot w)) := rfl
def wantA (slots : List (Option Tmp)) (e : Env) (o : Oper) : Option Bool := match o.guard with
  | none => some true
  | some (j, want) => (match slots[j]? with
    | some (some s) => obM (e.at s) fun v => pWant v want
    | _ => some false)
theorem wantA_eq (slots : List (Option Tmp)) (e : Env) (o : Oper) : wantA slots e o = wantE slots e o := rfl
def pPick (v : AV) (a b : Option AV) : Option AV := match v with | .bool t => sel t a b | _ => none
def pLoad (P : Program) (t : TypeId) (p : AV) (h : Heap) : Option AV := match p with | .ptr b off => xload P h t b off | _ => none
def pStore (P : Program) (t : TypeId) (p v : AV) (h : Heap) : Option Heap := match p with | .ptr b off => xstore P h t b off v | _ => none
def pNil (v : AV) : Option AV := match v with | .ptr b off => some (.ptr b off) | .func f a b => some (.func f a b) | _ => none
def pFieldAddr (P : Program) (s : TypeId) (f : Nat) (p : AV) : Option AV := match p with | .ptr b off => xfieldAddr P s f b off | _ => none
def pField (P : Program) (s : TypeId) (f : Nat) (v : AV) : Option AV := match v with | .agg cs => xfield P s f cs | _ => none
def pExtract (i : Nat) (v : AV) : Option AV := match v with | .tuple vs => vs[i]? | _ => none
def pNew (h : Heap) (t : TypeId) (z : List AV) : AV × Heap := (.ptr h.nx 0, ⟨Nat.succ h.nx, h.ob.set h.nx (some (.cells t z.length (Tri.putRow z .lf 0) false false 0 0 false))⟩)
def pMakeMap (h : Heap) : AV × Heap := (.map h.nx, ⟨Nat.succ h.nx, h.ob.set h.nx (some (.map []))⟩)
def pConv (P : Program) (h : Heap) (s t : TypeId) (a : AV) : Option (AV × Heap) := match a with
    | .str n b => ob (P.underlying t) fun d => sel (P.underlying s).isSome (strTo P h s t a n b d) none
    | _ => pure' h (xconv P h s t a)
/-- a conversion between integers -/
def pInt (P : Program) (s t : TypeId) (a : AV) : Option AV := match a with
  | .int _ n => ob (P.underlying s) fun _ => ob (P.underlying t) fun d => (match d with | .int k => some (.int k (xwrap k n)) | _ => none)
  | _ => none
/-- where a table of conversions between integers stands -/
def cvIx (s t : Nat) : Nat := Nat.add 1000000 (Nat.add (Nat.mul 1000 s) t)
def pBuildSlice (P : Program) (h : Heap) (t : TypeId) (len : Nat) (l : List (Nat × AV)) : Option (AV × Heap) := ob (P.underlying t) fun d => (match d with
    | .slice elem => ob (szOf P elem) fun s => ob (zeroC P elem) fun z => sel (Nat.beq z.length s) (sel (Nat.ble (Nat.mul len s) 16777216) (ob (layParts (fun i => some (Nat.mul i s, s)) (repL len z) l) fun cs =>
        (match newCells h elem cs with | (b, h') => some (.slice b 0 len (some len), h'))) none) none
    | _ => none)
def pIface (P : Program) (t : TypeId) (v : AV) : Option AV := ob (P.underlying t) fun d => (match d with | .interface _ => none | _ => some (.iface t v))
def pLen (P : Program) (h : Heap) (ts : List TypeId) (args : List AV) : Option AV := match ts with | t :: _ => (match args with | x :: _ => xlen P h t x | _ => none) | _ => none
def pCap (P : Program) (ts : List TypeId) (args : List AV) : Option AV := match ts with | t :: _ => (match args with | x :: _ => xcap P t x | _ => none) | _ => none
def pMinmax (m : Bool) (args : List AV) : Option AV := match args with | [x, y] => xminmax m x y | _ => none
def pDelete (P : Program) (h : Heap) (ts : List TypeId) (args : List AV) : Option Heap := match ts with | t :: _ => (match args with | x :: y :: _ => xdelete P h t x y | _ => none) | _ => none

def callA (P : Program) (G : Nat) (C : Nat → Fwd) (E : Ev) (e : Env) (c : Call) (h : Heap) : Ac := match c.callee with
  | .value f => (match f with
    | .func f => .eff (obM (opds G e c.args.toList) fun args => xgo ⟨P, G, C, E⟩ f args h)
    | x => .eff (obM (opds G e c.args.toList) fun args => obM (opdF x G e) fun f => xcallV ⟨P, G, C, E⟩ f args h))
  | .builtin b => (match b with
    | .len => .pur (obM (opds G e c.args.toList) fun args => pLen P h c.argTypes.toList args)
    | .cap => .pur (obM (opds G e c.args.toList) fun args => pCap P c.argTypes.toList args)
    | .max => .pur (obM (opds G e c.args.toList) fun args => pMinmax true args)
    | .min => .pur (obM (opds G e c.args.toList) fun args => pMinmax false args)
    | .delete => .sto (obM (opds G e c.args.toList) fun args => pDelete P h c.argTypes.toList args)
    | b => .eff (obM (opds G e c.args.toList) fun args => xbuiltin ⟨P, G, C, E⟩ b c.argTypes.toList args h))
  | _ => .eff none
theorem callA_res (P : Program) (G : Nat) (C : Nat → Fwd) (E : Ev) (e : Env) (c : Call) (h : Heap) : (callA P G C E e c h).res h = xcallO ⟨P, G, C, E⟩ e c h := by
  unfold callA xcallO
  cases hc : c.callee with
  | value f =>
    cases f with
    | func f => rfl
    | _ => simp only [Ac.res, obM_eq, opdF_eq]
  | builtin b =>
    cases b <;> try rfl
    all_goals (simp only [Ac.res, obM_eq, ob_assoc, xbuiltin]; congr 1; funext args)
    all_goals (cases c.argTypes.toList <;> cases args <;> try rfl)
    all_goals (rename_i l; cases l <;> try rfl)
    all_goals (rename_i l; cases l <;> rfl)
  | invoke r m => simp only [Ac.res]; cases opds G e c.args.toList <;> rfl

def xopA (P : Program) (G : Nat) (C : Nat → Fwd) (E : Ev) (op : Op) (e : Env) (h : Heap) : Ac := match op with
  | .move x => .val (opdF x G e)
  | .assign x => .val (opdF x G e)
  | .pick c a b => .pur (obM (opdF c G e) fun v => pPick v (opdF a G e) (opdF b G e))
  | .alloc t => .eff (ob (zeroC P t) fun z => some (pNew h t z))
  | .box t x => .eff (obM (opdF x G e) fun v => some (pNew h t v.cells))
  | .build t ps => .pur (obM (partOpds G e ps.toList) fun l => xbuild P t l)
  | .buildSlice t len ps => .eff (obM (partOpds G e ps.toList) fun l => pBuildSlice P h t len l)
  | .load t a => .pur (obM (opdF a G e) fun p => pLoad P t p h)
  | .store t a x => .sto (obM (opdF a G e) fun p => obM (opdF x G e) fun v => pStore P t p v h)
  | .nilCheck x => .pur (obM (opdF x G e) fun v => pNil v)
  | .binOp op t x y _ => .pur (obM (opdF x G e) fun a => obM (opdF y G e) fun b => xbin P op t (sel (isConstO x) true (isConstO y)) a b)
  | .unOp op _ x => .pur (obM (opdF x G e) fun a => xun op a)
  | .convert s t x => (match C (cvIx s t) with | .mkNoZero => .pur (obM (opdF x G e) fun a => pInt P s t a) | _ => .eff (obM (opdF x G e) fun a => pConv P h s t a))
  | .makeInterface t x => .pur (obM (opdF x G e) fun v => pIface P t v)
  | .makeFunc fn a b => (match fn with | .func f => .val (obM (opds G e a.toList) fun x => obM (opds G e b.toList) fun y => some (.func f x y)) | _ => .eff none)
  | .makeMap t r => (match r with
    | none => .eff (some (pMakeMap h))
    | some x => .eff (ob (P.underlying t) fun d => (match d with | .map _ _ => obM (opd G e x) fun v => (match v with | .int _ _ => some (.map h.nx, ⟨Nat.succ h.nx, h.ob.set h.nx (some (.map []))⟩) | _ => none) | _ => none)))
  | .makeSlice t l c => .eff (obM (opdF l G e) fun x => obM (opdF c G e) fun y => xmake P h t x y)
  | .slice t x lo hi mx => .eff (obM (opdF x G e) fun v => obM (opdO G e lo) fun l => obM (opdO G e hi) fun hh => obM (opdO G e mx) fun m => xslice P h t v l hh m)
  | .fieldAddr s x f => .pur (obM (opdF x G e) fun p => pFieldAddr P s f p)
  | .field s x f => .pur (obM (opdF x G e) fun p => pField P s f p)
  | .indexAddr t x i => .pur (obM (opdF x G e) fun a => obM (opdF i G e) fun b => xindexAddr P t a b)
  | .index t x i => .pur (obM (opdF x G e) fun a => obM (opdF i G e) fun b => xindex P t a b)
  | .lookup t x i ok => .pur (obM (opdF x G e) fun a => obM (opdF i G e) fun b => xlookup P h t a b ok)
  | .mapUpdate t m k x => .sto (obM (opdF m G e) fun a => obM (opdF k G e) fun b => obM (opdF x G e) fun v => xmapSet P h t a b v)
  | .insert t m k x => .sto (obM (opdF m G e) fun a => obM (opdF k G e) fun b => obM (opdF x G e) fun v => xmapSet P h t a b v)
  | .extract x i => .pur (obM (opdF x G e) fun v => pExtract i v)
  | .call c => callA P G C E e c h
  | _ => .eff none

theorem ob_pair (x : Option (AV × Heap)) : (ob x fun r => some r) = x := by cases x <;> rfl
theorem xopA_res (P : Program) (G : Nat) (C : Nat → Fwd) (E : Ev) (op : Op) (e : Env) (h : Heap) {r : AV × Heap} (hx : (xopA P G C E op e h).res h = some r) : xop ⟨P, G, C, E⟩ op e h = some r := by
  rw [← hx]
  symm
  cases op with
  | move x => simp only [xopA, xop, obM_eq, Ac.res, opdF_eq, pure']
  | assign x => simp only [xopA, xop, obM_eq, Ac.res, opdF_eq, pure']
  | pick c a b =>
    simp only [xopA, xop, obM_eq, Ac.res, opdF_eq, ob_assoc]
    congr 1; funext v
    cases v <;> try rfl
    rename_i t; cases t <;> rfl
  | alloc t => simp only [xopA, xop, obM_eq, Ac.res]; rfl
  | box t x => simp only [xopA, xop, obM_eq, Ac.res, opdF_eq]; rfl
  | build t ps => simp only [xopA, xop, obM_eq, Ac.res, pure', ob_assoc]
  | buildSlice t len ps => simp only [xopA, xop, obM_eq, Ac.res]; rfl
  | load t a =>
    simp only [xopA, xop, obM_eq, Ac.res, opdF_eq, ob_assoc]
    congr 1; funext v
    cases v <;> rfl
  | store t a x =>
    simp only [xopA, xop, obM_eq, Ac.res, opdF_eq, ob_assoc]
    congr 1; funext v
    congr 1; funext u
    cases v <;> rfl
  | nilCheck x =>
    simp only [xopA, xop, obM_eq, Ac.res, opdF_eq, ob_assoc]
    congr 1; funext v
    cases v <;> rfl
  | binOp op t x y _ => simp only [xopA, xop, obM_eq, Ac.res, opdF_eq, ob_assoc, pure']
  | unOp op _ x => simp only [xopA, xop, obM_eq, Ac.res, opdF_eq, ob_assoc, pure']
  | convert s t x =>
    have hg : xop ⟨P, G, C, E⟩ (.convert s t x) e h = ob (opdF x G e) fun a => pConv P h s t a := by simp only [xop, opdF_eq]; rfl
    rw [hg]
    have heff : xopA P G C E (.convert s t x) e h = (match C (cvIx s t) with | .mkNoZero => .pur (ob (opdF x G e) fun a => pInt P s t a) | _ => .eff (ob (opdF x G e) fun a => pConv P h s t a)) := rfl
    rw [heff] at hx ⊢
    split
    · rename_i hc
      rw [hc] at hx
      simp only [Ac.res, obM_eq, ob_assoc] at hx
      replace hx := ob_eq hx
      obtain ⟨a, ha, hx⟩ := hx
      simp only [Ac.res, obM_eq, ha, ob_some]
      unfold pInt at hx ⊢
      cases a <;> (try simp only at hx) <;> try (cases hx; done)
      cases hs : P.underlying s with
      | none => rw [hs] at hx; cases hx
      | some ds => cases ht : P.underlying t with
        | none => rw [hs, ht] at hx; cases hx
        | some dt => simp only [pConv, xconv, pure', hs, ht, ob_some]; rfl
    · rfl
  | makeInterface t x =>
    simp only [xopA, xop, obM_eq, Ac.res, opdF_eq, ob_assoc]
    congr 1; funext v
    unfold pIface
    cases P.underlying t with
    | none => rfl
    | some d => cases d <;> rfl
  | makeFunc fn a b => cases fn <;> simp only [xopA, xop, obM_eq, Ac.res, ob_assoc, ob_some]
  | makeMap t r => cases r <;> simp only [xopA, xop, obM_eq, Ac.res] <;> rfl
  | makeSlice t l c => simp only [xopA, xop, obM_eq, Ac.res, opdF_eq]
  | slice t x lo hi mx => simp only [xopA, xop, obM_eq, Ac.res, opdF_eq]
  | fieldAddr s x f =>
    simp only [xopA, xop, obM_eq, Ac.res, opdF_eq, ob_assoc]
    congr 1; funext v
    cases v <;> rfl
  | field s x f =>
    simp only [xopA, xop, obM_eq, Ac.res, opdF_eq, ob_assoc]
    congr 1; funext v
    cases v <;> rfl
  | indexAddr t x i => simp only [xopA, xop, obM_eq, Ac.res, opdF_eq, ob_assoc, pure']
  | index t x i => simp only [xopA, xop, obM_eq, Ac.res, opdF_eq, ob_assoc, pure']
  | lookup t x i ok => simp only [xopA, xop, obM_eq, Ac.res, opdF_eq, ob_assoc, pure']
  | mapUpdate t m k x => simp only [xopA, xop, obM_eq, Ac.res, opdF_eq, ob_assoc, unit']
  | insert t m k x => simp only [xopA, xop, obM_eq, Ac.res, opdF_eq, ob_assoc, unit']
  | extract x i =>
    simp only [xopA, xop, obM_eq, Ac.res, opdF_eq, ob_assoc]
    congr 1; funext v
    cases v <;> rfl
  | call c => exact callA_res P G C E e c h
  | _ => rfl
end
end Go.Th

namespace Go.Th
noncomputable section

/-! Sets of temporaries, as bits. -/
def bitOf (t : Nat) : Nat := Nat.pow 2 t
def bitsMinus (a b : Nat) : Nat := Nat.sub a (Nat.land a b)
def opdBits : Operand → Nat := Operand.rec (motive := fun _ => Nat) (fun t => bitOf t) (fun _ => 0) (fun _ => 0) (fun _ => 0)
def opdsBits : List Operand → Nat
  | [] => 0
  | x :: l => Nat.lor (opdBits x) (opdsBits l)
def operR (slots : List (Option Tmp)) (o : Oper) : Nat := Nat.lor (opdsBits o.op.operands.toList) (match o.guard with
  | some (j, _) => (match slots[j]? with | some (some s) => bitOf s | _ => 0)
  | none => 0)
def operW (o : Oper) : Nat := match o.dst with | some t => bitOf t | none => 0
def opersIn (slots : List (Option Tmp)) : List Oper → Nat → Nat
  | [], lv => lv
  | o :: l, lv => Nat.lor (operR slots o) (bitsMinus (opersIn slots l lv) (operW o))
def paramsBits : List Tmp → Nat
  | [] => 0
  | t :: l => Nat.lor (bitOf t) (paramsBits l)
/-- what is read later: ahead of a piece of code, by what is read behind it -/
def liveIn (rm : Nat) : Code → Nat → (Nat → Nat) → Nat := Code.rec (motive := fun _ => Nat → (Nat → Nat) → Nat)
  (fun lv _ => lv)
  (fun _ ops _ lv _ => opersIn (slotsOf ops.toList) ops.toList lv)
  (fun _ _ ia ib lv lx => ia (ib lv lx) lx)
  (fun c _ _ ia ib lv lx => Nat.lor (opdBits c) (Nat.lor (ia lv lx) (ib lv lx)))
  (fun id _ ic lv lx => ic lv (fun i => sel (Nat.beq i id) lv (lx i)))
  (fun _ ic _ lx => ic 0 lx)
  (fun g ps _ _ ia ib lv lx => Nat.lor (opdBits g) (Nat.lor lv (bitsMinus (ia (ib 0 lx) lx) (paramsBits ps.toList))))
  (fun i _ lx => lx i)
  (fun _ _ lv _ => lv)
  (fun _ lv _ => lv)
  (fun _ lv _ => lv)
  (fun _ _ => rm)
  (fun _ lv _ => lv)
def straight : Code → Bool := Code.rec (motive := fun _ => Bool) true (fun _ _ _ => true) (fun _ _ ia ib => sel ia ib false) (fun _ _ _ _ _ => false) (fun _ _ _ => false) (fun _ _ => false) (fun _ _ _ _ _ _ => false) (fun _ => false) (fun _ _ => false) (fun _ => true) (fun _ => false) false (fun _ => false)

/-! An environment without what is not read. -/
section
variable {α : Type}
def Tri.mk (v : Option α) (l r : Tri α) : Tri α := Option.rec (motive := fun _ => Tri α)
  (Tri.rec (motive := fun _ => Tri α) (Tri.rec (motive := fun _ => Tri α) .lf (fun a b c _ _ => .nd none .lf (.nd a b c)) r) (fun a b c _ _ => .nd none (.nd a b c) r) l) (fun x => .nd (some x) l r) v
def Tri.cutF (keep : Nat → Bool) : Tri α → Nat → Nat → Tri α := Tri.rec (motive := fun _ => Nat → Nat → Tri α) (fun _ _ => .lf)
  (fun v _ _ il ir a b => Tri.mk (sel (keep (Nat.pred (Nat.add a b))) v none) (il (Nat.mul 2 a) (Nat.add a b)) (ir (Nat.mul 2 a) b))
theorem Tri.get_mk (v : Option α) (l r : Tri α) (n : Nat) : (Tri.mk v l r).get n = (Tri.nd v l r).get n := by
  cases v with
  | some x => rfl
  | none =>
    cases l with
    | nd a b c => rfl
    | lf =>
      cases r with
      | nd a b c => rfl
      | lf =>
        rw [Tri.get_nd]
        show none = _
        split
        · rfl
        · split <;> rfl
theorem Tri.get_cutF (keep : Nat → Bool) : ∀ (t : Tri α) (a b n : Nat) (x : α), (Tri.cutF keep t a b).get n = some x → t.get n = some x := by
  intro t
  induction t with
  | lf => intro a b n x h; cases h
  | nd v l r il ir =>
    intro a b n x h
    have h : (Tri.mk (sel (keep (Nat.pred (Nat.add a b))) v none) (Tri.cutF keep l (Nat.mul 2 a) (Nat.add a b)) (Tri.cutF keep r (Nat.mul 2 a) b)).get n = some x := h
    rw [Tri.get_mk, Tri.get_nd] at h
    rw [Tri.get_nd]
    by_cases h1 : n = 1
    · rw [if_pos h1] at h ⊢
      cases hk : keep (Nat.pred (Nat.add a b)) with
      | true => rw [hk] at h; exact h
      | false => rw [hk] at h; cases h
    · rw [if_neg h1] at h ⊢
      by_cases h2 : n % 2 = 1
      · rw [if_pos h2] at h ⊢; exact il _ _ _ _ h
      · rw [if_neg h2] at h ⊢; exact ir _ _ _ _ h
end
def hasBit (m i : Nat) : Bool := Nat.beq (Nat.land (Nat.shiftRight m i) 1) 1
def cut (m : Nat) (e : Env) : Env := Tri.cutF (hasBit m) e 1 0
def cutB (cf : Bool) (m : Nat) (e : Env) : Env := sel cf (cut m e) e
theorem cut_at {m : Nat} {e : Env} {i : Nat} {v : AV} (h : (cut m e).at i = some v) : e.at i = some v := Tri.get_cutF _ _ _ _ _ _ h
theorem cutB_at {cf : Bool} {m : Nat} {e : Env} {i : Nat} {v : AV} (h : (cutB cf m e).at i = some v) : e.at i = some v := by
  cases cf
  · exact h
  · exact cut_at h

/-! Steps. -/
section
variable (P : Program) (G : Nat) (C : Nat → Fwd) (E : Ev) (slots : List (Option Tmp))
def stepA (o : Oper) (e : Env) (h : Heap) (k : Ke) : Res := Option.rec (motive := fun _ => Res)
    ((xopA P G C E o.op e h).go h fun v h' => k (putE e o.dst v) h')
    (fun _ => ob (wantA slots e o) fun b => ((xopA P G C E o.op e h).guard b h).go h fun v h' => k (putE e o.dst v) h') o.guard
def stepsA : List Oper → Env → Heap → Ke → Res :=
  List.rec (motive := fun _ => Env → Heap → Ke → Res) (fun e h k => k e h) (fun o _ ih e h k => stepA P G C E slots o e h fun e' h' => ih e' h' k)
end

section
variable {P : Program} {G : Nat} {C : Nat → Fwd} {E : Ev} {slots : List (Option Tmp)} {N : Nat}
theorem stepA_ex {o : Oper} {e : Env} {h : Heap} {k : Ke} {r : AV × Heap} (hx : stepA P G C E slots o e h k = some r) (hd : dstOk N o.dst = true) :
    ∃ e' h', xstep ⟨P, G, C, E⟩ N slots o e h = some (e', h') ∧ k e' h' = some r := by
  unfold stepA at hx
  unfold xstep
  rw [hd, sel_true]
  cases hg : o.guard with
  | none =>
    rw [hg] at hx
    have hx : (xopA P G C E o.op e h).go h (fun v h' => k (putE e o.dst v) h') = some r := hx
    rw [Ac.go_eq] at hx
    replace hx := ob_eq hx
    obtain ⟨⟨v, h'⟩, h1, h2⟩ := hx
    refine ⟨_, _, ?_, h2⟩
    simp only [wantE, hg, ob_some, sel_true, xopA_res _ _ _ _ _ _ _ h1]
  | some g =>
    rw [hg] at hx
    have hx : (ob (wantE slots e o) fun b => ((xopA P G C E o.op e h).guard b h).go h fun v h' => k (putE e o.dst v) h') = some r := hx
    replace hx := ob_eq hx
    obtain ⟨b, hb, hx⟩ := hx
    rw [Ac.go_eq, Ac.guard_res] at hx
    replace hx := ob_eq hx
    obtain ⟨⟨v, h'⟩, h1, h2⟩ := hx
    refine ⟨_, _, ?_, h2⟩
    rw [hb, ob_some]
    cases b with
    | true => rw [sel_true] at h1; rw [sel_true, xopA_res _ _ _ _ _ _ _ h1, ob_some]
    | false => rw [sel_false] at h1; cases h1; rw [sel_false]
theorem stepsA_ex {r : AV × Heap} : ∀ (l : List Oper), allDst N l = true → ∀ (e : Env) (h : Heap) (k : Ke), stepsA P G C E slots l e h k = some r →
    ∃ e' h', xsteps ⟨P, G, C, E⟩ N slots l e h = some (e', h') ∧ k e' h' = some r := by
  intro l
  induction l with
  | nil => intro _ e h k hx; exact ⟨e, h, rfl, hx⟩
  | cons o l ih =>
    intro hd e h k hx
    unfold allDst at hd
    rw [sel_eq] at hd
    split at hd
    · rename_i ho
      have hx : stepA P G C E slots o e h (fun e' h' => stepsA P G C E slots l e' h' k) = some r := hx
      obtain ⟨e1, h1, q1, q2⟩ := stepA_ex (N := N) hx ho
      obtain ⟨e2, h2, q3, q4⟩ := ih hd e1 h1 k q2
      exact ⟨e2, h2, by rw [xsteps, q1, ob_some]; exact q3, q4⟩
    · cases hd
end

/-! Regions that draw. -/
def Ac.go1 (h : Heap) (k : AV → Heap → Res) : Ac → Res
  | .val x => obM x fun v => k v h
  | .pur x => ob x fun v => k v h
  | .eff x => obP x fun v h' => sel (Nat.beq h'.nx h.nx) (k v h') none
  | .sto x => ob x fun h' => sel (Nat.beq h'.nx h.nx) (k (.tuple []) h') none
theorem Ac.go1_eq {h : Heap} {k : AV → Heap → Res} {a : Ac} {r : AV × Heap} (hx : a.go1 h k = some r) : ∃ v h', a.res h = some (v, h') ∧ Nat.beq h'.nx h.nx = true ∧ k v h' = some r := by
  cases a with
  | val x =>
    replace hx := ob_eq hx
    obtain ⟨v, h1, h2⟩ := hx
    exact ⟨v, h, by simp only [Ac.res, h1, ob_some], Nat.beq_refl _, h2⟩
  | pur x =>
    replace hx := ob_eq hx
    obtain ⟨v, h1, h2⟩ := hx
    exact ⟨v, h, by simp only [Ac.res, h1, ob_some], Nat.beq_refl _, h2⟩
  | eff x =>
    replace hx := ob_eq hx
    obtain ⟨⟨v, h'⟩, h1, h2⟩ := hx
    replace h2 := sel_some h2
    exact ⟨v, h', h1, h2.1, h2.2⟩
  | sto x =>
    replace hx := ob_eq hx
    obtain ⟨h', h1, h2⟩ := hx
    replace h2 := sel_some h2
    exact ⟨_, h', by simp only [Ac.res, h1, ob_some], h2.1, h2.2⟩
def chkV (v : AV) (x : Option AV) : Bool := match x with | some u => avEq 4 v u | none => false
/-- read once more: is it as it was? -/
def Ac.chk (h : Heap) (v : AV) : Ac → Bool
  | .val x => chkV v x
  | .pur x => chkV v x
  | .eff x => (match x with | some r => sel (Nat.beq r.2.nx h.nx) (avEq 4 v r.1) false | none => false)
  | .sto _ => false
theorem Ac.chk_eq {h : Heap} {v : AV} {a : Ac} (hx : a.chk h v = true) : ∃ u h', a.res h = some (u, h') ∧ Nat.beq h'.nx h.nx = true ∧ avEq 4 v u = true := by
  cases a with
  | val x =>
    unfold Ac.chk chkV at hx
    cases x with
    | none => cases hx
    | some u => exact ⟨u, h, rfl, Nat.beq_refl _, hx⟩
  | pur x =>
    unfold Ac.chk chkV at hx
    cases x with
    | none => cases hx
    | some u => exact ⟨u, h, rfl, Nat.beq_refl _, hx⟩
  | eff x =>
    unfold Ac.chk at hx
    cases x with
    | none => cases hx
    | some r =>
      obtain ⟨u, h'⟩ := r
      simp only at hx
      rw [sel_eq] at hx
      split at hx
      · rename_i q; exact ⟨u, h', rfl, q, hx⟩
      · cases hx
  | sto x => cases hx

section
variable (P : Program) (G : Nat) (C : Nat → Fwd) (E : Ev) (slots : List (Option Tmp)) (ops : List Oper)
def isRead (o : Oper) : Bool := Nat.beq (opCls o.op) 1
def stepN (o : Oper) (e : Env) (h : Heap) (k : Ke) : Res := Bool.rec (motive := fun _ => Res) (stepA P G C E slots o e h k) (Option.rec (motive := fun _ => Res)
    ((xopA P G C E o.op e h).go1 h fun v h' => k (putE e o.dst v) h')
    (fun _ => ob (wantA slots e o) fun b => ((xopA P G C E o.op e h).guard b h).go1 h fun v h' => k (putE e o.dst v) h') o.guard) (isRead o)
def runsA : List Nat → Env → Heap → Ke → Res :=
  List.rec (motive := fun _ => Env → Heap → Ke → Res) (fun e h k => k e h) (fun i _ ih e h k => obM ops[i]? fun o => stepN P G C E slots o e h fun e' h' => ih e' h' k)
def chkA (o : Oper) (e : Env) (h : Heap) : Option Bool := obM o.dst fun d => obM (e.at d) fun v => Option.rec (motive := fun _ => Option Bool) (some ((xopA P G C E o.op e h).chk h v))
    (fun _ => ob (wantA slots e o) fun b => some (sel b ((xopA P G C E o.op e h).chk h v) true)) o.guard
def chksA : List Nat → Env → Heap → Res → Res :=
  List.rec (motive := fun _ => Env → Heap → Res → Res) (fun _ _ k => k) (fun i _ ih e h k => obM ops[i]? fun o => obM (chkA P G C E slots o e h) fun b => sel b (ih e h k) none)
def phasesA : List Phase → Env → Heap → Ke → Res :=
  List.rec (motive := fun _ => Env → Heap → Ke → Res) (fun _ _ _ => none) (fun p _ ih e h k => runsA P G C E slots ops p.run e h fun e1 h1 => chksA P G C E slots ops p.chk e1 h1
    (Option.rec (motive := fun _ => Res) (k e1 h1) (fun c => obM ops[c]? fun o => stepA P G C E slots o e1 h1 fun e2 h2 => ih e2 h2 k) p.act))
end
section
variable {P : Program} {G : Nat} {C : Nat → Fwd} {E : Ev} {slots : List (Option Tmp)} {ops : List Oper} {N : Nat}
theorem allDst_get : ∀ {l : List Oper}, allDst N l = true → ∀ {i : Nat} {o : Oper}, l[i]? = some o → dstOk N o.dst = true := by
  intro l
  induction l with
  | nil => intro _ i o h; simp at h
  | cons x l ih =>
    intro hd i o h
    unfold allDst at hd
    rw [sel_eq] at hd
    split at hd
    · rename_i hx
      cases i with
      | zero => simp at h; subst h; exact hx
      | succ i => exact ih hd (by simpa using h)
    · cases hd
theorem stepN_ex {o : Oper} {e : Env} {h : Heap} {k : Ke} {r : AV × Heap} (hx : stepN P G C E slots o e h k = some r) (hd : dstOk N o.dst = true) :
    ∃ e' h', xstepN ⟨P, G, C, E⟩ N slots o e h = some (e', h') ∧ k e' h' = some r := by
  unfold stepN at hx
  unfold xstepN
  cases hr : isRead o with
  | false =>
    rw [hr] at hx
    obtain ⟨e', h', q1, q2⟩ := stepA_ex (N := N) hx hd
    refine ⟨e', h', ?_, q2⟩
    rw [q1, ob_some]
    unfold isRead at hr
    split
    · rename_i hc; rw [hc] at hr; cases hr
    · rfl
  | true =>
    rw [hr] at hx
    have h1c : opCls o.op = 1 := Nat.eq_of_beq_eq_true hr
    simp only [h1c]
    have key : ∃ v h', (match wantE slots e o with | some true => (xopA P G C E o.op e h).res h | some false => some (.tuple [], h) | none => none) = some (v, h') ∧ Nat.beq h'.nx h.nx = true ∧ k (putE e o.dst v) h' = some r := by
      cases hg : o.guard with
      | none =>
        rw [hg] at hx
        obtain ⟨v, h', q1, q2, q3⟩ := Ac.go1_eq (a := xopA P G C E o.op e h) hx
        exact ⟨v, h', by simp only [wantE, hg]; exact q1, q2, q3⟩
      | some g =>
        rw [hg] at hx
        have hx : (ob (wantE slots e o) fun b => ((xopA P G C E o.op e h).guard b h).go1 h fun v h' => k (putE e o.dst v) h') = some r := hx
        replace hx := ob_eq hx
        obtain ⟨b, hb, hx⟩ := hx
        obtain ⟨v, h', q1, q2, q3⟩ := Ac.go1_eq hx
        rw [Ac.guard_res] at q1
        refine ⟨v, h', ?_, q2, q3⟩
        rw [hb]
        cases b <;> exact q1
    obtain ⟨v, h', q1, q2, q3⟩ := key
    refine ⟨putE e o.dst v, h', ?_, q3⟩
    unfold xstep
    rw [hd, sel_true]
    cases hw : wantE slots e o with
    | none => rw [hw] at q1; cases q1
    | some b =>
      rw [hw] at q1
      cases b with
      | true => rw [ob_some, sel_true, xopA_res _ _ _ _ _ _ _ q1, ob_some]; simp only [ob_some]; rw [q2, sel_true]
      | false => cases q1; rw [ob_some, sel_false, ob_some]; simp only; rw [q2, sel_true]
theorem runsA_ex (hd : allDst N ops = true) {r : AV × Heap} : ∀ (l : List Nat) (e : Env) (h : Heap) (k : Ke), runsA P G C E slots ops l e h k = some r →
    ∃ e' h', xruns ⟨P, G, C, E⟩ N slots ops l e h = some (e', h') ∧ k e' h' = some r := by
  intro l
  induction l with
  | nil => intro e h k hx; exact ⟨e, h, rfl, hx⟩
  | cons i l ih =>
    intro e h k hx
    have hx : (ob ops[i]? fun o => stepN P G C E slots o e h fun e' h' => runsA P G C E slots ops l e' h' k) = some r := hx
    replace hx := ob_eq hx
    obtain ⟨o, ho, hx⟩ := hx
    obtain ⟨e1, h1, q1, q2⟩ := stepN_ex (N := N) hx (allDst_get hd ho)
    obtain ⟨e2, h2, q3, q4⟩ := ih e1 h1 k q2
    exact ⟨e2, h2, by rw [xruns, ho, ob_some, q1, ob_some]; exact q3, q4⟩
theorem chksA_ex {r : AV × Heap} {k : Res} : ∀ (l : List Nat) (e : Env) (h : Heap), chksA P G C E slots ops l e h k = some r → xchks ⟨P, G, C, E⟩ slots ops l e h = true ∧ k = some r := by
  intro l
  induction l with
  | nil => intro e h hx; exact ⟨rfl, hx⟩
  | cons i l ih =>
    intro e h hx
    have hx : (ob ops[i]? fun o => ob (chkA P G C E slots o e h) fun b => sel b (chksA P G C E slots ops l e h k) none) = some r := hx
    replace hx := ob_eq hx
    obtain ⟨o, ho, hx⟩ := hx
    replace hx := ob_eq hx
    obtain ⟨b, hb, hx⟩ := hx
    replace hx := sel_some hx
    obtain ⟨hbt, hx⟩ := hx
    subst hbt
    obtain ⟨q1, q2⟩ := ih e h hx
    refine ⟨?_, q2⟩
    rw [xchks, ho]
    simp only
    rw [q1]
    have : xchk ⟨P, G, C, E⟩ slots o e h = true := by
      unfold chkA at hb
      replace hb := ob_eq hb
      obtain ⟨d, hdst, hb⟩ := hb
      replace hb := ob_eq hb
      obtain ⟨v, hv, hb⟩ := hb
      unfold xchk
      have key : (xopA P G C E o.op e h).chk h v = true → (match xop ⟨P, G, C, E⟩ o.op e h with
          | some (u, h') => sel (Nat.beq h'.nx h.nx) (match o.dst with
            | some d => (match e.at d with
              | some v => avEq 4 v u
              | none => false)
            | none => true) false
          | none => false) = true := by
        intro hk
        obtain ⟨u, h', k1, k2, k3⟩ := Ac.chk_eq hk
        rw [xopA_res _ _ _ _ _ _ _ k1]
        simp only [hdst, hv, k2, sel_true, k3]
      cases hg : o.guard with
      | none =>
        rw [hg] at hb
        simp only [Option.some.injEq] at hb
        simp only [wantE, hg]
        exact key hb
      | some g =>
        rw [hg] at hb
        have hb : (ob (wantE slots e o) fun b => some (sel b ((xopA P G C E o.op e h).chk h v) true)) = some true := hb
        replace hb := ob_eq hb
        obtain ⟨b, hw, hb⟩ := hb
        rw [hw]
        cases b with
        | true => exact key (by simpa [sel_true] using hb)
        | false => rfl
    rw [this]; rfl
theorem phasesA_ex (hd : allDst N ops = true) {r : AV × Heap} : ∀ (l : List Phase) (e : Env) (h : Heap) (k : Ke), phasesA P G C E slots ops l e h k = some r →
    ∃ e' h', xphases ⟨P, G, C, E⟩ N slots ops l e h = some (e', h') ∧ k e' h' = some r := by
  intro l
  induction l with
  | nil => intro e h k hx; cases hx
  | cons p l ih =>
    intro e h k hx
    have hx : runsA P G C E slots ops p.run e h (fun e1 h1 => chksA P G C E slots ops p.chk e1 h1
      (Option.rec (motive := fun _ => Res) (k e1 h1) (fun c => ob ops[c]? fun o => stepA P G C E slots o e1 h1 fun e2 h2 => phasesA P G C E slots ops l e2 h2 k) p.act)) = some r := hx
    obtain ⟨e1, h1, q1, hx⟩ := runsA_ex hd _ _ _ _ hx
    obtain ⟨q2, hx⟩ := chksA_ex _ _ _ hx
    rw [xphases, q1, ob_some]
    simp only
    rw [q2, sel_true]
    cases ha : p.act with
    | none => rw [ha] at hx; exact ⟨e1, h1, rfl, hx⟩
    | some c =>
      rw [ha] at hx
      have hx : (ob ops[c]? fun o => stepA P G C E slots o e1 h1 fun e2 h2 => phasesA P G C E slots ops l e2 h2 k) = some r := hx
      replace hx := ob_eq hx
      obtain ⟨o, ho, hx⟩ := hx
      obtain ⟨e2, h2, q3, hx⟩ := stepA_ex (N := N) hx (allDst_get hd ho)
      obtain ⟨e3, h3, q4, q5⟩ := ih e2 h2 k hx
      refine ⟨e3, h3, ?_, q5⟩
      simp only [ho, ob_some, q3]
      exact q4
end
def regionA (P : Program) (G : Nat) (C : Nat → Fwd) (E : Ev) (N : Nat) (ops : Array Oper) (draw : Bool) (e : Env) (h : Heap) (k : Ke) : Res := sel (allDst N ops.toList) (Bool.rec (motive := fun _ => Res)
  (stepsA P G C E (slotsOf ops.toList) ops.toList e h k)
  (sel (planOk ops.toList (planOf ops.toList)) (phasesA P G C E (slotsOf ops.toList) ops.toList (planOf ops.toList) e h k) none) draw) none
theorem regionA_ex {P : Program} {G : Nat} {C : Nat → Fwd} {E : Ev} {N : Nat} {ops : Array Oper} {draw : Bool} {k : Ke} {e : Env} {h : Heap} {r : AV × Heap} (hx : regionA P G C E N ops draw e h k = some r) :
    ∃ e' h', xregion ⟨P, G, C, E⟩ N ops.toList draw e h = some (e', h') ∧ k e' h' = some r := by
  unfold regionA at hx
  replace hx := sel_some hx
  obtain ⟨hd, hx⟩ := hx
  unfold xregion
  cases draw with
  | false => rw [sel_false]; exact stepsA_ex _ hd _ _ _ hx
  | true =>
    have hx : sel (planOk ops.toList (planOf ops.toList)) (phasesA P G C E (slotsOf ops.toList) ops.toList (planOf ops.toList) e h k) none = some r := hx
    replace hx := sel_some hx
    obtain ⟨hp, hx⟩ := hx
    rw [sel_true, hp, sel_true]
    exact phasesA_ex hd _ _ _ _ hx
end
end Go.Th

namespace Go.Th
noncomputable section

def pIf (v : AV) (a b : Res) : Res := match v with | .bool t => sel t a b | _ => none
/-- behind a range over a function -/
def pEnd (o : Ob) (a : Res) (b : Nat → Res) (c : Res) : Res := match o with
  | .loop 0 none _ _ _ _ _ => a
  | .loop 2 (some j) _ _ _ _ _ => (match j with | .ret => c | .exit i => b i | _ => none)
  | _ => none
theorem pEnd_eq (kn : K) (kx : Nat → K) (kr : K) (o : Ob) (e : Env) (h : Heap) : xendLoop kn kx kr o e h = pEnd o (kn e h) (fun i => kx i e h) (kr e h) := by
  cases o with
  | cells => rfl
  | map => rfl
  | loop st pd env N ps as bd =>
    match st, pd with
    | 0, none => rfl
    | 0, some _ => rfl
    | 1, none => rfl
    | 1, some _ => rfl
    | 2, none => rfl
    | 2, some c => cases c <;> rfl
    | n + 3, none => rfl
    | n + 3, some _ => rfl
def rangeA (P : Program) (G : Nat) (C : Nat → Fwd) (E : Ev) (N : Nat) (rd : Option Nat) (g : Operand) (ps : Array Tmp) (assign body : Code) (a : Heap → Res) (b : Nat → Heap → Res) (c : Heap → Res) (e : Env) (h : Heap) : Res :=
  obM (opdF g G e) fun f => sel (roundOk rd h) (obP (xranged ⟨P, G, C, E⟩ f (.yield h.nx) ⟨Nat.succ h.nx, h.ob.set h.nx (some (.loop 0 none e N ps.toList assign body))⟩) fun _ h2 =>
    ob (h2.ob.at h.nx) fun o => pEnd o (a ⟨h2.nx, h2.ob.set h.nx none⟩) (fun i => b i ⟨h2.nx, h2.ob.set h.nx none⟩) (c ⟨h2.nx, h2.ob.set h.nx none⟩)) none
theorem rangeA_eq (P : Program) (G : Nat) (C : Nat → Fwd) (E : Ev) (N L : Nat) (rd : Option Nat) (g : Operand) (ps : Array Tmp) (assign body : Code) (kn : K) (kx : Nat → K) (kr : K) (e : Env) (h : Heap) :
    rangeA P G C E N rd g ps assign body (kn e) (fun i => kx i e) (kr e) e h = run ⟨P, G, C, E⟩ N L rd (.rangeFunc g ps assign body) kn kx kr e h := by
  unfold rangeA run
  rw [obM_eq, opdF_eq]
  congr 1; funext f
  congr 1
  unfold obP
  congr 1; funext r
  simp only
  congr 1; funext o
  exact (pEnd_eq kn kx kr o e _).symm
def exitsOf : Code → List Nat := Code.rec (motive := fun _ => List Nat) [] (fun _ _ _ => []) (fun _ _ ia ib => ia ++ ib) (fun _ _ _ ia ib => ia ++ ib) (fun _ _ ic => ic) (fun _ ic => ic) (fun _ _ _ _ ia ib => ia ++ ib) (fun i => [i]) (fun _ ic => ic) (fun _ => []) (fun _ => []) [] (fun _ => [])
/-- the exits that a round may have left by -/
def exitsK (kx : Nat → K) (lx : Nat → Nat) : List Nat → Nat → K
  | [], _ => fun _ _ => none
  | j :: l, i => fun e h => sel (Nat.beq i j) (kx j (cut (lx j) e) h) (exitsK kx lx l i e h)
theorem exitsK_ex {kx : Nat → K} {lx : Nat → Nat} {e : Env} {h : Heap} {r : AV × Heap} {i : Nat} : ∀ {l : List Nat}, exitsK kx lx l i e h = some r → kx i (cut (lx i) e) h = some r := by
  intro l
  induction l with
  | nil => intro hx; cases hx
  | cons j l ih =>
    intro hx
    unfold exitsK at hx
    cases hb : Nat.beq i j with
    | true => rw [hb] at hx; have := Nat.eq_of_beq_eq_true hb; subst this; exact hx
    | false => rw [hb] at hx; exact ih hx
def runR (P : Program) (G : Nat) (C : Nat → Fwd) (E : Ev) (N L : Nat) (rd : Option Nat) (rm : Nat) : Code → Bool → Nat → (Nat → Nat) → K → (Nat → K) → K → K := Code.rec (motive := fun _ => Bool → Nat → (Nat → Nat) → K → (Nat → K) → K → K)
  (fun cf lv _ kn _ _ e h => kn (cutB cf lv e) h)
  (fun _ ops draw cf lv _ kn _ _ e h => regionA P G C E N ops draw e h fun e' h' => kn (cutB cf lv e') h')
  (fun _ b ia ib _ lv lx kn kx kr e h => ia true (liveIn rm b lv lx) lx (ib true lv lx kn kx kr) kx kr e h)
  (fun c _ _ ia ib _ lv lx kn kx kr e h => obM (opdF c G e) fun v => pIf v (ia true lv lx kn kx kr e h) (ib true lv lx kn kx kr e h))
  (fun id _ ic _ lv lx kn kx kr e h => ic true lv (fun i => sel (Nat.beq i id) lv (lx i)) kn (fun i => sel (Nat.beq i id) kn (kx i)) kr e h)
  (fun c ic _ _ lx _ kx kr e h => loopK (fun k => ic true (liveIn rm c 0 lx) lx k kx kr) L (cut (liveIn rm c 0 lx) e) h)
  (fun g ps assign body _ _ _ lv lx kn kx kr e h => rangeA P G C E N rd g ps assign body (kn (cut lv (cut (liveIn rm (.rangeFunc g ps assign body) lv lx) e))) (fun i => exitsK kx lx (exitsOf body) i (cut (liveIn rm (.rangeFunc g ps assign body) lv lx) e)) (kr (cut rm (cut (liveIn rm (.rangeFunc g ps assign body) lv lx) e))) (cut (liveIn rm (.rangeFunc g ps assign body) lv lx) e) h)
  (fun i _ _ lx _ kx _ e h => kx i (cut (lx i) e) h)
  (fun _ _ _ _ _ _ _ _ _ _ => none)
  (fun _ cf lv _ kn _ _ e h => kn (cutB cf lv e) h)
  (fun _ _ _ _ _ _ _ _ _ => none)
  (fun _ _ _ _ _ kr e h => kr (cut rm e) h)
  (fun _ _ _ _ _ _ _ _ _ => none)

section
variable {P : Program} {G : Nat} {C : Nat → Fwd} {E : Ev} {R0 : Nat → Option Obj} {N n lim : Nat} {rd : Option Nat} {μ μ' : Mu} {h h' : Heap} {w w' : World} {a a' : Act} {e e' : Env} {B : Nat}
theorem Inv.less {X : Cx} (inv : Inv X R0 N μ e h a w) (hle : ∀ i v, e'.at i = some v → e.at i = some v) : Inv X R0 N μ e' h a w :=
  ⟨inv.rel, inv.glob, inv.good, inv.env.1, fun i v q => inv.env.2 i v (hle i v q)⟩
theorem runR_spec (hX : CxOk ⟨P, G, C, E⟩ R0) (hm : P.follows .mixedOrders = true) {rm : Nat} {rc : Option Nat} (r : AV × Heap) : ∀ (c : Code) (cf : Bool) (lv : Nat) (lx : Nat → Nat) (kn : K) (kx : Nat → K) (kr : K) (Q : Exit → Act → World → Prop) (μ : Mu) (e : Env) (h : Heap) (a : Act) (w : World),
    runR P G C E N lim rd rm c cf lv lx kn kx kr e h = some r → Inv ⟨P, G, C, E⟩ R0 N μ e h a w → RdOk rd rc μ → Marks B a w → B ≤ w.heap.size →
    Cont ⟨P, G, C, E⟩ R0 N B μ h w kn r (Q .normal) → (∀ i, Cont ⟨P, G, C, E⟩ R0 N B μ h w (kx i) r (Q (.exit i))) → Cont ⟨P, G, C, E⟩ R0 N B μ h w kr r (Q .ret) → c.wpIn (Fw rc) n P Q a w := by
  intro c
  induction c with
  | skip =>
    intro cf lv lx kn kx kr Q μ e h a w hx inv hr mk hB hn _ _
    exact wpIn_skip (hn μ _ h a w hx (inv.less fun i v q => cutB_at q) (Ext.refl _ _ _ inv.rel.lt) mk)
  | region id ops draw =>
    intro cf lv lx kn kx kr Q μ e h a w hx inv hr mk hB hn _ _
    obtain ⟨e1, h1, hreg, hx⟩ := regionA_ex (N := N) hx
    exact region_spec hX hm inv hreg fun μ' a' w' inv' x' hd => hn μ' _ h1 a' w' hx (inv'.less fun i v q => cutB_at q) x' (mk.ext inv.rel x' hd)
  | seq x y ihx ihy =>
    intro cf lv lx kn kx kr Q μ e h a w hx inv hr mk hB hn hxx hrr
    refine wpIn_seq (ihx _ _ _ _ kx kr _ μ e h a w hx inv hr mk hB ?_ hxx hrr)
    intro μ1 e1 h1 a1 w1 hx1 inv1 x1 mk1
    exact ihy true lv lx kn kx kr Q μ1 e1 h1 a1 w1 hx1 inv1 (hr.ext (x1.le inv.rel)) mk1 (Nat.le_trans hB x1.size) (fun μ2 e2 h2 a2 w2 q1 q2 q3 q4 => hn μ2 e2 h2 a2 w2 q1 q2 (x1.trans q3) q4)
      (fun i μ2 e2 h2 a2 w2 q1 q2 q3 q4 => hxx i μ2 e2 h2 a2 w2 q1 q2 (x1.trans q3) q4) (fun μ2 e2 h2 a2 w2 q1 q2 q3 q4 => hrr μ2 e2 h2 a2 w2 q1 q2 (x1.trans q3) q4)
  | cond c x y ihx ihy =>
    intro cf lv lx kn kx kr Q μ e h a w hx inv hr mk hB hn hxx hrr
    have hx : (ob (opdF c G e) fun v => pIf v (runR P G C E N lim rd rm x true lv lx kn kx kr e h) (runR P G C E N lim rd rm y true lv lx kn kx kr e h)) = some r := hx
    rw [opdF_eq] at hx
    replace hx := ob_eq hx
    obtain ⟨v, hv, hx⟩ := hx
    obtain ⟨oq, q⟩ := opd_spec inv.env inv.glob hv
    clear oq
    cases v <;> (try simp only [pIf] at hx) <;> try (cases hx; done)
    rename_i t
    cases t with
    | true => exact wpIn_cond_true q (ihx true lv lx kn kx kr Q μ e h a w hx inv hr mk hB hn hxx hrr)
    | false => exact wpIn_cond_false q (ihy true lv lx kn kx kr Q μ e h a w hx inv hr mk hB hn hxx hrr)
  | block id c ih =>
    intro cf lv lx kn kx kr Q μ e h a w hx inv hr mk hB hn hxx hrr
    refine wpIn_block (ih true lv _ kn _ kr _ μ e h a w hx inv hr mk hB hn (fun i μ2 e2 h2 a2 w2 q1 q2 q3 q4 => ?_) hrr)
    show if i = id then Q .normal a2 w2 else Q (.exit i) a2 w2
    by_cases hi : i = id
    · rw [if_pos hi]
      rw [beq_t hi] at q1
      exact hn μ2 e2 h2 a2 w2 q1 q2 q3 q4
    · rw [if_neg hi]
      rw [beq_f hi] at q1
      exact hxx i μ2 e2 h2 a2 w2 q1 q2 q3 q4
  | loop c ih =>
    intro cf lv lx kn kx kr Q μ e h a w hx inv hr mk hB hn hxx hrr
    refine wpIn_loop_rounds lim ?_
    have key : ∀ (m : Nat) (μ1 : Mu) (e1 : Env) (h1 : Heap) (a1 : Act) (w1 : World), loopK (fun k => runR P G C E N lim rd rm c true (liveIn rm c 0 lx) lx k kx kr) m e1 h1 = some r → Inv ⟨P, G, C, E⟩ R0 N μ1 e1 h1 a1 w1 → Ext μ h w μ1 h1 w1 → Marks B a1 w1 → Code.roundsIn (Fw rc) n P c Q m a1 w1 := by
      intro m
      induction m with
      | zero => intro μ1 e1 h1 a1 w1 q1; cases q1
      | succ m ihm =>
        intro μ1 e1 h1 a1 w1 q1 inv1 x1 mk1
        rw [roundsIn_succ]
        refine ih true _ lx (loopK (fun k => runR P G C E N lim rd rm c true (liveIn rm c 0 lx) lx k kx kr) m) kx kr _ μ1 e1 h1 a1 w1 q1 inv1 (hr.ext (x1.le inv.rel)) mk1 (Nat.le_trans hB x1.size) (fun μ2 e2 h2 a2 w2 q1 q2 q3 q4 => ihm μ2 e2 h2 a2 w2 q1 q2 (x1.trans q3) q4)
          (fun i μ2 e2 h2 a2 w2 q1 q2 q3 q4 => hxx i μ2 e2 h2 a2 w2 q1 q2 (x1.trans q3) q4) (fun μ2 e2 h2 a2 w2 q1 q2 q3 q4 => hrr μ2 e2 h2 a2 w2 q1 q2 (x1.trans q3) q4)
    exact key lim μ _ h a w hx (inv.less fun i v q => cut_at q) (Ext.refl _ _ _ inv.rel.lt) mk
  | label l =>
    intro cf lv lx kn kx kr Q μ e h a w hx inv hr mk hB hn _ _
    exact wpIn_label (hn μ _ h a w hx (inv.less fun i v q => cutB_at q) (Ext.refl _ _ _ inv.rel.lt) mk)
  | exit i =>
    intro cf lv lx kn kx kr Q μ e h a w hx inv hr mk hB _ hxx _
    exact wpIn_exit (hxx i μ _ h a w hx (inv.less fun i v q => cut_at q) (Ext.refl _ _ _ inv.rel.lt) mk)
  | ret =>
    intro cf lv lx kn kx kr Q μ e h a w hx inv hr mk hB _ _ hrr
    exact wpIn_ret (hrr μ _ h a w hx (inv.less fun i v q => cut_at q) (Ext.refl _ _ _ inv.rel.lt) mk)
  | rangeFunc g ps assign body _ _ =>
    intro cf lv lx kn kx kr Q μ e h a w hx inv hr mk hB hn hxx hrr
    replace hx := (rangeA_eq P G C E N lim rd g ps assign body (fun e h => kn (cut lv e) h) (exitsK kx lx (exitsOf body)) (fun e h => kr (cut rm e) h) (cut (liveIn rm (.rangeFunc g ps assign body) lv lx) e) h).symm.trans hx
    exact run_spec (lim := lim) hX hm r (.rangeFunc g ps assign body) _ _ _ Q μ _ h a w hx (inv.less fun i v q => cut_at q) hr mk hB
      (fun μ2 e2 h2 a2 w2 q1 q2 q3 q4 => hn μ2 _ h2 a2 w2 q1 (q2.less fun i v q => cut_at q) q3 q4)
      (fun i μ2 e2 h2 a2 w2 q1 q2 q3 q4 => hxx i μ2 _ h2 a2 w2 (exitsK_ex q1) (q2.less fun i v q => cut_at q) q3 q4)
      (fun μ2 e2 h2 a2 w2 q1 q2 q3 q4 => hrr μ2 _ h2 a2 w2 q1 (q2.less fun i v q => cut_at q) q3 q4)
  | _ => intro cf lv lx kn kx kr Q μ e h a w hx; cases hx

/-! A function. -/
def resBits : List ResultVar → Nat
  | [] => 0
  | r :: l => Nat.lor (match r with | .tmp t => bitOf t | .cell a _ => bitOf a) (resBits l)
def xbodyR (P : Program) (G : Nat) (C : Nat → Fwd) (E : Ev) (L : Nat) (fn : Func) (args : List AV) (h : Heap) : Res := Option.rec (motive := fun _ => Res) none
  (fun c => sel (Nat.ble args.length fn.ntmps) (runR P G C E fn.ntmps L none (resBits fn.results.toList) c true (resBits fn.results.toList) (fun _ => 0) (xret P fn) (fun _ _ _ => none) (xret P fn) (cut (liveIn (resBits fn.results.toList) c (resBits fn.results.toList) (fun _ => 0)) (Tri.putRow args .lf 0)) h) none) fn.body
theorem body_okR (hX : CxOk ⟨P, G, C, E⟩ R0) (hm : P.follows .mixedOrders = true) {f : Nat} {fn : Func} (hf : P.funcs[f]? = some fn) {args : List AV} {v : AV} (hx : xbodyR P G C E lim fn args h = some (v, h')) (r : Rel μ h w) (hg : Glob G μ) (gd : Good R0 μ h w) (oa : OkL μ args) :
    CallsIn Fence.wide n P f (concL μ args).toArray w (Post μ h w v h') := by
  unfold xbodyR at hx
  cases hb : fn.body with
  | none => rw [hb] at hx; cases hx
  | some c =>
    rw [hb] at hx
    have hx : sel (Nat.ble args.length fn.ntmps) (runR P G C E fn.ntmps lim none (resBits fn.results.toList) c true (resBits fn.results.toList) (fun _ => 0) (xret P fn) (fun _ _ _ => none) (xret P fn) (cut (liveIn (resBits fn.results.toList) c (resBits fn.results.toList) (fun _ => 0)) (Tri.putRow args .lf 0)) h) none = some (v, h') := hx
    replace hx := sel_some hx
    obtain ⟨hle, hx⟩ := hx
    rw [ble_eq] at hle
    have hle := of_decide_eq_true hle
    refine callsIn_of_wp_marks hf hb trivial ?_
    have hsz : (concL μ args).toArray.size = args.length := by rw [concL_eq, List.size_toArray, List.length_map]
    have henv : EnvIs μ fn.ntmps (Tri.putRow args .lf 0) ((concL μ args).toArray ++ Array.replicate (fn.ntmps - (concL μ args).toArray.size) undef) := by
      refine ⟨by rw [Array.size_append, hsz, Array.size_replicate]; omega, fun i v hv => ?_⟩
      rw [Tri.at_putRow] at hv
      split at hv
      · rename_i hi
        simp only [Nat.sub_zero, Nat.zero_add] at hv hi
        refine ⟨(OkL_iff μ args).1 oa v (List.mem_of_getElem? hv), ?_⟩
        rw [Array.getElem?_append_left (by rw [hsz]; omega)]
        simp [concL_eq, hv]
      · cases hv
    have fin : Cont ⟨P, G, C, E⟩ R0 fn.ntmps w.heap.size μ h w (xret P fn) (v, h') (fun a w' => LeavesInM Fence.wide n P fn a.tmps (Post μ h w v h') a.defers .returning w') := by
      intro μ1 e1 h1 a1 w1 hx1 inv1 x1 mk1
      unfold xret at hx1
      replace hx1 := ob_eq hx1
      obtain ⟨vs, hv, hx1⟩ := hx1
      cases hx1
      obtain ⟨rs, d1, d2, d3⟩ := mk1
      rw [d1]
      exact leaves_spec inv1.env hv rs w1 inv1.rel x1 d2 d3
    exact runR_spec hX hm (v, h') c _ _ _ _ _ _ (bodyPostM Fence.wide n P fn (Post μ h w v h')) μ _ h _ w hx ((⟨r, hg, gd, henv⟩ : Inv ⟨P, G, C, E⟩ R0 fn.ntmps μ (Tri.putRow args .lf 0) h { tmps := (concL μ args).toArray ++ Array.replicate (fn.ntmps - (concL μ args).toArray.size) undef, defers := [] } w).less fun i v q => cut_at q) rfl ⟨[], rfl, List.nodup_nil, fun k hk => by cases hk⟩ (Nat.le_refl _) fin (fun i μ' e' h' a' w' q => by cases q) fin
end
end
end Go.Th

namespace Go.Th
noncomputable section

def noX : Nat → Nat := fun _ => 0
def xroundR (P : Program) (G : Nat) (C : Nat → Fwd) (E : Ev) (L l : Nat) (args : List AV) (h : Heap) : Res := ob (h.ob.at l) fun o => match o with
  | .loop 0 _ env N ps assign body => ob (putPs ps args N env) fun e =>
      runR P G C E N L (some l) 0 assign true (liveIn 0 body 0 noX) noX (fun e' h' => ob (h'.ob.at l) fun o' => match o' with
          | .loop 0 pd env' N' ps' as' bd' => runR P G C E N L (some l) 0 body true 0 noX (fun _ h2 => endRound l none h2) (fun i _ h2 => endRound l (some (.exit i)) h2) (fun _ h2 => endRound l (some .ret) h2) e' ⟨h'.nx, h'.ob.set l (some (.loop 1 pd env' N' ps' as' bd'))⟩
          | _ => none) (fun _ _ _ => none) (fun _ _ => none) e h
  | _ => none
section
variable {P : Program} {G : Nat} {C : Nat → Fwd} {E : Ev} {R0 : Nat → Option Obj} {N n lim : Nat} {rd : Option Nat} {μ μ' : Mu} {h h' : Heap} {w w' : World} {a a' : Act} {e e' : Env} {B : Nat}
theorem round_okR (hX : CxOk ⟨P, G, C, E⟩ R0) (hm : P.follows .mixedOrders = true) {l : Nat} {args : List AV} {v : AV} (hx : xroundR P G C E lim l args h = some (v, h')) (r : Rel μ h w) (hg : Glob G μ) (gd : Good R0 μ h w) (oa : OkL μ args) {m : BM} (hl : μ l = some m) :
    ∃ r : Loop, w.heap[m.β]? = some (.loop r) ∧ (concL μ args).toArray.size = r.params.size ∧
      RoundIn Fence.wide n P m.β r.fn ((r.params.zip (concL μ args).toArray).foldl (fun tmps (t, a) => tmps.setIfInBounds t a) r.tmps) r.assign r.body w (Post μ h w v h') := by
  unfold xroundR at hx
  replace hx := ob_eq hx
  obtain ⟨o, ho, hx⟩ := hx
  cases o <;> (try simp only at hx) <;> try (cases hx; done)
  rename_i st pd env N ps assign body
  match st, hx with
  | 0, hx =>
    replace hx := ob_eq hx
    obtain ⟨e, hp, hx⟩ := hx
    obtain ⟨rec, q1, q2, q3, q4, q5, q6, q7⟩ := r.ok l _ m ho hl
    obtain ⟨p1, p2⟩ := putPs_spec ps args env e rec.tmps hp q7 ((OkL_iff μ args).1 oa)
    have hsz : (concL μ args).toArray.size = rec.params.size := by
      rw [concL_eq, List.size_toArray, List.length_map, p1, ← q4, Array.length_toList]
    refine ⟨rec, q1, hsz, ?_⟩
    have hfold : ((rec.params.zip (concL μ args).toArray).foldl (fun tmps (x : Tmp × Value) => tmps.setIfInBounds x.1 x.2) rec.tmps) = ((ps.zip (args.map (conc μ))).foldl (fun tmps (x : Tmp × Value) => tmps.setIfInBounds x.1 x.2) rec.tmps) := by
      rw [← Array.foldl_toList, Array.toList_zip, q4, concL_eq]
    rw [q5, q6]
    refine roundIn_of_wpIn trivial ?_
    show assign.wpIn (Fw (some m.β)) n P _ _ w
    have inv : Inv ⟨P, G, C, E⟩ R0 N μ e h { tmps := ((rec.params.zip (concL μ args).toArray).foldl (fun tmps (x : Tmp × Value) => tmps.setIfInBounds x.1 x.2) rec.tmps), defers := [] } w := ⟨r, hg, gd, by rw [hfold]; exact p2⟩
    have nomark : ∀ (tmps : Array Value) (w : World), Marks 0 { tmps := tmps, defers := [] } w := fun tmps w => ⟨[], rfl, List.nodup_nil, fun k hk => by cases hk⟩
    refine runR_spec hX hm (v, h') assign _ _ _ _ _ _ _ μ e h _ w hx inv ⟨m, hl, rfl⟩ (nomark _ _) (Nat.zero_le _) ?_ (fun i μ' e' h' a' w' q => by cases q) (fun μ' e' h' a' w' q => by cases q)
    intro μ1 e1 h1 a1 w1 hx1 inv1 x1 mk1
    replace hx1 := ob_eq hx1
    obtain ⟨o1, ho1, hx1⟩ := hx1
    cases o1 <;> (try simp only at hx1) <;> try (cases hx1; done)
    rename_i st1 pd1 env1 N1 ps1 as1 bd1
    match st1, hx1 with
    | 0, hx1 =>
      have hl1 : μ1 l = some m := x1.le r l m hl
      obtain ⟨rec1, s1, s2, s3, s4, s5, s6, s7⟩ := inv1.rel.ok l _ m ho1 hl1
      have hb := inv1.rel.bnd l m hl1
      obtain ⟨r2, x2⟩ := inv1.rel.upd (w' := w1.putObj m.β (.loop { rec1 with state := .busy })) (o' := .loop 1 pd1 env1 N1 ps1 as1 bd1) ho1 hl1 rfl rfl (by simp) (fun β hβ => World.putObj_heap_other hβ) rfl rfl rfl
        ⟨_, World.putObj_heap_same hb, rfl, s3, s4, s5, s6, s7⟩
      refine ⟨_, run_beginRound s1 s2, ?_⟩
      show body.wpIn (Fw (some m.β)) n P _ a1 _
      have inv2 : Inv ⟨P, G, C, E⟩ R0 N μ1 e1 (h1.upd l (some (.loop 1 pd1 env1 N1 ps1 as1 bd1))) a1 (w1.putObj m.β (.loop { rec1 with state := .busy })) := inv1.ext r2 x2 rfl
      have fin : ∀ (jump : Option Code) (μ3 : Mu) (h3 : Heap) (w3 : World), endRound l jump h3 = some (v, h') → Rel μ3 h3 w3 → Ext μ1 (h1.upd l (some (.loop 1 pd1 env1 N1 ps1 as1 bd1))) (w1.putObj m.β (.loop { rec1 with state := .busy })) μ3 h3 w3 →
          ∃ vv w', (Instr.endRound m.β jump).run P w3 = .ok vv w' ∧ Post μ h w v h' (.returned vv) w' := by
        intro jump μ3 h3 w3 hx3 r3 x3
        have hl3 : μ3 l = some m := x3.le r2 l m hl1
        obtain ⟨w4, t1, t2, t3, t4⟩ := endRound_spec (P := P) r3 hl3 hx3
        exact ⟨_, w4, t1, μ3, rfl, t2, (x1.trans x2).trans (x3.trans t3), t4⟩
      refine runR_spec hX hm (v, h') body _ _ _ _ _ _ _ μ1 e1 _ a1 _ hx1 inv2 ⟨m, hl1, rfl⟩ (mk1.ext inv1.rel x2 rfl) (Nat.zero_le _) ?_ ?_ ?_
      · intro μ3 e3 h3 a3 w3 hx3 inv3 x3 _
        exact fin none μ3 h3 w3 hx3 inv3.rel x3
      · intro i μ3 e3 h3 a3 w3 hx3 inv3 x3 _
        exact fin (some (.exit i)) μ3 h3 w3 hx3 inv3.rel x3
      · intro μ3 e3 h3 a3 w3 hx3 inv3 x3 _
        exact fin (some .ret) μ3 h3 w3 hx3 inv3.rel x3
    | k + 1, hx1 => cases hx1
  | k + 1, hx => cases hx

end

/-! What holds in the end. -/
section
variable {α β : Type}
def Cv (x : Option α) (y : Nat → Option α) : Prop := ∀ r, x = some r → ∃ k0, ∀ k, k0 ≤ k → y k = some r
theorem Cv.const (x : Option α) : Cv x (fun _ => x) := fun _ h => ⟨0, fun _ _ => h⟩
theorem Cv.ob {x : Option α} {y : Nat → Option α} {f : α → Option β} {g : Nat → α → Option β} (hx : Cv x y) (hf : ∀ a, Cv (f a) (fun k => g k a)) : Cv (Th.ob x f) (fun k => Th.ob (y k) (g k)) := by
  intro r h
  replace h := ob_eq h
  obtain ⟨a, h1, h2⟩ := h
  obtain ⟨k1, q1⟩ := hx a h1
  obtain ⟨k2, q2⟩ := hf a r h2
  exact ⟨max k1 k2, fun k hk => by show Th.ob (y k) (g k) = _; rw [q1 k (by omega), ob_some]; exact q2 k (by omega)⟩
theorem Cv.ob' {x : Option α} {f : α → Option β} {g : Nat → α → Option β} (hf : ∀ a, Cv (f a) (fun k => g k a)) : Cv (Th.ob x f) (fun k => Th.ob x (g k)) := Cv.ob (Cv.const x) hf
theorem Cv.sel {b : Bool} {x x' : Option α} {y y' : Nat → Option α} (h1 : Cv x y) (h2 : Cv x' y') : Cv (Th.sel b x x') (fun k => Th.sel b (y k) (y' k)) := by cases b <;> assumption
end
section
variable {α β : Type}
theorem Cv.obM' {x : Option α} {f : α → Option β} {g : Nat → α → Option β} (hf : ∀ a, Cv (f a) (fun k => g k a)) : Cv (Th.obM x f) (fun k => Th.obM x (g k)) := Cv.ob' hf
theorem Cv.obP {x : Option (AV × Heap)} {y : Nat → Option (AV × Heap)} {f : AV → Heap → Res} {g : Nat → AV → Heap → Res} (hx : Cv x y) (hf : ∀ v h, Cv (f v h) (fun k => g k v h)) : Cv (Th.obP x f) (fun k => Th.obP (y k) (g k)) := Cv.ob hx fun _ => hf _ _
end
/-- in the end all that one tells, others tell -/
def Lim (E : Ev) (F : Nat → Ev) : Prop := ∀ t args h, Cv (E t args h) (fun k => F k t args h)
section
variable {P : Program} {G : Nat} {C : Nat → Fwd} {E : Ev} {F : Nat → Ev} {slots : List (Option Tmp)} {N L : Nat}
theorem xgo_cv (hE : Lim E F) (f : Nat) (args : List AV) (h : Heap) : Cv (xgo ⟨P, G, C, E⟩ f args h) (fun k => xgo ⟨P, G, C, F k⟩ f args h) := by
  unfold xgo
  simp only
  cases C f <;> first | exact hE _ _ _ | exact Cv.const _
theorem xcallV_cv (hE : Lim E F) (f : AV) (args : List AV) (h : Heap) : Cv (xcallV ⟨P, G, C, E⟩ f args h) (fun k => xcallV ⟨P, G, C, F k⟩ f args h) := by
  cases f <;> first | exact xgo_cv hE _ _ _ | exact hE _ _ _ | exact Cv.const _
/-- how an operation goes on -/
def AcCv (a : Ac) (b : Nat → Ac) : Prop := (∃ x y, a = .eff x ∧ (∀ k, b k = .eff (y k)) ∧ Cv x y) ∨ ∀ k, b k = a
theorem callA_cv (hE : Lim E F) (e : Env) (c : Call) (h : Heap) : AcCv (callA P G C E e c h) (fun k => callA P G C (F k) e c h) := by
  unfold callA
  cases c.callee with
  | value f =>
    cases f with
    | func f => exact .inl ⟨_, _, rfl, fun _ => rfl, Cv.ob' fun args => xgo_cv hE f args h⟩
    | _ => exact .inl ⟨_, _, rfl, fun _ => rfl, Cv.ob' fun args => Cv.ob' fun f => xcallV_cv hE f args h⟩
  | builtin b => cases b <;> exact .inr fun _ => rfl
  | invoke r m => exact .inr fun _ => rfl
theorem xopA_cv (hE : Lim E F) (op : Op) (e : Env) (h : Heap) : AcCv (xopA P G C E op e h) (fun k => xopA P G C (F k) op e h) := by
  cases op with
  | call c => exact callA_cv hE e c h
  | makeFunc fn a b => cases fn <;> exact .inr fun _ => rfl
  | makeMap t r => cases r <;> exact .inr fun _ => rfl
  | convert s t x => exact .inr fun _ => rfl
  | _ => exact .inr fun _ => rfl
theorem AcCv.go {a : Ac} {b : Nat → Ac} (hab : AcCv a b) (h : Heap) {k : AV → Heap → Res} {k' : Nat → AV → Heap → Res} (hk : ∀ v h, Cv (k v h) (fun n => k' n v h)) : Cv (a.go h k) (fun n => (b n).go h (k' n)) := by
  rcases hab with ⟨x, y, rfl, q, hc⟩ | q
  · simp only [q]; exact Cv.ob hc fun r => hk _ _
  · simp only [q]
    cases a
    · exact Cv.ob' fun v => hk _ _
    · exact Cv.ob' fun v => hk _ _
    · exact Cv.ob' fun v => hk _ _
    · exact Cv.ob' fun v => hk _ _
theorem AcCv.go1 {a : Ac} {b : Nat → Ac} (hab : AcCv a b) (h : Heap) {k : AV → Heap → Res} {k' : Nat → AV → Heap → Res} (hk : ∀ v h, Cv (k v h) (fun n => k' n v h)) : Cv (a.go1 h k) (fun n => (b n).go1 h (k' n)) := by
  rcases hab with ⟨x, y, rfl, q, hc⟩ | q
  · simp only [q]; exact Cv.ob hc fun r => Cv.sel (hk _ _) (Cv.const _)
  · simp only [q]
    cases a
    · exact Cv.ob' fun v => hk _ _
    · exact Cv.ob' fun v => hk _ _
    · exact Cv.ob' fun v => Cv.sel (hk _ _) (Cv.const _)
    · exact Cv.ob' fun v => Cv.sel (hk _ _) (Cv.const _)
theorem AcCv.guard {a : Ac} {b : Nat → Ac} (hab : AcCv a b) (c : Bool) (h : Heap) : AcCv (a.guard c h) (fun n => (b n).guard c h) := by
  rcases hab with ⟨x, y, rfl, q, hc⟩ | q
  · exact .inl ⟨_, _, rfl, fun k => by show (b k).guard c h = _; rw [q]; rfl, Cv.sel hc (Cv.const _)⟩
  · exact .inr fun k => by show (b k).guard c h = _; rw [q]
theorem AcCv.chk {a : Ac} {b : Nat → Ac} (hab : AcCv a b) (h : Heap) (v : AV) (hx : a.chk h v = true) : ∃ k0, ∀ k, k0 ≤ k → (b k).chk h v = true := by
  rcases hab with ⟨x, y, rfl, q, hc⟩ | q
  · cases x with
    | none => cases hx
    | some r =>
      obtain ⟨k0, hk⟩ := hc r rfl
      exact ⟨k0, fun k h1 => by rw [q, hk k h1]; exact hx⟩
  · exact ⟨0, fun k _ => by rw [q]; exact hx⟩
theorem stepA_cv (hE : Lim E F) (o : Oper) (e : Env) (h : Heap) {k : Ke} {k' : Nat → Ke} (hk : ∀ e h, Cv (k e h) (fun n => k' n e h)) : Cv (stepA P G C E slots o e h k) (fun n => stepA P G C (F n) slots o e h (k' n)) := by
  unfold stepA
  cases o.guard with
  | none => exact (xopA_cv hE _ _ _).go h fun v h => hk _ _
  | some g => exact Cv.ob' fun b => ((xopA_cv hE _ _ _).guard b h).go h fun v h => hk _ _
theorem stepsA_cv (hE : Lim E F) : ∀ (l : List Oper) (e : Env) (h : Heap) {k : Ke} {k' : Nat → Ke} (_ : ∀ e h, Cv (k e h) (fun n => k' n e h)), Cv (stepsA P G C E slots l e h k) (fun n => stepsA P G C (F n) slots l e h (k' n)) := by
  intro l
  induction l with
  | nil => intro e h k k' hk; exact hk e h
  | cons o l ih => intro e h k k' hk; exact stepA_cv hE o e h fun e h => ih e h hk
theorem stepN_cv (hE : Lim E F) (o : Oper) (e : Env) (h : Heap) {k : Ke} {k' : Nat → Ke} (hk : ∀ e h, Cv (k e h) (fun n => k' n e h)) : Cv (stepN P G C E slots o e h k) (fun n => stepN P G C (F n) slots o e h (k' n)) := by
  unfold stepN
  cases isRead o with
  | false => exact stepA_cv hE o e h hk
  | true =>
    cases o.guard with
    | none => exact (xopA_cv hE _ _ _).go1 h fun v h => hk _ _
    | some g => exact Cv.ob' fun b => ((xopA_cv hE _ _ _).guard b h).go1 h fun v h => hk _ _
theorem runsA_cv (hE : Lim E F) (ops : List Oper) : ∀ (l : List Nat) (e : Env) (h : Heap) {k : Ke} {k' : Nat → Ke} (_ : ∀ e h, Cv (k e h) (fun n => k' n e h)), Cv (runsA P G C E slots ops l e h k) (fun n => runsA P G C (F n) slots ops l e h (k' n)) := by
  intro l
  induction l with
  | nil => intro e h k k' hk; exact hk e h
  | cons i l ih => intro e h k k' hk; exact Cv.ob' fun o => stepN_cv hE o e h fun e h => ih e h hk
theorem chksA_cv (hE : Lim E F) (ops : List Oper) : ∀ (l : List Nat) (e : Env) (h : Heap) {k : Res} {k' : Nat → Res} (_ : Cv k k'), Cv (chksA P G C E slots ops l e h k) (fun n => chksA P G C (F n) slots ops l e h (k' n)) := by
  intro l
  induction l with
  | nil => intro e h k k' hk; exact hk
  | cons i l ih =>
    intro e h k k' hk
    refine Cv.ob' fun o => ?_
    intro r hx
    replace hx := ob_eq hx
    obtain ⟨b, hb, hx⟩ := hx
    replace hx := sel_some hx
    obtain ⟨rfl, hx⟩ := hx
    obtain ⟨k1, q1⟩ := ih e h hk r hx
    have : ∃ k0, ∀ n, k0 ≤ n → chkA P G C (F n) slots o e h = some true := by
      unfold chkA at hb
      replace hb := ob_eq hb
      obtain ⟨d, hd, hb⟩ := hb
      replace hb := ob_eq hb
      obtain ⟨v, hv, hb⟩ := hb
      unfold chkA
      rw [hd]
      show ∃ k0, ∀ n, k0 ≤ n → (Th.ob (e.at d) fun v => Option.rec (motive := fun _ => Option Bool) (some ((xopA P G C (F n) o.op e h).chk h v)) (fun _ => Th.ob (wantA slots e o) fun b => some (Th.sel b ((xopA P G C (F n) o.op e h).chk h v) true)) o.guard) = some true
      simp only [hv, ob_some]
      cases hg : o.guard with
      | none =>
        rw [hg] at hb
        simp only [Option.some.injEq] at hb
        obtain ⟨k0, q⟩ := (xopA_cv hE o.op e h).chk h v hb
        exact ⟨k0, fun n hn => by simp only; rw [q n hn]⟩
      | some g =>
        rw [hg] at hb
        have hb : (Th.ob (wantA slots e o) fun b => some (Th.sel b ((xopA P G C E o.op e h).chk h v) true)) = some true := hb
        replace hb := ob_eq hb
        obtain ⟨b, hw, hb⟩ := hb
        simp only [Option.some.injEq] at hb
        cases b with
        | true =>
          obtain ⟨k0, q⟩ := (xopA_cv hE o.op e h).chk h v hb
          exact ⟨k0, fun n hn => by simp only [hw, ob_some, sel_true]; rw [q n hn]⟩
        | false => exact ⟨0, fun n _ => by simp only [hw, ob_some, sel_false]⟩
    obtain ⟨k0, q0⟩ := this
    exact ⟨max k0 k1, fun n hn => by show (Th.ob (chkA P G C (F n) slots o e h) fun b => Th.sel b (chksA P G C (F n) slots ops l e h (k' n)) none) = _; rw [q0 n (by omega), ob_some, sel_true]; exact q1 n (by omega)⟩
theorem phasesA_cv (hE : Lim E F) (ops : List Oper) : ∀ (l : List Phase) (e : Env) (h : Heap) {k : Ke} {k' : Nat → Ke} (_ : ∀ e h, Cv (k e h) (fun n => k' n e h)), Cv (phasesA P G C E slots ops l e h k) (fun n => phasesA P G C (F n) slots ops l e h (k' n)) := by
  intro l
  induction l with
  | nil => intro e h k k' hk; exact Cv.const _
  | cons p l ih =>
    intro e h k k' hk
    refine runsA_cv hE ops _ _ _ fun e1 h1 => chksA_cv hE ops _ _ _ ?_
    cases p.act with
    | none => exact hk e1 h1
    | some c => exact Cv.ob' fun o => stepA_cv hE o _ _ fun e2 h2 => ih e2 h2 hk
theorem regionA_cv (hE : Lim E F) (ops : Array Oper) (draw : Bool) (e : Env) (h : Heap) {k : Ke} {k' : Nat → Ke} (hk : ∀ e h, Cv (k e h) (fun n => k' n e h)) : Cv (regionA P G C E N ops draw e h k) (fun n => regionA P G C (F n) N ops draw e h (k' n)) := by
  unfold regionA
  refine Cv.sel ?_ (Cv.const _)
  cases draw with
  | false => exact stepsA_cv hE _ _ _ hk
  | true => exact Cv.sel (phasesA_cv hE _ _ _ _ hk) (Cv.const _)
theorem loopK_cv {f : K → K} {g : Nat → K → K} (hf : ∀ (k : K) (k' : Nat → K), (∀ e h, Cv (k e h) (fun n => k' n e h)) → ∀ e h, Cv (f k e h) (fun n => g n (k' n) e h)) : ∀ m e h, Cv (loopK f m e h) (fun n => loopK (g n) m e h) := by
  intro m
  induction m with
  | zero => intro e h; exact Cv.const _
  | succ m ih => intro e h; exact hf _ _ ih e h
theorem exitsK_cv {kx : Nat → K} {kx' : Nat → Nat → K} {lx : Nat → Nat} (hk : ∀ i e h, Cv (kx i e h) (fun n => kx' n i e h)) (i : Nat) (e : Env) (h : Heap) : ∀ l, Cv (exitsK kx lx l i e h) (fun n => exitsK (kx' n) lx l i e h) := by
  intro l
  induction l with
  | nil => exact Cv.const _
  | cons j l ih => exact Cv.sel (hk _ _ _) ih
theorem runR_cv (hE : Lim E F) {rd : Option Nat} {rm : Nat} : ∀ (c : Code) (cf : Bool) (lv : Nat) (lx : Nat → Nat) {kn : K} {kn' : Nat → K} {kx : Nat → K} {kx' : Nat → Nat → K} {kr : K} {kr' : Nat → K}
    (_ : ∀ e h, Cv (kn e h) (fun n => kn' n e h)) (_ : ∀ i e h, Cv (kx i e h) (fun n => kx' n i e h)) (_ : ∀ e h, Cv (kr e h) (fun n => kr' n e h)) (e : Env) (h : Heap),
    Cv (runR P G C E N L rd rm c cf lv lx kn kx kr e h) (fun n => runR P G C (F n) N L rd rm c cf lv lx (kn' n) (kx' n) (kr' n) e h) := by
  intro c
  induction c with
  | skip => intro cf lv lx kn kn' kx kx' kr kr' h1 h2 h3 e h; exact h1 _ _
  | label l => intro cf lv lx kn kn' kx kx' kr kr' h1 h2 h3 e h; exact h1 _ _
  | region id ops draw => intro cf lv lx kn kn' kx kx' kr kr' h1 h2 h3 e h; exact regionA_cv hE ops draw e h fun e h => h1 _ _
  | seq a b iha ihb => intro cf lv lx kn kn' kx kx' kr kr' h1 h2 h3 e h; exact iha true _ lx (fun e h => ihb true lv lx h1 h2 h3 e h) h2 h3 e h
  | cond c a b iha ihb =>
    intro cf lv lx kn kn' kx kx' kr kr' h1 h2 h3 e h
    refine Cv.ob' fun v => ?_
    cases v <;> first | exact Cv.const _ | exact Cv.sel (iha true lv lx h1 h2 h3 e h) (ihb true lv lx h1 h2 h3 e h)
  | block id c ih =>
    intro cf lv lx kn kn' kx kx' kr kr' h1 h2 h3 e h
    refine ih true lv _ (kx' := fun n i => sel (Nat.beq i id) (kn' n) (kx' n i)) h1 (fun i e h => ?_) h3 e h
    cases Nat.beq i id
    · exact h2 i e h
    · exact h1 e h
  | loop c ih =>
    intro cf lv lx kn kn' kx kx' kr kr' h1 h2 h3 e h
    exact loopK_cv (fun k k' hk e h => ih true _ lx hk h2 h3 e h) L _ h
  | exit i => intro cf lv lx kn kn' kx kx' kr kr' h1 h2 h3 e h; exact h2 _ _ _
  | ret => intro cf lv lx kn kn' kx kx' kr kr' h1 h2 h3 e h; exact h3 _ _
  | rangeFunc g ps assign body _ _ =>
    intro cf lv lx kn kn' kx kx' kr kr' h1 h2 h3 e h
    refine Cv.obM' fun f => Cv.sel (Cv.obP ?_ fun v h' => Cv.ob' fun o => ?_) (Cv.const _)
    · unfold xranged
      cases f <;> try exact Cv.const _
      simp only
      cases C _ <;> first | exact hE _ _ _ | exact Cv.const _
    · unfold pEnd
      split
      · exact h1 _ _
      · split
        · exact h3 _ _
        · exact exitsK_cv h2 _ _ _ _
        · exact Cv.const _
      · exact Cv.const _
  | _ => intro cf lv lx kn kn' kx kx' kr kr' h1 h2 h3 e h; exact Cv.const _
theorem xbodyR_cv (hE : Lim E F) (fn : Func) (args : List AV) (h : Heap) : Cv (xbodyR P G C E L fn args h) (fun n => xbodyR P G C (F n) L fn args h) := by
  unfold xbodyR
  cases fn.body with
  | none => exact Cv.const _
  | some c => exact Cv.sel (runR_cv hE c _ _ _ (fun _ _ => Cv.const _) (fun _ _ _ => Cv.const _) (fun _ _ => Cv.const _) _ _) (Cv.const _)
theorem xroundR_cv (hE : Lim E F) (l : Nat) (args : List AV) (h : Heap) : Cv (xroundR P G C E L l args h) (fun n => xroundR P G C (F n) L l args h) := by
  unfold xroundR
  refine Cv.ob' fun o => ?_
  split
  · refine Cv.ob' fun e => runR_cv hE _ _ _ _ (fun e h => Cv.ob' fun o' => ?_) (fun _ _ _ => Cv.const _) (fun _ _ => Cv.const _) _ _
    split
    · exact runR_cv hE _ _ _ _ (fun _ _ => Cv.const _) (fun _ _ _ => Cv.const _) (fun _ _ => Cv.const _) _ _
    · exact Cv.const _
  · exact Cv.const _
end

/-! The evaluator, with a table of the functions, and calls that are known otherwise; and what it tells in the end. -/
section
variable (P : Program) (T : Tri Func) (G : Nat) (C : Nat → Fwd) (L : Nat) (M : Memo)
def nextR (E : Ev) : Ev := fun t => Tgt.rec (motive := fun _ => List AV → Heap → Res) (fun f args h => Option.rec (motive := fun _ => Res) (ob (T.at f) fun fn => xbodyR P G C E L fn args h) (fun r => some r) (M f args h)) (fun l args h => xroundR P G C E L l args h) t
def xfR : Nat → Ev := Nat.rec (motive := fun _ => Ev) (fun _ _ _ => none) (fun _ ih => nextR P T G C L M ih)
theorem nextR_cv {E : Ev} {F : Nat → Ev} (hE : Lim E F) : Lim (nextR P T G C L M E) (fun k => nextR P T G C L M (F k)) := by
  intro t args h
  cases t with
  | fn f =>
    show Cv (Option.rec (motive := fun _ => Res) (ob (T.at f) fun fn => xbodyR P G C E L fn args h) (fun r => some r) (M f args h)) (fun k => Option.rec (motive := fun _ => Res) (ob (T.at f) fun fn => xbodyR P G C (F k) L fn args h) (fun r => some r) (M f args h))
    cases M f args h with
    | none => exact Cv.ob' fun fn => xbodyR_cv hE fn args h
    | some r => exact Cv.const _
  | yld l => exact xroundR_cv hE l args h
theorem xfR_mono (k : Nat) : ∀ t args h r, xfR P T G C L M k t args h = some r → xfR P T G C L M (k + 1) t args h = some r := by
  induction k with
  | zero => intro t args h r hx; cases hx
  | succ k ih =>
    intro t args h r hx
    have := nextR_cv P T G C L M (E := xfR P T G C L M k) (F := fun _ => xfR P T G C L M (k + 1)) (fun t args h r q => ⟨0, fun _ _ => ih t args h r q⟩) t args h r hx
    obtain ⟨k0, q⟩ := this
    exact q k0 (Nat.le_refl _)
theorem xfR_le {k m : Nat} (hk : k ≤ m) {t : Tgt} {args : List AV} {h : Heap} {r : AV × Heap} (hx : xfR P T G C L M k t args h = some r) : xfR P T G C L M m t args h = some r := by
  induction hk with
  | refl => exact hx
  | step _ ih => exact xfR_mono P T G C L M _ t args h r ih
open Classical in
/-- what a call comes to, if it ends -/
def ev : Ev := fun t args h => if H : ∃ r, ∃ k, xfR P T G C L M k t args h = some r then some (Classical.choose H) else none
theorem ev_of {k : Nat} {t : Tgt} {args : List AV} {h : Heap} {r : AV × Heap} (hx : xfR P T G C L M k t args h = some r) : ev P T G C L M t args h = some r := by
  have H : ∃ r, ∃ k, xfR P T G C L M k t args h = some r := ⟨r, k, hx⟩
  unfold ev
  rw [dif_pos H]
  obtain ⟨m, hm⟩ := Classical.choose_spec H
  have h1 := xfR_le P T G C L M (Nat.le_max_left k m) hx
  have h2 := xfR_le P T G C L M (Nat.le_max_right k m) hm
  rw [h1] at h2
  exact h2.symm
theorem ev_ex {t : Tgt} {args : List AV} {h : Heap} {r : AV × Heap} (hx : ev P T G C L M t args h = some r) : ∃ k, xfR P T G C L M k t args h = some r := by
  unfold ev at hx
  split at hx
  · rename_i H
    obtain ⟨m, hm⟩ := Classical.choose_spec H
    cases hx
    exact ⟨m, hm⟩
  · cases hx
theorem ev_lim : Lim (ev P T G C L M) (xfR P T G C L M) := fun t args h r hx => by
  obtain ⟨k, hk⟩ := ev_ex P T G C L M hx
  exact ⟨k, fun m hm => xfR_le P T G C L M hm hk⟩
theorem ev_next {t : Tgt} {args : List AV} {h : Heap} {r : AV × Heap} (hx : nextR P T G C L M (ev P T G C L M) t args h = some r) : ev P T G C L M t args h = some r := by
  obtain ⟨k, hk⟩ := nextR_cv P T G C L M (ev_lim P T G C L M) t args h r hx
  exact ev_of P T G C L M (k := k + 1) (hk k (Nat.le_refl _))
theorem ev_memo {f : Nat} {args : List AV} {h : Heap} {r : AV × Heap} (hm : M f args h = some r) : ev P T G C L M (.fn f) args h = some r :=
  ev_next P T G C L M (t := .fn f) (by show Option.rec (motive := fun _ => Res) _ _ (M f args h) = _; rw [hm])
theorem ev_fn {f : Nat} {fn : Func} (hf : T.at f = some fn) {args : List AV} {h : Heap} {r : AV × Heap} (hm : M f args h = none) (hx : xbodyR P G C (ev P T G C L M) L fn args h = some r) : ev P T G C L M (.fn f) args h = some r :=
  ev_next P T G C L M (t := .fn f) (by show Option.rec (motive := fun _ => Res) (ob (T.at f) _) _ (M f args h) = _; rw [hm, hf]; exact hx)
theorem ev_yld {l : Nat} {args : List AV} {h : Heap} {r : AV × Heap} (hx : xroundR P G C (ev P T G C L M) L l args h = some r) : ev P T G C L M (.yld l) args h = some r :=
  ev_next P T G C L M (t := .yld l) hx
theorem xfR_ok {R0 : Nat → Option Obj} (hT : ∀ f fn, T.at f = some fn → P.funcs[f]? = some fn) (hC : COk P C) (hm : P.follows .mixedOrders = true) (hM : MemoOk P G R0 M) : ∀ k, CxOk ⟨P, G, C, xfR P T G C L M k⟩ R0 := by
  intro k
  induction k with
  | zero => exact ⟨hC, fun f args h v h' hx => (by cases hx), fun l args h v h' hx => (by cases hx)⟩
  | succ k ih =>
    refine ⟨hC, fun f args h v h' hx n μ w r hg gd oa => ?_, fun l args h v h' hx n μ w m r hg gd oa hl => round_okR ih hm hx r hg gd oa hl⟩
    have hx : Option.rec (motive := fun _ => Res) (ob (T.at f) fun fn => xbodyR P G C (xfR P T G C L M k) L fn args h) (fun r => some r) (M f args h) = some (v, h') := hx
    cases hMf : M f args h with
    | some r' =>
      rw [hMf] at hx
      cases hx
      exact hM f args h v h' hMf n μ w r hg gd oa
    | none =>
      rw [hMf] at hx
      have hx : (ob (T.at f) fun fn => xbodyR P G C (xfR P T G C L M k) L fn args h) = some (v, h') := hx
      replace hx := ob_eq hx
      obtain ⟨fn, hf, hx⟩ := hx
      exact body_okR ih hm (hT f fn hf) hx r hg gd oa
theorem ev_ok {R0 : Nat → Option Obj} (hT : ∀ f fn, T.at f = some fn → P.funcs[f]? = some fn) (hC : COk P C) (hm : P.follows .mixedOrders = true) (hM : MemoOk P G R0 M) : CxOk ⟨P, G, C, ev P T G C L M⟩ R0 := by
  refine ⟨hC, fun f args h v h' hx n μ w r hg gd oa => ?_, fun l args h v h' hx n μ w m r hg gd oa hl => ?_⟩
  · obtain ⟨k, hk⟩ := ev_ex P T G C L M hx
    exact (xfR_ok P T G C L M hT hC hm hM k).fn f args h v h' hk n μ w r hg gd oa
  · obtain ⟨k, hk⟩ := ev_ex P T G C L M hx
    exact (xfR_ok P T G C L M hT hC hm hM k).yld l args h v h' hk n μ w m r hg gd oa hl
theorem ev_calls {R0 : Nat → Option Obj} (hT : ∀ f fn, T.at f = some fn → P.funcs[f]? = some fn) (hC : COk P C) (hm : P.follows .mixedOrders = true) (hM : MemoOk P G R0 M) {f : Nat} {args : List AV} {v : AV} {h h' : Heap} {μ : Mu} {w : World}
    (hx : ev P T G C L M (.fn f) args h = some (v, h')) (r : Rel μ h w) (hg : Glob G μ) (gd : Good R0 μ h w) (oa : OkL μ args) : Calls P f (concL μ args).toArray w (Post μ h w v h') :=
  callsIn_wide.1 ((ev_ok P T G C L M hT hC hm hM).fn f args h v h' hx 0 μ w r hg gd oa)
end
end
end Go.Th
