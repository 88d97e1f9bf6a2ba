/- Own texts of this proof: ThA, ThB, ThC, ThD, ThE. -/
import Derived.Orders
import Derived.Laws.Sem
set_option autoImplicit true
set_option relaxedAutoImplicit true
set_option linter.all false
namespace Go.Th

noncomputable def sel {β : Type} (b : Bool) (t e : β) : β := Bool.rec (motive := fun _ => β) e t b
theorem sel_true {β : Type} (t e : β) : sel true t e = t := rfl
theorem sel_false {β : Type} (t e : β) : sel false t e = e := rfl
theorem sel_eq {β : Type} (b : Bool) (t e : β) : sel b t e = if b = true then t else e := by cases b <;> rfl

/-- what is there is handed on -/
noncomputable def ob {α β : Type} (x : Option α) (f : α → Option β) : Option β := Option.rec (motive := fun _ => Option β) none f x
theorem ob_some {α β : Type} (a : α) (f : α → Option β) : ob (some a) f = f a := rfl
theorem ob_none {α β : Type} (f : α → Option β) : ob none f = none := rfl
theorem ob_eq {α β : Type} {x : Option α} {f : α → Option β} {b : β} (h : ob x f = some b) : ∃ a, x = some a ∧ f a = some b := by
  cases x with
  | none => cases h
  | some a => exact ⟨a, rfl, h⟩
theorem sel_some {β : Type} {c : Bool} {x : Option β} {b : β} (h : sel c x none = some b) : c = true ∧ x = some b := by
  cases c with
  | false => cases h
  | true => exact ⟨rfl, h⟩

/-! Tries, keyed by positive numbers (low bit first). -/
inductive Tri (α : Type) where
  | lf
  | nd (v : Option α) (l r : Tri α)

section
variable {α : Type}

noncomputable def Tri.get (t : Tri α) : Nat → Option α :=
  Tri.rec (motive := fun _ => Nat → Option α) (fun _ => none)
    (fun v _ _ il ir n => sel (Nat.beq n 1) v (sel (Nat.beq (Nat.land n 1) 1) (il (Nat.shiftRight n 1)) (ir (Nat.shiftRight n 1)))) t

noncomputable def Tri.putF (f : Nat) : Tri α → Nat → Option α → Tri α :=
  Nat.rec (motive := fun _ => Tri α → Nat → Option α → Tri α) (fun t _ _ => t)
   (fun _ ih t n x => Tri.rec (motive := fun _ => Tri α)
      (sel (Nat.beq n 1) (.nd x .lf .lf) (sel (Nat.beq (Nat.land n 1) 1) (.nd none (ih .lf (Nat.shiftRight n 1) x) .lf) (.nd none .lf (ih .lf (Nat.shiftRight n 1) x))))
      (fun v l r _ _ => sel (Nat.beq n 1) (.nd x l r) (sel (Nat.beq (Nat.land n 1) 1) (.nd v (ih l (Nat.shiftRight n 1) x) r) (.nd v l (ih r (Nat.shiftRight n 1) x)))) t) f

noncomputable def Tri.put (t : Tri α) (n : Nat) (x : Option α) : Tri α := Tri.putF n t n x

theorem Tri.get_lf (n : Nat) : (Tri.lf : Tri α).get n = none := rfl
theorem beq_t {a b : Nat} (h : a = b) : Nat.beq a b = true := by subst h; exact Nat.beq_refl a
theorem beq_f {a b : Nat} (h : a ≠ b) : Nat.beq a b = false := by
  cases e : Nat.beq a b
  · rfl
  · exact absurd (Nat.eq_of_beq_eq_true e) h
theorem Tri.get_nd (v : Option α) (l r : Tri α) (n : Nat) :
    (Tri.nd v l r).get n = if n = 1 then v else if n % 2 = 1 then l.get (n / 2) else r.get (n / 2) := by
  show sel (Nat.beq n 1) v (sel (Nat.beq (Nat.land n 1) 1) (l.get (n / 2)) (r.get (n / 2))) = _
  have h2 : Nat.land n 1 = n % 2 := Nat.and_one_is_mod n
  rw [h2]
  by_cases a : n = 1
  · rw [beq_t a, if_pos a]; rfl
  · rw [beq_f a, if_neg a, sel_false]
    by_cases b : n % 2 = 1
    · rw [beq_t b, if_pos b]; rfl
    · rw [beq_f b, if_neg b]; rfl
theorem Tri.putF_lf (f n : Nat) (x : Option α) :
    Tri.putF (f + 1) .lf n x = if n = 1 then .nd x .lf .lf else if n % 2 = 1 then .nd none (Tri.putF f .lf (n / 2) x) .lf else .nd none .lf (Tri.putF f .lf (n / 2) x) := by
  show sel (Nat.beq n 1) _ (sel (Nat.beq (Nat.land n 1) 1) _ _) = _
  rw [show Nat.land n 1 = n % 2 from Nat.and_one_is_mod n]
  by_cases a : n = 1
  · rw [beq_t a, if_pos a]; rfl
  · rw [beq_f a, if_neg a, sel_false]
    by_cases b : n % 2 = 1
    · rw [beq_t b, if_pos b]; rfl
    · rw [beq_f b, if_neg b]; rfl
theorem Tri.putF_nd (f n : Nat) (x v : Option α) (l r : Tri α) :
    Tri.putF (f + 1) (.nd v l r) n x = if n = 1 then .nd x l r else if n % 2 = 1 then .nd v (Tri.putF f l (n / 2) x) r else .nd v l (Tri.putF f r (n / 2) x) := by
  show sel (Nat.beq n 1) _ (sel (Nat.beq (Nat.land n 1) 1) _ _) = _
  rw [show Nat.land n 1 = n % 2 from Nat.and_one_is_mod n]
  by_cases a : n = 1
  · rw [beq_t a, if_pos a]; rfl
  · rw [beq_f a, if_neg a, sel_false]
    by_cases b : n % 2 = 1
    · rw [beq_t b, if_pos b]; rfl
    · rw [beq_f b, if_neg b]; rfl
theorem Tri.get_putF : ∀ (f : Nat) (t : Tri α) (n m : Nat) (x : Option α), 1 ≤ n → 1 ≤ m → n ≤ f →
    (Tri.putF f t n x).get m = if m = n then x else t.get m := by
  intro f
  induction f with
  | zero => intro t n m x h1 _ h3; omega
  | succ f ih =>
    intro t n m x hn hm hf
    have step : ∀ (t' : Tri α), n ≠ 1 → m ≠ 1 → n % 2 = m % 2 → (Tri.putF f t' (n / 2) x).get (m / 2) = if m = n then x else t'.get (m / 2) := by
      intro t' h1 h2 h3
      rw [ih t' (n / 2) (m / 2) x (by omega) (by omega) (by omega)]
      by_cases e : m = n
      · rw [if_pos e, if_pos (by omega)]
      · rw [if_neg e, if_neg (by omega)]
    cases t with
    | lf =>
      rw [Tri.putF_lf]
      by_cases a : n = 1
      · rw [if_pos a, Tri.get_nd]
        by_cases b : m = 1
        · rw [if_pos b, if_pos (by omega)]
        · rw [if_neg b, if_neg (show ¬ m = n by omega)]; split <;> rfl
      · rw [if_neg a]
        by_cases c : n % 2 = 1
        · rw [if_pos c, Tri.get_nd]
          by_cases b : m = 1
          · rw [if_pos b, if_neg (by omega)]; rfl
          · rw [if_neg b]
            by_cases d : m % 2 = 1
            · rw [if_pos d, step .lf a b (by omega)]; rfl
            · rw [if_neg d, if_neg (by intro e; subst e; exact d c)]; rfl
        · rw [if_neg c, Tri.get_nd]
          by_cases b : m = 1
          · rw [if_pos b, if_neg (by omega)]; rfl
          · rw [if_neg b]
            by_cases d : m % 2 = 1
            · rw [if_pos d, if_neg (by intro e; subst e; exact c d)]; rfl
            · rw [if_neg d, step .lf a b (by omega)]; rfl
    | nd v l r =>
      rw [Tri.putF_nd]
      by_cases a : n = 1
      · rw [if_pos a, Tri.get_nd, Tri.get_nd]
        by_cases b : m = 1
        · rw [if_pos b, if_pos (by omega)]
        · rw [if_neg b, if_neg (show ¬ m = n by omega), if_neg b]
      · rw [if_neg a]
        by_cases c : n % 2 = 1
        · rw [if_pos c, Tri.get_nd, Tri.get_nd]
          by_cases b : m = 1
          · rw [if_pos b, if_neg (by omega), if_pos b]
          · rw [if_neg b, if_neg b]
            by_cases d : m % 2 = 1
            · rw [if_pos d, if_pos d, step l a b (by omega)]
            · rw [if_neg d, if_neg d, if_neg (by intro e; subst e; exact d c)]
        · rw [if_neg c, Tri.get_nd, Tri.get_nd]
          by_cases b : m = 1
          · rw [if_pos b, if_neg (by omega), if_pos b]
          · rw [if_neg b, if_neg b]
            by_cases d : m % 2 = 1
            · rw [if_pos d, if_pos d, if_neg (by intro e; subst e; exact c d)]
            · rw [if_neg d, if_neg d, step r a b (by omega)]
theorem Tri.get_put (t : Tri α) (n m : Nat) (x : Option α) (hn : 1 ≤ n) (hm : 1 ≤ m) :
    (t.put n x).get m = if m = n then x else t.get m := Tri.get_putF n t n m x hn hm (Nat.le_refl _)

/-- by an index from 0 on -/
noncomputable def Tri.at (t : Tri α) (i : Nat) : Option α := t.get (Nat.succ i)
noncomputable def Tri.set (t : Tri α) (i : Nat) (x : Option α) : Tri α := t.put (Nat.succ i) x
theorem Tri.at_set (t : Tri α) (i j : Nat) (x : Option α) : (t.set i x).at j = if j = i then x else t.at j := by
  unfold Tri.at Tri.set
  rw [Tri.get_put _ _ _ _ (by omega) (by omega)]
  by_cases e : j = i
  · rw [if_pos e, if_pos (by omega)]
  · rw [if_neg e, if_neg (by omega)]
theorem Tri.at_lf (i : Nat) : (Tri.lf : Tri α).at i = none := rfl
theorem Tri.at_set_same (t : Tri α) (i : Nat) (x : Option α) : (t.set i x).at i = x := by rw [Tri.at_set, if_pos rfl]
theorem Tri.at_set_ne (t : Tri α) {i j : Nat} (x : Option α) (h : j ≠ i) : (t.set i x).at j = t.at j := by rw [Tri.at_set, if_neg h]

/-- a row put from a place on -/
noncomputable def Tri.putRow (l : List α) : Tri α → Nat → Tri α :=
  List.rec (motive := fun _ => Tri α → Nat → Tri α) (fun t _ => t) (fun x _ ih t i => ih (t.set i (some x)) (Nat.succ i)) l
theorem Tri.putRow_nil (t : Tri α) (i : Nat) : Tri.putRow [] t i = t := rfl
theorem Tri.putRow_cons (x : α) (l : List α) (t : Tri α) (i : Nat) : Tri.putRow (x :: l) t i = Tri.putRow l (t.set i (some x)) (i + 1) := rfl
theorem Tri.at_putRow (l : List α) : ∀ (t : Tri α) (i j : Nat), (Tri.putRow l t i).at j = if i ≤ j ∧ j < i + l.length then l[j - i]? else t.at j := by
  induction l with
  | nil => intro t i j; rw [Tri.putRow_nil, if_neg (by simp only [List.length_nil]; omega)]
  | cons x l ih =>
    intro t i j
    rw [Tri.putRow_cons, ih]
    by_cases h : i + 1 ≤ j ∧ j < i + 1 + l.length
    · rw [if_pos h, if_pos (by simp only [List.length_cons]; omega)]
      obtain ⟨k, hk⟩ : ∃ k, j - i = k + 1 := ⟨j - i - 1, by omega⟩
      rw [hk, show j - (i + 1) = k by omega]; rfl
    · rw [if_neg h, Tri.at_set]
      by_cases e : j = i
      · rw [if_pos e, if_pos (by simp only [List.length_cons]; omega)]; subst e; simp
      · rw [if_neg e, if_neg (by simp only [List.length_cons]; omega)]

/-- a row read from a place on; none where a cell lacks -/
noncomputable def Tri.row (t : Tri α) (n : Nat) : Nat → Option (List α) :=
  Nat.rec (motive := fun _ => Nat → Option (List α)) (fun _ => some [])
    (fun _ ih i => Option.rec (motive := fun _ => Option (List α)) none (fun x => Option.rec (motive := fun _ => Option (List α)) none (fun l => some (x :: l)) (ih (Nat.succ i))) (t.at i)) n
theorem Tri.row_zero (t : Tri α) (i : Nat) : t.row 0 i = some [] := rfl
theorem Tri.row_succ (t : Tri α) (n i : Nat) : t.row (n + 1) i = (t.at i).bind fun x => (t.row n (i + 1)).bind fun l => some (x :: l) := by
  show Option.rec (motive := fun _ => Option (List α)) none (fun x => Option.rec (motive := fun _ => Option (List α)) none (fun l => some (x :: l)) (t.row n (i + 1))) (t.at i) = _
  cases t.at i with
  | none => rfl
  | some x => cases t.row n (i + 1) <;> rfl
theorem Tri.row_spec (t : Tri α) : ∀ (n i : Nat) (l : List α), t.row n i = some l → l.length = n ∧ ∀ j, j < n → t.at (i + j) = l[j]? := by
  intro n
  induction n with
  | zero => intro i l h; rw [Tri.row_zero] at h; cases h; exact ⟨rfl, fun j hj => by omega⟩
  | succ n ih =>
    intro i l h
    rw [Tri.row_succ] at h
    cases hx : t.at i with
    | none => rw [hx] at h; cases h
    | some x =>
      rw [hx] at h
      cases hr : t.row n (i + 1) with
      | none => rw [hr] at h; cases h
      | some l' =>
        rw [hr] at h
        simp only [Option.bind_some, Option.some.injEq] at h
        subst h
        obtain ⟨h1, h2⟩ := ih _ _ hr
        refine ⟨by simp [h1], fun j hj => ?_⟩
        cases j with
        | zero => simpa using hx
        | succ j => rw [show i + (j + 1) = i + 1 + j by omega, h2 j (by omega)]; rfl
theorem Tri.row_of (t : Tri α) : ∀ (n i : Nat) (l : List α), l.length = n → (∀ j, j < n → t.at (i + j) = l[j]?) → t.row n i = some l := by
  intro n
  induction n with
  | zero => intro i l h _; rw [List.length_eq_zero_iff.1 h]; rfl
  | succ n ih =>
    intro i l h hc
    cases l with
    | nil => cases h
    | cons x l =>
      rw [Tri.row_succ]
      have h0 := hc 0 (by omega)
      simp only [Nat.add_zero, List.getElem?_cons_zero] at h0
      rw [h0, Option.bind_some, ih (i + 1) l (by simpa using h) (fun j hj => by
        have := hc (j + 1) (by omega)
        rw [show i + 1 + j = i + (j + 1) by omega, this]; rfl)]
      rfl
end
end Go.Th

namespace Go.Th

/-! The abstract values: as the machine's, but that addresses name abstract blocks, that a capacity may be open, and that a string is a number. -/
inductive AV where
  | bool (b : Bool)
  | int (k : IntKind) (n : Int)
  | str (len bits : Nat)
  | ptr (b off : Nat)
  | nilPtr
  | slice (b off len : Nat) (cap : Option Nat)
  | nilSlice
  | map (r : Nat)
  | nilMap
  | func (f : Nat) (first captured : List AV)
  | nilFunc
  | yield (l : Nat)
  | iface (t : Nat) (v : AV)
  | nilIface
  | agg (cs : List AV)
  | tuple (vs : List AV)

/-- where an abstract block lies: its block, its first cell, its capacity in elements, an element's cells -/
structure BM where
  β : Nat
  δ : Nat
  capE : Nat
  esz : Nat
abbrev Mu := Nat → Option BM

def Mu.addr (μ : Mu) (b off : Nat) : Addr := match μ b with | some m => ⟨m.β, m.δ + off, none⟩ | none => ⟨0, off, none⟩
def Mu.cap (μ : Mu) (b off : Nat) : Nat := match μ b with | some m => m.capE - off / m.esz | none => 0
def Mu.blk (μ : Mu) (b : Nat) : Nat := match μ b with | some m => m.β | none => 0

def sbytes : Nat → Nat → List UInt8
  | 0, _ => []
  | n + 1, b => UInt8.ofNat (b % 256) :: sbytes n (b / 256)

mutual
def conc (μ : Mu) : AV → Value
  | .bool b => .bool b
  | .int k n => .int k n
  | .str n b => .string ⟨(sbytes n b).toArray⟩
  | .ptr b off => .pointer (some (μ.addr b off))
  | .nilPtr => .pointer none
  | .slice b off len (some c) => .slice (some (μ.addr b off)) len c
  | .slice b off len none => .slice (some (μ.addr b off)) len (μ.cap b off)
  | .nilSlice => .slice none 0 0
  | .map r => .map (some (μ.blk r))
  | .nilMap => .map none
  | .func f a b => .func (.func f) (concL μ a).toArray (concL μ b).toArray
  | .nilFunc => .nilFunc
  | .yield l => .func (.yield (μ.blk l)) #[] #[]
  | .iface t v => .iface t (conc μ v)
  | .nilIface => .nilIface
  | .agg cs => .agg (concL μ cs).toArray
  | .tuple cs => .tuple (concL μ cs).toArray
def concL (μ : Mu) : List AV → List Value
  | [] => []
  | v :: l => conc μ v :: concL μ l
end

mutual
def Ok (μ : Mu) : AV → Prop
  | .bool _ => True
  | .int _ _ => True
  | .str n b => b < 256 ^ n
  | .ptr b _ => ∃ m, μ b = some m
  | .nilPtr => True
  | .slice b off len cap => ∃ m, μ b = some m ∧ (cap = none → len ≤ m.capE - off / m.esz)
  | .nilSlice => True
  | .map r => ∃ m, μ r = some m
  | .nilMap => True
  | .func _ a b => OkL μ a ∧ OkL μ b
  | .nilFunc => True
  | .yield l => ∃ m, μ l = some m
  | .iface _ v => Ok μ v
  | .nilIface => True
  | .agg cs => OkL μ cs
  | .tuple cs => OkL μ cs
def OkL (μ : Mu) : List AV → Prop
  | [] => True
  | v :: l => Ok μ v ∧ OkL μ l
end

theorem concL_eq (μ : Mu) (l : List AV) : concL μ l = l.map (conc μ) := by
  induction l with
  | nil => simp [concL]
  | cons x l ih => simp [concL, ih]
theorem OkL_iff (μ : Mu) (l : List AV) : OkL μ l ↔ ∀ v ∈ l, Ok μ v := by
  induction l with
  | nil => simp [OkL]
  | cons x l ih => simp [OkL, ih]

def Mu.le (μ μ' : Mu) : Prop := ∀ b m, μ b = some m → μ' b = some m
theorem Mu.le_refl (μ : Mu) : μ.le μ := fun _ _ h => h
theorem Mu.le_trans {a b c : Mu} (h : a.le b) (k : b.le c) : a.le c := fun x m e => k x m (h x m e)

theorem Mu.addr_le {μ μ' : Mu} (h : μ.le μ') {b : Nat} (hb : ∃ m, μ b = some m) (off : Nat) : μ'.addr b off = μ.addr b off := by
  obtain ⟨m, hm⟩ := hb; simp [Mu.addr, hm, h _ _ hm]
theorem Mu.cap_le {μ μ' : Mu} (h : μ.le μ') {b : Nat} (hb : ∃ m, μ b = some m) (off : Nat) : μ'.cap b off = μ.cap b off := by
  obtain ⟨m, hm⟩ := hb; simp [Mu.cap, hm, h _ _ hm]
theorem Mu.blk_le {μ μ' : Mu} (h : μ.le μ') {b : Nat} (hb : ∃ m, μ b = some m) : μ'.blk b = μ.blk b := by
  obtain ⟨m, hm⟩ := hb; simp [Mu.blk, hm, h _ _ hm]
theorem Mu.exc_le {μ μ' : Mu} (h : μ.le μ') {b off len : Nat} {cap : Option Nat} (hb : ∃ m, μ b = some m ∧ (cap = none → len ≤ m.capE - off / m.esz)) : ∃ m, μ' b = some m ∧ (cap = none → len ≤ m.capE - off / m.esz) := by
  obtain ⟨m, hm, hc⟩ := hb; exact ⟨m, h _ _ hm, hc⟩
theorem Mu.ex_of {μ : Mu} {b : Nat} {p : BM → Prop} (h : ∃ m, μ b = some m ∧ p m) : ∃ m, μ b = some m := let ⟨m, a, _⟩ := h; ⟨m, a⟩
theorem Mu.ex_le {μ μ' : Mu} (h : μ.le μ') {b : Nat} (hb : ∃ m, μ b = some m) : ∃ m, μ' b = some m := by
  obtain ⟨m, hm⟩ := hb; exact ⟨m, h _ _ hm⟩

mutual
theorem conc_le {μ μ' : Mu} (h : μ.le μ') : ∀ v, Ok μ v → conc μ' v = conc μ v ∧ Ok μ' v
  | .bool _, _ => ⟨by simp [conc], by simp [Ok]⟩
  | .int _ _, _ => ⟨by simp [conc], by simp [Ok]⟩
  | .str _ _, o => ⟨by simp [conc], by simpa [Ok] using o⟩
  | .ptr b off, o => by
    simp only [Ok] at o; exact ⟨by simp [conc, Mu.addr_le h o], by simp only [Ok]; exact Mu.ex_le h o⟩
  | .nilPtr, _ => ⟨by simp [conc], by simp [Ok]⟩
  | .slice b off len (some c), o => by
    unfold Ok at o; exact ⟨by simp [conc, Mu.addr_le h (Mu.ex_of o)], by unfold Ok; exact Mu.exc_le h o⟩
  | .slice b off len none, o => by
    unfold Ok at o; exact ⟨by simp [conc, Mu.addr_le h (Mu.ex_of o), Mu.cap_le h (Mu.ex_of o)], by unfold Ok; exact Mu.exc_le h o⟩
  | .nilSlice, _ => ⟨by simp [conc], by simp [Ok]⟩
  | .map r, o => by
    simp only [Ok] at o; exact ⟨by simp [conc, Mu.blk_le h o], by simp only [Ok]; exact Mu.ex_le h o⟩
  | .nilMap, _ => ⟨by simp [conc], by simp [Ok]⟩
  | .func f a b, o => by
    simp only [Ok] at o
    obtain ⟨a1, a2⟩ := concL_le h a o.1
    obtain ⟨b1, b2⟩ := concL_le h b o.2
    exact ⟨by simp [conc, a1, b1], by simp only [Ok]; exact ⟨a2, b2⟩⟩
  | .nilFunc, _ => ⟨by simp [conc], by simp [Ok]⟩
  | .yield l, o => by
    simp only [Ok] at o; exact ⟨by simp [conc, Mu.blk_le h o], by simp only [Ok]; exact Mu.ex_le h o⟩
  | .iface t v, o => by
    simp only [Ok] at o
    obtain ⟨a1, a2⟩ := conc_le h v o
    exact ⟨by simp [conc, a1], by simp only [Ok]; exact a2⟩
  | .nilIface, _ => ⟨by simp [conc], by simp [Ok]⟩
  | .agg cs, o => by
    simp only [Ok] at o
    obtain ⟨a1, a2⟩ := concL_le h cs o
    exact ⟨by simp [conc, a1], by simp only [Ok]; exact a2⟩
  | .tuple cs, o => by
    simp only [Ok] at o
    obtain ⟨a1, a2⟩ := concL_le h cs o
    exact ⟨by simp [conc, a1], by simp only [Ok]; exact a2⟩
theorem concL_le {μ μ' : Mu} (h : μ.le μ') : ∀ l, OkL μ l → concL μ' l = concL μ l ∧ OkL μ' l
  | [], _ => ⟨by simp [concL], by simp [OkL]⟩
  | v :: l, o => by
    simp only [OkL] at o
    obtain ⟨a1, a2⟩ := conc_le h v o.1
    obtain ⟨b1, b2⟩ := concL_le h l o.2
    exact ⟨by simp [concL, a1, b1], by simp only [OkL]; exact ⟨a2, b2⟩⟩
end

/-- the cells of a value -/
def AV.cells : AV → List AV
  | .agg cs => cs
  | v => [v]
theorem conc_cells (μ : Mu) (v : AV) : (conc μ v).cells.toList = v.cells.map (conc μ) := by
  cases v with
  | agg cs => simp [conc, Value.cells, AV.cells, concL_eq]
  | slice b off len cap => cases cap <;> simp [conc, Value.cells, AV.cells]
  | _ => simp [conc, Value.cells, AV.cells]
theorem Ok_cells {μ : Mu} {v : AV} (h : Ok μ v) : ∀ x ∈ v.cells, Ok μ x := by
  cases v with
  | agg cs => simp only [Ok] at h; exact (OkL_iff μ cs).1 h
  | _ => intro x hx; simp only [AV.cells, List.mem_singleton] at hx; subst hx; exact h

def AV.scalar : AV → Bool
  | .agg _ => false
  | .tuple _ => false
  | _ => true

/-! Memory. -/
inductive Ob where
  /-- a row: its element type, how many cells are told, they; is it for reading alone; was it made by an append; ahead of which cell may one be frozen; an element's cells; may the mark of a string's bytes stand behind its end -/
  | cells (elem n : Nat) (cs : Tri AV) (ro dyn : Bool) (fz esz : Nat) (sish : Bool)
  | map (es : List (AV × AV))
  /-- the record of a range over a function: 0 ready, 1 busy, 2 done; the jump that a round has left; the temporaries; the code -/
  | loop (state : Nat) (pending : Option Code) (env : Tri AV) (N : Nat) (ps : List Tmp) (assign body : Code)
def Ob.ro : Ob → Bool
  | .cells _ _ _ r _ _ _ _ => r
  | .map _ => false
  | .loop .. => false
def lstate : Nat → LoopState
  | 0 => .ready
  | 1 => .busy
  | _ => .done
/-- an environment tells some of the temporaries -/
def EnvIs (μ : Mu) (N : Nat) (e : Tri AV) (tmps : Array Value) : Prop := tmps.size = N ∧ ∀ i v, e.at i = some v → Ok μ v ∧ tmps[i]? = some (conc μ v)
theorem EnvIs.le {μ μ' : Mu} (h : μ.le μ') {N : Nat} {e : Tri AV} {tmps : Array Value} (x : EnvIs μ N e tmps) : EnvIs μ' N e tmps :=
  ⟨x.1, fun i v q => ⟨(conc_le h v (x.2 i v q).1).2, by rw [(conc_le h v (x.2 i v q).1).1]; exact (x.2 i v q).2⟩⟩
structure Heap where
  nx : Nat
  ob : Tri Ob

def ObRel (μ : Mu) (m : BM) (w : World) : Ob → Prop
  | .cells elem n cs _ dyn fz esz sish => ∃ c elem' lo hi, w.heap[m.β]? = some (.cells c elem' (lo, hi)) ∧
      (∀ i, i < n → ∃ v, cs.at i = some v ∧ Ok μ v ∧ c[m.δ + i]? = some (conc μ v)) ∧
      (∀ j, m.δ + fz ≤ j → j < c.size → ¬ (lo ≤ j ∧ j < hi)) ∧ (sish = false → lo ≠ hi → lo < hi ∧ hi ≤ m.δ + fz) ∧
      (dyn = true → m.esz = esz ∧ 0 < esz ∧ n ≤ m.capE * esz ∧ m.δ + m.capE * esz ≤ c.size) ∧ (dyn = false → m.δ = 0) ∧ elem' = elem
  | .map es => ∃ l clock, w.heap[m.β]? = some (.map l clock) ∧ l.toList.map (fun e => (e.key, e.val)) = es.map (fun e => (conc μ e.1, conc μ e.2)) ∧
      ∀ e ∈ es, Ok μ e.1 ∧ Ok μ e.2
  | .loop state pending env N ps assign body => ∃ r : Loop, w.heap[m.β]? = some (.loop r) ∧ r.state = lstate state ∧ r.pending = pending ∧ r.params.toList = ps ∧ r.assign = assign ∧ r.body = body ∧ EnvIs μ N env r.tmps

structure Rel (μ : Mu) (h : Heap) (w : World) : Prop where
  lt : ∀ b o, h.ob.at b = some o → b < h.nx
  mlt : ∀ b m, μ b = some m → b < h.nx
  ok : ∀ b o m, h.ob.at b = some o → μ b = some m → ObRel μ m w o
  inj : ∀ b b' o o' m m', h.ob.at b = some o → h.ob.at b' = some o' → μ b = some m → μ b' = some m' → m.β = m'.β → b = b'
  bnd : ∀ b m, μ b = some m → m.β < w.heap.size

structure Ext (μ : Mu) (h : Heap) (w : World) (μ' : Mu) (h' : Heap) (w' : World) : Prop where
  nx : h.nx ≤ h'.nx
  mu : ∀ b, b < h.nx → μ' b = μ b
  old : ∀ b, b < h.nx → μ b = none → h'.ob.at b = h.ob.at b
  live : ∀ b o', b < h.nx → h'.ob.at b = some o' → ∃ o, h.ob.at b = some o ∧ o.ro = o'.ro
  newb : ∀ b o m, h.nx ≤ b → h'.ob.at b = some o → μ' b = some m → w.heap.size ≤ m.β ∨ ∃ b0 o0 m0, h.ob.at b0 = some o0 ∧ o0.ro = false ∧ μ b0 = some m0 ∧ m0.β = m.β
  size : w.heap.size ≤ w'.heap.size
  kept : ∀ β, β < w.heap.size → (∀ b o m, h.ob.at b = some o → o.ro = false → μ b = some m → m.β ≠ β) → w'.heap[β]? = w.heap[β]?
  os : w'.os = w.os
  tape : w'.tape = w.tape
  output : w'.output = w.output

theorem Ext.refl (μ : Mu) (h : Heap) (w : World) (hlt : ∀ b o, h.ob.at b = some o → b < h.nx) : Ext μ h w μ h w where
  nx := Nat.le_refl _
  mu := fun _ _ => rfl
  old := fun _ _ _ => rfl
  live := fun _ o _ e => ⟨o, e, rfl⟩
  newb := fun b o m hb he _ => by have := hlt b o he; omega
  size := Nat.le_refl _
  kept := fun _ _ _ => rfl
  os := rfl
  tape := rfl
  output := rfl

theorem Ext.le {μ μ' : Mu} {h h' : Heap} {w w' : World} (x : Ext μ h w μ' h' w') (r : Rel μ h w) : μ.le μ' :=
  fun b m e => by rw [x.mu b (r.mlt b m e)]; exact e

theorem Ext.trans {μ μ₁ μ₂ : Mu} {h h₁ h₂ : Heap} {w w₁ w₂ : World} (x : Ext μ h w μ₁ h₁ w₁) (y : Ext μ₁ h₁ w₁ μ₂ h₂ w₂) :
    Ext μ h w μ₂ h₂ w₂ where
  nx := Nat.le_trans x.nx y.nx
  mu := fun b hb => by rw [y.mu b (Nat.lt_of_lt_of_le hb x.nx), x.mu b hb]
  old := fun b hb hn => by rw [y.old b (Nat.lt_of_lt_of_le hb x.nx) (by rw [x.mu b hb]; exact hn), x.old b hb hn]
  live := fun b o' hb e => by
    obtain ⟨o1, e1, q1⟩ := y.live b o' (Nat.lt_of_lt_of_le hb x.nx) e
    obtain ⟨o, e0, q0⟩ := x.live b o1 hb e1
    exact ⟨o, e0, q0.trans q1⟩
  newb := fun b o m hb he hm => by
    by_cases hlt : b < h₁.nx
    · obtain ⟨o1, e1, q1⟩ := y.live b o hlt he
      exact x.newb b o1 m hb e1 (by rw [y.mu b hlt] at hm; exact hm)
    · rcases y.newb b o m (by omega) he hm with hh | ⟨b0, o0, m0, e0, q0, hm0, hβ⟩
      · exact .inl (Nat.le_trans x.size hh)
      · by_cases hb0 : b0 < h.nx
        · obtain ⟨o1, e1, q1⟩ := x.live b0 o0 hb0 e0
          exact .inr ⟨b0, o1, m0, e1, q1.trans q0, by rw [← x.mu b0 hb0]; exact hm0, hβ⟩
        · rcases x.newb b0 o0 m0 (by omega) e0 hm0 with hh | ⟨b1, o1, m1, e1, q1, hm1, hβ1⟩
          · exact .inl (by rw [← hβ]; exact hh)
          · exact .inr ⟨b1, o1, m1, e1, q1, hm1, hβ1.trans hβ⟩
  size := Nat.le_trans x.size y.size
  kept := fun β hβ hno => by
    rw [y.kept β (Nat.lt_of_lt_of_le hβ x.size) ?_, x.kept β hβ hno]
    intro b o m e q hm heq
    by_cases hb : b < h.nx
    · obtain ⟨o1, e1, q1⟩ := x.live b o hb e
      exact hno b o1 m e1 (q1.trans q) (by rw [← x.mu b hb]; exact hm) heq
    · rcases x.newb b o m (by omega) e hm with hh | ⟨b1, o1, m1, e1, q1, hm1, hβ1⟩
      · omega
      · exact hno b1 o1 m1 e1 q1 hm1 (hβ1.trans heq)
  os := y.os.trans x.os
  tape := y.tape.trans x.tape
  output := y.output.trans x.output

end Go.Th

namespace Go.Th

def Mu.ext (μ : Mu) (b : Nat) (m : BM) : Mu := fun x => if x = b then some m else μ x
theorem Mu.ext_same (μ : Mu) (b : Nat) (m : BM) : μ.ext b m b = some m := if_pos rfl
theorem Mu.ext_ne (μ : Mu) {b x : Nat} (m : BM) (h : x ≠ b) : μ.ext b m x = μ x := if_neg h
theorem Rel.le_ext {μ : Mu} {h : Heap} {w : World} (r : Rel μ h w) (m : BM) : μ.le (μ.ext h.nx m) := fun b m' e => by
  rw [Mu.ext_ne]; exact e
  intro he; have := r.mlt b m' e; omega

noncomputable def Heap.add (h : Heap) (o : Ob) : Heap := ⟨Nat.succ h.nx, h.ob.set h.nx (some o)⟩
noncomputable def Heap.upd (h : Heap) (b : Nat) (o : Option Ob) : Heap := ⟨h.nx, h.ob.set b o⟩
/-- a new name for a place at which nothing is told -/
def Heap.ref (h : Heap) : Heap := ⟨Nat.succ h.nx, h.ob⟩

theorem ObRel.mono {μ μ' : Mu} {m : BM} {w w' : World} {o : Ob} (hle : μ.le μ') (hw : w'.heap[m.β]? = w.heap[m.β]?) (h : ObRel μ m w o) : ObRel μ' m w' o := by
  cases o with
  | cells elem n cs ro dyn fz esz sish =>
    obtain ⟨c, el, lo, hi, h1, h2, h3⟩ := h
    refine ⟨c, el, lo, hi, hw.trans h1, fun i hi => ?_, h3⟩
    obtain ⟨v, a, b, e⟩ := h2 i hi
    obtain ⟨q, q'⟩ := conc_le hle v b
    exact ⟨v, a, q', by rw [q]; exact e⟩
  | map es =>
    obtain ⟨l, k, h1, h2, h3⟩ := h
    refine ⟨l, k, hw.trans h1, ?_, fun e he => ⟨(conc_le hle _ (h3 e he).1).2, (conc_le hle _ (h3 e he).2).2⟩⟩
    rw [h2]
    exact List.map_congr_left fun e he => by rw [(conc_le hle _ (h3 e he).1).1, (conc_le hle _ (h3 e he).2).1]
  | loop st pd env N ps as bd =>
    obtain ⟨r, h1, h2, h3, h4, h5, h6, h7⟩ := h
    exact ⟨r, hw.trans h1, h2, h3, h4, h5, h6, h7.le hle⟩

/-- a world with one block more -/
def pushed (w : World) (X : Obj) : World := { w with heap := w.heap.push X }
theorem pushed_old (w : World) (X : Obj) {k : Nat} (h : k < w.heap.size) : (pushed w X).heap[k]? = w.heap[k]? := by
  show (w.heap.push X)[k]? = _
  rw [Array.getElem?_push, if_neg (by omega)]
theorem pushed_new (w : World) (X : Obj) : (pushed w X).heap[w.heap.size]? = some X := by
  show (w.heap.push X)[w.heap.size]? = _
  simp
theorem pushed_size (w : World) (X : Obj) : (pushed w X).heap.size = w.heap.size + 1 := by
  show (w.heap.push X).size = _
  simp

theorem Rel.add {μ : Mu} {h : Heap} {w : World} (r : Rel μ h w) {m : BM} (hm : m.β = w.heap.size) {X : Obj} {o : Ob}
    (ho : ObRel (μ.ext h.nx m) m (pushed w X) o) :
    Rel (μ.ext h.nx m) (h.add o) (pushed w X) ∧ Ext μ h w (μ.ext h.nx m) (h.add o) (pushed w X) := by
  have hle := r.le_ext m
  refine ⟨⟨?_, ?_, ?_, ?_, ?_⟩, ⟨by simp [Heap.add], ?_, ?_, ?_, ?_, by rw [pushed_size]; omega, ?_, rfl, rfl, rfl⟩⟩
  · intro b o' e
    simp only [Heap.add, Tri.at_set] at e ⊢
    by_cases hb : b = h.nx
    · omega
    · rw [if_neg hb] at e; have := r.lt b o' e; omega
  · intro b m' e
    simp only [Heap.add]
    by_cases hb : b = h.nx
    · omega
    · rw [Mu.ext_ne _ _ hb] at e; have := r.mlt b m' e; omega
  · intro b o' m' e e'
    simp only [Heap.add, Tri.at_set] at e
    by_cases hb : b = h.nx
    · subst hb
      rw [if_pos rfl] at e; cases e
      rw [Mu.ext_same] at e'; cases e'
      exact ho
    · rw [if_neg hb] at e
      rw [Mu.ext_ne _ _ hb] at e'
      exact ObRel.mono hle (pushed_old w X (r.bnd b m' e')) (r.ok b o' m' e e')
  · intro b b' o1 o2 m1 m2 e1 e2 f1 f2 hβ
    simp only [Heap.add, Tri.at_set] at e1 e2
    by_cases hb : b = h.nx <;> by_cases hb' : b' = h.nx
    · omega
    · exfalso
      rw [if_neg hb'] at e2
      rw [Mu.ext_ne _ _ hb'] at f2
      subst hb; rw [Mu.ext_same] at f1; cases f1
      have := r.bnd b' m2 f2; omega
    · exfalso
      rw [if_neg hb] at e1
      rw [Mu.ext_ne _ _ hb] at f1
      subst hb'; rw [Mu.ext_same] at f2; cases f2
      have := r.bnd b m1 f1; omega
    · rw [if_neg hb] at e1; rw [if_neg hb'] at e2
      rw [Mu.ext_ne _ _ hb] at f1; rw [Mu.ext_ne _ _ hb'] at f2
      exact r.inj b b' o1 o2 m1 m2 e1 e2 f1 f2 hβ
  · intro b m' e
    rw [pushed_size]
    by_cases hb : b = h.nx
    · subst hb; rw [Mu.ext_same] at e; cases e; omega
    · rw [Mu.ext_ne _ _ hb] at e; have := r.bnd b m' e; omega
  · intro b hb; exact Mu.ext_ne _ _ (by omega)
  · intro b hb _; simp only [Heap.add]; rw [Tri.at_set_ne _ _ (by omega)]
  · intro b o' hb e
    simp only [Heap.add] at e
    rw [Tri.at_set_ne _ _ (by omega)] at e
    exact ⟨o', e, rfl⟩
  · intro b o' m' hb e e'
    left
    by_cases hbn : b = h.nx
    · subst hbn; rw [Mu.ext_same] at e'; cases e'; omega
    · rw [Mu.ext_ne _ _ hbn] at e'; have := r.mlt b m' e'; omega
  · intro β hβ _; exact pushed_old w X hβ

theorem Rel.ref {μ : Mu} {h : Heap} {w w' : World} (r : Rel μ h w) {m : BM} (hw : w'.heap = w.heap) (h1 : w'.os = w.os) (h2 : w'.tape = w.tape) (h3 : w'.output = w.output) (hm : m.β < w.heap.size) :
    Rel (μ.ext h.nx m) h.ref w' ∧ Ext μ h w (μ.ext h.nx m) h.ref w' := by
  have hle := r.le_ext m
  refine ⟨⟨?_, ?_, ?_, ?_, ?_⟩, ⟨by simp [Heap.ref], ?_, ?_, ?_, ?_, by rw [hw]; omega, ?_, h1, h2, h3⟩⟩
  · intro b o' e
    have := r.lt b o' e
    simp only [Heap.ref]; omega
  · intro b m' e
    simp only [Heap.ref]
    by_cases hb : b = h.nx
    · omega
    · rw [Mu.ext_ne _ _ hb] at e; have := r.mlt b m' e; omega
  · intro b o' m' e e'
    have hb : b ≠ h.nx := by have := r.lt b o' e; omega
    rw [Mu.ext_ne _ _ hb] at e'
    exact ObRel.mono hle (by rw [hw]) (r.ok b o' m' e e')
  · intro b b' o1 o2 m1 m2 e1 e2 f1 f2 hβ
    have hb : b ≠ h.nx := by have := r.lt b o1 e1; omega
    have hb' : b' ≠ h.nx := by have := r.lt b' o2 e2; omega
    rw [Mu.ext_ne _ _ hb] at f1; rw [Mu.ext_ne _ _ hb'] at f2
    exact r.inj b b' o1 o2 m1 m2 e1 e2 f1 f2 hβ
  · intro b m' e
    rw [hw]
    by_cases hb : b = h.nx
    · subst hb; rw [Mu.ext_same] at e; cases e; omega
    · rw [Mu.ext_ne _ _ hb] at e; exact r.bnd b m' e
  · intro b hb; exact Mu.ext_ne _ _ (by omega)
  · intro b hb _; rfl
  · intro b o' hb e; exact ⟨o', e, rfl⟩
  · intro b o' m' hb e e'
    have := r.lt b o' e; omega
  · intro β hβ _; rw [hw]

/-- nothing but the tape's count has turned -/
theorem Rel.same {μ : Mu} {h : Heap} {w w' : World} (r : Rel μ h w) (hw : w'.heap = w.heap) (h1 : w'.os = w.os) (h2 : w'.tape = w.tape) (h3 : w'.output = w.output) :
    Rel μ h w' ∧ Ext μ h w μ h w' := by
  refine ⟨⟨r.lt, r.mlt, fun b o m e e' => ObRel.mono (Mu.le_refl _) (by rw [hw]) (r.ok b o m e e'), r.inj, fun b m e => by rw [hw]; exact r.bnd b m e⟩,
    ⟨Nat.le_refl _, fun _ _ => rfl, fun _ _ _ => rfl, fun _ o _ e => ⟨o, e, rfl⟩, fun b o m hb e _ => by have := r.lt b o e; omega, by rw [hw]; omega, fun β _ _ => by rw [hw], h1, h2, h3⟩⟩

/-- one told block turns -/
theorem Rel.upd {μ : Mu} {h : Heap} {w w' : World} (r : Rel μ h w) {b : Nat} {o o' : Ob} {m : BM} (e : h.ob.at b = some o) (em : μ b = some m) (hro : o.ro = false) (hro' : o'.ro = false)
    (hsz : w'.heap.size = w.heap.size) (hoth : ∀ β, β ≠ m.β → w'.heap[β]? = w.heap[β]?) (h1 : w'.os = w.os) (h2 : w'.tape = w.tape) (h3 : w'.output = w.output)
    (ho : ObRel μ m w' o') : Rel μ (h.upd b (some o')) w' ∧ Ext μ h w μ (h.upd b (some o')) w' := by
  refine ⟨⟨?_, r.mlt, ?_, ?_, fun x m' e' => by rw [hsz]; exact r.bnd x m' e'⟩, ⟨Nat.le_refl _, fun _ _ => rfl, ?_, ?_, ?_, by omega, ?_, h1, h2, h3⟩⟩
  · intro x q e'
    simp only [Heap.upd, Tri.at_set] at e' ⊢
    by_cases hx : x = b
    · subst hx; exact r.lt x o e
    · rw [if_neg hx] at e'; exact r.lt x q e'
  · intro x q mx e' em'
    simp only [Heap.upd, Tri.at_set] at e'
    by_cases hx : x = b
    · subst hx; rw [if_pos rfl] at e'; cases e'; rw [em] at em'; cases em'; exact ho
    · rw [if_neg hx] at e'
      refine ObRel.mono (Mu.le_refl _) (hoth _ fun hβ => hx ?_) (r.ok x q mx e' em')
      exact r.inj x b q o mx m e' e em' em hβ
  · intro x y o1 o2 m1 m2 e1 e2 f1 f2 hβ
    simp only [Heap.upd, Tri.at_set] at e1 e2
    have g1 : ∃ q, h.ob.at x = some q := by
      by_cases hx : x = b
      · subst hx; exact ⟨o, e⟩
      · rw [if_neg hx] at e1; exact ⟨o1, e1⟩
    have g2 : ∃ q, h.ob.at y = some q := by
      by_cases hx : y = b
      · subst hx; exact ⟨o, e⟩
      · rw [if_neg hx] at e2; exact ⟨o2, e2⟩
    obtain ⟨q1, g1⟩ := g1
    obtain ⟨q2, g2⟩ := g2
    exact r.inj x y q1 q2 m1 m2 g1 g2 f1 f2 hβ
  · intro x hx hn
    simp only [Heap.upd]
    rw [Tri.at_set_ne]
    intro hxb; subst hxb; rw [em] at hn; cases hn
  · intro x q hx e'
    simp only [Heap.upd, Tri.at_set] at e'
    by_cases hxb : x = b
    · subst hxb; rw [if_pos rfl] at e'; cases e'; exact ⟨o, e, by rw [hro, hro']⟩
    · rw [if_neg hxb] at e'; exact ⟨q, e', rfl⟩
  · intro x q m' hx e' _
    simp only [Heap.upd, Tri.at_set] at e'
    by_cases hxb : x = b
    · subst hxb; have := r.lt x o e; omega
    · rw [if_neg hxb] at e'; have := r.lt x q e'; omega
  · intro β hβ hno
    exact hoth β fun hb => hno b o m e hro em hb.symm

/-- a told block is told no more -/
theorem Rel.kill {μ : Mu} {h : Heap} {w : World} (r : Rel μ h w) (b : Nat) {m : BM} (em : μ b = some m) : Rel μ (h.upd b none) w ∧ Ext μ h w μ (h.upd b none) w := by
  have g : ∀ x q, (h.upd b none).ob.at x = some q → h.ob.at x = some q := by
    intro x q e'
    simp only [Heap.upd, Tri.at_set] at e'
    by_cases hx : x = b
    · rw [if_pos hx] at e'; cases e'
    · rw [if_neg hx] at e'; exact e'
  refine ⟨⟨fun x q e => r.lt x q (g x q e), r.mlt, fun x q m e => r.ok x q m (g x q e), fun x y o1 o2 m1 m2 e1 e2 => r.inj x y o1 o2 m1 m2 (g _ _ e1) (g _ _ e2), r.bnd⟩,
    ⟨Nat.le_refl _, fun _ _ => rfl, ?_, fun x q _ e => ⟨q, g x q e, rfl⟩, fun x q m hx e _ => by have := r.lt x q (g x q e); have hx2 : h.nx ≤ x := hx; omega, Nat.le_refl _, fun _ _ _ => rfl, rfl, rfl, rfl⟩⟩
  intro x hx hn
  simp only [Heap.upd]
  rw [Tri.at_set_ne]
  intro hxb; subst hxb; rw [em] at hn; cases hn

theorem Rel.congr {μ : Mu} {h h' : Heap} {w : World} (r : Rel μ h w) (hn : h'.nx = h.nx) (ha : ∀ x, h'.ob.at x = h.ob.at x) : Rel μ h' w :=
  ⟨fun b o e => by rw [ha] at e; rw [hn]; exact r.lt b o e, fun b m e => by rw [hn]; exact r.mlt b m e, fun b o m e => by rw [ha] at e; exact r.ok b o m e,
    fun b b' o o' m m' e e' => by rw [ha] at e e'; exact r.inj b b' o o' m m' e e', r.bnd⟩
theorem Ext.congr {μ μ' : Mu} {h h' h'' : Heap} {w w' : World} (x : Ext μ h w μ' h' w') (hn : h''.nx = h'.nx) (ha : ∀ y, h''.ob.at y = h'.ob.at y) : Ext μ h w μ' h'' w' :=
  ⟨by rw [hn]; exact x.nx, x.mu, fun b => by rw [ha]; exact x.old b, fun b o e => by rw [ha]; exact x.live b o e, fun b o m hb e => by rw [ha] at e; exact x.newb b o m hb e, x.size, x.kept, x.os, x.tape, x.output⟩

/-! Reading and writing cells. -/
theorem Rel.cell {μ : Mu} {h : Heap} {w : World} (r : Rel μ h w) {b elem n : Nat} {cs : Tri AV} {ro dyn : Bool} {fz esz : Nat} {sish : Bool} {m : BM}
    (e : h.ob.at b = some (.cells elem n cs ro dyn fz esz sish)) (em : μ b = some m) {i : Nat} (hi : i < n) :
    ∃ v, cs.at i = some v ∧ Ok μ v ∧ w.cell? ⟨m.β, m.δ + i, none⟩ = some (conc μ v) := by
  obtain ⟨c, el, lo, hi', h1, h2, _⟩ := r.ok b _ m e em
  obtain ⟨v, a, o, q⟩ := h2 i hi
  exact ⟨v, a, o, by simp [World.cell?, h1, q]⟩

theorem conc_scalar {μ : Mu} {v : AV} (h : v.scalar = true) : (conc μ v).oneCell' = true := by
  cases v with
  | slice b off len cap => cases cap <;> simp [conc, Value.oneCell']
  | agg cs => cases h
  | tuple cs => cases h
  | _ => simp [conc, Value.oneCell']

theorem setCell_heap (w : World) (a : Addr) (v : Value) {c : Array Value} {elem : TypeId} {fz : Nat × Nat} (h : w.heap[a.block]? = some (.cells c elem fz)) (hs : a.spot = none) :
    (w.setCell a v).heap[a.block]? = some (.cells (c.setIfInBounds a.off v) elem fz) := by
  simp [World.setCell, Array.getElem?_modify, h, hs]
theorem setCell_other (w : World) (a : Addr) (v : Value) {β : Nat} (h : β ≠ a.block) : (w.setCell a v).heap[β]? = w.heap[β]? := by
  simp only [World.setCell, Array.getElem?_modify]
  rw [if_neg (by omega)]
theorem setCell_size (w : World) (a : Addr) (v : Value) : (w.setCell a v).heap.size = w.heap.size := by simp [World.setCell]

theorem Rel.store {μ : Mu} {h : Heap} {w : World} (r : Rel μ h w) {P : Program} {b elem n : Nat} {cs : Tri AV} {dyn : Bool} {fz esz : Nat} {sish : Bool} {m : BM}
    (e : h.ob.at b = some (.cells elem n cs false dyn fz esz sish)) (em : μ b = some m) {i : Nat} (hi : i < n) (hfz : fz ≤ i) {v : AV} (hv : v.scalar = true) (ov : Ok μ v) :
    ∃ w', (store ⟨m.β, m.δ + i, none⟩ (conc μ v)).run P w = .ok () w' ∧
      Rel μ (h.upd b (some (.cells elem n (cs.set i (some v)) false dyn fz esz sish))) w' ∧ Ext μ h w μ (h.upd b (some (.cells elem n (cs.set i (some v)) false dyn fz esz sish))) w' := by
  obtain ⟨c, el, lo, hi', h1, h2, h3, h4, h5, h6⟩ := r.ok b _ m e em
  obtain ⟨u, a, o, q⟩ := h2 i hi
  have hlt : m.δ + i < c.size := by
    rcases Nat.lt_or_ge (m.δ + i) c.size with hh | hh
    · exact hh
    · rw [Array.getElem?_eq_none hh] at q; cases q
  have hcell : w.cell? ⟨m.β, m.δ + i, none⟩ = some (conc μ u) := by simp [World.cell?, h1, q]
  have hfr : w.frozen? ⟨m.β, m.δ + i, none⟩ = false := by
    simp only [World.frozen?, h1]
    have := h3 (m.δ + i) (by omega) hlt
    simp only [Bool.and_eq_false_iff, decide_eq_false_iff_not]
    omega
  refine ⟨w.setCell ⟨m.β, m.δ + i, none⟩ (conc μ v), by rw [run_store _ _ _ _ _ (conc_scalar hv), hcell]; simp [hfr], ?_⟩
  have hb := setCell_heap w ⟨m.β, m.δ + i, none⟩ (conc μ v) h1 rfl
  refine r.upd e em rfl rfl (setCell_size _ _ _) (fun β hβ => setCell_other _ _ _ hβ) rfl rfl rfl ⟨_, el, lo, hi', hb, fun j hj => ?_, fun j q1 q2 => h3 j q1 (by simpa using q2), h4, fun hd => by rw [Array.size_setIfInBounds]; exact h5 hd, h6⟩
  by_cases hji : j = i
  · subst hji
    exact ⟨v, Tri.at_set_same _ _ _, ov, by simp [hlt]⟩
  · obtain ⟨u', a', o', q'⟩ := h2 j hj
    refine ⟨u', by rw [Tri.at_set_ne _ _ hji]; exact a', o', ?_⟩
    show (c.setIfInBounds (m.δ + i) (conc μ v))[m.δ + j]? = _
    rw [Array.getElem?_setIfInBounds_ne (by omega)]; exact q'

theorem Addr.add_cell (β o i : Nat) : (⟨β, o, none⟩ : Addr).add i = ⟨β, o + i, none⟩ := by
  unfold Addr.add; split
  · subst_vars; rfl
  · rfl

theorem run_loadCellsFrom {P : Program} {w : World} {β o : Nat} : ∀ (n i : Nat) (l : List Value) (acc : Array Value), l.length = n →
    (∀ j, j < n → w.cell? ⟨β, o + (i + j), none⟩ = l[j]?) → (loadCellsFrom ⟨β, o, none⟩ i n acc).run P w = .ok (acc ++ l.toArray) w := by
  intro n
  induction n with
  | zero => intro i l acc hl _; rw [List.length_eq_zero_iff.1 hl]; simp [loadCellsFrom]
  | succ n ih =>
    intro i l acc hl hc
    cases l with
    | nil => cases hl
    | cons x l =>
      have h0 := hc 0 (by omega)
      simp only [Nat.add_zero, List.getElem?_cons_zero] at h0
      simp only [loadCellsFrom, Sem.run_bind, run_load, Addr.add_cell, h0, Result.andThen_ok]
      rw [ih (i + 1) l (acc.push x) (by simpa using hl) (fun j hj => by
        have := hc (j + 1) (by omega)
        rw [show o + (i + 1 + j) = o + (i + (j + 1)) by omega, this]; rfl)]
      simp

theorem Rel.row {μ : Mu} {h : Heap} {w : World} (r : Rel μ h w) {P : Program} {b elem n : Nat} {cs : Tri AV} {ro dyn : Bool} {fz esz : Nat} {sish : Bool} {m : BM}
    (e : h.ob.at b = some (.cells elem n cs ro dyn fz esz sish)) (em : μ b = some m) {i k : Nat} (hk : i + k ≤ n) {l : List AV} (hl : cs.row k i = some l) :
    (loadCells ⟨m.β, m.δ + i, none⟩ k).run P w = .ok (l.map (conc μ)).toArray w ∧ ∀ v ∈ l, Ok μ v := by
  obtain ⟨s1, s2⟩ := Tri.row_spec _ _ _ _ hl
  have hcell : ∀ j, j < k → ∃ v, l[j]? = some v ∧ Ok μ v ∧ w.cell? ⟨m.β, m.δ + i + j, none⟩ = some (conc μ v) := by
    intro j hj
    obtain ⟨v, a, o, q⟩ := r.cell e em (i := i + j) (by omega)
    rw [s2 j hj] at a
    exact ⟨v, a, o, by rw [Nat.add_assoc]; exact q⟩
  constructor
  · unfold loadCells
    rw [run_loadCellsFrom k 0 (l.map (conc μ)) #[] (by simp [s1]) (fun j hj => by
      obtain ⟨v, a, _, q⟩ := hcell j hj
      simp [q, a])]
    simp
  · intro v hv
    obtain ⟨j, hj, rfl⟩ := List.mem_iff_getElem.1 hv
    obtain ⟨v', a, o, _⟩ := hcell j (by omega)
    rw [List.getElem?_eq_getElem hj] at a
    cases a; exact o

/-- a row stored from a place on -/
theorem Rel.storeRow {P : Program} {μ : Mu} {m : BM} {b elem n : Nat} {dyn : Bool} {fz esz : Nat} {sish : Bool} (em : μ b = some m) {i : Nat} (hfz : fz ≤ i) :
    ∀ (l : List AV) (j : Nat) (h : Heap) (w : World) (cs : Tri AV), Rel μ h w → h.ob.at b = some (.cells elem n cs false dyn fz esz sish) → i + j + l.length ≤ n →
      (∀ v ∈ l, v.scalar = true ∧ Ok μ v) → ∃ w', (storeCells ⟨m.β, m.δ + i, none⟩ (l.map (conc μ)) j).run P w = .ok () w' ∧
      Rel μ (h.upd b (some (.cells elem n (Tri.putRow l cs (i + j)) false dyn fz esz sish))) w' ∧ Ext μ h w μ (h.upd b (some (.cells elem n (Tri.putRow l cs (i + j)) false dyn fz esz sish))) w' := by
  intro l
  induction l with
  | nil =>
    intro j h w cs r e _ _
    have ha : ∀ x, (h.upd b (some (.cells elem n cs false dyn fz esz sish))).ob.at x = h.ob.at x := fun x => by
      simp only [Heap.upd, Tri.at_set]; split
      · subst_vars; exact e.symm
      · rfl
    exact ⟨w, rfl, r.congr rfl ha, (Ext.refl _ _ _ r.lt).congr rfl ha⟩
  | cons v l ih =>
    intro j h w cs r e hn hl
    simp only [List.length_cons] at hn
    obtain ⟨hs, ov⟩ := hl v (List.mem_cons_self ..)
    obtain ⟨w1, hrun, r1, x1⟩ := r.store (P := P) e em (i := i + j) (by omega) (by omega) hs ov
    obtain ⟨w2, hrun2, r2, x2⟩ := ih (j + 1) _ w1 (cs.set (i + j) (some v)) r1 (by simp [Heap.upd, Tri.at_set_same]) (by omega) (fun v hv => hl v (List.mem_cons_of_mem _ hv))
    have ha : ∀ x, (h.upd b (some (.cells elem n (Tri.putRow (v :: l) cs (i + j)) false dyn fz esz sish))).ob.at x = ((h.upd b (some (.cells elem n (cs.set (i + j) (some v)) false dyn fz esz sish))).upd b (some (.cells elem n (Tri.putRow l (cs.set (i + j) (some v)) (i + (j + 1))) false dyn fz esz sish))).ob.at x := fun x => by
      simp only [Heap.upd, Tri.at_set, Tri.putRow_cons, Nat.add_assoc]; split <;> rfl
    refine ⟨w2, ?_, r2.congr rfl ha, (x1.trans x2).congr rfl ha⟩
    simp only [List.map_cons, storeCells, Addr.add_cell, Sem.run_bind]
    rw [show m.δ + i + j = m.δ + (i + j) by omega, hrun]
    simpa using hrun2

end Go.Th


namespace Go.Th
noncomputable section

/-! ## Numbers -/
def xieq (a b : Int) : Bool := match a with
  | .ofNat x => (match b with | .ofNat y => Nat.beq x y | .negSucc _ => false)
  | .negSucc x => (match b with | .ofNat _ => false | .negSucc y => Nat.beq x y)
def xile (a b : Int) : Bool := match a with
  | .ofNat x => (match b with | .ofNat y => Nat.ble x y | .negSucc _ => false)
  | .negSucc x => (match b with | .ofNat _ => true | .negSucc y => Nat.ble y x)
def xnot (b : Bool) : Bool := sel b false true
def xilt (a b : Int) : Bool := xnot (xile b a)
def xwrapN (k : IntKind) (m : Nat) : Int := match k with
  | .i64 => sel (Nat.blt m 9223372036854775808) (.ofNat m) (IntKind.wrap .i64 (.ofNat m))
  | .u8 => .ofNat (Nat.mod m 256)
  | .u16 => .ofNat (Nat.mod m 65536)
  | .u32 => .ofNat (Nat.mod m 4294967296)
  | .u64 => .ofNat (Nat.mod m 18446744073709551616)
  | .i32 => sel (Nat.blt m 2147483648) (.ofNat m) (IntKind.wrap .i32 (.ofNat m))
  | k => IntKind.wrap k (.ofNat m)
def xwrapM (k : IntKind) (m : Nat) : Int := match k with
  | .i64 => sel (Nat.blt m 9223372036854775808) (.negSucc m) (IntKind.wrap .i64 (.negSucc m))
  | k => IntKind.wrap k (.negSucc m)
def xwrap (k : IntKind) (n : Int) : Int := match n with
  | .ofNat m => xwrapN k m
  | .negSucc m => xwrapM k m
def xlim : IntKind → Nat
  | .i8 => 0 | .i16 => 0 | .i32 => 2147483647 | .i64 => 9223372036854775807
  | .u8 => 255 | .u16 => 65535 | .u32 => 4294967295 | .u64 => 18446744073709551615
def mbits (op : BinOp) (k : IntKind) (x y : Int) : Option AV :=
  let a := BitVec.ofInt k.bits x
  let b := BitVec.ofInt k.bits y
  match op with
  | .and => some (.int k (k.wrap (a &&& b).toNat))
  | .or => some (.int k (k.wrap (a ||| b).toNat))
  | .xor => some (.int k (k.wrap (a ^^^ b).toNat))
  | .andNot => some (.int k (k.wrap (a &&& ~~~b).toNat))
  | _ => none
def nbits (op : BinOp) (k : IntKind) (x y : Nat) : Option AV :=
  match op with
  | .and => some (.int k (.ofNat (Nat.land x y)))
  | .or => some (.int k (.ofNat (Nat.lor x y)))
  | .xor => some (.int k (.ofNat (Nat.xor x y)))
  | _ => mbits op k (.ofNat x) (.ofNat y)
def xbits (op : BinOp) (k : IntKind) (a b : Int) : Option AV := match a with
  | .ofNat x => (match b with
    | .ofNat y => sel (Nat.ble x (xlim k)) (sel (Nat.ble y (xlim k)) (nbits op k x y) (mbits op k a b)) (mbits op k a b)
    | .negSucc _ => mbits op k a b)
  | .negSucc _ => mbits op k a b
def xquo (k : IntKind) (a b : Int) : Int := match a with
  | .ofNat x => (match b with | .ofNat y => xwrap k (.ofNat (Nat.div x y)) | .negSucc _ => k.wrap (a.tdiv b))
  | .negSucc _ => k.wrap (a.tdiv b)
def xrem (a b : Int) : Int := match a with
  | .ofNat x => (match b with | .ofNat y => .ofNat (Nat.mod x y) | .negSucc _ => a.tmod b)
  | .negSucc _ => a.tmod b
def xbitsOf : IntKind → Nat
  | .i8 | .u8 => 8
  | .i16 | .u16 => 16
  | .i32 | .u32 => 32
  | .i64 | .u64 => 64
def xshl (k : IntKind) (a : Int) (n : Nat) : Int := match a with
  | .ofNat x => xwrap k (.ofNat (Nat.mul x (Nat.pow 2 n)))
  | .negSucc _ => k.wrap (a * 2 ^ n)
def xshr (a : Int) (n : Nat) : Int := match a with
  | .ofNat x => .ofNat (Nat.shiftRight x n)
  | .negSucc _ => a.fdiv (2 ^ n)
def xmin (a b : Nat) : Nat := sel (Nat.ble a b) a b
def xshift (op : BinOp) (k : IntKind) (a b : Int) : Option AV := match b with
  | .negSucc _ => none
  | .ofNat y => (match op with
    | .shl => some (.int k (xshl k a (xmin y (xbitsOf k))))
    | .shr => some (.int k (xshr a (xmin y (xbitsOf k))))
    | _ => none)
def kindEq : IntKind → IntKind → Bool
  | .i8, .i8 | .i16, .i16 | .i32, .i32 | .i64, .i64 | .u8, .u8 | .u16, .u16 | .u32, .u32 | .u64, .u64 => true
  | _, _ => false
def xint (op : BinOp) (k : IntKind) (a b : Int) : Option AV := match op with
  | .add => some (.int k (xwrap k (Int.add a b)))
  | .sub => some (.int k (xwrap k (Int.sub a b)))
  | .mul => some (.int k (xwrap k (Int.mul a b)))
  | .quo => sel (xieq b 0) none (some (.int k (xquo k a b)))
  | .rem => sel (xieq b 0) none (some (.int k (xrem a b)))
  | .and => xbits .and k a b
  | .or => xbits .or k a b
  | .xor => xbits .xor k a b
  | .andNot => mbits .andNot k a b
  | .eql => some (.bool (xieq a b))
  | .neq => some (.bool (xnot (xieq a b)))
  | .lss => some (.bool (xilt a b))
  | .leq => some (.bool (xile a b))
  | .gtr => some (.bool (xilt b a))
  | .geq => some (.bool (xile b a))
  | _ => none

/-! ## Strings -/
def sAdd (l1 b1 l2 b2 : Nat) : AV := .str (Nat.add l1 l2) (Nat.add b1 (Nat.shiftLeft b2 (Nat.mul 8 l1)))
def sIdx (b i : Nat) : Nat := Nat.land (Nat.shiftRight b (Nat.mul 8 i)) 255
def sSub (b l h : Nat) : AV := .str (Nat.sub h l) (Nat.mod (Nat.shiftRight b (Nat.mul 8 l)) (Nat.pow 2 (Nat.mul 8 (Nat.sub h l))))
def sEq (l1 b1 l2 b2 : Nat) : Bool := sel (Nat.beq l1 l2) (Nat.beq b1 b2) false
/-- is one ahead of the other, byte by byte -/
def sLt : Nat → Nat → Nat → Nat → Bool
  | _, _, 0, _ => false
  | 0, _, _ + 1, _ => true
  | n + 1, a, m + 1, b => sel (Nat.blt (Nat.land a 255) (Nat.land b 255)) true (sel (Nat.beq (Nat.land a 255) (Nat.land b 255)) (sLt n (Nat.shiftRight a 8) m (Nat.shiftRight b 8)) false)
def xstr (op : BinOp) (l1 b1 l2 b2 : Nat) : Option AV := match op with
  | .add => sel (Nat.blt (Nat.add l1 l2) 1099511627776) (some (sAdd l1 b1 l2 b2)) none
  | .eql => some (.bool (sEq l1 b1 l2 b2))
  | .neq => some (.bool (xnot (sEq l1 b1 l2 b2)))
  | .lss => some (.bool (sLt l1 b1 l2 b2))
  | .leq => some (.bool (xnot (sLt l2 b2 l1 b1)))
  | .gtr => some (.bool (sLt l2 b2 l1 b1))
  | .geq => some (.bool (xnot (sLt l1 b1 l2 b2)))
  | _ => none
def bytesNat : List UInt8 → Nat
  | [] => 0
  | c :: l => c.toNat + 256 * bytesNat l
def strOf (l : List UInt8) : AV := .str l.length (bytesNat l)
/-- the bytes from a place on, as cells -/
def sCells : Nat → Nat → List AV
  | 0, _ => []
  | n + 1, b => .int .u8 (.ofNat (Nat.land b 255)) :: sCells n (Nat.shiftRight b 8)
/-- cells that are bytes, as a number -/
def cellsNat : List AV → Option Nat
  | [] => some 0
  | v :: l => match v with
    | .int .u8 (.ofNat c) => sel (Nat.blt c 256) (ob (cellsNat l) fun b => some (Nat.add c (Nat.mul 256 b))) none
    | _ => none

/-! ## Constants, operands -/
def optL {α β : Type} (f : α → Option β) : List α → Option (List β)
  | [] => some []
  | x :: l => ob (f x) fun y => ob (optL f l) fun r => some (y :: r)
def ofV : Nat → Value → Option AV
  | 0, _ => none
  | d + 1, v => match v with
    | .bool b => some (.bool b)
    | .int k n => some (.int k n)
    | .string s => some (strOf s.data.toList)
    | .pointer none => some .nilPtr
    | .slice none 0 0 => some .nilSlice
    | .map none => some .nilMap
    | .nilFunc => some .nilFunc
    | .nilIface => some .nilIface
    | .func (.func f) a b => ob (optL (ofV d) a.toList) fun x => ob (optL (ofV d) b.toList) fun y => some (.func f x y)
    | .iface t v => ob (ofV d v) fun x => some (.iface t x)
    | .agg cs => ob (optL (ofV d) cs.toList) fun x => some (.agg x)
    | .tuple cs => ob (optL (ofV d) cs.toList) fun x => some (.tuple x)
    | _ => none
abbrev Env := Tri AV
def opd (G : Nat) (e : Env) : Operand → Option AV
  | .tmp t => e.at t
  | .const v => ofV 5 v
  | .global g => sel (Nat.blt g G) (some (.ptr g 0)) none
  | .func f => some (.func f [] [])
def opds (G : Nat) (e : Env) : List Operand → Option (List AV)
  | [] => some []
  | x :: l => ob (opd G e x) fun v => ob (opds G e l) fun r => some (v :: r)
def opdO (G : Nat) (e : Env) : Option Operand → Option (Option AV)
  | none => some none
  | some x => ob (opd G e x) fun v => some (some v)

/-! ## Types -/
def szOf (P : Program) (t : TypeId) : Option Nat := match P.info? t with | some i => some i.size | none => none
def byOf (P : Program) (t : TypeId) : Option Nat := match P.info? t with | some i => some i.bytes | none => none
def zeroC (P : Program) (t : TypeId) : Option (List AV) := match P.info? t with
  | some i => (match i.zero with | some z => ob (ofV 5 z) fun v => some v.cells | none => none)
  | none => none
def zeroV (P : Program) (t : TypeId) : Option AV := match P.info? t with
  | some i => (match i.zero with | some z => ofV 5 z | none => none)
  | none => none
def aggT (d : TypeDesc) : Bool := match d with | .struct _ => true | .array _ _ => true | _ => false

/-! ## Memory -/
def cellOf (h : Heap) (b off : Nat) : Option AV := ob (h.ob.at b) fun o => match o with
  | .cells _ n cs _ _ _ _ _ => sel (Nat.blt off n) (cs.at off) none
  | _ => none
def rowOf (h : Heap) (b off k : Nat) : Option (List AV) := ob (h.ob.at b) fun o => match o with
  | .cells _ n cs _ _ _ _ _ => sel (Nat.ble (Nat.add off k) n) (cs.row k off) none
  | _ => none
def allScalar : List AV → Bool
  | [] => true
  | v :: l => sel v.scalar (allScalar l) false
def putCells (h : Heap) (b off : Nat) (l : List AV) : Option Heap := ob (h.ob.at b) fun o => match o with
  | .cells elem n cs ro dyn fz esz sish =>
    sel ro none (sel (Nat.ble fz off) (sel (Nat.ble (Nat.add off l.length) n) (sel (allScalar l) (some ⟨h.nx, h.ob.set b (some (.cells elem n (Tri.putRow l cs off) false dyn fz esz sish))⟩) none) none) none)
  | _ => none
def newCells (h : Heap) (elem : Nat) (l : List AV) : Nat × Heap :=
  (h.nx, ⟨Nat.succ h.nx, h.ob.set h.nx (some (.cells elem l.length (Tri.putRow l .lf 0) false false 0 0 false))⟩)
def newDyn (h : Heap) (elem : Nat) (l : List AV) (fz esz : Nat) (sish : Bool) : Nat × Heap :=
  (h.nx, ⟨Nat.succ h.nx, h.ob.set h.nx (some (.cells elem l.length (Tri.putRow l .lf 0) false true fz esz sish))⟩)
def xload (P : Program) (h : Heap) (t : TypeId) (b off : Nat) : Option AV := ob (P.underlying t) fun d =>
  sel (aggT d) (ob (szOf P t) fun n => ob (rowOf h b off n) fun l => some (.agg l)) (cellOf h b off)
def xstore (P : Program) (h : Heap) (t : TypeId) (b off : Nat) (v : AV) : Option Heap := ob (szOf P t) fun n =>
  sel (Nat.beq v.cells.length n) (putCells h b off v.cells) none

/-! ## Single operations -/
/-- cells laid over cells from a place on -/
def overL {α : Type} : List α → List α → List α
  | [], _ => []
  | x :: l, [] => x :: l
  | _ :: l, v :: r => v :: overL l r
def layL {α : Type} : List α → Nat → List α → List α
  | l, 0, vs => overL l vs
  | [], _ + 1, _ => []
  | x :: l, n + 1, vs => x :: layL l n vs
/-- parts laid, each at its place, of its size -/
def layParts (place : Nat → Option (Nat × Nat)) : List AV → List (Nat × AV) → Option (List AV)
  | cs, [] => some cs
  | cs, (i, v) :: r => ob (place i) fun p => match p with
    | (off, size) => sel (Nat.beq v.cells.length size) (sel (Nat.ble (Nat.add off size) cs.length) (layParts place (layL cs off v.cells) r) none) none
def partOpds (G : Nat) (e : Env) : List (Nat × Operand) → Option (List (Nat × AV))
  | [] => some []
  | (i, x) :: l => ob (opd G e x) fun v => ob (partOpds G e l) fun r => some ((i, v) :: r)
def fieldPlaces (P : Program) : List Field → Option (List (Nat × Nat))
  | [] => some []
  | f :: l => ob (szOf P f.type) fun n => ob (fieldPlaces P l) fun r => some ((f.offset, n) :: r)
def repL {α : Type} : Nat → List α → List α
  | 0, _ => []
  | n + 1, l => l ++ repL n l
def xbuild (P : Program) (t : TypeId) (parts : List (Nat × AV)) : Option AV := ob (zeroC P t) fun z => ob (P.underlying t) fun d => match d with
  | .struct fs => ob (fieldPlaces P fs.toList) fun pl => ob (layParts (fun i => pl[i]?) z parts) fun cs => some (.agg cs)
  | .array _ elem => ob (szOf P elem) fun n => ob (layParts (fun i => some (Nat.mul i n, n)) z parts) fun cs => some (.agg cs)
  | _ => none
def isNilV : AV → Option Bool
  | .nilPtr => some true
  | .ptr _ _ => some false
  | .nilSlice => some true
  | .slice _ _ _ _ => some false
  | .nilMap => some true
  | .map _ => some false
  | .nilFunc => some true
  | .func _ _ _ => some false
  | .nilIface => some true
  | .iface _ _ => some false
  | _ => none
/-- equality at a type, where one side is nil, or both are bools -/
def xeqT (sz : TypeId → Bool) (d : TypeDesc) (a b : AV) : Option Bool := match d with
  | .bool => (match a with | .bool x => (match b with | .bool y => some (sel x y (xnot y)) | _ => none) | _ => none)
  | .pointer el => (match a with
    | .nilPtr => (match b with | .nilPtr => some true | .ptr _ _ => some false | _ => none)
    | .ptr x o => (match b with | .nilPtr => some false | .ptr y o' => sel (sz el) (sel (Nat.beq x y) (some (Nat.beq o o')) none) none | _ => none)
    | _ => none)
  | .slice _ => (match a with
    | .nilSlice => (match b with | .nilSlice => some true | .slice _ _ _ _ => some false | _ => none)
    | .slice _ _ _ _ => (match b with | .nilSlice => some false | _ => none)
    | _ => none)
  | .map _ _ => (match a with
    | .nilMap => (match b with | .nilMap => some true | .map _ => some false | _ => none)
    | .map _ => (match b with | .nilMap => some false | _ => none)
    | _ => none)
  | .func _ _ _ => (match a with
    | .nilFunc => (match b with | .nilFunc => some true | .func _ _ _ => some false | _ => none)
    | .func _ _ _ => (match b with | .nilFunc => some false | _ => none)
    | _ => none)
  | .interface _ => (match a with
    | .nilIface => (match b with | .nilIface => some true | .iface _ _ => some false | _ => none)
    | .iface _ _ => (match b with | .nilIface => some false | _ => none)
    | _ => none)
  | _ => none
def isConstO : Operand → Bool
  | .const _ => true
  | _ => false
def bothNil (a b : AV) : Bool := match a with
  | .nilIface => (match b with | .nilIface => true | _ => false)
  | _ => false
def isAggV : AV → Bool
  | .agg _ => true
  | _ => false
/-- a type with a cell at least -/
def hasCells (P : Program) (t : TypeId) : Bool := match szOf P t with | some (_ + 1) => true | _ => false
def xcmp (P : Program) (op : BinOp) (t : TypeId) (cst : Bool) (a b : AV) : Option AV := match op with
  | .eql => sel (bothNil a b) (sel cst (ob (P.underlying t) fun d => ob (xeqT (hasCells P) d a b) fun r => some (.bool r)) none) (ob (P.underlying t) fun d => ob (xeqT (hasCells P) d a b) fun r => some (.bool r))
  | .neq => sel (bothNil a b) (sel cst (ob (P.underlying t) fun d => ob (xeqT (hasCells P) d a b) fun r => some (.bool (xnot r))) none) (ob (P.underlying t) fun d => ob (xeqT (hasCells P) d a b) fun r => some (.bool (xnot r)))
  | _ => none
def xbin (P : Program) (op : BinOp) (t : TypeId) (cst : Bool) (a b : AV) : Option AV := match a with
  | .int k x => (match b with
    | .int k' y => (match op with
      | .shl => xshift .shl k x y
      | .shr => xshift .shr k x y
      | _ => sel (kindEq k k') (xint op k x y) none)
    | _ => none)
  | .str l1 b1 => (match b with | .str l2 b2 => xstr op l1 b1 l2 b2 | _ => none)
  | _ => xcmp P op t cst a b
def xun (op : UnOp) (a : AV) : Option AV := match op with
  | .neg => (match a with | .int k n => some (.int k (xwrap k (Int.sub 0 n))) | _ => none)
  | .xor => (match a with | .int k n => mbits .xor k (if k.signed then -1 else k.max) n | _ => none)
  | .not => (match a with | .bool b => some (.bool (xnot b)) | _ => none)
  | _ => none
def u8T (d : Option TypeDesc) : Bool := match d with | some (.int .u8) => true | _ => false
/-- a slice type of bytes -/
def bytesT (P : Program) (d : TypeDesc) : Bool := match d with | .slice e => u8T (P.underlying e) | _ => false
/-- to or from unsafe.Pointer -/
def unsafeT (s d : TypeDesc) : Bool := match s with
  | .pointer _ => (match d with | .unsafePointer => true | _ => false)
  | .unsafePointer => (match d with | .pointer _ => true | _ => false)
  | _ => false
def xunsafe (P : Program) (s d : TypeDesc) (b off : Nat) (o : Ob) : Option AV := match o with
  | .cells elem n _ _ dyn _ _ _ => (match s with
    | .pointer t => (match d with | .unsafePointer => sel (hasCells P t) (sel (Nat.blt off n) (some (.ptr b off)) none) none | _ => none)
    | .unsafePointer => (match d with
      | .pointer u => sel (Nat.beq elem u) (sel (Nat.beq off 0) (sel dyn none (sel (hasCells P u) (ob (szOf P u) fun k => sel (Nat.ble k n) (some (.ptr b off)) none) none)) none) none
      | _ => none)
    | _ => none)
  | _ => none
/-- conversions that make no memory -/
def xconv (P : Program) (h : Heap) (src dst : TypeId) (a : AV) : Option AV := ob (P.underlying src) fun s => ob (P.underlying dst) fun d => match a with
  | .int _ n => (match d with | .int k => some (.int k (xwrap k n)) | _ => none)
  | .str l b => (match d with | .string => some (.str l b) | _ => none)
  | .nilSlice => sel (bytesT P s) (match d with | .string => some (.str 0 0) | _ => none) none
  | .slice b off len _ => sel (bytesT P s) (match d with | .string => ob (rowOf h b off len) (fun l => ob (cellsNat l) fun n => some (.str len n)) | _ => none) none
  | .nilPtr => sel (unsafeT s d) (some .nilPtr) none
  | .ptr b off => ob (h.ob.at b) fun o => xunsafe P s d b off o
  | _ => none
def xfieldAddr (P : Program) (s : TypeId) (f b off : Nat) : Option AV := ob (P.underlying s) fun d => match d with
  | .struct fs => ob fs[f]? fun fd => ob (szOf P fd.type) fun n => sel (Nat.beq n 0) none (some (.ptr b (Nat.add off fd.offset)))
  | _ => none
def xpart (P : Program) (t : TypeId) (cs : List AV) (off : Nat) : Option AV := ob (P.underlying t) fun d =>
  sel (aggT d) (ob (szOf P t) fun n => some (.agg ((cs.drop off).take n))) cs[off]?
def xfield (P : Program) (s : TypeId) (f : Nat) (cs : List AV) : Option AV := ob (P.underlying s) fun d => match d with
  | .struct fs => ob fs[f]? fun fd => xpart P fd.type cs fd.offset
  | _ => none
def asNat : Int → Option Nat
  | .ofNat n => some n
  | .negSucc _ => none
def xindexAddr (P : Program) (t : TypeId) (x i : AV) : Option AV := match i with
  | .int _ n => ob (asNat n) fun j => ob (P.underlying t) fun d => (match d with
    | .array len elem => (match x with | .ptr b off => sel (Nat.blt j len) (ob (szOf P elem) fun s => some (.ptr b (Nat.add off (Nat.mul j s)))) none | _ => none)
    | .slice elem => (match x with | .slice b off len _ => sel (Nat.blt j len) (ob (szOf P elem) fun s => some (.ptr b (Nat.add off (Nat.mul j s)))) none | _ => none)
    | _ => none)
  | _ => none
def xindex (P : Program) (t : TypeId) (x i : AV) : Option AV := match i with
  | .int _ n => ob (asNat n) fun j => ob (P.underlying t) fun d => (match d with
    | .array len elem => (match x with | .agg cs => sel (Nat.blt j len) (ob (szOf P elem) fun s => xpart P elem cs (Nat.mul j s)) none | _ => none)
    | .string => (match x with | .str l b => sel (Nat.blt j l) (some (.int .u8 (.ofNat (sIdx b j)))) none | _ => none)
    | _ => none)
  | _ => none
/-! maps: keys are whole numbers, texts, bools -/
def keyEq (a b : AV) : Option Bool := match a with
  | .int k x => (match b with | .int k' y => sel (kindEq k k') (some (xieq x y)) none | _ => none)
  | .str l x => (match b with | .str l' y => some (sEq l x l' y) | _ => none)
  | .bool x => (match b with | .bool y => some (sel x y (xnot y)) | _ => none)
  | _ => none
def keyFits (d : TypeDesc) (k : AV) : Bool := match k with
  | .int _ _ => (match d with | .int _ => true | _ => false)
  | .str _ _ => (match d with | .string => true | _ => false)
  | .bool _ => (match d with | .bool => true | _ => false)
  | _ => false
def findL (k : AV) : List (AV × AV) → Nat → Option (Option (Nat × AV))
  | [], _ => some none
  | (k', v) :: l, i => ob (keyEq k k') fun r => sel r (some (some (i, v))) (findL k l (Nat.succ i))
def mapOf (h : Heap) (r : Nat) : Option (List (AV × AV)) := ob (h.ob.at r) fun o => match o with
  | .map es => some es
  | _ => none
def xlookup (P : Program) (h : Heap) (t : TypeId) (x k : AV) (ok : Bool) : Option AV := ob (P.underlying t) fun d => match d with
  | .map kt et => ob (P.underlying kt) fun kd => sel (keyFits kd k) (ob (match x with | .nilMap => some [] | .map r => mapOf h r | _ => none) fun es =>
      ob (findL k es 0) fun f => match f with
        | some (_, v) => some (sel ok (.tuple [v, .bool true]) v)
        | none => ob (zeroV P et) fun z => some (sel ok (.tuple [z, .bool false]) z)) none
  | _ => none
def modL : List (AV × AV) → Nat → AV → AV → List (AV × AV)
  | [], _, _, _ => []
  | _ :: l, 0, k, v => (k, v) :: l
  | e :: l, i + 1, k, v => e :: modL l i k v
def delL : List (AV × AV) → Nat → List (AV × AV)
  | [], _ => []
  | _ :: l, 0 => l
  | e :: l, i + 1 => e :: delL l i
def xmapSet (P : Program) (h : Heap) (t : TypeId) (x k v : AV) : Option Heap := ob (P.underlying t) fun d => match d with
  | .map kt _ => ob (P.underlying kt) fun kd => sel (keyFits kd k) (match x with
      | .map r => ob (mapOf h r) fun es => ob (findL k es 0) fun f => (match f with
        | some (i, _) => some ⟨h.nx, h.ob.set r (some (.map (modL es i k v)))⟩
        | none => some ⟨h.nx, h.ob.set r (some (.map (es ++ [(k, v)])))⟩)
      | _ => none) none
  | _ => none
def xdelete (P : Program) (h : Heap) (t : TypeId) (x k : AV) : Option Heap := ob (P.underlying t) fun d => match d with
  | .map kt _ => ob (P.underlying kt) fun kd => sel (keyFits kd k) (match x with
      | .nilMap => some h
      | .map r => ob (mapOf h r) fun es => ob (findL k es 0) fun f => (match f with
        | some (i, _) => some ⟨h.nx, h.ob.set r (some (.map (delL es i)))⟩
        | none => some h)
      | _ => none) none
  | _ => none
/-! slices -/
def boundIn (x : AV) (y : Nat) : Option Nat := match x with
  | .int _ n => ob (asNat n) fun j => sel (Nat.ble j y) (some j) none
  | _ => none
def lowIn (lo : Option AV) (h : Nat) : Option Nat := match lo with
  | none => some 0
  | some v => boundIn v h
def xslice (P : Program) (h : Heap) (t : TypeId) (x : AV) (lo hi mx : Option AV) : Option (AV × Heap) := ob (P.underlying t) fun d => match d with
  | .string => (match x with
    | .str n b => (match mx with
      | some _ => none
      | none => ob (match hi with | none => some n | some v => boundIn v n) fun hh => ob (lowIn lo hh) fun l => some (sSub b l hh, h))
    | _ => none)
  | .slice elem => ob (szOf P elem) fun s => (match x with
    | .nilSlice => (match mx with
      | some v => ob (boundIn v 0) fun m => ob (match hi with | some v => boundIn v m | none => none) fun hh => ob (lowIn lo hh) fun _ => some (.nilSlice, h)
      | none => ob (match hi with | none => some 0 | some v => boundIn v 0) fun hh => ob (lowIn lo hh) fun _ => some (.nilSlice, h))
    | .slice b off len (some c) => (match mx with
      | some v => ob (boundIn v c) fun m => ob (match hi with | some v => boundIn v m | none => none) fun hh => ob (lowIn lo hh) fun l =>
          some (.slice b (sel (Nat.beq m l) off (Nat.add off (Nat.mul l s))) (Nat.sub hh l) (some (Nat.sub m l)), h)
      | none => ob (match hi with | none => some len | some v => boundIn v c) fun hh => ob (lowIn lo hh) fun l =>
          some (.slice b (sel (Nat.beq c l) off (Nat.add off (Nat.mul l s))) (Nat.sub hh l) (some (Nat.sub c l)), h))
    | .slice b off len none => (match mx with
      | some v => ob (boundIn v len) fun m => ob (match hi with | some v => boundIn v m | none => none) fun hh => ob (lowIn lo hh) fun l =>
          some (.slice b (sel (Nat.beq m l) off (Nat.add off (Nat.mul l s))) (Nat.sub hh l) (some (Nat.sub m l)), h)
      | none => ob (match hi with | none => some len | some v => boundIn v len) fun hh => ob (lowIn lo hh) fun l =>
          sel (Nat.beq l 0) (some (.slice b off hh none, h))
            (sel (Nat.blt l len) (ob (h.ob.at b) fun o => match o with
                | .cells _ _ _ _ dyn _ esz _ => sel dyn (sel (Nat.beq esz s) (some (.slice b (Nat.add off (Nat.mul l s)) (Nat.sub hh l) none, h)) none) none
                | _ => none)
              (some (.slice h.nx 0 0 none, ⟨Nat.succ h.nx, h.ob⟩))))
    | _ => none)
  | .array n elem => ob (szOf P elem) fun s => (match x with
    | .ptr b off => (match mx with
      | some v => ob (boundIn v n) fun m => ob (match hi with | some v => boundIn v m | none => none) fun hh => ob (lowIn lo hh) fun l =>
          some (.slice b (sel (Nat.beq m l) off (Nat.add off (Nat.mul l s))) (Nat.sub hh l) (some (Nat.sub m l)), h)
      | none => ob (match hi with | none => some n | some v => boundIn v n) fun hh => ob (lowIn lo hh) fun l =>
          some (.slice b (sel (Nat.beq n l) off (Nat.add off (Nat.mul l s))) (Nat.sub hh l) (some (Nat.sub n l)), h))
    | _ => none)
  | _ => none
/-- what is appended: how many, and their cells -/
def srcCells (h : Heap) (s : Nat) (x : AV) : Option (Nat × List AV) := match x with
  | .nilSlice => some (0, [])
  | .slice b off len _ => ob (rowOf h b off (Nat.mul len s)) fun l => some (len, l)
  | .str n b => sel (Nat.beq s 1) (some (n, sCells n b)) none
  | _ => none
def isIntT (d : TypeDesc) : Bool := match d with | .int _ => true | _ => false
def bigRoom : Nat := 1099511627776
def xappend (P : Program) (h : Heap) (t1 t2 : TypeId) (dst x : AV) : Option (AV × Heap) := ob (P.underlying t1) fun d1 => ob (P.underlying t2) fun d2 => match d1 with
  | .slice elem => sel (isIntT d2) none (ob (szOf P elem) fun s => ob (byOf P elem) fun by_ => ob (zeroC P elem) fun z => sel (Nat.beq z.length s) (ob (srcCells h s x) fun p => match p with
    | (n, new) => (match dst with
      | .nilSlice => sel (Nat.beq n 0) (some (.nilSlice, h)) (sel (Nat.blt 0 s) (sel (Nat.ble (Nat.mul n (Nat.succ by_)) bigRoom) (sel (allScalar new) (match newDyn h elem new 0 s false with | (b, h') => some (.slice b 0 n none, h')) none) none) none)
      | .slice b off len (some c) =>
        sel (Nat.ble (Nat.add len n) c) (ob (putCells h b (Nat.add off (Nat.mul len s)) new) fun h' => some (.slice b off (Nat.add len n) (some c), h'))
          (sel (Nat.blt 0 s) (sel (Nat.ble (Nat.mul (Nat.add len n) (Nat.succ by_)) bigRoom) (ob (rowOf h b off (Nat.mul len s)) fun old => sel (allScalar (old ++ new)) (match newDyn h elem (old ++ new) 0 s false with | (b', h') => some (.slice b' 0 (Nat.add len n) none, h')) none) none) none)
      | .slice b off len none =>
        sel (Nat.beq n 0) (some (dst, h)) (ob (h.ob.at b) fun o => match o with
          | .cells elem' nT cs ro dyn fz esz sish =>
            sel ro none (sel dyn (sel (Nat.beq esz s) (sel (Nat.blt 0 s) (sel (Nat.beq elem' elem) (sel (Nat.beq (Nat.mod off s) 0) (sel (Nat.ble (Nat.mul (Nat.add len n) (Nat.succ by_)) bigRoom) (sel (allScalar new)
              (sel (Nat.ble (Nat.add (Nat.add off (Nat.mul len s)) (Nat.mul n s)) nT)
                (ob (putCells h b (Nat.add off (Nat.mul len s)) new) fun h' => some (.slice b off (Nat.add len n) none, h'))
                (sel (Nat.ble fz (Nat.add off (Nat.mul len s))) (sel (Nat.ble (Nat.add off (Nat.mul len s)) nT) (ob (cs.row (Nat.mul len s) off) fun old => sel (allScalar old)
                  (match newDyn ⟨h.nx, h.ob.set b none⟩ elem (old ++ new) (Nat.sub fz off) s sish with | (b', h') => some (.slice b' 0 (Nat.add len n) none, h')) none) none) none)) none) none) none) none) none) none) none)
          | _ => none)
      | _ => none)) none)
  | _ => none
def xcopy (P : Program) (h : Heap) (t1 : TypeId) (dst src : AV) : Option (AV × Heap) := ob (P.underlying t1) fun d => match d with
  | .slice elem => ob (szOf P elem) fun s => (match dst with
    | .nilSlice => ob (srcCells h s src) fun _ => some (.int .i64 0, h)
    | .slice b off len _ => (match src with
      | .nilSlice => some (.int .i64 0, h)
      | .slice b' off' len' _ => ob (rowOf h b' off' (Nat.mul (xmin len' len) s)) fun l => ob (putCells h b off l) fun h' => some (.int .i64 (.ofNat (xmin len' len)), h')
      | .str l' x => sel (Nat.beq s 1) (ob (putCells h b off (sCells (xmin l' len) x)) fun h' => some (.int .i64 (.ofNat (xmin l' len)), h')) none
      | _ => none)
    | _ => none)
  | _ => none
def xlen (P : Program) (h : Heap) (t : TypeId) (x : AV) : Option AV := ob (P.underlying t) fun d => match x with
  | .str n _ => (match d with | .string => some (.int .i64 (.ofNat n)) | _ => none)
  | .nilSlice => (match d with | .slice _ => some (.int .i64 0) | _ => none)
  | .slice _ _ n _ => (match d with | .slice _ => some (.int .i64 (.ofNat n)) | _ => none)
  | .nilMap => (match d with | .map _ _ => some (.int .i64 0) | _ => none)
  | .map r => (match d with | .map _ _ => ob (mapOf h r) fun es => some (.int .i64 (.ofNat es.length)) | _ => none)
  | _ => (match d with
    | .array n _ => some (.int .i64 (.ofNat n))
    | .pointer a => ob (P.underlying a) fun d' => (match d' with | .array n _ => some (.int .i64 (.ofNat n)) | _ => none)
    | _ => none)
def xcap (P : Program) (t : TypeId) (x : AV) : Option AV := ob (P.underlying t) fun d => match d with
  | .slice _ => (match x with
    | .nilSlice => some (.int .i64 0)
    | .slice _ _ _ (some c) => some (.int .i64 (.ofNat c))
    | _ => none)
  | _ => none
def xminmax (mx : Bool) (a b : AV) : Option AV := match a with
  | .int k x => (match b with | .int _ y => some (.int k (sel (sel mx (xilt x y) (xilt y x)) y x)) | _ => none)
  | _ => none
def xmake (P : Program) (h : Heap) (t : TypeId) (l c : AV) : Option (AV × Heap) := ob (P.underlying t) fun d => match d with
  | .slice elem => ob (szOf P elem) fun s => ob (byOf P elem) fun by_ => ob (zeroC P elem) fun z => (match l with
    | .int _ ln => (match c with
      | .int _ cn => ob (asNat ln) fun ll => ob (asNat cn) fun cc => sel (Nat.ble ll cc) (sel (Nat.ble (Nat.mul cc (Nat.succ by_)) bigRoom) (sel (Nat.beq z.length s)
          (match newCells h elem (repL cc z) with | (b, h') => some (.slice b 0 ll (some cc), h')) none) none) none
      | _ => none)
    | _ => none)
  | _ => none
/-- the bytes of a []byte that came from an append, as a string that shares them -/
def xunsafeString (P : Program) (h : Heap) (t1 : TypeId) (p n : AV) : Option (AV × Heap) := match n with
  | .int _ k => ob (asNat k) fun j => sel (Nat.beq j 0) (match p with | .nilPtr => some (.str 0 0, h) | .ptr _ _ => some (.str 0 0, h) | _ => none) (match p with
    | .ptr b off => ob (P.underlying t1) fun d => (match d with
      | .pointer pe => ob (h.ob.at b) fun o => (match o with
        | .cells elem nT cs ro dyn fz esz sish => sel ro none (sel sish none (sel (Nat.beq elem pe) (sel (Nat.ble (Nat.add off j) nT) (sel (match szOf P elem with | some s => Nat.beq s 1 | none => false) (sel (u8T (P.underlying elem)) (ob (cs.row j off) fun l => ob (cellsNat l) fun x => sel (Nat.blt j 1099511627776) (some (.str j x, ⟨h.nx, h.ob.set b (some (.cells elem nT cs ro dyn (sel (Nat.ble (Nat.add off j) fz) fz (Nat.add off j)) esz sish))⟩)) none) none) none) none) none))
        | _ => none)
      | _ => none)
    | _ => none)
  | _ => none
def xunsafeSliceData (h : Heap) (x : AV) : Option (AV × Heap) := match x with
  | .nilSlice => some (.nilPtr, h)
  | .slice b off _ (some c) => sel (Nat.beq c 0) none (some (.ptr b off, h))
  | .slice b off len none => sel (Nat.beq len 0) none (some (.ptr b off, h))
  | _ => none

/-! ## Calls -/
inductive Fwd where
  | go | noEscape | add64 | sub64 | idxByte | idxStr | mkNoZero | other
def two64 : Nat := 18446744073709551616
def xcarry (add : Bool) (x y c : AV) : Option AV := match x with
  | .int _ a => (match y with
    | .int _ b => (match c with
      | .int _ d => ob (asNat a) fun p => ob (asNat b) fun q => ob (asNat d) fun r => sel (Nat.ble r 1) (
          sel add (some (.tuple [.int .u64 (.ofNat (Nat.mod (Nat.add (Nat.add p q) r) two64)), .int .u64 (.ofNat (Nat.div (Nat.add (Nat.add p q) r) two64))]))
            (some (.tuple [.int .u64 (.ofNat (Nat.mod (Nat.sub (Nat.sub (Nat.add p two64) q) r) two64)), .int .u64 (.ofNat (sel (Nat.blt p (Nat.add q r)) 1 0))]))) none
      | _ => none)
    | _ => none)
  | _ => none
/-- where a byte stands first -/
def sFind (c : Nat) : Nat → Nat → Nat → Int
  | 0, _, _ => -1
  | n + 1, b, i => sel (Nat.beq (Nat.land b 255) c) (.ofNat i) (sFind c n (Nat.shiftRight b 8) (Nat.succ i))
def xext (c : Fwd) (args : List AV) (h : Heap) : Option (AV × Heap) := match c with
  | .noEscape => (match args with | [x] => some (x, h) | _ => none)
  | .add64 => (match args with | [x, y, c] => ob (xcarry true x y c) fun v => some (v, h) | _ => none)
  | .sub64 => (match args with | [x, y, c] => ob (xcarry false x y c) fun v => some (v, h) | _ => none)
  | .idxByte => (match args with
    | [.str n b, .int .u8 (.ofNat c)] => sel (Nat.blt c 256) (some (.int .i64 (sFind c n b 0), h)) none
    | _ => none)
  | .mkNoZero => none
  | _ => none
/-- what is called: a function, or the round of a range over a function -/
inductive Tgt where
  | fn (f : Nat)
  | yld (l : Nat)
structure Cx where
  P : Program
  G : Nat
  C : Nat → Fwd
  E : Tgt → List AV → Heap → Option (AV × Heap)
def xgo (X : Cx) (f : Nat) (args : List AV) (h : Heap) : Option (AV × Heap) := match X.C f with
  | .go => X.E (.fn f) args h
  | c => xext c args h
def xcallV (X : Cx) (f : AV) (args : List AV) (h : Heap) : Option (AV × Heap) := match f with
  | .func g first captured => xgo X g (first ++ args ++ captured) h
  | .yield l => X.E (.yld l) args h
  | _ => none
def xbuiltin (X : Cx) (b : Builtin) (ts : List TypeId) (args : List AV) (h : Heap) : Option (AV × Heap) := match b with
  | .len => (match ts with | t :: _ => (match args with | x :: _ => ob (xlen X.P h t x) fun v => some (v, h) | _ => none) | _ => none)
  | .cap => (match ts with | t :: _ => (match args with | x :: _ => ob (xcap X.P t x) fun v => some (v, h) | _ => none) | _ => none)
  | .append => (match ts with | [t1, t2] => (match args with | x :: y :: _ => xappend X.P h t1 t2 x y | _ => none) | _ => none)
  | .copy => (match ts with | t :: _ => (match args with | x :: y :: _ => xcopy X.P h t x y | _ => none) | _ => none)
  | .delete => (match ts with | t :: _ => (match args with | x :: y :: _ => ob (xdelete X.P h t x y) fun h' => some (.tuple [], h') | _ => none) | _ => none)
  | .max => (match args with | [x, y] => ob (xminmax true x y) fun v => some (v, h) | _ => none)
  | .min => (match args with | [x, y] => ob (xminmax false x y) fun v => some (v, h) | _ => none)
  | .unsafeString => (match ts with | t :: _ => (match args with | [p, n] => xunsafeString X.P h t p n | _ => none) | _ => none)
  | .unsafeSliceData => (match args with | [x] => xunsafeSliceData h x | _ => none)
  | _ => none
def xcallO (X : Cx) (e : Env) (c : Call) (h : Heap) : Option (AV × Heap) := ob (opds X.G e c.args.toList) fun args => match c.callee with
  | .value (.func f) => xgo X f args h
  | .value x => ob (opd X.G e x) fun f => xcallV X f args h
  | .builtin b => xbuiltin X b c.argTypes.toList args h
  | _ => none
def pure' (h : Heap) (x : Option AV) : Option (AV × Heap) := ob x fun v => some (v, h)
def unit' (x : Option Heap) : Option (AV × Heap) := ob x fun h => some (.tuple [], h)
/-- a text turned into its bytes, or into another text -/
def strTo (P : Program) (h : Heap) (s t : TypeId) (a : AV) (n b : Nat) (d : TypeDesc) : Option (AV × Heap) := match d with
  | .slice el => sel (u8T (P.underlying el)) (match newDyn h el (sCells n b) 0 1 true with | (b', h') => some (.slice b' 0 n none, h')) none
  | _ => pure' h (xconv P h s t a)
/-- an operation, at an environment and a heap: its value, and the heap behind it -/
def xop (X : Cx) (op : Op) (e : Env) (h : Heap) : Option (AV × Heap) := match op with
  | .move x => pure' h (opd X.G e x)
  | .assign x => pure' h (opd X.G e x)
  | .pick c a b => ob (opd X.G e c) fun v => (match v with | .bool t => sel t (pure' h (opd X.G e a)) (pure' h (opd X.G e b)) | _ => none)
  | .alloc t => ob (zeroC X.P t) fun z => (match newCells h t z with | (b, h') => some (.ptr b 0, h'))
  | .box t x => ob (opd X.G e x) fun v => (match newCells h t v.cells with | (b, h') => some (.ptr b 0, h'))
  | .build t ps => ob (partOpds X.G e ps.toList) fun l => pure' h (xbuild X.P t l)
  | .buildSlice t len ps => ob (partOpds X.G e ps.toList) fun l => ob (X.P.underlying t) fun d => (match d with
    | .slice elem => ob (szOf X.P elem) fun s => ob (zeroC X.P elem) fun z => sel (Nat.beq z.length s) (sel (Nat.ble (Nat.mul len s) 16777216) (ob (layParts (fun i => some (Nat.mul i s, s)) (repL len z) l) fun cs =>
        (match newCells h elem cs with | (b, h') => some (.slice b 0 len (some len), h'))) none) none
    | _ => none)
  | .load t a => ob (opd X.G e a) fun p => (match p with | .ptr b off => pure' h (xload X.P h t b off) | _ => none)
  | .store t a x => ob (opd X.G e a) fun p => ob (opd X.G e x) fun v => (match p with | .ptr b off => unit' (xstore X.P h t b off v) | _ => none)
  | .nilCheck x => ob (opd X.G e x) fun v => (match v with | .ptr _ _ => some (v, h) | .func _ _ _ => some (v, h) | _ => none)
  | .binOp op t x y _ => ob (opd X.G e x) fun a => ob (opd X.G e y) fun b => pure' h (xbin X.P op t (sel (isConstO x) true (isConstO y)) a b)
  | .unOp op _ x => ob (opd X.G e x) fun a => pure' h (xun op a)
  | .convert s t x => ob (opd X.G e x) fun a => (match a with
    | .str n b => ob (X.P.underlying t) fun d => sel (X.P.underlying s).isSome (strTo X.P h s t a n b d) none
    | _ => pure' h (xconv X.P h s t a))
  | .makeInterface t x => ob (opd X.G e x) fun v => ob (X.P.underlying t) fun d => (match d with | .interface _ => none | _ => some (.iface t v, h))
  | .makeFunc fn a b => (match fn with | .func f => ob (opds X.G e a.toList) fun x => ob (opds X.G e b.toList) fun y => some (.func f x y, h) | _ => none)
  | .makeMap t r => (match r with
    | none => some (.map h.nx, ⟨Nat.succ h.nx, h.ob.set h.nx (some (.map []))⟩)
    | some x => ob (X.P.underlying t) fun d => (match d with | .map _ _ => ob (opd X.G e x) fun v => (match v with | .int _ _ => some (.map h.nx, ⟨Nat.succ h.nx, h.ob.set h.nx (some (.map []))⟩) | _ => none) | _ => none))
  | .makeSlice t l c => ob (opd X.G e l) fun x => ob (opd X.G e c) fun y => xmake X.P h t x y
  | .slice t x lo hi mx => ob (opd X.G e x) fun v => ob (opdO X.G e lo) fun l => ob (opdO X.G e hi) fun hh => ob (opdO X.G e mx) fun m => xslice X.P h t v l hh m
  | .fieldAddr s x f => ob (opd X.G e x) fun p => (match p with | .ptr b off => pure' h (xfieldAddr X.P s f b off) | _ => none)
  | .field s x f => ob (opd X.G e x) fun p => (match p with | .agg cs => pure' h (xfield X.P s f cs) | _ => none)
  | .indexAddr t x i => ob (opd X.G e x) fun a => ob (opd X.G e i) fun b => pure' h (xindexAddr X.P t a b)
  | .index t x i => ob (opd X.G e x) fun a => ob (opd X.G e i) fun b => pure' h (xindex X.P t a b)
  | .lookup t x i ok => ob (opd X.G e x) fun a => ob (opd X.G e i) fun b => pure' h (xlookup X.P h t a b ok)
  | .mapUpdate t m k x => ob (opd X.G e m) fun a => ob (opd X.G e k) fun b => ob (opd X.G e x) fun v => unit' (xmapSet X.P h t a b v)
  | .insert t m k x => ob (opd X.G e m) fun a => ob (opd X.G e k) fun b => ob (opd X.G e x) fun v => unit' (xmapSet X.P h t a b v)
  | .extract x i => ob (opd X.G e x) fun v => (match v with | .tuple vs => ob vs[i]? fun r => some (r, h) | _ => none)
  | .call c => xcallO X e c h
  | _ => none

/-! ## Regions -/
def putE (e : Env) (d : Option Tmp) (v : AV) : Env := match d with | some t => e.set t (some v) | none => e
/-- is an operation wanted? none: it cannot be told -/
def wantE (slots : List (Option Tmp)) (e : Env) (o : Oper) : Option Bool := match o.guard with
  | none => some true
  | some (j, want) => (match slots[j]? with
    | some (some s) => ob (e.at s) fun v => (match v with | .bool b => some (sel b want (xnot want)) | _ => some false)
    | _ => some false)
def dstOk (N : Nat) (d : Option Tmp) : Bool := match d with | some t => Nat.blt t N | none => true
def xstep (X : Cx) (N : Nat) (slots : List (Option Tmp)) (o : Oper) (e : Env) (h : Heap) : Option (Env × Heap) := sel (dstOk N o.dst)
  (ob (wantE slots e o) fun b => sel b (ob (xop X o.op e h) fun r => match r with | (v, h') => some (putE e o.dst v, h')) (some (putE e o.dst (.tuple []), h))) none
def xsteps (X : Cx) (N : Nat) (slots : List (Option Tmp)) : List Oper → Env → Heap → Option (Env × Heap)
  | [], e, h => some (e, h)
  | o :: l, e, h => ob (xstep X N slots o e h) fun r => match r with | (e', h') => xsteps X N slots l e' h'

/-- kinds of operations, for a region that draws: 0 it looks at no memory, 1 it reads, 2 it makes memory of its own, 3 it acts -/
def opCls : Op → Nat
  | .move _ | .assign _ | .pick .. | .build .. | .nilCheck _ | .binOp .. | .unOp .. | .makeInterface .. | .makeFunc .. | .fieldAddr .. | .field .. | .indexAddr .. | .index .. | .extract .. => 0
  | .load .. | .lookup .. | .convert .. | .slice .. => 1
  | .alloc _ | .box .. | .buildSlice .. | .makeMap .. | .makeSlice .. => 2
  | .call c => (match c.callee with | .builtin .len => 1 | .builtin .cap => 0 | .builtin .min => 0 | .builtin .max => 0 | .builtin .unsafeSliceData => 1 | _ => 3)
  | _ => 3
/-- of each operation all that must be ahead of it, as bits -/
def befM (ops : List Oper) : List Nat :=
  ops.foldl (fun acc o => acc ++ [o.after.toList.foldl (fun s e => if Region.binds .any e then s ||| 2 ^ e.on ||| acc.getD e.on 0 else s) 0]) []
def avEq : Nat → AV → AV → Bool
  | 0, _, _ => false
  | d + 1, a, b => match a with
    | .bool x => (match b with | .bool y => sel x y (xnot y) | _ => false)
    | .int k x => (match b with | .int k' y => sel (kindEq k k') (xieq x y) false | _ => false)
    | .str l x => (match b with | .str l' y => sEq l x l' y | _ => false)
    | .ptr x o => (match b with | .ptr y o' => sel (Nat.beq x y) (Nat.beq o o') false | _ => false)
    | .nilPtr => (match b with | .nilPtr => true | _ => false)
    | .slice x o l (some c) => (match b with | .slice y o' l' (some c') => sel (Nat.beq x y) (sel (Nat.beq o o') (sel (Nat.beq l l') (Nat.beq c c') false) false) false | _ => false)
    | .slice x o l none => (match b with | .slice y o' l' none => sel (Nat.beq x y) (sel (Nat.beq o o') (Nat.beq l l') false) false | _ => false)
    | .nilSlice => (match b with | .nilSlice => true | _ => false)
    | .map x => (match b with | .map y => Nat.beq x y | _ => false)
    | .nilMap => (match b with | .nilMap => true | _ => false)
    | .nilFunc => (match b with | .nilFunc => true | _ => false)
    | .nilIface => (match b with | .nilIface => true | _ => false)
    | .agg x => (match b with | .agg y => go d x y | _ => false)
    | .tuple x => (match b with | .tuple y => go d x y | _ => false)
    | _ => false
where
  go (d : Nat) : List AV → List AV → Bool
    | [], [] => true
    | x :: l, y :: r => sel (avEq d x y) (go d l r) false
    | _, _ => false
end
end Go.Th

namespace Go.Th
noncomputable section

/-! A region that draws its order: the operations in phases. Of a phase: those that do not act, in order; those that read and must read the same once more; the one that acts. -/
structure Phase where
  run : List Nat
  chk : List Nat
  act : Option Nat

def readyO (done : Nat) (o : Oper) : Bool := o.after.toList.all fun e => !(Region.binds .any e) || done.testBit e.on
/-- all that may be done and does not act, in order -/
def scanN : List (Nat × Oper) → Nat → List Nat → List (Nat × Oper) → List (Nat × Oper) × Nat × List Nat
  | [], done, run, rest => (rest.reverse, done, run.reverse)
  | (i, o) :: l, done, run, rest =>
    if opCls o.op != 3 && readyO done o then scanN l (done ||| 2 ^ i) (i :: run) rest
    else scanN l done run ((i, o) :: rest)
def planGo (bef : List Nat) (reads : List Nat) : Nat → List (Nat × Oper) → Nat → Nat → List Phase
  | 0, _, _, _ => []
  | f + 1, pend, done, known => match scanN pend done [] [] with
    | (pend', done', run) =>
      let chk := reads.filter fun r => done'.testBit r && !known.testBit r
      match pend' with
      | [] => [⟨run, chk, none⟩]
      | (i, _) :: tail => ⟨run, chk, some i⟩ :: planGo bef reads f tail (done' ||| 2 ^ i) (known ||| 2 ^ i ||| bef.getD i 0)
def zipIx : List Oper → Nat → List (Nat × Oper)
  | [], _ => []
  | o :: l, i => (i, o) :: zipIx l (i + 1)
def planOf (ops : List Oper) : List Phase :=
  planGo (befM ops) ((zipIx ops 0).filterMap fun p => if opCls p.2.op == 1 then some p.1 else none) (ops.length + 1) (zipIx ops 0) 0 0

/-! Is a plan in order? -/
/-- what an operation looks at: of all that has been done and writes there, it must be behind -/
def looksOk (ops : List Oper) (bm done : Nat) (o : Oper) : Bool :=
  (o.looksAt ops.toArray).all fun t => (List.range ops.length).all fun j => match ops[j]? with
    | some oj => if oj.dst == some t && done.testBit j then bm.testBit j else true
    | none => true
/-- what an operation writes: all that look there are behind it, or are known to be listed -/
def writesOk (ops : List Oper) (bef : List Nat) (known : Nat) (c : Nat) (o : Oper) : Bool := match o.dst with
  | none => true
  | some t => (List.range ops.length).all fun i => match ops[i]? with
    | some oi => if (oi.looksAt ops.toArray).contains t then (bef.getD i 0).testBit c || known.testBit i else true
    | none => true
def runsOk (ops : List Oper) (bef : List Nat) (known : Nat) : List Nat → Nat → Option Nat
  | [], done => some done
  | i :: l, done => match ops[i]? with
    | some o => if !done.testBit i && opCls o.op != 3 && Nat.land (bef.getD i 0) done == bef.getD i 0 && looksOk ops (bef.getD i 0) done o && writesOk ops bef known i o then runsOk ops bef known l (done ||| 2 ^ i) else none
    | none => none
def phasesOk (ops : List Oper) (bef : List Nat) : List Phase → Nat → Nat → Bool
  | [], _, _ => false
  | p :: l, done, known => match runsOk ops bef known p.run done with
    | none => false
    | some done' =>
      ((List.range ops.length).all fun r => match ops[r]? with
        | some o => !(opCls o.op == 1) || !done'.testBit r || known.testBit r || p.chk.contains r
        | none => true) &&
      match p.act with
      | none => l.isEmpty && (List.range ops.length).all fun r => done'.testBit r
      | some c => match ops[c]? with
        | none => false
        | some o => !done'.testBit c && Nat.land (bef.getD c 0) done' == bef.getD c 0 && looksOk ops (bef.getD c 0) done' o && writesOk ops bef (known ||| 2 ^ c ||| bef.getD c 0) c o &&
          ((List.range ops.length).all fun r => done'.testBit r || r == c || (bef.getD r 0).testBit c) &&
          phasesOk ops bef l (done' ||| 2 ^ c) (known ||| 2 ^ c ||| bef.getD c 0)
def dstsOk (ops : List Oper) : Bool := (List.range ops.length).all fun i => (List.range ops.length).all fun j => i == j || match ops[i]?, ops[j]? with
  | some x, some y => (match x.dst with | some t => !(y.dst == some t) | none => true)
  | _, _ => true
/-- all that must be ahead of an operation stands ahead of it -/
def edgesOk (ops : List Oper) : Bool := (List.range ops.length).all fun j => match ops[j]? with
  | some o => o.after.toList.all fun ed => !(Region.binds .any ed) || Nat.blt ed.on j
  | none => true
def planOk (ops : List Oper) (ps : List Phase) : Bool := dstsOk ops && edgesOk ops && phasesOk ops (befM ops) ps 0 0

/-- one that does not act: what reads makes no memory -/
def xstepN (X : Cx) (N : Nat) (slots : List (Option Tmp)) (o : Oper) (e : Env) (h : Heap) : Option (Env × Heap) := ob (xstep X N slots o e h) fun r =>
  match opCls o.op with
  | 1 => sel (Nat.beq r.2.nx h.nx) (some r) none
  | _ => some r
def xruns (X : Cx) (N : Nat) (slots : List (Option Tmp)) (ops : List Oper) : List Nat → Env → Heap → Option (Env × Heap)
  | [], e, h => some (e, h)
  | i :: l, e, h => ob ops[i]? fun o => ob (xstepN X N slots o e h) fun r => match r with | (e', h') => xruns X N slots ops l e' h'
def xchk (X : Cx) (slots : List (Option Tmp)) (o : Oper) (e : Env) (h : Heap) : Bool := match wantE slots e o with
  | some true => (match xop X o.op e h with
    | some (u, h') => sel (Nat.beq h'.nx h.nx) (match o.dst with
      | some d => (match e.at d with
        | some v => avEq 4 v u
        | none => false)
      | none => true) false
    | none => false)
  | some false => true
  | none => false
def xchks (X : Cx) (slots : List (Option Tmp)) (ops : List Oper) : List Nat → Env → Heap → Bool
  | [], _, _ => true
  | i :: l, e, h => match ops[i]? with | some o => sel (xchk X slots o e h) (xchks X slots ops l e h) false | none => false
def xphases (X : Cx) (N : Nat) (slots : List (Option Tmp)) (ops : List Oper) : List Phase → Env → Heap → Option (Env × Heap)
  | [], _, _ => none
  | p :: l, e, h => ob (xruns X N slots ops p.run e h) fun r => match r with
    | (e1, h1) => sel (xchks X slots ops p.chk e1 h1) (match p.act with
      | none => some (e1, h1)
      | some c => ob ops[c]? fun o => ob (xstep X N slots o e1 h1) fun r => match r with | (e2, h2) => xphases X N slots ops l e2 h2) none
def slotsOf (ops : List Oper) : List (Option Tmp) := ops.map (·.dst)
def xregion (X : Cx) (N : Nat) (ops : List Oper) (draw : Bool) (e : Env) (h : Heap) : Option (Env × Heap) :=
  sel draw (sel (planOk ops (planOf ops)) (xphases X N (slotsOf ops) ops (planOf ops) e h) none) (xsteps X N (slotsOf ops) ops e h)

abbrev Res := Option (AV × Heap)
abbrev K := Env → Heap → Res
def loopK (f : K → K) : Nat → K
  | 0 => fun _ _ => none
  | n + 1 => f (loopK f n)
/-- behind a range over a function: the jump that a round has left is taken up -/
def xendLoop (kn : K) (kx : Nat → K) (kr : K) (o : Ob) : K := match o with
  | .loop 0 none _ _ _ _ _ => kn
  | .loop 2 (some c) _ _ _ _ _ => (match c with | .ret => kr | .exit i => kx i | _ => fun _ _ => none)
  | _ => fun _ _ => none
/-- the function that is ranged over -/
def xranged (X : Cx) (f : AV) (y : AV) (h : Heap) : Res := match f with
  | .func g first captured => (match X.C g with
    | .go => X.E (.fn g) (first ++ [y] ++ captured) h
    | _ => none)
  | _ => none
/-- in a round, the record of the loop around is there -/
def roundOk (rd : Option Nat) (h : Heap) : Bool := match rd with
  | none => true
  | some l => (match h.ob.at l with
    | some (.loop ..) => true
    | _ => false)
def run (X : Cx) (N L : Nat) (rd : Option Nat) : Code → K → (Nat → K) → K → K
  | .skip, kn, _, _ => kn
  | .region _ ops draw, kn, _, _ => fun e h => ob (xregion X N ops.toList draw e h) fun r => match r with | (e', h') => kn e' h'
  | .seq a b, kn, kx, kr => run X N L rd a (run X N L rd b kn kx kr) kx kr
  | .cond c a b, kn, kx, kr => fun e h => ob (opd X.G e c) fun v => match v with
    | .bool t => sel t (run X N L rd a kn kx kr e h) (run X N L rd b kn kx kr e h)
    | _ => none
  | .block id c, kn, kx, kr => run X N L rd c kn (fun i => sel (Nat.beq i id) kn (kx i)) kr
  | .loop c, _, kx, kr => loopK (fun k => run X N L rd c k kx kr) L
  | .label _, kn, _, _ => kn
  | .exit i, _, kx, _ => kx i
  | .ret, _, _, kr => kr
  | .rangeFunc g ps assign body, kn, kx, kr => fun e h => ob (opd X.G e g) fun f => sel (roundOk rd h)
    (ob (xranged X f (.yield h.nx) ⟨Nat.succ h.nx, h.ob.set h.nx (some (.loop 0 none e N ps.toList assign body))⟩) fun r => match r with
      | (_, h') => ob (h'.ob.at h.nx) fun o => xendLoop kn kx kr o e ⟨h'.nx, h'.ob.set h.nx none⟩) none
  | _, _, _, _ => fun _ _ => none
/-- the temporaries of a round -/
def putPs : List Tmp → List AV → Nat → Env → Option Env
  | [], [], _, e => some e
  | t :: ps, v :: vs, N, e => sel (Nat.blt t N) (putPs ps vs N (e.set t (some v))) none
  | _, _, _, _ => none
/-- how a round ends: its record turned, and what yield hands back -/
def endRound (l : Nat) (jump : Option Code) (h : Heap) : Res := ob (h.ob.at l) fun o => match o with
  | .loop _ _ env N ps assign body => some (.bool (match jump with | none => true | some _ => false), ⟨h.nx, h.ob.set l (some (.loop (match jump with | none => 0 | some _ => 2) jump env N ps assign body))⟩)
  | _ => none
def xround (X : Cx) (L l : Nat) (args : List AV) (h : Heap) : Res := ob (h.ob.at l) fun o => match o with
  | .loop 0 _ env N ps assign body => ob (putPs ps args N env) fun e =>
      run X N L (some l) assign (fun e' h' => ob (h'.ob.at l) fun o' => match o' with
          | .loop 0 pd env' N' ps' as' bd' => run X N L (some l) body (fun _ h2 => endRound l none h2) (fun i _ h2 => endRound l (some (.exit i)) h2) (fun _ h2 => endRound l (some .ret) h2) e' ⟨h'.nx, h'.ob.set l (some (.loop 1 pd env' N' ps' as' bd'))⟩
          | _ => none) (fun _ _ _ => none) (fun _ _ => none) e h
  | _ => none

def xresults (P : Program) : List ResultVar → Env → Heap → Option (List AV)
  | [], _, _ => some []
  | r :: l, e, h => ob (match r with
    | .tmp t => e.at t
    | .cell a t => ob (e.at a) fun p => (match p with | .ptr b off => xload P h t b off | _ => none)) fun v => ob (xresults P l e h) fun vs => some (v :: vs)
def one : List AV → AV
  | [v] => v
  | l => .tuple l
def xret (P : Program) (fn : Func) : K := fun e h => ob (xresults P fn.results.toList e h) fun vs => some (one vs, h)
def xbody (X : Cx) (L : Nat) (fn : Func) (args : List AV) (h : Heap) : Res := match fn.body with
  | some c => sel (Nat.ble args.length fn.ntmps) (run X fn.ntmps L none c (xret X.P fn) (fun _ _ _ => none) (xret X.P fn) (Tri.putRow args .lf 0) h) none
  | none => none
/-- calls whose answer is known otherwise -/
abbrev Memo := Nat → List AV → Heap → Res
def xfun (P : Program) (G : Nat) (C : Nat → Fwd) (M : Memo) (L : Nat) : Nat → Tgt → List AV → Heap → Res
  | 0, _, _, _ => none
  | n + 1, t, args, h => match t with
    | .fn f => (match M f args h with
      | some r => some r
      | none => (match P.funcs[f]? with
        | some fn => xbody ⟨P, G, C, xfun P G C M L n⟩ L fn args h
        | none => none))
    | .yld l => xround ⟨P, G, C, xfun P G C M L n⟩ L l args h
end
end Go.Th
