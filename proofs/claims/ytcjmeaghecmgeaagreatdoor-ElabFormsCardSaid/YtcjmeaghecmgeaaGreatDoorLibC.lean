/- Own texts of this proof: ThO, ThP, ThQ, ThR, ThS, ThT, ThU, ThV. -/
import Derived.Test.YtcjmeaghecmgeaaGreatDoorLibB
import Derived.Laws.AppendOwn
import Derived.Laws.Externs
set_option autoImplicit true
set_option relaxedAutoImplicit true
set_option linter.all false
namespace Go.Th
section
variable {P : Program} {μ : Mu} {h : Heap} {w : World}

/-! ## Slices -/
theorem boundIn_spec {v : AV} {y y' j : Nat} (hb : boundIn v y = some j) (hy : y ≤ y') (code : BoundsCode) : (Instr.sliceBound (conc μ v) y' code).run P w = .ok j w ∧ j ≤ y := by
  cases v <;> simp only [boundIn] at hb <;> try (cases hb; done)
  rename_i k n
  replace hb := ob_eq hb
  obtain ⟨i, hi, hb⟩ := hb
  replace hb := sel_some hb
  obtain ⟨h1, hb⟩ := hb
  rw [ble_eq] at h1
  have h1 := of_decide_eq_true h1
  cases hb
  obtain rfl := asNat_some hi
  refine ⟨?_, h1⟩
  have : (0 : Int) ≤ (j : Int) ∧ (j : Int) ≤ (y' : Int) := ⟨by omega, by omega⟩
  simp only [Instr.sliceBound, conc, asIntOf, Sem.run_bind, Sem.run_pure, Result.andThen_ok, if_pos this]
  rfl
theorem lowIn_spec {β : Type} {lo : Option AV} {hh l : Nat} (hb : lowIn lo hh = some l) (code : BoundsCode) (K : Nat → Sem β) :
    (match lo.map (conc μ) with | some v => (Instr.sliceBound v hh code) >>= K | none => pure 0 >>= K : Sem β).run P w = (K l).run P w ∧ l ≤ hh := by
  cases lo with
  | none => cases hb; exact ⟨rfl, Nat.zero_le _⟩
  | some v =>
    obtain ⟨a, b⟩ := boundIn_spec (P := P) (w := w) (μ := μ) hb (Nat.le_refl _) code
    refine ⟨?_, b⟩
    simp only [Option.map_some, Sem.run_bind, a, Result.andThen_ok]
theorem bounds_none {isS : Bool} {len cap capx hh l : Nat} {lo hi : Option AV} (hx : (match hi with | none => some len | some v => boundIn v capx) = some hh) (hcap : capx ≤ cap) (hl : lowIn lo hh = some l) :
    (Instr.sliceBounds isS len cap (lo.map (conc μ)) (hi.map (conc μ)) none).run P w = .ok (l, hh, cap) w ∧ l ≤ hh ∧ (hi = none ∧ hh = len ∨ hh ≤ capx) := by
  obtain ⟨q1, q2⟩ := lowIn_spec (P := P) (w := w) (μ := μ) hl .sliceB (fun l => pure (l, hh, cap))
  have key : ∀ (S : Sem Nat), S.run P w = .ok hh w → 
     ((do let h ← S
          let l ← match lo.map (conc μ) with
            | some v => Instr.sliceBound v h (if (none : Option Value).isSome then .slice3C else .sliceB)
            | none => pure 0
          pure (l, h, cap)) : Sem (Nat × Nat × Nat)).run P w = .ok (l, hh, cap) w := by
    intro S hS
    simp only [Sem.run_bind, hS, Result.andThen_ok]
    exact q1
  cases hi with
  | none =>
    injection hx with hx
    subst hx
    refine ⟨?_, q2, .inl ⟨rfl, rfl⟩⟩
    simp only [Instr.sliceBounds, Option.map_none]
    exact key (pure len) rfl
  | some v =>
    obtain ⟨a, b⟩ := boundIn_spec (P := P) (w := w) (μ := μ) hx hcap (if isS then .sliceAcap else .sliceAlen)
    refine ⟨?_, q2, .inr b⟩
    simp only [Instr.sliceBounds, Option.map_some]
    exact key _ a
theorem bounds_some {isS : Bool} {len cap capx m hh l : Nat} {lo hi : Option AV} {mx : AV} (hm : boundIn mx capx = some m) (hx : (match hi with | some v => boundIn v m | none => none) = some hh) (hcap : capx ≤ cap) (hl : lowIn lo hh = some l) :
    (Instr.sliceBounds isS len cap (lo.map (conc μ)) (hi.map (conc μ)) (some (conc μ mx))).run P w = .ok (l, hh, m) w ∧ l ≤ hh ∧ hh ≤ m ∧ m ≤ capx := by
  cases hi with
  | none => cases hx
  | some v =>
    obtain ⟨q1, q2⟩ := lowIn_spec (P := P) (w := w) (μ := μ) hl .slice3C (fun l => pure (l, hh, m))
    obtain ⟨a, b⟩ := boundIn_spec (P := P) (w := w) (μ := μ) hx (Nat.le_refl _) .slice3B
    obtain ⟨c, d⟩ := boundIn_spec (P := P) (w := w) (μ := μ) hm hcap (if isS then .slice3Acap else .slice3Alen)
    refine ⟨?_, q2, b, d⟩
    simp only [Instr.sliceBounds, Option.map_some, Sem.run_bind, c, Result.andThen_ok, a]
    exact q1
theorem addr_step {b off : Nat} (hb : ∃ m, μ b = some m) (k : Nat) : (μ.addr b off).add k = μ.addr b (off + k) := by
  obtain ⟨m, em⟩ := hb
  rw [addr_of em, addr_of em, Addr.add_cell, Nat.add_assoc]
/-- the address of a part: kept at an empty rest -/
theorem slice_addr {b off l s m : Nat} (hb : ∃ m, μ b = some m) : (if m = l then μ.addr b off else (μ.addr b off).add (l * s)) = μ.addr b (sel (Nat.beq m l) off (Nat.add off (Nat.mul l s))) := by
  by_cases e : m = l
  · rw [if_pos e, beq_t e]; rfl
  · rw [if_neg e, beq_f e, addr_step hb]; rfl

theorem slice_spec (r : Rel μ h w) {t : TypeId} {x : AV} {lo hi mx : Option AV} (ox : Ok μ x) {v : AV} {h' : Heap} (hx : xslice P h t x lo hi mx = some (v, h')) :
    ∃ μ' w', (Instr.sliceAt t (conc μ x) (lo.map (conc μ)) (hi.map (conc μ)) (mx.map (conc μ))).run P w = .ok (conc μ' v) w' ∧ Rel μ' h' w' ∧ Ext μ h w μ' h' w' ∧ Ok μ' v := by
  unfold xslice at hx
  replace hx := ob_eq hx
  obtain ⟨d, hd, hx⟩ := hx
  have same : ∀ (v : AV), (Instr.sliceAt t (conc μ x) (lo.map (conc μ)) (hi.map (conc μ)) (mx.map (conc μ))).run P w = .ok (conc μ v) w → Ok μ v →
      ∃ μ' w', (Instr.sliceAt t (conc μ x) (lo.map (conc μ)) (hi.map (conc μ)) (mx.map (conc μ))).run P w = .ok (conc μ' v) w' ∧ Rel μ' h w' ∧ Ext μ h w μ' h w' ∧ Ok μ' v :=
    fun v q o => ⟨μ, w, q, r, Ext.refl _ _ _ r.lt, o⟩
  cases d <;> (try simp only at hx) <;> try (cases hx; done)
  · -- a text
    have hda : ∀ n e, TypeDesc.string = TypeDesc.array n e → False := fun _ _ => TypeDesc.noConfusion
    cases x <;> (try simp only at hx) <;> try (cases hx; done)
    rename_i n b
    cases mx <;> (try simp only at hx) <;> try (cases hx; done)
    replace hx := ob_eq hx
    obtain ⟨hh, h1, hx⟩ := hx
    replace hx := ob_eq hx
    obtain ⟨l, h2, hx⟩ := hx
    cases hx
    obtain ⟨q, q1, q2⟩ := bounds_none (P := P) (w := w) (μ := μ) (isS := false) h1 (Nat.le_refl n) h2
    have hn : hh ≤ n := by rcases q2 with ⟨_, rfl⟩ | q2 <;> omega
    have hsz : ByteArray.size ⟨(sbytes n b).toArray⟩ = n := by show (sbytes n b).toArray.size = n; simp [sbytes_length]
    rw [sSub_eq]
    refine same _ ?_ (by simp only [Ok]; exact Nat.mod_lt _ (Nat.pow_pos (by decide)))
    simp only [Instr.sliceAt, Instr.slice, Sem.run_bind, run_und hd, Result.andThen_ok, conc, Option.map_none, hsz]
    simp only [Option.isSome_none]
    rw [if_neg (by decide)]
    simp only [Sem.run_bind, q, Result.andThen_ok, Sem.run_pure]
    show Result.ok (Value.string (ByteArray.extract ⟨(sbytes n b).toArray⟩ l hh)) w = _
    congr 1
    rw [sSub_bytes n b l hh q1 hn]
    congr 1
    apply ByteArray.ext
    rw [ByteArray.data_extract]
    simp
  · -- a slice
    rename_i elem
    replace hx := ob_eq hx
    obtain ⟨s, hs, hx⟩ := hx
    have run : ∀ (a : Option Addr) (len cap l hh m : Nat) (mv : Option Value), (Instr.sliceBounds true len cap (lo.map (conc μ)) (hi.map (conc μ)) mv).run P w = .ok (l, hh, m) w →
        (Instr.sliceAt t (.slice a len cap) (lo.map (conc μ)) (hi.map (conc μ)) mv).run P w = .ok (.slice (if m = l then a else a.map (·.add (l * s))) (hh - l) (m - l)) w := by
      intro a len cap l hh m mv q
      simp only [Instr.sliceAt, Instr.slice, Sem.run_bind, run_und hd, Result.andThen_ok, q, run_sz hs, Sem.run_pure]
    have fa : ∀ (b off l m : Nat), (∃ m, μ b = some m) → (if m = l then some (μ.addr b off) else (some (μ.addr b off)).map (·.add (l * s))) = some (μ.addr b (sel (Nat.beq m l) off (Nat.add off (Nat.mul l s)))) := by
      intro b off l m hb
      rw [← slice_addr hb]
      split <;> rfl
    cases x <;> (try simp only at hx) <;> try (cases hx; done)
    · rename_i b off len cap
      have hb : ∃ m, μ b = some m := by unfold Ok at ox; exact Mu.ex_of ox
      cases cap with
      | some c =>
        cases mx with
        | some mv =>
          simp only at hx
          replace hx := ob_eq hx
          obtain ⟨m, h0, hx⟩ := hx
          replace hx := ob_eq hx
          obtain ⟨hh, h1, hx⟩ := hx
          replace hx := ob_eq hx
          obtain ⟨l, h2, hx⟩ := hx
          cases hx
          obtain ⟨q, q1, q2, q3⟩ := bounds_some (P := P) (w := w) (μ := μ) (isS := true) (len := len) h0 h1 (Nat.le_refl c) h2
          refine same _ ?_ (by unfold Ok; obtain ⟨m, em⟩ := hb; exact ⟨m, em, fun q => (by cases q)⟩)
          simp only [conc, Option.map_some]
          rw [run _ _ _ _ _ _ _ q, fa _ _ _ _ hb]; rfl
        | none =>
          simp only at hx
          replace hx := ob_eq hx
          obtain ⟨hh, h1, hx⟩ := hx
          replace hx := ob_eq hx
          obtain ⟨l, h2, hx⟩ := hx
          cases hx
          obtain ⟨q, q1, q2⟩ := bounds_none (P := P) (w := w) (μ := μ) (isS := true) h1 (Nat.le_refl c) h2
          refine same _ ?_ (by unfold Ok; obtain ⟨m, em⟩ := hb; exact ⟨m, em, fun q => (by cases q)⟩)
          simp only [conc, Option.map_none]
          rw [run _ _ _ _ _ _ _ q, fa _ _ _ _ hb]; rfl
      | none =>
        obtain ⟨m0, em, hcap⟩ := (show ∃ m, μ b = some m ∧ (none = none → len ≤ m.capE - off / m.esz) by unfold Ok at ox; exact ox)
        have hcap := hcap rfl
        have hce : μ.cap b off = m0.capE - off / m0.esz := by simp [Mu.cap, em]
        cases mx with
        | some mv =>
          simp only at hx
          replace hx := ob_eq hx
          obtain ⟨m, h0, hx⟩ := hx
          replace hx := ob_eq hx
          obtain ⟨hh, h1, hx⟩ := hx
          replace hx := ob_eq hx
          obtain ⟨l, h2, hx⟩ := hx
          cases hx
          obtain ⟨q, q1, q2, q3⟩ := bounds_some (P := P) (w := w) (μ := μ) (isS := true) (len := len) h0 h1 (hce ▸ hcap) h2
          refine same _ ?_ (by unfold Ok; exact ⟨m0, em, fun q => (by cases q)⟩)
          simp only [conc, Option.map_some]
          rw [run _ _ _ _ _ _ _ q, fa _ _ _ _ hb]; rfl
        | none =>
          simp only at hx
          replace hx := ob_eq hx
          obtain ⟨hh, h1, hx⟩ := hx
          replace hx := ob_eq hx
          obtain ⟨l, h2, hx⟩ := hx
          obtain ⟨q, q1, q2⟩ := bounds_none (P := P) (w := w) (μ := μ) (isS := true) h1 (hce ▸ hcap) h2
          have hhl : hh ≤ len := by rcases q2 with ⟨_, rfl⟩ | q2 <;> omega
          have hrun := run (some (μ.addr b off)) len (μ.cap b off) l hh _ none q
          by_cases hl0 : l = 0
          · subst hl0
            rw [show Nat.beq 0 0 = true from rfl, sel_true] at hx
            cases hx
            refine same _ ?_ (by unfold Ok; exact ⟨m0, em, fun _ => by omega⟩)
            simp only [conc, Option.map_none]
            rw [hrun]
            simp only [Nat.zero_mul, Nat.sub_zero]
            congr 1
            split <;> simp [addr_of em, Addr.add_cell]
          · rw [beq_f hl0, sel_false] at hx
            by_cases hlt : l < len
            · rw [show Nat.blt l len = true by rw [blt_eq]; simpa using hlt, sel_true] at hx
              replace hx := ob_eq hx
              obtain ⟨o, ho, hx⟩ := hx
              cases o <;> (try simp only at hx) <;> try (cases hx; done)
              rename_i elem' n cs ro dyn fz esz sish
              replace hx := sel_some hx
              obtain ⟨hdy, hx⟩ := hx
              replace hx := sel_some hx
              obtain ⟨hes, hx⟩ := hx
              cases hx
              obtain ⟨c, el, lo', hi', g1, g2, g3, g4, g5, g6⟩ := r.ok b _ m0 ho em
              obtain ⟨e1, e2, e3, e4⟩ := g5 hdy
              have hes := Nat.eq_of_beq_eq_true hes
              have hdiv : (off + l * s) / m0.esz = off / m0.esz + l := by
                rw [e1, hes]; exact Nat.add_mul_div_right _ _ (by omega)
              have hcap2 : μ.cap b (off + l * s) = μ.cap b off - l := by
                simp only [Mu.cap, em, hdiv]; omega
              refine same _ ?_ (by unfold Ok; exact ⟨m0, em, fun _ => by show hh - l ≤ m0.capE - (off + l * s) / m0.esz; rw [hdiv]; omega⟩)
              simp only [conc, Option.map_none]
              rw [hrun, if_neg (by rw [hce]; omega), Option.map_some, addr_step hb]
              show Result.ok (Value.slice (some (μ.addr b (off + l * s))) (hh - l) (μ.cap b off - l)) w = Result.ok (Value.slice (some (μ.addr b (off + l * s))) (hh - l) (μ.cap b (off + l * s))) w
              rw [hcap2]
            · rw [show Nat.blt l len = false by rw [blt_eq]; simpa using hlt, sel_false] at hx
              have hll : l = len ∧ hh = len := by omega
              cases hx
              let off' : Nat := m0.δ + (if μ.cap b off = l then off else off + l * s)
              obtain ⟨r', x'⟩ := r.ref (w' := w) (m := ⟨m0.β, off', μ.cap b off - l, 1⟩) rfl rfl rfl rfl (r.bnd b m0 em)
              refine ⟨_, w, ?_, r', x', ?_⟩
              · simp only [conc, Option.map_none]
                rw [hrun, Mu.addr_some (Mu.ext_same _ _ _)]
                have : (Mu.ext μ h.nx ⟨m0.β, off', μ.cap b off - l, 1⟩).cap h.nx 0 = μ.cap b off - l := by simp [Mu.cap, Mu.ext_same]
                rw [this, show hh - l = 0 by omega]
                congr 1
                show Value.slice _ 0 _ = Value.slice _ 0 _
                congr 1
                simp only [off']
                split
                · rw [addr_of em]; rfl
                · rw [Option.map_some, addr_step hb, addr_of em]; rfl
              · unfold Ok
                exact ⟨_, Mu.ext_same _ _ _, fun _ => Nat.zero_le _⟩
    · cases mx with
      | some mv =>
        simp only at hx
        replace hx := ob_eq hx
        obtain ⟨m, h0, hx⟩ := hx
        replace hx := ob_eq hx
        obtain ⟨hh, h1, hx⟩ := hx
        replace hx := ob_eq hx
        obtain ⟨l, h2, hx⟩ := hx
        cases hx
        obtain ⟨q, q1, q2, q3⟩ := bounds_some (P := P) (w := w) (μ := μ) (isS := true) (len := 0) h0 h1 (Nat.le_refl 0) h2
        refine same _ ?_ (by simp [Ok])
        simp only [conc, Option.map_some]
        rw [run _ _ _ _ _ _ _ q]
        have : m = 0 ∧ l = 0 ∧ hh = 0 := by omega
        obtain ⟨rfl, rfl, rfl⟩ := this
        rfl
      | none =>
        simp only at hx
        replace hx := ob_eq hx
        obtain ⟨hh, h1, hx⟩ := hx
        replace hx := ob_eq hx
        obtain ⟨l, h2, hx⟩ := hx
        cases hx
        obtain ⟨q, q1, q2⟩ := bounds_none (P := P) (w := w) (μ := μ) (isS := true) h1 (Nat.le_refl 0) h2
        refine same _ ?_ (by simp [Ok])
        simp only [conc, Option.map_none]
        rw [run _ _ _ _ _ _ _ q]
        have : l = 0 ∧ hh = 0 := by rcases q2 with ⟨_, rfl⟩ | q2 <;> omega
        obtain ⟨rfl, rfl⟩ := this
        rfl
  · -- an array
    rename_i n elem
    replace hx := ob_eq hx
    obtain ⟨s, hs, hx⟩ := hx
    cases x <;> (try simp only at hx) <;> try (cases hx; done)
    rename_i b off
    have hb : ∃ m, μ b = some m := by simpa [Ok] using ox
    cases mx with
    | some mv =>
      simp only at hx
      replace hx := ob_eq hx
      obtain ⟨m, h0, hx⟩ := hx
      replace hx := ob_eq hx
      obtain ⟨hh, h1, hx⟩ := hx
      replace hx := ob_eq hx
      obtain ⟨l, h2, hx⟩ := hx
      cases hx
      obtain ⟨q, q1, q2, q3⟩ := bounds_some (P := P) (w := w) (μ := μ) (isS := false) (len := n) h0 h1 (Nat.le_refl n) h2
      refine same _ ?_ (by unfold Ok; obtain ⟨m, em⟩ := hb; exact ⟨m, em, fun q => (by cases q)⟩)
      simp only [Instr.sliceAt, Sem.run_bind, run_und hd, Result.andThen_ok, conc, Instr.sureAddr, Sem.run_pure, Option.map_some, q, run_sz hs]
      rw [slice_addr hb]; rfl
    | none =>
      simp only at hx
      replace hx := ob_eq hx
      obtain ⟨hh, h1, hx⟩ := hx
      replace hx := ob_eq hx
      obtain ⟨l, h2, hx⟩ := hx
      cases hx
      obtain ⟨q, q1, q2⟩ := bounds_none (P := P) (w := w) (μ := μ) (isS := false) h1 (Nat.le_refl n) h2
      refine same _ ?_ (by unfold Ok; obtain ⟨m, em⟩ := hb; exact ⟨m, em, fun q => (by cases q)⟩)
      simp only [Instr.sliceAt, Sem.run_bind, run_und hd, Result.andThen_ok, conc, Instr.sureAddr, Sem.run_pure, Option.map_none, q, run_sz hs]
      rw [slice_addr hb]; rfl
end
end Go.Th

namespace Go.Th
section
variable {P : Program} {μ : Mu} {h : Heap} {w : World}

/-! ## Appending, copying -/
theorem oneCells {l : List AV} (hs : allScalar l = true) : ∀ v ∈ l.map (conc μ), v.oneCell' = true := by
  intro v hv
  obtain ⟨u, hu, rfl⟩ := List.mem_map.1 hv
  exact conc_scalar (allScalar_spec hs u hu)
theorem srcCells_spec (r : Rel μ h w) {s : Nat} {x : AV} (ox : Ok μ x) {n : Nat} {new : List AV} (hs : srcCells h s x = some (n, new)) :
    (Builtin.lenOf (conc μ x)).run P w = .ok n w ∧ (Builtin.firstCells s n (conc μ x)).run P w = .ok (new.map (conc μ)).toArray w ∧ (∀ v ∈ new, Ok μ v) ∧ new.length = n * s := by
  cases x <;> simp only [srcCells] at hs <;> try (cases hs; done)
  · rename_i k b
    replace hs := sel_some hs
    obtain ⟨h1, hs⟩ := hs
    cases hs
    have h1 := Nat.eq_of_beq_eq_true h1
    have hsz : ByteArray.size ⟨(sbytes n b).toArray⟩ = n := by show (sbytes n b).toArray.size = n; simp [sbytes_length]
    refine ⟨by simp [Builtin.lenOf, conc, hsz], ?_, fun v hv => (sCells_ok μ n b v hv).1, by rw [sCells_length, h1]; omega⟩
    have : (ByteArray.extract ⟨(sbytes n b).toArray⟩ 0 n).data = (sbytes n b).toArray := by
      rw [ByteArray.data_extract]
      simp [List.take_of_length_le, sbytes_length]
    simp only [Builtin.firstCells, conc, this, Sem.run_pure, sCells_eq]
    simp
  · rename_i b off len cap
    have hb : ∃ m, μ b = some m := by unfold Ok at ox; exact Mu.ex_of ox
    replace hs := ob_eq hs
    obtain ⟨l, hl, hs⟩ := hs
    cases hs
    obtain ⟨m, em⟩ := hb
    obtain ⟨q1, q2⟩ := rowOf_spec (P := P) r em hl
    have hcx : ∃ c, conc μ (.slice b off n cap) = .slice (some ⟨m.β, m.δ + off, none⟩) n c := by
      cases cap <;> exact ⟨_, by simp only [conc, addr_of em]; rfl⟩
    obtain ⟨c, hcx⟩ := hcx
    rw [hcx]
    exact ⟨rfl, q1, q2, rowOf_len hl⟩
  · cases hs
    exact ⟨rfl, rfl, ⟨fun v hv => (by cases hv), by simp⟩⟩

section
variable {ts : Array TypeId} {args : Array Value} {t1 t2 ty elem : TypeId} {d2 : TypeDesc} {base : Option Addr} {sLen sCap n s : Nat} {x : Value} {new : Array Value}
theorem append_fit (ht : ts.toList = [t1, t2]) (ha : args[0]? = some (.slice base sLen sCap)) (hb : args[1]? = some x) (h1 : P.underlying t1 = some (.slice elem)) (h2 : P.underlying t2 = some d2)
    (hi : isIntT d2 = false) (hs : szOf P elem = some s) (hn : (Builtin.lenOf x).run P w = .ok n w) (hc : (Builtin.firstCells s n x).run P w = .ok new w) (hle : sLen + n ≤ sCap) :
    (Builtin.append_ ts ty args).run P w = ((match base with | some a => storeCells (a.add (sLen * s)) new.toList >>= fun _ => pure (.slice base (sLen + n) sCap) | none => pure (.slice base (sLen + n) sCap)) : Sem Value).run P w := by
  have ht0 : ts[0]? = some t1 := by rw [← Array.getElem?_toList, ht]; rfl
  have ht1 : ts[1]? = some t2 := by rw [← Array.getElem?_toList, ht]; rfl
  simp only [Builtin.append_, ht0, ht1, ha, hb, Sem.run_bind, run_und h1, run_und h2, run_sz hs, Result.andThen_ok, Sem.run_pure]
  cases d2 <;> first
    | (exfalso; cases hi; done)
    | (simp only [Bool.not_false, if_true, Bool.false_eq_true, if_false, Sem.run_bind, hn, hc, Result.andThen_ok, hle, Sem.run_ite]; cases base <;> rfl)
theorem append_grow {by_ : Nat} {z : List AV} {old : Array Value} (ht : ts.toList = [t1, t2]) (ha : args[0]? = some (.slice base sLen sCap)) (hb : args[1]? = some x) (h1 : P.underlying t1 = some (.slice elem)) (h2 : P.underlying t2 = some d2)
    (hi : isIntT d2 = false) (hs : szOf P elem = some s) (hby : byOf P elem = some by_) (hz : zeroC P elem = some z) (hzl : z.length = s) (hn : (Builtin.lenOf x).run P w = .ok n w)
    (hc : ∀ w', w'.heap = w.heap → (Builtin.firstCells s n x).run P w' = .ok new w') (ho : ∀ w', w'.heap = w.heap → (Builtin.firstCells s sLen (.slice base sLen sCap)).run P w' = .ok old w') (hgt : ¬ sLen + n ≤ sCap) (hroom : (sLen + n) * (by_ + 1) ≤ bigRoom) :
    ∃ (cap : Nat) (rest : Array Value), sLen + n ≤ cap ∧ rest.size = (cap - (sLen + n)) * s ∧
    (Builtin.append_ ts ty args).run P w = .ok (.slice (some ⟨w.heap.size, 0, none⟩) (sLen + n) cap) (pushed { w with drawn := w.drawn + 1 } (.cells (old ++ new ++ rest) elem)) := by
  have ht0 : ts[0]? = some t1 := by rw [← Array.getElem?_toList, ht]; rfl
  have ht1 : ts[1]? = some t2 := by rw [← Array.getElem?_toList, ht]; rfl
  obtain ⟨ti, hti, hbe⟩ := byOf_spec hby
  have hti' : ∀ w, (typeInfo elem).run P w = .ok ti w := fun w => by simp [typeInfo, hti]
  have hbig : (sLen + n) * by_ + (sLen + n) ≤ 1099511627776 := by rw [Nat.mul_add, Nat.mul_one] at hroom; exact hroom
  have hfit : Builtin.nextslicecap (sLen + n) sCap * by_ ≤ 281474976710656 := growslice_fits (by omega) (by omega)
  let w1 : World := { w with drawn := w.drawn + 1 }
  obtain ⟨zv, hzv, hzc, _⟩ := zeroC_spec (w := w1) hz (fun _ => none)
  have hzs : zv.cells.size = s := by rw [← Array.length_toList, hzc, List.length_map, hzl]
  refine ⟨grownCap w (sLen + n) sCap elem, Builtin.zeroCells zv.cells (grownCap w (sLen + n) sCap elem - (sLen + n)), grownCap_ge w (sLen + n) sCap elem, by rw [size_zeroCells, hzs], ?_⟩
  simp only [Builtin.append_, ht0, ht1, ha, hb, Sem.run_bind, run_und h1, run_und h2, run_sz hs, Result.andThen_ok, Sem.run_pure]
  have e1 : ¬ ((((sLen + n : Nat) : Int) > IntKind.i64.max) ∧ (False ∨ ti.bytes = 0)) := by
    intro q
    have : ((sLen + n : Nat) : Int) > 9223372036854775807 := q.1
    omega
  have e2 : ¬ (Builtin.nextslicecap (sLen + n) sCap * ti.bytes > 2 ^ 48) := by rw [hbe]; omega
  have hch : (choose (.appendCap (sLen + n) sCap elem)).run P w = .ok (grownCap w (sLen + n) sCap elem) w1 := by
    rw [run_choose]; rfl
  cases d2 <;> first
    | (exfalso; cases hi; done)
    | (simp only [Bool.not_false, if_true, Bool.false_eq_true, if_false, Sem.run_bind, hn, Result.andThen_ok, hgt, Sem.run_ite, hti', e1, e2, hch, run_askRoom, hc w1 rfl, ho w1 rfl, hzv]
       rfl)
end
end
end Go.Th

namespace Go.Th
section
variable {P : Program} {μ : Mu} {h : Heap} {w : World}

/-- a row stored into a block of cells -/
theorem store_raw {β p : Nat} {elem : TypeId} {lo hi : Nat} : ∀ (vs : List Value) (j : Nat) (w : World) (c : Array Value), w.heap[β]? = some (.cells c elem (lo, hi)) →
    (∀ i, i < vs.length → p + j + i < c.size ∧ ¬ (lo ≤ p + j + i ∧ p + j + i < hi)) → (∀ v ∈ vs, v.oneCell' = true) →
    ∃ w' c', (storeCells ⟨β, p, none⟩ vs j).run P w = .ok () w' ∧ w'.heap.size = w.heap.size ∧ (∀ γ, γ ≠ β → w'.heap[γ]? = w.heap[γ]?) ∧ w'.os = w.os ∧ w'.tape = w.tape ∧ w'.output = w.output ∧
      w'.heap[β]? = some (.cells c' elem (lo, hi)) ∧ c'.size = c.size ∧ ∀ i, c'[i]? = if p + j ≤ i ∧ i < p + j + vs.length then vs[i - (p + j)]? else c[i]? := by
  intro vs
  induction vs with
  | nil =>
    intro j w c hb _ _
    exact ⟨w, c, rfl, rfl, fun _ _ => rfl, rfl, rfl, rfl, hb, rfl, fun i => by rw [if_neg (by simp only [List.length_nil]; omega)]⟩
  | cons v vs ih =>
    intro j w c hb hf ho
    simp only [List.length_cons] at hf
    obtain ⟨hlt, hfz⟩ := hf 0 (by omega)
    simp only [Nat.add_zero] at hlt hfz
    have hcell : w.cell? ⟨β, p + j, none⟩ = some c[p + j] := by simp [World.cell?, hb, hlt]
    have hfr : w.frozen? ⟨β, p + j, none⟩ = false := by
      simp only [World.frozen?, hb, Bool.and_eq_false_iff, decide_eq_false_iff_not]; omega
    have hrun : (store ⟨β, p + j, none⟩ v).run P w = .ok () (w.setCell ⟨β, p + j, none⟩ v) := by
      rw [run_store _ _ _ _ _ (ho v (List.mem_cons_self ..)), hcell]; simp [hfr]
    have hb1 := setCell_heap w ⟨β, p + j, none⟩ v hb rfl
    obtain ⟨w', c', q1, q2, q3, q4, q5, q6, q7, q8, q9⟩ := ih (j + 1) (w.setCell ⟨β, p + j, none⟩ v) _ hb1 (fun i hi => by
      have := hf (i + 1) (by omega)
      rw [Array.size_setIfInBounds]
      rw [show p + (j + 1) + i = p + j + (i + 1) by omega]; exact this) (fun u hu => ho u (List.mem_cons_of_mem _ hu))
    refine ⟨w', c', ?_, by rw [q2, setCell_size], fun γ hγ => by rw [q3 γ hγ, setCell_other _ _ _ hγ], q4, q5, q6, q7, by rw [q8, Array.size_setIfInBounds], fun i => ?_⟩
    · simp only [storeCells, Addr.add_cell, Sem.run_bind, hrun, Result.andThen_ok, q1]
    · rw [q9 i]
      by_cases h1 : p + (j + 1) ≤ i ∧ i < p + (j + 1) + vs.length
      · rw [if_pos h1, if_pos (by simp only [List.length_cons]; omega)]
        obtain ⟨k, hk⟩ : ∃ k, i - (p + j) = k + 1 := ⟨i - (p + j) - 1, by omega⟩
        rw [hk, show i - (p + (j + 1)) = k by omega]; rfl
      · rw [if_neg h1]
        by_cases h2 : i = p + j
        · rw [if_pos (by simp only [List.length_cons]; omega)]
          subst h2
          simp [hlt]
        · rw [if_neg (by simp only [List.length_cons]; omega)]
          show (c.setIfInBounds (p + j) v)[i]? = _
          rw [Array.getElem?_setIfInBounds_ne (by omega)]

/-- a told block gets a new name, and turns -/
theorem Rel.rename {w' : World} (r : Rel μ h w) {b : Nat} {o o' : Ob} {m m' : BM} (e : h.ob.at b = some o) (em : μ b = some m) (hro : o.ro = false) (hm : m'.β = m.β)
    (hsz : w'.heap.size = w.heap.size) (hoth : ∀ β, β ≠ m.β → w'.heap[β]? = w.heap[β]?) (h1 : w'.os = w.os) (h2 : w'.tape = w.tape) (h3 : w'.output = w.output)
    (ho : ObRel (μ.ext h.nx m') m' w' o') :
    Rel (μ.ext h.nx m') ⟨Nat.succ h.nx, (h.ob.set b none).set h.nx (some o')⟩ w' ∧ Ext μ h w (μ.ext h.nx m') ⟨Nat.succ h.nx, (h.ob.set b none).set h.nx (some o')⟩ w' := by
  have hle := r.le_ext m'
  have hbn : b < h.nx := r.lt b o e
  have g : ∀ x q, ((h.ob.set b none).set h.nx (some o')).at x = some q → (x = h.nx ∧ q = o') ∨ (x ≠ h.nx ∧ x ≠ b ∧ h.ob.at x = some q) := by
    intro x q hq
    simp only [Tri.at_set] at hq
    by_cases hx : x = h.nx
    · rw [if_pos hx] at hq; cases hq; exact .inl ⟨hx, rfl⟩
    · rw [if_neg hx] at hq
      by_cases hxb : x = b
      · rw [if_pos hxb] at hq; cases hq
      · rw [if_neg hxb] at hq; exact .inr ⟨hx, hxb, hq⟩
  refine ⟨⟨?_, ?_, ?_, ?_, ?_⟩, ⟨Nat.le_succ _, ?_, ?_, ?_, ?_, by omega, ?_, h1, h2, h3⟩⟩
  · intro x q hq
    rcases g x q hq with ⟨rfl, _⟩ | ⟨_, _, hq⟩
    · exact Nat.lt_succ_self _
    · exact Nat.lt_succ_of_lt (r.lt x q hq)
  · intro x mx hx
    by_cases hxn : x = h.nx
    · subst hxn; exact Nat.lt_succ_self _
    · rw [Mu.ext_ne _ _ hxn] at hx; exact Nat.lt_succ_of_lt (r.mlt x mx hx)
  · intro x q mx hq hx
    rcases g x q hq with ⟨rfl, rfl⟩ | ⟨hxn, hxb, hq⟩
    · rw [Mu.ext_same] at hx; cases hx; exact ho
    · rw [Mu.ext_ne _ _ hxn] at hx
      exact ObRel.mono hle (hoth _ fun hβ => hxb (r.inj x b q o mx m hq e hx em hβ)) (r.ok x q mx hq hx)
  · intro x y o1 o2 m1 m2 e1 e2 f1 f2 hβ
    rcases g x o1 e1 with ⟨rfl, rfl⟩ | ⟨hxn, hxb, e1⟩ <;> rcases g y o2 e2 with ⟨hy, hq⟩ | ⟨hyn, hyb, e2⟩
    · exact hy.symm
    · rw [Mu.ext_same] at f1; cases f1
      rw [Mu.ext_ne _ _ hyn] at f2
      exact absurd (r.inj y b o2 o m2 m e2 e f2 em (by rw [← hβ, hm])) hyb
    · rw [hy, Mu.ext_same] at f2; cases f2
      rw [Mu.ext_ne _ _ hxn] at f1
      exact absurd (r.inj x b o1 o m1 m e1 e f1 em (by rw [hβ, hm])) hxb
    · rw [Mu.ext_ne _ _ hxn] at f1; rw [Mu.ext_ne _ _ hyn] at f2
      exact r.inj x y o1 o2 m1 m2 e1 e2 f1 f2 hβ
  · intro x mx hx
    rw [hsz]
    by_cases hxn : x = h.nx
    · subst hxn; rw [Mu.ext_same] at hx; cases hx; rw [hm]; exact r.bnd b m em
    · rw [Mu.ext_ne _ _ hxn] at hx; exact r.bnd x mx hx
  · intro x hx; exact Mu.ext_ne _ _ (by omega)
  · intro x hx hn
    show ((h.ob.set b none).set h.nx (some o')).at x = _
    rw [Tri.at_set_ne _ _ (by omega), Tri.at_set_ne]
    intro hxb; subst hxb; rw [em] at hn; cases hn
  · intro x q hx hq
    rcases g x q hq with ⟨rfl, _⟩ | ⟨_, _, hq⟩
    · omega
    · exact ⟨q, hq, rfl⟩
  · intro x q mx hx hq hmx
    rcases g x q hq with ⟨rfl, rfl⟩ | ⟨_, _, hq⟩
    · rw [Mu.ext_same] at hmx; cases hmx
      exact .inr ⟨b, o, m, e, hro, em, hm.symm⟩
    · have := r.lt x q hq; omega
  · intro β hβ hno
    exact hoth β fun hb => hno b o m e hro em hb.symm

/-- a row of its own behind an append -/
theorem newDyn_spec (r : Rel μ h w) {elem : TypeId} {l : List AV} (o : ∀ v ∈ l, Ok μ v) {fz s : Nat} {sish : Bool} {len cap : Nat} {rest : Array Value} (hs : 0 < s) (hl : l.length = len * s) (hcap : len ≤ cap) (hrest : rest.size = (cap - len) * s) :
    ∃ μ', Rel μ' (newDyn h elem l fz s sish).2 (pushed { w with drawn := w.drawn + 1 } (.cells ((l.map (conc μ)).toArray ++ rest) elem)) ∧
      Ext μ h w μ' (newDyn h elem l fz s sish).2 (pushed { w with drawn := w.drawn + 1 } (.cells ((l.map (conc μ)).toArray ++ rest) elem)) ∧
      conc μ' (.slice h.nx 0 len none) = .slice (some ⟨w.heap.size, 0, none⟩) len cap ∧ Ok μ' (.slice h.nx 0 len none) := by
  obtain ⟨r1, x1⟩ := r.same (w' := { w with drawn := w.drawn + 1 }) rfl rfl rfl rfl
  have hle := r1.le_ext ⟨w.heap.size, 0, cap, s⟩
  obtain ⟨q1, q2⟩ := conc_cells_mono hle o
  have hsz : ((l.map (conc μ)).toArray ++ rest).size = cap * s := by
    rw [Array.size_append, List.size_toArray, List.length_map, hl, hrest, ← Nat.add_mul]
    congr 1; omega
  obtain ⟨r2, x2⟩ := r1.add (m := ⟨w.heap.size, 0, cap, s⟩) rfl (X := .cells ((l.map (conc μ)).toArray ++ rest) elem) (o := .cells elem l.length (Tri.putRow l .lf 0) false true fz s sish)
    ⟨_, elem, 0, 0, pushed_new _ _, fun i hi => row_told q2 (fun j hj => by
        rw [Nat.zero_add, Array.getElem?_append_left (by simpa using hj)]
        simp only [List.getElem?_toArray, List.getElem?_map]
        rw [List.getElem?_eq_getElem hj]
        simp only [Option.map_some]
        rw [(conc_le hle _ (o _ (List.getElem_mem hj))).1]) i hi,
      fun j _ _ q => by omega, fun _ q => by omega, fun _ => ⟨rfl, hs, by rw [hl]; exact Nat.mul_le_mul_right _ hcap, by rw [hsz]; simp⟩, fun q => (by cases q), rfl⟩
  refine ⟨_, r2, x1.trans x2, ?_, ?_⟩
  · have : (Mu.ext μ h.nx ⟨w.heap.size, 0, cap, s⟩).cap h.nx 0 = cap := by simp [Mu.cap, Mu.ext_same]
    simp only [conc]
    rw [Mu.addr_some (Mu.ext_same _ _ _), this]
  · unfold Ok
    exact ⟨_, Mu.ext_same _ _ _, fun _ => by show len ≤ cap - 0 / s; simpa using hcap⟩

theorem pushed_append {w : World} {a b c : Array Value} {la lb : List Value} {elem : TypeId} (ha : a = la.toArray) (hb : b = lb.toArray) :
    pushed w (.cells (a ++ b ++ c) elem) = pushed w (.cells ((la ++ lb).toArray ++ c) elem) := by
  subst ha hb; simp

theorem append_spec (r : Rel μ h w) {ts : Array TypeId} {args : Array Value} {t1 t2 ty : TypeId} {dst x : AV} (ht : ts.toList = [t1, t2]) (ha : args[0]? = some (conc μ dst)) (hb : args[1]? = some (conc μ x))
    (od : Ok μ dst) (ox : Ok μ x) {v : AV} {h' : Heap} (hx : xappend P h t1 t2 dst x = some (v, h')) :
    ∃ μ' w', (Builtin.append_ ts ty args).run P w = .ok (conc μ' v) w' ∧ Rel μ' h' w' ∧ Ext μ h w μ' h' w' ∧ Ok μ' v := by
  unfold xappend at hx
  replace hx := ob_eq hx
  obtain ⟨d1, h1, hx⟩ := hx
  replace hx := ob_eq hx
  obtain ⟨d2, h2, hx⟩ := hx
  cases d1 <;> (try simp only at hx) <;> try (cases hx; done)
  rename_i elem
  cases hi : isIntT d2 with
  | true => rw [hi] at hx; cases hx
  | false =>
  rw [hi, sel_false] at hx
  replace hx := ob_eq hx
  obtain ⟨s, hs, hx⟩ := hx
  replace hx := ob_eq hx
  obtain ⟨by_, hby, hx⟩ := hx
  replace hx := ob_eq hx
  obtain ⟨z, hz, hx⟩ := hx
  replace hx := sel_some hx
  obtain ⟨hzl, hx⟩ := hx
  have hzl := Nat.eq_of_beq_eq_true hzl
  replace hx := ob_eq hx
  obtain ⟨⟨n, new⟩, hsrc, hx⟩ := hx
  obtain ⟨s1, s2, s3, s4⟩ := srcCells_spec (P := P) r ox hsrc
  have s2' : ∀ w', w'.heap = w.heap → (Builtin.firstCells s n (conc μ x)).run P w' = .ok (new.map (conc μ)).toArray w' := fun w' hw' => by
    have r' : Rel μ h w' := ⟨r.lt, r.mlt, fun b o m e e' => ObRel.mono (Mu.le_refl _) (by rw [hw']) (r.ok b o m e e'), r.inj, fun b m e => by rw [hw']; exact r.bnd b m e⟩
    exact (srcCells_spec (P := P) r' ox hsrc).2.1
  cases dst <;> (try simp only at hx) <;> try (cases hx; done)
  · rename_i b off len cap
    have hbm : ∃ m, μ b = some m := by unfold Ok at od; exact Mu.ex_of od
    obtain ⟨m, em⟩ := hbm
    have oldAt : ∀ {l : List AV} {cap : Nat}, rowOf h b off (Nat.mul len s) = some l → ∀ w', w'.heap = w.heap → (Builtin.firstCells s len (.slice (some ⟨m.β, m.δ + off, none⟩) len cap)).run P w' = .ok (l.map (conc μ)).toArray w' := fun hl w' hw' => by
      have r' : Rel μ h w' := ⟨r.lt, r.mlt, fun b o m e e' => ObRel.mono (Mu.le_refl _) (by rw [hw']) (r.ok b o m e e'), r.inj, fun b m e => by rw [hw']; exact r.bnd b m e⟩
      exact (rowOf_spec (P := P) r' em hl).1
    have oldOk : ∀ {l : List AV}, rowOf h b off (Nat.mul len s) = some l → ∀ v ∈ l, Ok μ v := fun hl => (rowOf_spec (P := P) r em hl).2
    cases cap with
    | some c =>
      simp only [conc, addr_of em] at ha
      simp only at hx
      by_cases hle : len + n ≤ c
      · rw [show Nat.ble (Nat.add len n) c = true by rw [ble_eq]; simpa using hle, sel_true] at hx
        replace hx := ob_eq hx
        obtain ⟨h1', hp, hx⟩ := hx
        cases hx
        obtain ⟨w', hrun, r', x'⟩ := putCells_spec (P := P) r em s3 hp
        refine ⟨μ, w', ?_, r', x', by unfold Ok; exact ⟨m, em, fun q => (by cases q)⟩⟩
        rw [append_fit ht ha hb h1 h2 hi hs s1 s2 hle]
        simp only [Addr.add_cell, Sem.run_bind]
        rw [show m.δ + off + len * s = m.δ + (off.add (len.mul s)) by show _ = m.δ + (off + len * s); omega, hrun]
        simp only [Result.andThen_ok, Sem.run_pure, conc, addr_of em]
        rfl
      · rw [show Nat.ble (Nat.add len n) c = false by rw [ble_eq]; simpa using hle, sel_false] at hx
        replace hx := sel_some hx
        obtain ⟨hs0, hx⟩ := hx
        rw [blt_eq] at hs0
        have hs0 := of_decide_eq_true hs0
        replace hx := sel_some hx
        obtain ⟨hroom, hx⟩ := hx
        rw [ble_eq] at hroom
        have hroom : (len + n) * (by_ + 1) ≤ bigRoom := of_decide_eq_true hroom
        replace hx := ob_eq hx
        obtain ⟨old, ho, hx⟩ := hx
        replace hx := sel_some hx
        obtain ⟨_, hx⟩ := hx
        obtain ⟨cap', rest, hc1, hc2, hrun⟩ := append_grow (ty := ty) ht ha hb h1 h2 hi hs hby hz hzl s1 s2' (oldAt ho) hle hroom
        have hlen : (old ++ new).length = (len + n) * s := by rw [List.length_append, rowOf_len ho, s4, Nat.add_mul]; rfl
        obtain ⟨μ', r', x', cv, ov⟩ := newDyn_spec r (elem := elem) (l := old ++ new) (fun v hv => by
          rcases List.mem_append.1 hv with hv | hv
          · exact oldOk ho v hv
          · exact s3 v hv) (fz := 0) (sish := false) hs0 hlen hc1 hc2
        cases hx
        refine ⟨μ', _, ?_, r', x', ov⟩
        rw [hrun, pushed_append rfl rfl, ← List.map_append]
        exact congrArg (fun z => Result.ok z _) cv.symm
    | none =>
      obtain ⟨m', em', hcap⟩ := (show ∃ m, μ b = some m ∧ (none = none → len ≤ m.capE - off / m.esz) by unfold Ok at od; exact od)
      rw [em] at em'; cases em'
      have hcap := hcap rfl
      have hce : μ.cap b off = m.capE - off / m.esz := by simp [Mu.cap, em]
      simp only [conc, addr_of em, hce] at ha
      simp only at hx
      by_cases hn : n = 0
      · subst hn
        rw [show Nat.beq 0 0 = true from rfl, sel_true] at hx
        cases hx
        have hnew : new = [] := by apply List.eq_nil_of_length_eq_zero; rw [s4]; omega
        subst hnew
        refine ⟨μ, w, ?_, r, Ext.refl _ _ _ r.lt, od⟩
        rw [append_fit ht ha hb h1 h2 hi hs s1 s2 hcap]
        simp only [Addr.add_cell, List.map_nil, storeCells, conc, addr_of em, hce]
        rfl
      · rw [beq_f hn, sel_false] at hx
        replace hx := ob_eq hx
        obtain ⟨o, ho, hx⟩ := hx
        cases o <;> (try simp only at hx) <;> try (cases hx; done)
        rename_i elem' nT cs ro dyn fz esz sish
        cases ro with
        | true => cases hx
        | false =>
        rw [sel_false] at hx
        replace hx := sel_some hx
        obtain ⟨hdy, hx⟩ := hx
        replace hx := sel_some hx
        obtain ⟨hesz, hx⟩ := hx
        have hesz := Nat.eq_of_beq_eq_true hesz
        replace hx := sel_some hx
        obtain ⟨hs0, hx⟩ := hx
        rw [blt_eq] at hs0
        have hs0 := of_decide_eq_true hs0
        replace hx := sel_some hx
        obtain ⟨hel, hx⟩ := hx
        have hel := Nat.eq_of_beq_eq_true hel
        replace hx := sel_some hx
        obtain ⟨hmod, hx⟩ := hx
        have hmod : off % s = 0 := Nat.eq_of_beq_eq_true hmod
        replace hx := sel_some hx
        obtain ⟨hroom, hx⟩ := hx
        rw [ble_eq] at hroom
        have hroom : (len + n) * (by_ + 1) ≤ bigRoom := of_decide_eq_true hroom
        replace hx := sel_some hx
        obtain ⟨hsc, hx⟩ := hx
        obtain ⟨c, el, lo, hi', g1, g2, g3, g4, g5, g6, g7⟩ := r.ok b _ m ho em
        obtain ⟨e1, e2, e3, e4⟩ := g5 hdy
        subst hesz hel g7
        obtain ⟨k, hk⟩ : ∃ k, off = k * esz := ⟨off / esz, by
          have := Nat.div_add_mod off esz
          rw [hmod, Nat.mul_comm] at this; omega⟩
        have hoff : off / m.esz = k := by rw [e1, hk, Nat.mul_div_cancel _ e2]
        have hcap' : len ≤ m.capE - k := by rw [hoff] at hcap; exact hcap
        by_cases hfit : off + len * esz + n * esz ≤ nT
        · rw [show Nat.ble (Nat.add (Nat.add off (Nat.mul len esz)) (Nat.mul n esz)) nT = true by rw [ble_eq]; simpa using hfit, sel_true] at hx
          replace hx := ob_eq hx
          obtain ⟨h1', hp, hx⟩ := hx
          cases hx
          have hle : len + n ≤ m.capE - k := by
            have hbig : (k + len + n) * esz ≤ m.capE * esz := by
              rw [Nat.add_mul, Nat.add_mul, ← hk]; omega
            have := Nat.le_of_mul_le_mul_right hbig e2
            omega
          obtain ⟨w', hrun, r', x'⟩ := putCells_spec (P := P) r em s3 hp
          refine ⟨μ, w', ?_, r', x', by unfold Ok; exact ⟨m, em, fun _ => by rw [hoff]; exact hle⟩⟩
          rw [append_fit ht ha hb h1 h2 hi hs s1 s2 (by rw [hoff]; exact hle)]
          simp only [Addr.add_cell, Sem.run_bind]
          rw [show m.δ + off + len * esz = m.δ + (off.add (len.mul esz)) by show _ = m.δ + (off + len * esz); omega, hrun]
          simp only [Result.andThen_ok, Sem.run_pure, conc, addr_of em, hce]
          rfl
        · rw [show Nat.ble (Nat.add (Nat.add off (Nat.mul len esz)) (Nat.mul n esz)) nT = false by rw [ble_eq]; simpa using hfit, sel_false] at hx
          replace hx := sel_some hx
          obtain ⟨hfz, hx⟩ := hx
          rw [ble_eq] at hfz
          have hfz : fz ≤ off + len * esz := of_decide_eq_true hfz
          replace hx := sel_some hx
          obtain ⟨hnT, hx⟩ := hx
          rw [ble_eq] at hnT
          have hnT : off + len * esz ≤ nT := of_decide_eq_true hnT
          replace hx := ob_eq hx
          obtain ⟨old, hrow, hx⟩ := hx
          replace hx := sel_some hx
          obtain ⟨hso, hx⟩ := hx
          have hro : rowOf h b off (Nat.mul len esz) = some old := by
            unfold rowOf
            rw [ho, ob_some]
            simp only
            rw [show Nat.ble (Nat.add off (Nat.mul len esz)) nT = true by rw [ble_eq]; simpa using hnT, sel_true, hrow]
          have hlen : (old ++ new).length = (len + n) * esz := by rw [List.length_append, rowOf_len hro, s4, Nat.add_mul]; rfl
          have okAll : ∀ v ∈ old ++ new, Ok μ v := fun v hv => by
            rcases List.mem_append.1 hv with hv | hv
            · exact oldOk hro v hv
            · exact s3 v hv
          cases hx
          by_cases hle : len + n ≤ m.capE - k
          · -- in place
            have hcapk : (k + (m.capE - k)) * esz = m.capE * esz := by congr 1; omega
            have hinb : off + (len + n) * esz ≤ m.capE * esz := by
              have : (k + (len + n)) * esz ≤ m.capE * esz := Nat.mul_le_mul_right _ (by omega)
              rw [Nat.add_mul, ← hk] at this; exact this
            rw [Nat.add_mul] at hinb
            obtain ⟨w', c', q1, q2, q3, q4, q5, q6, q7, q8, q9⟩ := store_raw (P := P) (p := m.δ + off + len * esz) (new.map (conc μ)) 0 w c g1 (fun i hi => by
              rw [List.length_map, s4] at hi
              refine ⟨by omega, g3 _ (by omega) (by omega)⟩) (oneCells hsc)
            have hle' := r.le_ext ⟨m.β, m.δ + off, m.capE - k, esz⟩
            obtain ⟨u1, u2⟩ := conc_cells_mono hle' okAll
            have hrowl := rowOf_len hro
            obtain ⟨z1, z2⟩ := Tri.row_spec _ _ _ _ hrow
            obtain ⟨r', x'⟩ := r.rename (w' := w') (m' := ⟨m.β, m.δ + off, m.capE - k, esz⟩) (o' := .cells el (old ++ new).length (Tri.putRow (old ++ new) .lf 0) false true (fz - off) esz sish) ho em rfl rfl q2 q3 q4 q5 q6
              ⟨c', el, lo, hi', q7, fun i hi => row_told u2 (fun j hj => by
                  rw [q9, List.length_map, s4]
                  simp only [Nat.add_zero]
                  by_cases hj1 : j < len * esz
                  · rw [if_neg (by omega)]
                    obtain ⟨v, a1, a2, a3⟩ := g2 (off + j) (by omega)
                    have hv : old[j]? = some v := by
                      have := z2 j hj1
                      rw [← this]; exact a1
                    rw [List.getElem?_append_left (by rw [z1]; exact hj1), hv, Option.map_some, (conc_le hle' v a2).1, Nat.add_assoc]; exact a3
                  · rw [List.length_append, s4, z1] at hj
                    have hj : j < len * esz + n * esz := hj
                    rw [if_pos (by omega), List.getElem?_append_right (by rw [z1]; show len * esz ≤ j; omega), z1, List.getElem?_map, show m.δ + off + j - (m.δ + off + len * esz) = j - len.mul esz by show _ = j - len * esz; omega]
                    have hjn : j - len.mul esz < new.length := by rw [s4]; show j - len * esz < _; omega
                    rw [List.getElem?_eq_getElem hjn, Option.map_some, Option.map_some, (conc_le hle' _ (s3 _ (List.getElem_mem hjn))).1]) i hi,
                fun j q q' => g3 j (by simp only at q; omega) (by rw [← q8]; exact q'), fun a b => by have := g4 a b; simp only; omega,
                fun _ => ⟨rfl, e2, by rw [hlen]; exact Nat.mul_le_mul_right _ hle, by
                  rw [q8]; simp only
                  rw [Nat.add_mul, ← hk] at hcapk; omega⟩, fun q => (by cases q), rfl⟩
            refine ⟨_, w', ?_, r', x', ?_⟩
            · rw [append_fit ht ha hb h1 h2 hi hs s1 s2 (by rw [hoff]; exact hle)]
              simp only [Addr.add_cell, Sem.run_bind, q1, Result.andThen_ok, Sem.run_pure, conc, hoff]
              show _ = Result.ok (Value.slice (some ((Mu.ext μ h.nx ⟨m.β, m.δ + off, m.capE - k, esz⟩).addr h.nx 0)) (len + n) ((Mu.ext μ h.nx ⟨m.β, m.δ + off, m.capE - k, esz⟩).cap h.nx 0)) w'
              have : (Mu.ext μ h.nx ⟨m.β, m.δ + off, m.capE - k, esz⟩).cap h.nx 0 = m.capE - k := by simp [Mu.cap, Mu.ext_same]
              rw [Mu.addr_some (Mu.ext_same _ _ _), this]; rfl
            · unfold Ok
              exact ⟨_, Mu.ext_same _ _ _, fun _ => by show len + n ≤ m.capE - k - 0 / esz; simpa using hle⟩
          · -- a new row
            obtain ⟨r1, x1⟩ := r.kill b em
            obtain ⟨cap', rest, hc1, hc2, hrun⟩ := append_grow (ty := ty) ht ha hb h1 h2 hi hs hby hz hzl s1 s2' (oldAt hro) (by rw [hoff]; exact hle) hroom
            obtain ⟨μ', r', x', cv, ov⟩ := newDyn_spec r1 (elem := el) (l := old ++ new) okAll (fz := fz - off) (sish := sish) e2 hlen hc1 hc2
            refine ⟨μ', _, ?_, r', x1.trans x', ov⟩
            rw [hrun, pushed_append rfl rfl, ← List.map_append]
            exact congrArg (fun z => Result.ok z _) cv.symm
  · -- an empty slice
    simp only [conc] at ha
    by_cases hn : n = 0
    · subst hn
      rw [show Nat.beq 0 0 = true from rfl, sel_true] at hx
      cases hx
      refine ⟨μ, w, ?_, r, Ext.refl _ _ _ r.lt, by simp [Ok]⟩
      rw [append_fit ht ha hb h1 h2 hi hs s1 s2 (Nat.le_refl _)]
      rfl
    · rw [beq_f hn, sel_false] at hx
      replace hx := sel_some hx
      obtain ⟨hs0, hx⟩ := hx
      rw [blt_eq] at hs0
      have hs0 := of_decide_eq_true hs0
      replace hx := sel_some hx
      obtain ⟨hroom, hx⟩ := hx
      rw [ble_eq] at hroom
      have hroom : n * (by_ + 1) ≤ bigRoom := of_decide_eq_true hroom
      replace hx := sel_some hx
      obtain ⟨hsc, hx⟩ := hx
      obtain ⟨cap', rest, hc1, hc2, hrun⟩ := append_grow (ty := ty) (old := #[]) ht ha hb h1 h2 hi hs hby hz hzl s1 s2' (fun _ _ => rfl) (by omega) (by rw [Nat.zero_add]; exact hroom)
      rw [Nat.zero_add] at hc1 hc2 hrun
      obtain ⟨μ', r', x', cv, ov⟩ := newDyn_spec r (elem := elem) (l := new) s3 (fz := 0) (sish := false) hs0 s4 hc1 hc2
      cases hx
      refine ⟨μ', _, ?_, r', x', ov⟩
      rw [hrun, Array.empty_append]
      exact congrArg (fun z => Result.ok z _) cv.symm
end
end Go.Th

namespace Go.Th
section
variable {P : Program} {μ : Mu} {h : Heap} {w : World}

theorem firstCells_zero {src : AV} {s n : Nat} {l : List AV} (hs : srcCells h s src = some (n, l)) : (Builtin.firstCells s 0 (conc μ src)).run P w = .ok #[] w := by
  cases src <;> simp only [srcCells] at hs <;> try (cases hs; done)
  · have : ∀ b : ByteArray, (b.extract 0 0).data = #[] := fun b => by rw [ByteArray.data_extract]; simp
    simp only [Builtin.firstCells, conc, this]; simp
  · rename_i b off len cap
    cases cap <;> simp [Builtin.firstCells, conc, loadCells, loadCellsFrom]
  · simp [Builtin.firstCells, conc]
theorem sCells_take (μ : Mu) (n k x : Nat) (hk : k ≤ n) : ((sbytes n x).take k).map (fun c => Value.int .u8 c.toNat) = (sCells k x).map (conc μ) := by
  rw [sCells_eq, sbytes_take n x k hk]
  have := sbytes_take k x k (Nat.le_refl k)
  rw [← this, List.take_of_length_le (by rw [sbytes_length]; exact Nat.le_refl _)]
theorem sliceAddr {b off len : Nat} {cap : Option Nat} {m : BM} (em : μ b = some m) : ∃ c, conc μ (.slice b off len cap) = .slice (some ⟨m.β, m.δ + off, none⟩) len c := by
  cases cap <;> exact ⟨_, by simp only [conc, addr_of em]; rfl⟩

theorem copy_spec (r : Rel μ h w) {ts : Array TypeId} {args : Array Value} {t ty : TypeId} {dst src : AV} (ht : ts[0]? = some t) (ha : args[0]? = some (conc μ dst)) (hb : args[1]? = some (conc μ src))
    (od : Ok μ dst) (os : Ok μ src) {v : AV} {h' : Heap} (hx : xcopy P h t dst src = some (v, h')) :
    ∃ w', (Builtin.copy_ ts ty args).run P w = .ok (conc μ v) w' ∧ Rel μ h' w' ∧ Ext μ h w μ h' w' ∧ Ok μ v := by
  unfold xcopy at hx
  replace hx := ob_eq hx
  obtain ⟨d, hd, hx⟩ := hx
  cases d <;> (try simp only at hx) <;> try (cases hx; done)
  rename_i elem
  replace hx := ob_eq hx
  obtain ⟨s, hs, hx⟩ := hx
  have lenOf : ∀ {n l}, srcCells h s src = some (n, l) → (Builtin.lenOf (conc μ src)).run P w = .ok n w := fun q => (srcCells_spec (P := P) r os q).1
  cases dst <;> (try simp only at hx) <;> try (cases hx; done)
  · rename_i b off len cap
    obtain ⟨m, em⟩ : ∃ m, μ b = some m := by unfold Ok at od; exact Mu.ex_of od
    obtain ⟨c, hc⟩ := sliceAddr (μ := μ) (b := b) (off := off) (len := len) (cap := cap) em
    rw [hc] at ha
    have fin : ∀ (n : Nat) (cells : List AV), (Builtin.lenOf (conc μ src)).run P w = .ok n w → (Builtin.firstCells s (Nat.min n len) (conc μ src)).run P w = .ok (cells.map (conc μ)).toArray w →
        ∀ w', (storeCells ⟨m.β, m.δ + off, none⟩ (cells.map (conc μ))).run P w = .ok () w' → (Builtin.copy_ ts ty args).run P w = .ok (.int .i64 (Nat.min n len : Nat)) w' := by
      intro n cells q1 q2 w' q3
      simp only [Builtin.copy_, ht, ha, hb, Sem.run_bind, run_und hd, run_sz hs, Result.andThen_ok, q1, q2, q3]
      rfl
    cases src <;> (try simp only at hx) <;> try (cases hx; done)
    · rename_i l' x
      replace hx := sel_some hx
      obtain ⟨h1, hx⟩ := hx
      obtain rfl := Nat.eq_of_beq_eq_true h1
      replace hx := ob_eq hx
      obtain ⟨h2, hp, hx⟩ := hx
      cases hx
      have hok := sCells_ok μ (xmin l' len) x
      obtain ⟨w', q1, q2, q3⟩ := putCells_spec (P := P) r em (fun v hv => (hok v hv).1) hp
      have hsz : ByteArray.size ⟨(sbytes l' x).toArray⟩ = l' := by show (sbytes l' x).toArray.size = l'; simp [sbytes_length]
      refine ⟨w', ?_, q2, q3, by simp [Ok]⟩
      rw [fin l' (sCells (xmin l' len) x) (by simp [Builtin.lenOf, conc, hsz]) (by
        have hd : (ByteArray.extract ⟨(sbytes l' x).toArray⟩ 0 (Nat.min l' len)).data = ((sbytes l' x).take (Nat.min l' len)).toArray := by
          rw [ByteArray.data_extract]; simp
        simp only [Builtin.firstCells, conc, hd, Sem.run_pure]
        rw [← sCells_take μ l' _ x (by rw [xmin_eq]; exact Nat.min_le_left _ _), xmin_eq]
        rw [List.map_toArray]) w' q1]
      rw [xmin_eq]; rfl
    · rename_i b' off' len' cap'
      obtain ⟨m', em'⟩ : ∃ m, μ b' = some m := by unfold Ok at os; exact Mu.ex_of os
      obtain ⟨c', hc'⟩ := sliceAddr (μ := μ) (b := b') (off := off') (len := len') (cap := cap') em'
      replace hx := ob_eq hx
      obtain ⟨l, hl, hx⟩ := hx
      replace hx := ob_eq hx
      obtain ⟨h2, hp, hx⟩ := hx
      cases hx
      obtain ⟨r1, r2⟩ := rowOf_spec (P := P) r em' hl
      obtain ⟨w', q1, q2, q3⟩ := putCells_spec (P := P) r em r2 hp
      refine ⟨w', ?_, q2, q3, by simp [Ok]⟩
      rw [fin len' l (by rw [hc']; rfl) (by
        rw [hc']
        show (loadCells _ (Nat.min len' len * s)).run P w = _
        rw [show Nat.min len' len = xmin len' len by rw [xmin_eq]]; exact r1) w' q1]
      rw [xmin_eq]; rfl
    · cases hx
      refine ⟨w, ?_, r, Ext.refl _ _ _ r.lt, by simp [Ok]⟩
      rw [fin 0 [] rfl rfl w rfl]
      rw [show Nat.min 0 len = 0 from Nat.zero_min _]; rfl
  · replace hx := ob_eq hx
    obtain ⟨⟨n, l⟩, hl, hx⟩ := hx
    cases hx
    refine ⟨w, ?_, r, Ext.refl _ _ _ r.lt, by simp [Ok]⟩
    have hm : Nat.min n 0 = 0 := Nat.min_zero _
    simp only [conc] at ha
    simp only [Builtin.copy_, ht, ha, hb, Sem.run_bind, run_und hd, run_sz hs, Result.andThen_ok, lenOf hl, hm, firstCells_zero hl]
    rfl

theorem len_spec (r : Rel μ h w) {ts : Array TypeId} {args : Array Value} {t ty : TypeId} {x : AV} (ht : ts[0]? = some t) (ha : args[0]? = some (conc μ x)) (ox : Ok μ x) {v : AV} (hx : xlen P h t x = some v) :
    (Builtin.len_ ts ty args).run P w = .ok (conc μ v) w ∧ Ok μ v := by
  unfold xlen at hx
  replace hx := ob_eq hx
  obtain ⟨d, hd, hx⟩ := hx
  have arr : ∀ n el, P.underlying t = some (.array n el) → (Builtin.len_ ts ty args).run P w = .ok (.int .i64 n) w := fun n el q => by
    simp only [Builtin.len_, ht, ha, Sem.run_bind, run_und q, Result.andThen_ok]; rfl
  have parr : ∀ a n el, P.underlying t = some (.pointer a) → P.underlying a = some (.array n el) → (Builtin.len_ ts ty args).run P w = .ok (.int .i64 n) w := fun a n el q q' => by
    simp only [Builtin.len_, ht, ha, Sem.run_bind, run_und q, run_und q', Result.andThen_ok]; rfl
  have dflt : ∀ v, (match d with
    | .array n _ => some (.int .i64 (.ofNat n))
    | .pointer a => ob (P.underlying a) fun d' => (match d' with | .array n _ => some (.int .i64 (.ofNat n)) | _ => none)
    | _ => none) = some v → (Builtin.len_ ts ty args).run P w = .ok (conc μ v) w ∧ Ok μ v := by
    intro v hv
    cases d <;> (try simp only at hv) <;> try (cases hv; done)
    · replace hv := ob_eq hv
      obtain ⟨d', hd', hv⟩ := hv
      cases d' <;> (try simp only at hv) <;> try (cases hv; done)
      cases hv
      exact ⟨parr _ _ _ hd hd', by simp [Ok]⟩
    · cases hv
      exact ⟨arr _ _ hd, by simp [Ok]⟩
  cases x with
  | str n b =>
    cases d <;> (try simp only at hx) <;> try (cases hx; done)
    cases hx
    have hsz : ByteArray.size ⟨(sbytes n b).toArray⟩ = n := by show (sbytes n b).toArray.size = n; simp [sbytes_length]
    refine ⟨?_, by simp [Ok]⟩
    simp only [Builtin.len_, ht, ha, Sem.run_bind, run_und hd, Result.andThen_ok, conc, hsz]; rfl
  | nilSlice =>
    cases d <;> (try simp only at hx) <;> try (cases hx; done)
    cases hx
    refine ⟨?_, by simp [Ok]⟩
    simp only [Builtin.len_, ht, ha, Sem.run_bind, run_und hd, Result.andThen_ok, conc]; rfl
  | slice b off n cap =>
    cases d <;> (try simp only at hx) <;> try (cases hx; done)
    cases hx
    obtain ⟨m, em⟩ : ∃ m, μ b = some m := by unfold Ok at ox; exact Mu.ex_of ox
    obtain ⟨c, hc⟩ := sliceAddr (μ := μ) (b := b) (off := off) (len := n) (cap := cap) em
    refine ⟨?_, by simp [Ok]⟩
    simp only [Builtin.len_, ht, ha, Sem.run_bind, run_und hd, Result.andThen_ok, hc]; rfl
  | nilMap =>
    cases d <;> (try simp only at hx) <;> try (cases hx; done)
    cases hx
    refine ⟨?_, by simp [Ok]⟩
    simp only [Builtin.len_, ht, ha, Sem.run_bind, run_und hd, Result.andThen_ok, conc]; rfl
  | map b =>
    cases d <;> (try simp only at hx) <;> try (cases hx; done)
    replace hx := ob_eq hx
    obtain ⟨es, hes, hx⟩ := hx
    cases hx
    obtain ⟨m, em⟩ := (show ∃ m, μ b = some m by simpa [Ok] using ox)
    obtain ⟨_, l, clock, h1, h2, h3⟩ := mapOf_spec r em hes
    have hl : l.size = es.length := by
      have := congrArg List.length h2
      simpa using this
    refine ⟨?_, by simp [Ok]⟩
    simp only [Builtin.len_, ht, ha, Sem.run_bind, run_und hd, Result.andThen_ok, conc, Mu.blk, em, gMap h1, hl]; rfl
  | _ => exact dflt v hx

theorem cap_spec {ts : Array TypeId} {args : Array Value} {t ty : TypeId} {x : AV} (ht : ts[0]? = some t) (ha : args[0]? = some (conc μ x)) {v : AV} (hx : xcap P t x = some v) :
    (Builtin.cap_ ts ty args).run P w = .ok (conc μ v) w ∧ Ok μ v := by
  unfold xcap at hx
  replace hx := ob_eq hx
  obtain ⟨d, hd, hx⟩ := hx
  cases d <;> (try simp only at hx) <;> try (cases hx; done)
  cases x <;> (try simp only at hx) <;> try (cases hx; done)
  · rename_i b off len cap
    cases cap <;> (try simp only at hx) <;> try (cases hx; done)
    cases hx
    refine ⟨?_, by simp [Ok]⟩
    simp only [Builtin.cap_, ht, ha, Sem.run_bind, run_und hd, Result.andThen_ok, conc]; rfl
  · cases hx
    refine ⟨?_, by simp [Ok]⟩
    simp only [Builtin.cap_, ht, ha, Sem.run_bind, run_und hd, Result.andThen_ok, conc]; rfl

theorem max_spec {ts : Array TypeId} {args : Array Value} {ty : TypeId} {x y : AV} (ha : args.toList = [conc μ x, conc μ y]) {v : AV} (hx : xminmax true x y = some v) :
    (Builtin.max_ ts ty args).run P w = .ok (conc μ v) w ∧ Ok μ v := by
  cases x <;> (try simp only [xminmax] at hx) <;> try (cases hx; done)
  cases y <;> (try simp only at hx) <;> try (cases hx; done)
  rename_i k a k' b
  cases hx
  refine ⟨?_, by simp [Ok]⟩
  simp only [Builtin.max_, ha, List.foldlM, conc, Builtin.max2, Sem.run_bind, Sem.run_pure, Result.andThen_ok]
  rw [sel_true, xilt_eq, sel_eq]
  congr 2
  by_cases q : a < b <;> simp [q]
theorem min_spec {ts : Array TypeId} {args : Array Value} {ty : TypeId} {x y : AV} (ha : args.toList = [conc μ x, conc μ y]) {v : AV} (hx : xminmax false x y = some v) :
    (Builtin.min_ ts ty args).run P w = .ok (conc μ v) w ∧ Ok μ v := by
  cases x <;> (try simp only [xminmax] at hx) <;> try (cases hx; done)
  cases y <;> (try simp only at hx) <;> try (cases hx; done)
  rename_i k a k' b
  cases hx
  refine ⟨?_, by simp [Ok]⟩
  simp only [Builtin.min_, ha, List.foldlM, conc, Builtin.min2, Sem.run_bind, Sem.run_pure, Result.andThen_ok]
  rw [sel_false, xilt_eq, sel_eq]
  congr 2
  by_cases q : b < a <;> simp [q]

theorem wrap_small (n : Nat) (hn : n ≤ 1099511627776) : IntKind.i64.wrap (n : Int) = n := wrap_lim .i64 n (by simp only [xlim]; omega)
theorem make_run (μ : Mu) (w : World) {t : TypeId} {l c : AV} {v : AV} {h' : Heap} (hx : xmake P h t l c = some (v, h')) :
    ∃ elem z ll cc row, v = .slice h.nx 0 ll (some cc) ∧ h' = (newCells h elem (repL cc z)).2 ∧ (∀ h2, xmake P h2 t l c = some (.slice h2.nx 0 ll (some cc), (newCells h2 elem (repL cc z)).2)) ∧
      (∀ x ∈ repL cc z, Ok μ x) ∧ row.toList = (repL cc z).map (conc μ) ∧ (Instr.makeSlice t (conc μ l) (conc μ c)).run P w = .ok (.slice (some ⟨w.heap.size, 0, none⟩) ll cc) (pushed w (.cells row elem)) := by
  have hx0 := hx
  unfold xmake at hx
  replace hx := ob_eq hx
  obtain ⟨d, hd, hx⟩ := hx
  cases d <;> (try simp only at hx) <;> try (cases hx; done)
  rename_i elem
  replace hx := ob_eq hx
  obtain ⟨s, hs, hx⟩ := hx
  replace hx := ob_eq hx
  obtain ⟨by_, hby, hx⟩ := hx
  replace hx := ob_eq hx
  obtain ⟨z, hz, hx⟩ := hx
  cases l <;> (try simp only at hx) <;> try (cases hx; done)
  cases c <;> (try simp only at hx) <;> try (cases hx; done)
  rename_i k1 ln k2 cn
  replace hx := ob_eq hx
  obtain ⟨ll, h1, hx⟩ := hx
  replace hx := ob_eq hx
  obtain ⟨cc, h2', hx⟩ := hx
  obtain rfl := asNat_some h1
  obtain rfl := asNat_some h2'
  replace hx := sel_some hx
  obtain ⟨h3, hx⟩ := hx
  rw [ble_eq] at h3
  have h3 := of_decide_eq_true h3
  replace hx := sel_some hx
  obtain ⟨h4, hx⟩ := hx
  rw [ble_eq] at h4
  have h4 : cc * (by_ + 1) ≤ 1099511627776 := of_decide_eq_true h4
  replace hx := sel_some hx
  obtain ⟨h5, hx⟩ := hx
  have h5 := Nat.eq_of_beq_eq_true h5
  cases hx
  rw [Nat.mul_add, Nat.mul_one] at h4
  obtain ⟨ti, hti, hbe⟩ := byOf_spec hby
  obtain ⟨zv, hzv, hzc, hzo⟩ := zeroC_spec (w := w) hz μ
  have hzs : zv.cells.size = s := by rw [← Array.length_toList, hzc, List.length_map, h5]
  have hbc : (ti.bytes : Int) * (cc : Int) = ((cc * by_ : Nat) : Int) := by rw [hbe, Nat.mul_comm cc]; exact (Int.natCast_mul by_ cc).symm
  let row : Array Value := (Array.range (cc * s)).map fun i => zv.cells[i % zv.cells.size]!
  have hrow : row.toList = (repL cc z).map (conc μ) := by
    have := zeros_eq zv.cells cc
    rw [hzs] at this
    rw [repL_map, ← hzc, ← this]
    simp only [row, hzs]
  refine ⟨elem, z, ll, cc, row, rfl, rfl, fun h2 => ?_, fun v hv => hzo v (repL_mem _ _ _ hv), hrow, ?_⟩
  · unfold xmake
    simp only [hd, hs, hby, hz, h1, h2', ob_some]
    rw [show Nat.ble ll cc = true by rw [ble_eq]; simpa using h3, sel_true, show Nat.ble (Nat.mul cc (Nat.succ by_)) bigRoom = true by rw [ble_eq, decide_eq_true_eq]; show cc * (by_ + 1) ≤ 1099511627776; rw [Nat.mul_add, Nat.mul_one]; exact h4, sel_true, beq_t h5, sel_true]
    rfl
  have hcond : ¬ (((cc : Int) < 0 ∨ (ti.bytes : Int) * (cc : Int) > 2 ^ 48) ∨ (ll : Int) < 0 ∨ (ll : Int) > (cc : Int)) := by
    rw [hbc]
    intro q
    rcases q with (q | q) | q | q <;> omega
  have hti' : (typeInfo elem).run P w = .ok ti w := by simp [typeInfo, hti]
  simp only [Instr.makeSlice, Sem.run_bind, run_und hd, Result.andThen_ok, conc, asInt, asIntOf, Sem.run_pure, hti', wrap_small ll (by omega), wrap_small cc (by omega)]
  rw [if_neg (by simpa only [Bool.or_eq_true, decide_eq_true_eq, or_assoc] using hcond)]
  simp only [Sem.run_bind, run_askRoom, run_sz hs, Result.andThen_ok, Int.toNat_natCast, Sem.run_ite, Sem.run_pure, hzv]
  have fin : ((newRow elem row >>= fun a => pure (.slice (some a) ll cc)) : Sem Value).run P w = .ok (.slice (some ⟨w.heap.size, 0, none⟩) ll cc) (pushed w (.cells row elem)) := rfl
  refine Eq.trans ?_ fin
  by_cases q : cc * s = 0
  · have hr0 : Array.range 0 = #[] := by apply Array.eq_empty_of_size_eq_zero; simp
    rw [if_pos q]
    simp only [row, q, hr0, Array.map_empty, Sem.run_bind, Sem.run_pure]
  · rw [if_neg q]
    simp only [row, Sem.run_bind, Sem.run_pure]

theorem make_spec (r : Rel μ h w) {t : TypeId} {l c : AV} {v : AV} {h' : Heap} (hx : xmake P h t l c = some (v, h')) :
    ∃ μ' w', (Instr.makeSlice t (conc μ l) (conc μ c)).run P w = .ok (conc μ' v) w' ∧ Rel μ' h' w' ∧ Ext μ h w μ' h' w' ∧ Ok μ' v := by
  obtain ⟨elem, z, ll, cc, row, rfl, rfl, _, ho, hrow, hrun⟩ := make_run μ w hx
  obtain ⟨μ', q1, q2, q3, q4⟩ := new_spec (P := P) r elem (l := repL cc z) ho hrow
  refine ⟨μ', _, ?_, q2, q3, by unfold Ok; exact ⟨_, q4, fun q => (by cases q)⟩⟩
  rw [hrun]
  simp only [conc]
  rw [Mu.addr_some q4]

theorem buildSlice_run (μ : Mu) (w : World) {t elem : TypeId} {len s : Nat} {z cs : List AV} {ps : List (Nat × AV)} (hd : P.underlying t = some (.slice elem)) (hs : szOf P elem = some s) (hz : zeroC P elem = some z) (hzl : z.length = s)
    (hle : len * s ≤ 16777216) (hl : layParts (fun i => some (Nat.mul i s, s)) (repL len z) ps = some cs) (op : ∀ p ∈ ps, Ok μ p.2) (parts : Array (Nat × Value)) (hp : parts.toList = ps.map fun p => (p.1, conc μ p.2)) :
    (∀ x ∈ cs, Ok μ x) ∧ (Instr.buildSlice t len parts).run P w = .ok (.slice (some ⟨w.heap.size, 0, none⟩) len len) (pushed w (.cells (cs.map (conc μ)).toArray elem)) := by
  obtain ⟨zv, hzv, hzc, hzo⟩ := zeroC_spec (w := w) hz μ
  have hzs : zv.cells.size = s := by rw [← Array.length_toList, hzc, List.length_map, hzl]
  obtain ⟨f1, f2, f3⟩ := fill_spec (μ := μ) ps (repL len z) cs hl (fun v hv => hzo v (repL_mem _ _ _ hv)) op
  let row : Array Value := (Array.range (len * s)).map fun i => zv.cells[i % zv.cells.size]!
  have hrow : row = ((repL len z).map (conc μ)).toArray := by
    apply Array.ext'
    have := zeros_eq zv.cells len
    rw [hzs] at this
    rw [repL_map, ← hzc, ← this]
    simp only [row, hzs]
  refine ⟨f2, ?_⟩
  have hfill : Instr.fill (fun i => some (i * s, s)) row parts.toList = some (cs.map (conc μ)).toArray := by rw [hrow, hp]; exact f1
  have fin : ∀ S : Array Value, (Array.range (len * s)).map (S[· % S.size]!) = row → ((match Instr.fill (fun i => some (i * s, s)) ((Array.range (len * s)).map (S[· % S.size]!)) parts.toList with
        | some cells => (do pure (.slice (some (← newRow elem cells)) len len))
        | _ => stuck "buildSlice: a part of the wrong size") : Sem Value).run P w = .ok (.slice (some ⟨w.heap.size, 0, none⟩) len len) (pushed w (.cells (cs.map (conc μ)).toArray elem)) := by
    intro S hS
    rw [hS, hfill]
    rfl
  simp only [Instr.buildSlice, Sem.run_bind, run_und hd, run_sz hs, Result.andThen_ok, Sem.run_ite]
  rw [if_neg (by omega)]
  by_cases q : len * s = 0
  · have hr0 : Array.range 0 = #[] := by apply Array.eq_empty_of_size_eq_zero; simp
    rw [if_pos q]
    simp only [Sem.run_bind, Sem.run_pure, Result.andThen_ok]
    exact fin #[] (by simp only [row, q, hr0, Array.map_empty])
  · rw [if_neg q]
    simp only [Sem.run_bind, hzv, Sem.run_pure, Result.andThen_ok]
    exact fin zv.cells rfl
theorem buildSlice_spec (r : Rel μ h w) {t elem : TypeId} {len s : Nat} {z cs : List AV} {ps : List (Nat × AV)} (hd : P.underlying t = some (.slice elem)) (hs : szOf P elem = some s) (hz : zeroC P elem = some z) (hzl : z.length = s)
    (hle : len * s ≤ 16777216) (hl : layParts (fun i => some (Nat.mul i s, s)) (repL len z) ps = some cs) (op : ∀ p ∈ ps, Ok μ p.2) (parts : Array (Nat × Value)) (hp : parts.toList = ps.map fun p => (p.1, conc μ p.2)) :
    ∃ μ' w', (Instr.buildSlice t len parts).run P w = .ok (conc μ' (.slice h.nx 0 len (some len))) w' ∧ Rel μ' (newCells h elem cs).2 w' ∧ Ext μ h w μ' (newCells h elem cs).2 w' ∧ Ok μ' (.slice h.nx 0 len (some len)) := by
  obtain ⟨f2, hrun⟩ := buildSlice_run μ w hd hs hz hzl hle hl op parts hp
  obtain ⟨μ', q1, q2, q3, q4⟩ := new_spec (P := P) r elem (l := cs) f2 (c := (cs.map (conc μ)).toArray) rfl
  refine ⟨μ', _, ?_, q2, q3, by unfold Ok; exact ⟨_, q4, fun q => (by cases q)⟩⟩
  rw [hrun]
  simp only [conc]
  rw [Mu.addr_some q4]
end
end Go.Th

namespace Go.Th
section
variable {P : Program} {μ : Mu} {h : Heap} {w : World}

theorem freeze_pushed (w : World) (c : Array Value) (elem : TypeId) (o : Nat) : (pushed w (.cells c elem)).freeze ⟨w.heap.size, o, none⟩ 1 = pushed w (.cells c elem (o, o + 1)) := by
  simp only [World.freeze, pushed]
  rw [if_neg (by decide)]
  congr 1
  apply Array.ext_getElem?
  intro i
  rw [Array.getElem?_modify]
  simp only [Array.getElem?_push]
  by_cases hi : w.heap.size = i
  · subst hi; simp
  · rw [if_neg hi]
    by_cases h2 : i = w.heap.size
    · omega
    · simp [h2]

/-! ## Texts and bytes -/
theorem toBytes_spec (r : Rel μ h w) (el : TypeId) {n b : Nat} :
    ∃ μ' w', (Conv.stringToBytes el ⟨(sbytes n b).toArray⟩).run P w = .ok (conc μ' (.slice h.nx 0 n none)) w' ∧ Rel μ' (newDyn h el (sCells n b) 0 1 true).2 w' ∧ Ext μ h w μ' (newDyn h el (sCells n b) 0 1 true).2 w' ∧ Ok μ' (.slice h.nx 0 n none) := by
  obtain ⟨r1, x1⟩ := r.same (w' := { w with drawn := w.drawn + 1 }) rfl rfl rfl rfl
  have hsz : ByteArray.size ⟨(sbytes n b).toArray⟩ = n := by show (sbytes n b).toArray.size = n; simp [sbytes_length]
  let cap := grownCap w n 0 el
  have hcap : n ≤ cap := grownCap_ge w n 0 el
  let m : BM := ⟨w.heap.size, 0, cap, 1⟩
  let c : Array Value := ((sbytes n b).toArray.map fun b => Value.int .u8 b.toNat) ++ Array.replicate (cap - n) (.int .u8 0)
  have hcs : c.size = cap := by simp [c, sbytes_length]; omega
  have hle := r1.le_ext m
  have ok := sCells_ok μ n b
  obtain ⟨q1, q2⟩ := conc_cells_mono hle (fun v hv => (ok v hv).1)
  have hl : (sCells n b).length = n := sCells_length n b
  obtain ⟨r2, x2⟩ := r1.add (m := m) rfl (X := .cells c el (cap, cap + 1)) (o := .cells el (sCells n b).length (Tri.putRow (sCells n b) .lf 0) false true 0 1 true)
    ⟨_, el, cap, cap + 1, pushed_new _ _, fun i hi => row_told q2 (fun j hj => by
        rw [hl] at hj
        rw [← List.getElem?_map, q1, sCells_eq]
        simp only [m, c, Nat.zero_add]
        rw [Array.getElem?_append_left (by simpa [sbytes_length] using hj)]
        simp) i hi,
      fun j _ hj q => by rw [hcs] at hj; omega, fun q => (by cases q), fun _ => ⟨rfl, by decide, by rw [hl, Nat.mul_one]; exact hcap, by rw [hcs]; simp [m]⟩, fun q => (by cases q), rfl⟩
  refine ⟨_, _, ?_, r2, x1.trans x2, ?_⟩
  · have hch : (choose (.appendCap n 0 el)).run P w = .ok cap { w with drawn := w.drawn + 1 } := by
      rw [run_choose]; rfl
    have : (Mu.ext μ h.nx m).cap h.nx 0 = cap := by simp [Mu.cap, Mu.ext_same, m]
    simp only [conc]
    rw [Mu.addr_some (Mu.ext_same _ _ _), this]
    simp only [Conv.stringToBytes, hsz, Sem.run_bind, hch, Result.andThen_ok]
    have hnew : (newRow el (((sbytes n b).toArray.map fun b => Value.int .u8 b.toNat) ++ Array.replicate (cap - n) (.int .u8 0))).run P { w with drawn := w.drawn + 1 } = .ok ⟨w.heap.size, 0, none⟩ (pushed { w with drawn := w.drawn + 1 } (.cells c el)) := rfl
    rw [hnew]
    have hsh : (pushed { w with drawn := w.drawn + 1 } (.cells c el)).shape? w.heap.size = some (el, cap) := by
      have := pushed_new { w with drawn := w.drawn + 1 } (.cells c el)
      simp only [World.shape?]
      rw [show w.heap.size = ({ w with drawn := w.drawn + 1 } : World).heap.size from rfl, this, ← hcs]
    simp only [Result.andThen_ok, markStringish, Sem.run_bind, run_shape, hsh, run_freeze, Sem.run_pure]
    have := freeze_pushed { w with drawn := w.drawn + 1 } c el cap
    exact congrArg _ this
  · unfold Ok
    exact ⟨_, Mu.ext_same _ _ _, fun _ => by show n ≤ cap - 0 / 1; simpa using hcap⟩

theorem strTo_spec (r : Rel μ h w) {s t : TypeId} {n b : Nat} {d : TypeDesc} (oa : Ok μ (.str n b)) (hd : P.underlying t = some d) {v : AV} {h' : Heap} (hx : strTo P h s t (.str n b) n b d = some (v, h')) (hs : (P.underlying s).isSome = true) :
    ∃ μ' w', (convert s t (conc μ (.str n b))).run P w = .ok (conc μ' v) w' ∧ Rel μ' h' w' ∧ Ext μ h w μ' h' w' ∧ Ok μ' v := by
  have other : pure' h (xconv P h s t (.str n b)) = some (v, h') → ∃ μ' w', (convert s t (conc μ (.str n b))).run P w = .ok (conc μ' v) w' ∧ Rel μ' h' w' ∧ Ext μ h w μ' h' w' ∧ Ok μ' v := by
    intro hx
    replace hx := ob_eq hx
    obtain ⟨u, hu, hx⟩ := hx
    cases hx
    obtain ⟨q1, q2⟩ := conv_spec (P := P) r oa hu
    exact ⟨μ, w, q1, r, Ext.refl _ _ _ r.lt, q2⟩
  cases d <;> first
    | exact other hx
    | skip
  rename_i el
  replace hx := sel_some hx
  obtain ⟨h1, hx⟩ := hx
  cases hx
  obtain ⟨μ', w', q1, q2, q3, q4⟩ := toBytes_spec (P := P) (μ := μ) (n := n) (b := b) r el
  refine ⟨μ', w', ?_, q2, q3, q4⟩
  cases hsd : P.underlying s with
  | none => rw [hsd] at hs; cases hs
  | some sd =>
    have := u8T_spec h1
    simp only [convert, Sem.run_bind, run_und hsd, run_und hd, Result.andThen_ok, conc]
    cases sd <;> simp only [Sem.run_bind, run_und this, Result.andThen_ok] <;> exact q1

theorem lies_row {u : TypeId} {count off n : Nat} (hu : P.cellsOf u = 1) (hc : off + n ≤ count) : liesAt P P.depth u count off u n = true := by
  obtain ⟨d, hd⟩ := depth_succ P
  have hs : sameLayout P (d + 1) u u = true := by simp [sameLayout]
  have hr : rowAt P (fun x => sameLayout P (d + 1) x u) (d + 1) u count off n = true := by
    simp only [rowAt, hu, Nat.div_one, Nat.mod_one, hs]
    simp [hc]
  rw [hd]
  simp only [liesAt, hd, hr, Bool.true_or]
theorem loadBytes_run {β : Nat} : ∀ (l : List UInt8) (o : Nat) (acc : ByteArray), (∀ j, j < l.length → w.cell? ⟨β, o + j, none⟩ = (l[j]?).map fun c => Value.int .u8 (c.toNat : Int)) →
    (loadBytes ⟨β, o, none⟩ acc l.length).run P w = .ok ⟨acc.data ++ l.toArray⟩ w := by
  intro l
  induction l with
  | nil => intro o acc _; simp [loadBytes]
  | cons c l ih =>
    intro o acc hc
    have h0 := hc 0 (by simp)
    simp only [Nat.add_zero, List.getElem?_cons_zero, Option.map_some] at h0
    simp only [List.length_cons, loadBytes, Sem.run_bind, run_load, h0, Result.andThen_ok, Addr.add_cell]
    rw [ih (o + 1) _ (fun j hj => by
      have := hc (j + 1) (by simp; omega)
      rw [show o + 1 + j = o + (j + 1) by omega, this]; rfl)]
    congr 1
    simp [ByteArray.push]

theorem unsafeString_eq {ts : Array TypeId} {t ty : TypeId} {p : Option Addr} {k : IntKind} {n : Int} (ht : ts[0]? = some t) :
    Builtin.unsafeString_ ts ty #[.pointer p, .int k n] = (do
      if n < 0 then runtimePanic (.error "unsafe.String: len out of range")
      if n > IntKind.i64.max then unsupported (.unsafePointer "String: a length above the largest int")
      match p with
      | none =>
        if n = 0 then pure (.string .empty)
        else runtimePanic (.error "unsafe.String: ptr is nil and len is not zero")
      | some a =>
        if n = 0 then pure (.string .empty)
        else if ← variablesAt a (← elemOf t) n.toNat then do
          let s ← loadBytes a .empty n.toNat
          freeze a n.toNat
          pure (.string s)
        else unsupported (.unsafePointer "String: not so many bytes at ptr")) := by
  show (match ts[0]? with | some pt => _ | _ => _) = _
  rw [ht]; rfl
theorem unsafeString_spec (r : Rel μ h w) {ts : Array TypeId} {t ty : TypeId} {args : Array Value} {p n : AV} (ht : ts[0]? = some t) (ha : args = #[conc μ p, conc μ n]) (op : Ok μ p) {v : AV} {h' : Heap} (hx : xunsafeString P h t p n = some (v, h')) :
    ∃ w', (Builtin.unsafeString_ ts ty args).run P w = .ok (conc μ v) w' ∧ Rel μ h' w' ∧ Ext μ h w μ h' w' ∧ Ok μ v := by
  subst ha
  cases n <;> (try simp only [xunsafeString] at hx) <;> try (cases hx; done)
  rename_i kk k
  replace hx := ob_eq hx
  obtain ⟨j, hj, hx⟩ := hx
  obtain rfl := asNat_some hj
  by_cases hj0 : j = 0
  · subst hj0
    rw [show Nat.beq 0 0 = true from rfl, sel_true] at hx
    cases p <;> (try simp only at hx) <;> try (cases hx; done)
    all_goals (cases hx; exact ⟨w, by simp only [conc]; rw [unsafeString_eq ht]; rfl, r, Ext.refl _ _ _ r.lt, by simp [Ok]⟩)
  · rw [beq_f hj0, sel_false] at hx
    cases p <;> (try simp only at hx) <;> try (cases hx; done)
    rename_i b off
    obtain ⟨m, em⟩ := (show ∃ m, μ b = some m by simpa [Ok] using op)
    replace hx := ob_eq hx
    obtain ⟨d, hd, hx⟩ := hx
    cases d <;> (try simp only at hx) <;> try (cases hx; done)
    rename_i pe
    replace hx := ob_eq hx
    obtain ⟨o, ho, hx⟩ := hx
    cases o <;> (try simp only at hx) <;> try (cases hx; done)
    rename_i elem nT cs ro dyn fz esz sish
    cases ro with
    | true => cases hx
    | false =>
    rw [sel_false] at hx
    cases sish with
    | true => cases hx
    | false =>
    rw [sel_false] at hx
    replace hx := sel_some hx
    obtain ⟨hel, hx⟩ := hx
    obtain rfl := Nat.eq_of_beq_eq_true hel
    replace hx := sel_some hx
    obtain ⟨hle, hx⟩ := hx
    rw [ble_eq] at hle
    have hle : off + j ≤ nT := of_decide_eq_true hle
    replace hx := sel_some hx
    obtain ⟨hs1, hx⟩ := hx
    replace hx := sel_some hx
    obtain ⟨hu8, hx⟩ := hx
    replace hx := ob_eq hx
    obtain ⟨l, hl, hx⟩ := hx
    replace hx := ob_eq hx
    obtain ⟨x, hcx, hx⟩ := hx
    replace hx := sel_some hx
    obtain ⟨hjb, hx⟩ := hx
    rw [blt_eq] at hjb
    have hjb : j < 1099511627776 := of_decide_eq_true hjb
    cases hx
    have hro : rowOf h b off j = some l := by
      unfold rowOf
      rw [ho, ob_some]
      simp only
      rw [show Nat.ble (Nat.add off j) nT = true by rw [ble_eq]; simpa using hle, sel_true, hl]
    have hlen := rowOf_len hro
    obtain ⟨c1, c2⟩ := cellsNat_spec μ l x hcx
    rw [hlen] at c1 c2
    obtain ⟨c, el, lo, hi', g1, g2, g3, g4, g5, g6, g7⟩ := r.ok b _ m ho em
    subst g7
    obtain ⟨z1, z2⟩ := Tri.row_spec _ _ _ _ hl
    have hsz1 : P.cellsOf el = 1 := by
      cases hq : szOf P el with
      | none => rw [hq] at hs1; cases hs1
      | some q =>
        rw [hq] at hs1
        rw [cellsOf_sz hq]
        exact Nat.eq_of_beq_eq_true hs1
    have hcell : ∀ i, i < j → w.cell? ⟨m.β, m.δ + off + i, none⟩ = ((sbytes j x)[i]?).map fun c => Value.int .u8 (c.toNat : Int) := by
      intro i hi
      obtain ⟨v, a1, a2, a3⟩ := r.cell ho em (i := off + i) (by omega)
      have hv : l[i]? = some v := by rw [← z2 i hi]; exact a1
      have : (l.map (conc μ))[i]? = some (conc μ v) := by rw [List.getElem?_map, hv]; rfl
      rw [c2, List.getElem?_map] at this
      rw [Nat.add_assoc, a3, ← this]
    have hfit : m.δ + off + j ≤ c.size := by
      obtain ⟨v, a1, a2, a3⟩ := g2 (off + j - 1) (by omega)
      rcases Nat.lt_or_ge (m.δ + (off + j - 1)) c.size with q | q
      · omega
      · rw [Array.getElem?_eq_none q] at a3; cases a3
    have hva : (variablesAt ⟨m.β, m.δ + off, none⟩ el j).run P w = .ok true w := by
      simp only [variablesAt, Sem.run_bind, run_program, Result.andThen_ok, run_shape, World.shape?, g1, Sem.run_pure]
      rw [hsz1, Nat.div_one, lies_row hsz1 hfit]
    have hlb : (loadBytes ⟨m.β, m.δ + off, none⟩ .empty j).run P w = .ok ⟨(sbytes j x).toArray⟩ w := by
      have := loadBytes_run (P := P) (w := w) (β := m.β) (sbytes j x) (m.δ + off) .empty (fun i hi => hcell i (by rw [sbytes_length] at hi; exact hi))
      rw [sbytes_length] at this
      rw [this]
      show Result.ok (⟨#[] ++ (sbytes j x).toArray⟩ : ByteArray) w = _
      simp
    let lh : Nat × Nat := if lo == hi' then (m.δ + off, m.δ + off + j) else (min lo (m.δ + off), max hi' (m.δ + off + j))
    let w' := w.freeze ⟨m.β, m.δ + off, none⟩ j
    have hw' : w'.heap = w.heap.modify m.β fun
      | .cells c elem (lo, hi) => .cells c elem (if lo == hi then (m.δ + off, m.δ + off + j) else (min lo (m.δ + off), max hi (m.δ + off + j)))
      | o => o := by simp only [w', World.freeze, if_neg hj0]; rfl
    have hb' : w'.heap[m.β]? = some (.cells c el lh) := by
      rw [hw', Array.getElem?_modify, if_pos rfl, g1]; rfl
    have hlh : lh.1 ≤ lh.2 ∧ lh.2 ≤ m.δ + (sel (Nat.ble (Nat.add off j) fz) fz (Nat.add off j)) := by
      have hm : m.δ + off + j ≤ m.δ + (sel (Nat.ble (Nat.add off j) fz) fz (Nat.add off j)) ∧ m.δ + fz ≤ m.δ + (sel (Nat.ble (Nat.add off j) fz) fz (Nat.add off j)) := by
        rw [ble_eq, sel_eq]
        by_cases q : off + j ≤ fz
        · rw [if_pos (by simpa using q)]; omega
        · rw [if_neg (by simpa using q)]; show _ ≤ m.δ + (off + j) ∧ _ ≤ m.δ + (off + j); omega
      simp only [lh]
      split
      · simp only; omega
      · rename_i hne
        have hne : lo ≠ hi' := by simpa using hne
        simp only
        have := g4 rfl hne
        omega
    obtain ⟨r', x'⟩ := r.upd (w' := w') (o' := .cells el nT cs false dyn (sel (Nat.ble (Nat.add off j) fz) fz (Nat.add off j)) esz false) ho em rfl rfl (by rw [hw', Array.size_modify]) (fun β hβ => by rw [hw', Array.getElem?_modify, if_neg (by omega)]) (by simp only [w', World.freeze, if_neg hj0]) (by simp only [w', World.freeze, if_neg hj0]) (by simp only [w', World.freeze, if_neg hj0])
      ⟨c, el, lh.1, lh.2, hb', g2, fun i q q' => by have := hlh.2; omega, fun _ q => ⟨Nat.lt_of_le_of_ne hlh.1 q, hlh.2⟩, g5, g6, rfl⟩
    refine ⟨w', ?_, r', x', by simp only [Ok]; exact c1⟩
    have hel : (elemOf t).run P w = .ok el w := by simp only [elemOf, Sem.run_bind, run_und hd, Result.andThen_ok, Sem.run_pure]
    have c3 : ¬ ((j : Int) < 0) := by omega
    have c4 : ¬ ((j : Int) > IntKind.i64.max) := by
      intro q
      have : (j : Int) > 9223372036854775807 := q
      omega
    have c5 : ¬ ((j : Int) = 0) := by omega
    simp only [conc, addr_of em]
    rw [unsafeString_eq ht]
    simp only [Sem.run_bind, Sem.run_pure, Result.andThen_ok, Sem.run_ite, c3, c4, c5, if_false, hel, Int.toNat_natCast, hva, if_true, hlb, run_freeze]
    rfl

theorem unsafeSliceData_eq {ts : Array TypeId} {ty : TypeId} {a : Addr} {n c : Nat} (hc : c ≠ 0) :
    (Builtin.unsafeSliceData_ ts ty #[.slice (some a) n c]).run P w = .ok (.pointer (some a)) w := by
  show (ite (c ≠ 0) (pure (Value.pointer (some a))) _ : Sem Value).run P w = _
  rw [if_pos hc]; rfl
theorem unsafeSliceData_spec (r : Rel μ h w) {ts : Array TypeId} {ty : TypeId} {args : Array Value} {x : AV} (ha : args = #[conc μ x]) (ox : Ok μ x) {v : AV} {h' : Heap} (hx : xunsafeSliceData h x = some (v, h')) :
    (Builtin.unsafeSliceData_ ts ty args).run P w = .ok (conc μ v) w ∧ h' = h ∧ Ok μ v := by
  subst ha
  cases x <;> (try simp only [xunsafeSliceData] at hx) <;> try (cases hx; done)
  · rename_i b off len cap
    cases cap with
    | some c =>
      simp only at hx
      by_cases hc : c = 0
      · rw [beq_t hc] at hx; cases hx
      · rw [beq_f hc, sel_false] at hx
        cases hx
        refine ⟨?_, rfl, by unfold Ok at ox ⊢; exact Mu.ex_of ox⟩
        simp only [conc]
        exact unsafeSliceData_eq hc
    | none =>
      simp only at hx
      by_cases hc : len = 0
      · rw [beq_t hc] at hx; cases hx
      · rw [beq_f hc, sel_false] at hx
        cases hx
        obtain ⟨m, em, hcap⟩ := (show ∃ m, μ b = some m ∧ (none = none → len ≤ m.capE - off / m.esz) by unfold Ok at ox; exact ox)
        have hcap := hcap rfl
        have hce : μ.cap b off = m.capE - off / m.esz := by simp [Mu.cap, em]
        refine ⟨?_, rfl, by unfold Ok at ox ⊢; exact Mu.ex_of ox⟩
        have : μ.cap b off ≠ 0 := by omega
        simp only [conc]
        exact unsafeSliceData_eq this
  · cases hx
    exact ⟨rfl, rfl, by simp [Ok]⟩
end
end Go.Th

namespace Go.Th

/-! ## What is fixed around an evaluation -/
/-- the fence: all functions, a round or none -/
def Fw (rd : Option Nat) : Fence := { fn := fun _ => True, depth := none, alive := false, round := rd }
theorem Fw_none : Fw none = Fence.wide := rfl
theorem Fw_room (rd : Option Nat) (n : Nat) : (Fw rd).room n := fun _ h => by simp [Fw] at h

/-- blocks that are for reading alone, and lie apart from all that is told -/
structure Good (R0 : Nat → Option Obj) (μ : Mu) (h : Heap) (w : World) : Prop where
  here : ∀ β o, R0 β = some o → w.heap[β]? = some o
  sep : ∀ b o m, h.ob.at b = some o → o.ro = false → μ b = some m → R0 m.β = none

theorem Good.bound {R0 : Nat → Option Obj} {μ : Mu} {h : Heap} {w : World} (g : Good R0 μ h w) {β : Nat} {o : Obj} (e : R0 β = some o) : β < w.heap.size :=
  (Array.getElem?_eq_some_iff.1 (g.here β o e)).1
theorem Good.ext {R0 : Nat → Option Obj} {μ μ' : Mu} {h h' : Heap} {w w' : World} (g : Good R0 μ h w) (x : Ext μ h w μ' h' w') : Good R0 μ' h' w' where
  here := fun β o e => by
    rw [x.kept β (g.bound e) (fun b o' m hb hr hm hβ => by have := g.sep b o' m hb hr hm; rw [hβ, e] at this; cases this)]
    exact g.here β o e
  sep := fun b o m hb hr hm => by
    by_cases hlt : b < h.nx
    · obtain ⟨o1, e1, q1⟩ := x.live b o hlt hb
      exact g.sep b o1 m e1 (q1.trans hr) (by rw [← x.mu b hlt]; exact hm)
    · rcases x.newb b o m (by omega) hb hm with q | ⟨b0, o0, m0, e0, q0, hm0, hβ⟩
      · cases e : R0 m.β with
        | none => rfl
        | some o' => have := g.bound e; omega
      · rw [← hβ]; exact g.sep b0 o0 m0 e0 q0 hm0

/-- what a call comes to -/
def Post (μ : Mu) (h : Heap) (w : World) (v : AV) (h' : Heap) : Ending → World → Prop := fun e w' => ∃ μ', e = .returned (conc μ' v) ∧ Rel μ' h' w' ∧ Ext μ h w μ' h' w' ∧ Ok μ' v

def FnOk (P : Program) (G : Nat) (R0 : Nat → Option Obj) (E : Tgt → List AV → Heap → Option (AV × Heap)) : Prop :=
  ∀ f args h v h', E (.fn f) args h = some (v, h') → ∀ (n : Nat) (μ : Mu) (w : World), Rel μ h w → Glob G μ → Good R0 μ h w → OkL μ args → CallsIn Fence.wide n P f (concL μ args).toArray w (Post μ h w v h')
def YldOk (P : Program) (G : Nat) (R0 : Nat → Option Obj) (E : Tgt → List AV → Heap → Option (AV × Heap)) : Prop :=
  ∀ l args h v h', E (.yld l) args h = some (v, h') → ∀ (n : Nat) (μ : Mu) (w : World) (m : BM), Rel μ h w → Glob G μ → Good R0 μ h w → OkL μ args → μ l = some m →
    ∃ r : Loop, w.heap[m.β]? = some (.loop r) ∧ (concL μ args).toArray.size = r.params.size ∧
      RoundIn Fence.wide n P m.β r.fn ((r.params.zip (concL μ args).toArray).foldl (fun tmps (t, a) => tmps.setIfInBounds t a) r.tmps) r.assign r.body w (Post μ h w v h')

/-- a function of the library's that has no body, as a row of the model's tables answers it -/
def entryOf : Fwd → Array Value → Sem Value
  | .noEscape => Extern.AbiNoEscape.same
  | .add64 => fun args => do
    let (x, y, c) ← Extern.MathBitsCarry.three "Add64" args
    pure (Extern.MathBitsCarry.pair ((x + y + c) % Extern.MathBitsCarry.m64) ((x + y + c) / Extern.MathBitsCarry.m64))
  | .sub64 => fun args => do
    let (x, y, b) ← Extern.MathBitsCarry.three "Sub64" args
    pure (Extern.MathBitsCarry.pair ((x + Extern.MathBitsCarry.m64 - y - b) % Extern.MathBitsCarry.m64) (if x < y + b then 1 else 0))
  | .idxByte => Extern.BytealgIndexByte.indexByte
  | _ => fun _ => stuck "no entry"
def isGo : Fwd → Bool
  | .go => true
  | _ => false
structure COk (P : Program) (C : Nat → Fwd) : Prop where
  go : ∀ f, C f = .go → ∀ args w, (callFunc f args).run P w = .ok (.enter f args) w
  row : ∀ f, (C f = .noEscape ∨ C f = .add64 ∨ C f = .sub64 ∨ C f = .idxByte) → ∀ args w, (callFunc f args).run P w = ((entryOf (C f) args).run P w).andThen fun v w' => .ok (.value v) w'

section
variable {P : Program} {μ : Mu} {h : Heap} {w : World}

theorem carry_spec {add : Bool} {x y c v : AV} (hx : xcarry add x y c = some v) :
    (entryOf (if add then .add64 else .sub64) #[conc μ x, conc μ y, conc μ c]).run P w = .ok (conc μ v) w ∧ Ok μ v := by
  cases x <;> (try simp only [xcarry] at hx) <;> try (cases hx; done)
  cases y <;> (try simp only at hx) <;> try (cases hx; done)
  cases c <;> (try simp only at hx) <;> try (cases hx; done)
  rename_i k1 a k2 b k3 d
  replace hx := ob_eq hx
  obtain ⟨p, hp, hx⟩ := hx
  replace hx := ob_eq hx
  obtain ⟨q, hq, hx⟩ := hx
  replace hx := ob_eq hx
  obtain ⟨r, hr, hx⟩ := hx
  replace hx := sel_some hx
  obtain ⟨h1, hx⟩ := hx
  rw [ble_eq] at h1
  have h1 := of_decide_eq_true h1
  obtain rfl := asNat_some hp
  obtain rfl := asNat_some hq
  obtain rfl := asNat_some hr
  have h3 : ∀ nm, (Extern.MathBitsCarry.three nm #[.int k1 p, .int k2 q, .int k3 r]).run P w = .ok (p, q, r) w := by
    intro nm
    show (do
      let c := (← asInt (.int k3 r)).toNat
      if c > 1 then unsupported (.noEntry ("extern/math/bits." ++ nm ++ ": a carry that is neither 0 nor 1"))
      pure ((← asInt (.int k1 p)).toNat, (← asInt (.int k2 q)).toNat, c) : Sem (Nat × Nat × Nat)).run P w = _
    simp only [asInt, asIntOf, Sem.run_bind, Sem.run_pure, Result.andThen_ok, Int.toNat_natCast, Sem.run_ite]
    rw [if_neg (by omega)]
  cases add with
  | true =>
    rw [sel_true] at hx
    cases hx
    refine ⟨?_, by simp [Ok, OkL]⟩
    simp only [entryOf, conc, if_true, Sem.run_bind, h3, Result.andThen_ok, Sem.run_pure]
    rfl
  | false =>
    rw [sel_false] at hx
    cases hx
    refine ⟨?_, by simp [Ok, OkL]⟩
    simp only [entryOf, conc, if_false, Bool.false_eq_true, Sem.run_bind, h3, Result.andThen_ok, Sem.run_pure]
    rw [blt_eq, sel_eq]
    simp only [decide_eq_true_eq, Extern.MathBitsCarry.pair, concL, conc]
    congr 3

theorem u8_eq {a c : Nat} (ha : a < 256) (hc : c < 256) : (UInt8.ofNat a == UInt8.ofNat c) = Nat.beq a c := by
  rw [Bool.eq_iff_iff, Nat.beq_eq]
  show (decide (UInt8.ofNat a = UInt8.ofNat c)) = true ↔ _
  rw [decide_eq_true_eq]
  constructor
  · intro e
    have := congrArg UInt8.toNat e
    rw [UInt8.toNat_ofNat', UInt8.toNat_ofNat', Nat.mod_eq_of_lt (by simpa using ha), Nat.mod_eq_of_lt (by simpa using hc)] at this
    exact this
  · intro e; rw [e]
theorem sFind_spec (c : Nat) (hc : c < 256) : ∀ (n b i : Nat), sFind c n b i = match (List.range n).find? (fun j => (sbytes n b)[j]! == UInt8.ofNat c) with | some j => ((i + j : Nat) : Int) | none => -1 := by
  intro n
  induction n with
  | zero => intro b i; rfl
  | succ n ih =>
    intro b i
    have h255 : Nat.land b 255 = b % 256 := Nat.and_two_pow_sub_one_eq_mod b 8
    have hsh : Nat.shiftRight b 8 = b / 256 := Nat.shiftRight_eq_div_pow b 8
    have hd : sbytes (n + 1) b = UInt8.ofNat (b % 256) :: sbytes n (b / 256) := rfl
    rw [List.range_succ_eq_map, List.find?_cons]
    simp only [sFind, h255, hsh, hd]
    simp only [List.getElem!_cons_zero, u8_eq (Nat.mod_lt b (by decide : 0 < 256)) hc]
    cases hb : Nat.beq (b % 256) c with
    | true => simp [sel]
    | false =>
      rw [sel_false, ih, List.find?_map]
      have : ((fun j => (UInt8.ofNat (b % 256) :: sbytes n (b / 256))[j]! == UInt8.ofNat c) ∘ Nat.succ) = fun j => (sbytes n (b / 256))[j]! == UInt8.ofNat c := by
        funext j; simp
      rw [this]
      cases (List.range n).find? (fun j => (sbytes n (b / 256))[j]! == UInt8.ofNat c) with
      | none => rfl
      | some j => simp only [Option.map_some]; congr 1; omega
theorem bytes_get (l : List UInt8) (i : Nat) : (⟨l.toArray⟩ : ByteArray)[i]! = l[i]! := by
  have hs : (⟨l.toArray⟩ : ByteArray).size = l.length := by show l.toArray.size = _; simp
  by_cases h : i < l.length
  · have h2 : i < (⟨l.toArray⟩ : ByteArray).size := by rw [hs]; exact h
    rw [getElem!_pos (⟨l.toArray⟩ : ByteArray) i h2, getElem!_pos l i h]
    rfl
  · have h2 : ¬ i < (⟨l.toArray⟩ : ByteArray).size := by rw [hs]; exact h
    rw [getElem!_neg (⟨l.toArray⟩ : ByteArray) i h2, getElem!_neg l i h]
theorem idxByte_spec {n b c : Nat} (hc : c < 256) :
    (entryOf .idxByte #[conc μ (.str n b), conc μ (.int .u8 (.ofNat c))]).run P w = .ok (conc μ (.int .i64 (sFind c n b 0))) w := by
  simp only [entryOf, conc]
  have := run_indexByte_string (P := P) ⟨(sbytes n b).toArray⟩ (Int.ofNat c) w
  rw [this]
  congr 2
  have hsz : ByteArray.size ⟨(sbytes n b).toArray⟩ = n := by show (sbytes n b).toArray.size = n; simp [sbytes_length]
  rw [sFind_spec c hc]
  simp only [firstIdx, hsz]
  have : (fun i : Nat => ((⟨(sbytes n b).toArray⟩ : ByteArray)[i]! == (Int.ofNat c).toNat.toUInt8)) = fun j => (sbytes n b)[j]! == UInt8.ofNat c := by
    funext i
    rw [bytes_get]
    rfl
  rw [this]
  cases (List.range n).find? (fun j => (sbytes n b)[j]! == UInt8.ofNat c) with
  | none => rfl
  | some j => simp

theorem xcarry_inv {add : Bool} {args : List AV} {v : AV} {h' : Heap} (hx : (match args with | [x, y, c] => ob (xcarry add x y c) fun v => some (v, h) | _ => none) = some (v, h')) :
    ∃ x y c, args = [x, y, c] ∧ xcarry add x y c = some v ∧ h' = h := by
  split at hx
  · replace hx := ob_eq hx
    obtain ⟨u, hu, hx⟩ := hx
    cases hx
    exact ⟨_, _, _, rfl, hu, rfl⟩
  · cases hx
theorem xidx_inv {args : List AV} {v : AV} {h' : Heap} (hx : (match args with
    | [.str n b, .int .u8 (.ofNat c)] => sel (Nat.blt c 256) (some (AV.int .i64 (sFind c n b 0), h)) none
    | _ => none) = some (v, h')) : ∃ n b c, args = [.str n b, .int .u8 (.ofNat c)] ∧ c < 256 ∧ v = .int .i64 (sFind c n b 0) ∧ h' = h := by
  split at hx
  · replace hx := sel_some hx
    obtain ⟨h1, hx⟩ := hx
    rw [blt_eq] at h1
    have h1 := of_decide_eq_true h1
    cases hx
    exact ⟨_, _, _, rfl, h1, rfl, rfl⟩
  · cases hx
theorem xno_inv {args : List AV} {v : AV} {h' : Heap} (hx : (match args with | [x] => some (x, h) | _ => none) = some (v, h')) : args = [v] ∧ h' = h := by
  split at hx
  · cases hx; exact ⟨rfl, rfl⟩
  · cases hx
/-- a row of the tables' -/
theorem ext_spec {C : Nat → Fwd} (hC : COk P C) {f : Nat} {args : List AV} (oa : OkL μ args) {v : AV} {h' : Heap} (hx : xext (C f) args h = some (v, h')) :
    (callFunc f (concL μ args).toArray).run P w = .ok (.value (conc μ v)) w ∧ h' = h ∧ Ok μ v := by
  have key : ∀ c, C f = c → xext c args h = some (v, h') → (callFunc f (concL μ args).toArray).run P w = .ok (.value (conc μ v)) w ∧ h' = h ∧ Ok μ v := by
    intro c hc hx
    cases c with
    | noEscape =>
      have hr := hC.row f (.inl hc) (concL μ args).toArray w
      rw [hc] at hr
      obtain ⟨rfl, rfl⟩ := xno_inv hx
      simp only [OkL] at oa
      refine ⟨?_, rfl, oa.1⟩
      rw [hr]
      simp only [concL]
      rfl
    | add64 =>
      have hr := hC.row f (.inr (.inl hc)) (concL μ args).toArray w
      rw [hc] at hr
      obtain ⟨x, y, c, rfl, hu, rfl⟩ := xcarry_inv hx
      obtain ⟨q1, q2⟩ := carry_spec (P := P) (μ := μ) (w := w) hu
      refine ⟨?_, rfl, q2⟩
      rw [hr]
      simp only [if_true] at q1
      simp only [concL]
      rw [q1]; rfl
    | sub64 =>
      have hr := hC.row f (.inr (.inr (.inl hc))) (concL μ args).toArray w
      rw [hc] at hr
      obtain ⟨x, y, c, rfl, hu, rfl⟩ := xcarry_inv hx
      obtain ⟨q1, q2⟩ := carry_spec (P := P) (μ := μ) (w := w) hu
      refine ⟨?_, rfl, q2⟩
      rw [hr]
      rw [if_neg (by decide)] at q1
      simp only [concL]
      rw [q1]; rfl
    | idxByte =>
      have hr := hC.row f (.inr (.inr (.inr hc))) (concL μ args).toArray w
      rw [hc] at hr
      obtain ⟨n, b, c, rfl, h1, rfl, rfl⟩ := xidx_inv hx
      refine ⟨?_, rfl, by simp [Ok]⟩
      rw [hr]
      simp only [concL]
      rw [idxByte_spec h1]; rfl
    | _ => cases hx
  exact key (C f) rfl hx
end
end Go.Th

namespace Go.Th

/-! ## An operation, whole -/
structure CxOk (X : Cx) (R0 : Nat → Option Obj) : Prop where
  c : COk X.P X.C
  fn : FnOk X.P X.G R0 X.E
  yld : YldOk X.P X.G R0 X.E

section
variable {X : Cx} {R0 : Nat → Option Obj} {μ : Mu} {h : Heap} {w : World} {N : Nat} {e : Env} {a : Act} {o : Oper} {n : Nat} {rd : Option Nat}
variable {v : AV} {h' : Heap} {next : Act → World → Prop} {Q : Exit → Act → World → Prop}

/-- what the walk goes on with -/
abbrev Goes (μ : Mu) (h : Heap) (w : World) (v : AV) (h' : Heap) (o : Oper) (a : Act) (next : Act → World → Prop) : Prop :=
  ∀ μ' w', Rel μ' h' w' → Ext μ h w μ' h' w' → Ok μ' v → next (a.put o.dst (conc μ' v)) w'

theorem wpIn_of_value (hd : ∀ c, o.op ≠ .defer c) {μ' : Mu} {w' : World} (hrun : (execOp a.eval o).run X.P w = .ok (.value (conc μ' v)) w') (r' : Rel μ' h' w') (x' : Ext μ h w μ' h' w') (ov : Ok μ' v)
    (hn : Goes μ h w v h' o a next) : o.wpIn (Fw rd) n X.P a w next Q := by
  refine ⟨fun _ _ => trivial, ?_⟩
  rw [Oper.semAt_eq _ _ _ hd, hrun]
  exact hn μ' w' r' x' ov
theorem wpIn_of_skip (hd : ∀ c, o.op ≠ .defer c) {μ' : Mu} {w' : World} (hrun : (execOp a.eval o).run X.P w = .ok .skip w') (r' : Rel μ' h' w') (x' : Ext μ h w μ' h' w')
    (hn : Goes μ h w (.tuple []) h' o a next) : o.wpIn (Fw rd) n X.P a w next Q := by
  refine ⟨fun _ _ => trivial, ?_⟩
  rw [Oper.semAt_eq _ _ _ hd, hrun]
  have := hn μ' w' r' x' (by simp [Ok, OkL])
  simp only [conc, concL] at this
  exact this
/-- an operation that looks and makes nothing -/
theorem wpIn_of_pure (r : Rel μ h w) (hd : ∀ c, o.op ≠ .defer c) {x : Option AV} (hx : pure' h x = some (v, h')) (hrun : ∀ u, x = some u → (execOp a.eval o).run X.P w = .ok (.value (conc μ u)) w ∧ Ok μ u)
    (hn : Goes μ h w v h' o a next) : o.wpIn (Fw rd) n X.P a w next Q := by
  unfold pure' at hx
  replace hx := ob_eq hx
  obtain ⟨u, hu, hx⟩ := hx
  cases hx
  obtain ⟨q1, q2⟩ := hrun v hu
  exact wpIn_of_value hd q1 r (Ext.refl _ _ _ r.lt) q2 hn

theorem enter_wpIn (hX : CxOk X R0) (r : Rel μ h w) (hg : Glob X.G μ) (gd : Good R0 μ h w) {f : Nat} {args : List AV} (oa : OkL μ args) (hx : xgo X f args h = some (v, h')) (hn : Goes μ h w v h' o a next)
    {A : Array Value} (hA : A = (concL μ args).toArray) (hab : (o.semAt rd a.eval).run X.P w = (callFunc f A).run X.P w) : o.wpIn (Fw rd) n X.P a w next Q := by
  subst hA
  refine ⟨fun _ _ => trivial, ?_⟩
  show o.uponIn (Fw rd) n X.P a next Q ((o.semAt rd a.eval).run X.P w)
  rw [hab]
  have key : ∀ c, X.C f = c → xgo X f args h = some (v, h') → o.uponIn (Fw rd) n X.P a next Q ((callFunc f (concL μ args).toArray).run X.P w) := by
    intro c hc hx
    have hrow : xext (X.C f) args h = some (v, h') → o.uponIn (Fw rd) n X.P a next Q ((callFunc f (concL μ args).toArray).run X.P w) := by
      intro hx
      obtain ⟨q1, rfl, q2⟩ := ext_spec (w := w) hX.c oa hx
      rw [q1]
      exact hn μ w r (Ext.refl _ _ _ r.lt) q2
    unfold xgo at hx
    rw [hc] at hx
    cases c with
    | go =>
      rw [hX.c.go f hc]
      refine ⟨fun q => by simp [Fw] at q, ?_⟩
      refine CallsIn.mono (F := Fw rd) (R := Post μ h w v h') ?_ ?_
      · exact hX.fn f args h v h' hx (n - 1) μ w r hg gd oa
      · intro e w' q
        obtain ⟨μ', rfl, r', x', ov⟩ := q
        exact hn μ' w' r' x' ov
    | _ => exact hrow (by rw [hc]; exact hx)
  exact key _ rfl hx

theorem resolve_fun {ρ : Operand → Value} {c : Call} {t : TypeId} {f : Operand} (hc : c.callee = .value f) {g : Nat} {first cap : Array Value} (hf : ρ f = .func (.func g) first cap) {P : Program} {w : World} :
    ((do let d ← resolve ρ c t; invoke d.target d.args) : Sem Next).run P w = (callFunc g (first ++ c.args.map ρ ++ cap)).run P w := by
  simp only [resolve, hc, hf, Deferred.ofValue, Sem.run_bind, Sem.run_pure, Result.andThen_ok, invoke]
theorem resolve_yield {ρ : Operand → Value} {c : Call} {t : TypeId} {f : Operand} (hc : c.callee = .value f) {g : Nat} (hf : ρ f = .func (.yield g) #[] #[]) {P : Program} {w : World} :
    ((do let d ← resolve ρ c t; invoke d.target d.args) : Sem Next).run P w = (Instr.yield g (c.args.map ρ)).run P w := by
  simp only [resolve, hc, hf, Deferred.ofValue, Sem.run_bind, Sem.run_pure, Result.andThen_ok, invoke, Array.empty_append]
theorem resolve_builtin {ρ : Operand → Value} {c : Call} {t : TypeId} {b : Builtin} (hc : c.callee = .builtin b) {P : Program} {w : World} :
    ((do let d ← resolve ρ c t; invoke d.target d.args) : Sem Next).run P w = (builtin b c.argTypes t (c.args.map fun | .const _ => true | _ => false) (c.args.map ρ)).run P w := by
  simp only [resolve, hc, Sem.run_bind, Sem.run_pure, Result.andThen_ok, invoke]
  rfl

theorem callV_wpIn (hX : CxOk X R0) (r : Rel μ h w) (hg : Glob X.G μ) (gd : Good R0 μ h w) {c : Call} {f : Operand} (hop : o.op = .call c) (hc : c.callee = .value f) {fv : AV} (of : Ok μ fv) (hf : a.eval f = conc μ fv)
    {args : List AV} (oa : OkL μ args) (hargs : c.args.map a.eval = (concL μ args).toArray) (hx : xcallV X fv args h = some (v, h')) (hn : Goes μ h w v h' o a next) : o.wpIn (Fw rd) n X.P a w next Q := by
  have hdf : ∀ c', o.op ≠ .defer c' := fun c' q => by rw [hop] at q; cases q
  have hex : (o.semAt rd a.eval).run X.P w = ((do let d ← resolve a.eval c o.type; invoke d.target d.args) : Sem Next).run X.P w := by
    rw [Oper.semAt_eq _ _ _ hdf]; unfold execOp; rw [hop]
  cases fv <;> (try simp only [xcallV] at hx) <;> try (cases hx; done)
  · rename_i g first cap
    simp only [conc] at hf
    simp only [Ok] at of
    refine enter_wpIn hX r hg gd (args := first ++ args ++ cap) ?_ hx hn ?_ (hex.trans (resolve_fun hc hf))
    · rw [OkL_iff] at oa of ⊢
      rw [OkL_iff] at of
      intro x hx
      simp only [List.mem_append] at hx
      rcases hx with (hx | hx) | hx
      · exact of.1 x hx
      · exact oa x hx
      · exact of.2 x hx
    · rw [hargs]
      simp only [concL_eq, List.map_append]
      simp
  · rename_i l
    simp only [conc] at hf
    obtain ⟨m, em⟩ := (show ∃ m, μ l = some m by simpa [Ok] using of)
    simp only [Mu.blk, em] at hf
    obtain ⟨rr, h1, h2, h3⟩ := hX.yld l args h v h' hx (n - 1) μ w m r hg gd oa em
    refine ⟨fun _ _ => trivial, ?_⟩
    show o.uponIn (Fw rd) n X.P a next Q ((o.semAt rd a.eval).run X.P w)
    have hy : (Instr.yield m.β (concL μ args).toArray).run X.P w = .ok (.round m.β rr.fn ((rr.params.zip (concL μ args).toArray).foldl (fun tmps (t, a) => tmps.setIfInBounds t a) rr.tmps) rr.assign rr.body) w := by
      have hgl : (Instr.getLoop m.β).run X.P w = .ok rr w := by simp [Instr.getLoop, getObj, Sem.run, h1]
      simp only [Instr.yield, Sem.run_bind, hgl, Result.andThen_ok, Sem.run_ite, Sem.run_pure]
      rw [if_neg (by simpa using h2)]
    rw [hex, resolve_yield hc hf, hargs, hy]
    refine ⟨fun q => by simp [Fw] at q, ?_⟩
    refine RoundIn.mono (F := Fw rd) (R := Post μ h w v h') h3 ?_
    intro e w' q
    obtain ⟨μ', rfl, r', x', ov⟩ := q
    exact hn μ' w' r' x' ov

theorem builtin_wpIn (r : Rel μ h w) {c : Call} {b : Builtin} (hop : o.op = .call c) (hc : c.callee = .builtin b) {args : List AV} (oa : OkL μ args) (hargs : c.args.map a.eval = (concL μ args).toArray)
    (hx : xbuiltin X b c.argTypes.toList args h = some (v, h')) (hn : Goes μ h w v h' o a next) : o.wpIn (Fw rd) n X.P a w next Q := by
  have hdf : ∀ c', o.op ≠ .defer c' := fun c' q => by rw [hop] at q; cases q
  have fin : ∀ {μ' w'} {S : Sem Value}, (builtin b c.argTypes o.type (c.args.map fun | .const _ => true | _ => false) (concL μ args).toArray) = (do pure (.value (← S)) : Sem Next) → S.run X.P w = .ok (conc μ' v) w' → Rel μ' h' w' → Ext μ h w μ' h' w' → Ok μ' v → o.wpIn (Fw rd) n X.P a w next Q := by
    intro μ' w' S hb hS r' x' ov
    refine wpIn_of_value hdf ?_ r' x' ov hn
    unfold execOp
    rw [hop]
    simp only
    rw [resolve_builtin hc, hargs, hb]
    simp only [Sem.run_bind, hS, Result.andThen_ok, Sem.run_pure]
  have ts0 : ∀ {t l}, c.argTypes.toList = t :: l → c.argTypes[0]? = some t := fun q => by rw [← Array.getElem?_toList, q]; rfl
  have a0 : ∀ {x l}, args = x :: l → (concL μ args).toArray[0]? = some (conc μ x) := fun q => by subst q; simp [concL]
  have a1 : ∀ {x y l}, args = x :: y :: l → (concL μ args).toArray[1]? = some (conc μ y) := fun q => by subst q; simp [concL]
  have here : ∀ {u : AV} {S : Sem Value}, (builtin b c.argTypes o.type (c.args.map fun | .const _ => true | _ => false) (concL μ args).toArray) = (do pure (.value (← S)) : Sem Next) → v = u → h' = h → S.run X.P w = .ok (conc μ u) w → Ok μ u → o.wpIn (Fw rd) n X.P a w next Q := by
    intro u S hb hv hh hS ov
    subst hv hh
    exact fin hb hS r (Ext.refl _ _ _ r.lt) ov
  rw [OkL_iff] at oa
  cases b <;> (try simp only [xbuiltin] at hx) <;> try (cases hx; done)
  · -- append
    split at hx
    · rename_i t1 t2 hts
      split at hx
      · rename_i x y l
        obtain ⟨μ', w', q1, q2, q3, q4⟩ := append_spec (P := X.P) (ty := o.type) r hts (a0 rfl) (a1 rfl) (oa _ (by simp)) (oa _ (by simp)) hx
        exact fin rfl q1 q2 q3 q4
      · cases hx
    · cases hx
  · -- cap
    split at hx
    · rename_i t l hts
      split at hx
      · rename_i x l2
        replace hx := ob_eq hx
        obtain ⟨u, hu, hx⟩ := hx
        cases hx
        obtain ⟨q1, q2⟩ := cap_spec (P := X.P) (w := w) (ty := o.type) (ts0 hts) (a0 rfl) hu
        exact here rfl rfl rfl q1 q2
      · cases hx
    · cases hx
  · -- copy
    split at hx
    · rename_i t l hts
      split at hx
      · rename_i x y l2
        obtain ⟨w', q1, q2, q3, q4⟩ := copy_spec (P := X.P) (ty := o.type) r (ts0 hts) (a0 rfl) (a1 rfl) (oa _ (by simp)) (oa _ (by simp)) hx
        exact fin rfl q1 q2 q3 q4
      · cases hx
    · cases hx
  · -- delete
    split at hx
    · rename_i t l hts
      split at hx
      · rename_i x y l2
        replace hx := ob_eq hx
        obtain ⟨u, hu, hx⟩ := hx
        cases hx
        obtain ⟨w', q1, q2, q3⟩ := delete_spec (P := X.P) (t' := o.type) r (ts0 hts) (a0 rfl) (a1 rfl) (oa _ (by simp)) (oa _ (by simp)) hu
        exact fin rfl (by rw [q1]; simp [conc, concL]) q2 q3 (by simp [Ok, OkL])
      · cases hx
    · cases hx
  · -- len
    split at hx
    · rename_i t l hts
      split at hx
      · rename_i x l2
        replace hx := ob_eq hx
        obtain ⟨u, hu, hx⟩ := hx
        cases hx
        obtain ⟨q1, q2⟩ := len_spec (P := X.P) (ty := o.type) r (ts0 hts) (a0 rfl) (oa _ (by simp)) hu
        exact here rfl rfl rfl q1 q2
      · cases hx
    · cases hx
  · -- max
    split at hx
    · rename_i x y
      replace hx := ob_eq hx
      obtain ⟨u, hu, hx⟩ := hx
      cases hx
      obtain ⟨q1, q2⟩ := max_spec (P := X.P) (w := w) (μ := μ) (ts := c.argTypes) (ty := o.type) (args := (concL μ [x, y]).toArray) (by simp [concL]) hu
      exact here rfl rfl rfl q1 q2
    · cases hx
  · -- min
    split at hx
    · rename_i x y
      replace hx := ob_eq hx
      obtain ⟨u, hu, hx⟩ := hx
      cases hx
      obtain ⟨q1, q2⟩ := min_spec (P := X.P) (w := w) (μ := μ) (ts := c.argTypes) (ty := o.type) (args := (concL μ [x, y]).toArray) (by simp [concL]) hu
      exact here rfl rfl rfl q1 q2
    · cases hx
  · -- unsafe.SliceData
    split at hx
    · rename_i x
      obtain ⟨q1, q2, q3⟩ := unsafeSliceData_spec (P := X.P) (ts := c.argTypes) (ty := o.type) (args := (concL μ [x]).toArray) r (by simp [concL]) (oa _ (by simp)) hx
      exact here rfl rfl q2 q1 q3
    · cases hx
  · -- unsafe.String
    split at hx
    · rename_i t l hts
      split at hx
      · rename_i p k
        obtain ⟨w', q1, q2, q3, q4⟩ := unsafeString_spec (P := X.P) (ty := o.type) (args := (concL μ [p, k]).toArray) r (ts0 hts) (by simp [concL]) (oa _ (by simp)) hx
        exact fin rfl q1 q2 q3 q4
      · cases hx
    · cases hx
end
end Go.Th

namespace Go.Th
section
variable {X : Cx} {R0 : Nat → Option Obj} {μ : Mu} {h : Heap} {w : World} {N : Nat} {e : Env} {a : Act} {o : Oper} {n : Nat} {rd : Option Nat}
variable {v : AV} {h' : Heap} {next : Act → World → Prop} {Q : Exit → Act → World → Prop}

theorem newMap_spec (r : Rel μ h w) : ∃ μ', Rel μ' ⟨Nat.succ h.nx, h.ob.set h.nx (some (.map []))⟩ (pushed w (.map #[] 0)) ∧ Ext μ h w μ' ⟨Nat.succ h.nx, h.ob.set h.nx (some (.map []))⟩ (pushed w (.map #[] 0)) ∧
    conc μ' (.map h.nx) = .map (some w.heap.size) ∧ Ok μ' (.map h.nx) := by
  obtain ⟨r', x'⟩ := r.add (m := ⟨w.heap.size, 0, 0, 0⟩) rfl (X := .map #[] 0) (o := .map []) ⟨#[], 0, pushed_new _ _, rfl, fun e he => by cases he⟩
  exact ⟨_, r', x', by simp [conc, Mu.blk, Mu.ext_same], by unfold Ok; exact ⟨_, Mu.ext_same _ _ _⟩⟩

theorem opdO_eval (he : EnvIs μ N e a.tmps) (hg : Glob X.G μ) {x : Option Operand} {v : Option AV} (hx : opdO X.G e x = some v) : x.map a.eval = v.map (conc μ) := (opdO_spec he hg hx).2

theorem op_wpIn (hX : CxOk X R0) (r : Rel μ h w) (hg : Glob X.G μ) (gd : Good R0 μ h w) (he : EnvIs μ N e a.tmps) (hx : xop X o.op e h = some (v, h')) (hn : Goes μ h w v h' o a next) :
    o.wpIn (Fw rd) n X.P a w next Q := by
  have hrun : ∀ {q : Op}, o.op = q → execOp a.eval o = execOp a.eval { o with op := q } := fun q => by subst q; rfl
  have val : ∀ {S : Sem Value} {μ' : Mu} {w' : World} {u : AV}, S.run X.P w = .ok (conc μ' u) w' → ((do pure (.value (← S))) : Sem Next).run X.P w = .ok (.value (conc μ' u)) w' := fun q => by
    simp only [Sem.run_bind, q, Result.andThen_ok, Sem.run_pure]
  have sk : ∀ {S : Sem Unit} {w' : World}, S.run X.P w = .ok () w' → ((do S; pure .skip) : Sem Next).run X.P w = .ok .skip w' := fun q => by
    simp only [Sem.run_bind, q, Result.andThen_ok, Sem.run_pure]
  cases hop : o.op with
  | move x =>
    rw [hop] at hx
    simp only [xop] at hx
    have hd : ∀ c, o.op ≠ .defer c := fun c q => by rw [hop] at q; cases q
    refine wpIn_of_pure r hd hx (fun u hu => ?_) hn
    obtain ⟨q1, q2⟩ := opd_spec he hg hu
    refine ⟨?_, q1⟩
    rw [hrun hop, ← q2]; rfl
  | assign x =>
    rw [hop] at hx
    simp only [xop] at hx
    have hd : ∀ c, o.op ≠ .defer c := fun c q => by rw [hop] at q; cases q
    refine wpIn_of_pure r hd hx (fun u hu => ?_) hn
    obtain ⟨q1, q2⟩ := opd_spec he hg hu
    refine ⟨?_, q1⟩
    rw [hrun hop, ← q2]; rfl
  | pick c x y =>
    rw [hop] at hx
    simp only [xop] at hx
    have hd : ∀ c, o.op ≠ .defer c := fun c q => by rw [hop] at q; cases q
    replace hx := ob_eq hx
    obtain ⟨cv, hc, hx⟩ := hx
    cases cv <;> (try simp only at hx) <;> try (cases hx; done)
    rename_i t
    obtain ⟨q1, q2⟩ := opd_spec he hg hc
    have hex : (execOp a.eval o) = (do pure (.value (if ← asBool (a.eval c) then a.eval x else a.eval y))) := by rw [hrun hop]; rfl
    cases t with
    | true =>
      rw [sel_true] at hx
      refine wpIn_of_pure r hd hx (fun u hu => ?_) hn
      obtain ⟨p1, p2⟩ := opd_spec he hg hu
      refine ⟨?_, p1⟩
      rw [hex, q2, p2]; simp [conc, asBool]
    | false =>
      rw [sel_false] at hx
      refine wpIn_of_pure r hd hx (fun u hu => ?_) hn
      obtain ⟨p1, p2⟩ := opd_spec he hg hu
      refine ⟨?_, p1⟩
      rw [hex, q2, p2]; simp [conc, asBool]
  | alloc t =>
    rw [hop] at hx
    simp only [xop] at hx
    have hd : ∀ c, o.op ≠ .defer c := fun c q => by rw [hop] at q; cases q
    replace hx := ob_eq hx
    obtain ⟨z, hz, hx⟩ := hx
    cases hx
    obtain ⟨zv, hzv, hzc, hzo⟩ := zeroC_spec (w := w) hz μ
    obtain ⟨μ', w', q1, q2, q3, q4⟩ := box_spec (P := X.P) r t hzo hzc
    refine wpIn_of_value hd (v := .ptr h.nx 0) ?_ q2 q3 q4 hn
    rw [hrun hop]
    refine val ?_
    show (Instr.alloc t true (.tuple #[])).run X.P w = _
    simp only [Instr.alloc, Sem.run_bind, hzv, Result.andThen_ok, q1, Sem.run_pure, conc]
  | box t x =>
    rw [hop] at hx
    simp only [xop] at hx
    have hd : ∀ c, o.op ≠ .defer c := fun c q => by rw [hop] at q; cases q
    replace hx := ob_eq hx
    obtain ⟨u, hu, hx⟩ := hx
    cases hx
    obtain ⟨p1, p2⟩ := opd_spec he hg hu
    obtain ⟨μ', w', q1, q2, q3, q4⟩ := box_spec (P := X.P) r t (l := u.cells) (v := conc μ u) (Ok_cells p1) (conc_cells μ u)
    refine wpIn_of_value hd (v := .ptr h.nx 0) ?_ q2 q3 q4 hn
    rw [hrun hop]
    refine val ?_
    show (Instr.box t (a.eval x)).run X.P w = _
    simp only [Instr.box, p2, Sem.run_bind, q1, Result.andThen_ok, Sem.run_pure, conc]
  | build t ps =>
    rw [hop] at hx
    simp only [xop] at hx
    have hd : ∀ c, o.op ≠ .defer c := fun c q => by rw [hop] at q; cases q
    replace hx := ob_eq hx
    obtain ⟨l, hl, hx⟩ := hx
    obtain ⟨p1, p2⟩ := partOpds_spec he hg hl
    refine wpIn_of_pure r hd hx (fun u hu => ?_) hn
    obtain ⟨q1, q2⟩ := build_spec (w := w) p1 hu (ps.map fun (i, x) => (i, a.eval x)) (by rw [Array.toList_map]; exact p2)
    refine ⟨?_, q2⟩
    rw [hrun hop]
    exact val q1
  | buildSlice t len ps =>
    rw [hop] at hx
    simp only [xop] at hx
    have hd : ∀ c, o.op ≠ .defer c := fun c q => by rw [hop] at q; cases q
    replace hx := ob_eq hx
    obtain ⟨l, hl, hx⟩ := hx
    obtain ⟨p1, p2⟩ := partOpds_spec he hg hl
    replace hx := ob_eq hx
    obtain ⟨d, hdd, hx⟩ := hx
    cases d <;> (try simp only at hx) <;> try (cases hx; done)
    rename_i elem
    replace hx := ob_eq hx
    obtain ⟨s, hs, hx⟩ := hx
    replace hx := ob_eq hx
    obtain ⟨z, hz, hx⟩ := hx
    replace hx := sel_some hx
    obtain ⟨h1, hx⟩ := hx
    have h1 := Nat.eq_of_beq_eq_true h1
    replace hx := sel_some hx
    obtain ⟨h2, hx⟩ := hx
    rw [ble_eq] at h2
    have h2 : len * s ≤ 16777216 := of_decide_eq_true h2
    replace hx := ob_eq hx
    obtain ⟨cs, hcs, hx⟩ := hx
    cases hx
    obtain ⟨μ', w', q1, q2, q3, q4⟩ := buildSlice_spec r hdd hs hz h1 h2 hcs p1 (ps.map fun (i, x) => (i, a.eval x)) (by rw [Array.toList_map]; exact p2)
    refine wpIn_of_value hd (v := .slice h.nx 0 len (some len)) ?_ q2 q3 q4 hn
    rw [hrun hop]
    exact val q1
  | load t x =>
    rw [hop] at hx
    simp only [xop] at hx
    have hd : ∀ c, o.op ≠ .defer c := fun c q => by rw [hop] at q; cases q
    replace hx := ob_eq hx
    obtain ⟨p, hp, hx⟩ := hx
    cases p <;> (try simp only at hx) <;> try (cases hx; done)
    obtain ⟨p1, p2⟩ := opd_spec he hg hp
    refine wpIn_of_pure r hd hx (fun u hu => ?_) hn
    obtain ⟨q1, q2⟩ := loadAt_spec (P := X.P) r p1 hu
    refine ⟨?_, q2⟩
    rw [hrun hop]
    refine val ?_
    show (Instr.loadAt t (a.eval x)).run X.P w = _
    rw [p2, q1]
  | store t x y =>
    rw [hop] at hx
    simp only [xop] at hx
    have hd : ∀ c, o.op ≠ .defer c := fun c q => by rw [hop] at q; cases q
    replace hx := ob_eq hx
    obtain ⟨p, hp, hx⟩ := hx
    replace hx := ob_eq hx
    obtain ⟨u, hu, hx⟩ := hx
    cases p <;> (try simp only at hx) <;> try (cases hx; done)
    obtain ⟨p1, p2⟩ := opd_spec he hg hp
    obtain ⟨u1, u2⟩ := opd_spec he hg hu
    unfold unit' at hx
    replace hx := ob_eq hx
    obtain ⟨h1, hh, hx⟩ := hx
    cases hx
    obtain ⟨w', q1, q2, q3⟩ := store_spec (P := X.P) r p1 u1 hh
    refine wpIn_of_skip hd ?_ q2 q3 hn
    rw [hrun hop]
    refine sk ?_
    show (Instr.storeAt t (a.eval x) (a.eval y)).run X.P w = _
    rw [p2, u2, q1]
  | nilCheck x =>
    rw [hop] at hx
    simp only [xop] at hx
    have hd : ∀ c, o.op ≠ .defer c := fun c q => by rw [hop] at q; cases q
    replace hx := ob_eq hx
    obtain ⟨u, hu, hx⟩ := hx
    obtain ⟨p1, p2⟩ := opd_spec he hg hu
    have hex : ∀ y, a.eval x = y → (∀ b, y = .pointer b → b ≠ none) → y ≠ .nilIface → y ≠ .nilFunc → (∀ nm f c, y ≠ .func (.method nm) f c) → (execOp a.eval o).run X.P w = .ok (.value y) w := by
      intro y hy h1 h2 h3 h4
      rw [hrun hop]
      show (match a.eval x with
        | .pointer none | .nilIface | .nilFunc => runtimePanic .nilDeref
        | .func (.method name) first captured =>                                                                         
          match (first[0]? : Option Value) with
          | some .nilIface => runtimePanic .nilDeref
          | some (.iface t w) => do
            if (← nilAhead ((← program).types.size + Made.depth) t w name) != some false then
              unsupported (.noEntry "op/nilCheck.the method's receiver behind this interface value is a nil pointer, or cannot be seen to be none, and the arguments act or may panic (ledger 612)")
            pure (.value (.func (.method name) first captured))
          | _ => pure (.value (.func (.method name) first captured))                                                                                                                             
        | x => pure (.value x) : Sem Next).run X.P w = _
      rw [hy]
      split
      · exact absurd rfl (h1 none rfl)
      · exact absurd rfl h2
      · exact absurd rfl h3
      · exact absurd rfl (h4 _ _ _)
      · rfl
    cases u <;> (try simp only at hx) <;> try (cases hx; done)
    · cases hx
      refine wpIn_of_value hd ?_ r (Ext.refl _ _ _ r.lt) p1 hn
      exact hex _ p2 (fun b q => by simp only [conc] at q; cases q; simp) (by simp [conc]) (by simp [conc]) (by simp [conc])
    · cases hx
      refine wpIn_of_value hd ?_ r (Ext.refl _ _ _ r.lt) p1 hn
      exact hex _ p2 (fun b q => by simp [conc] at q) (by simp [conc]) (by simp [conc]) (by simp [conc])
  | binOp op t x y k =>
    rw [hop] at hx
    simp only [xop] at hx
    have hd : ∀ c, o.op ≠ .defer c := fun c q => by rw [hop] at q; cases q
    replace hx := ob_eq hx
    obtain ⟨u, hu, hx⟩ := hx
    replace hx := ob_eq hx
    obtain ⟨u', hu', hx⟩ := hx
    obtain ⟨p1, p2⟩ := opd_spec he hg hu
    obtain ⟨p3, p4⟩ := opd_spec he hg hu'
    refine wpIn_of_pure r hd hx (fun z hz => ?_) hn
    obtain ⟨q1, q2⟩ := xbin_run (P := X.P) (w := w) p1 p3 hz
    refine ⟨?_, q2⟩
    rw [hrun hop]
    refine val ?_
    show ((do eqGuard op t x y (a.eval x) (a.eval y); binOp op t (a.eval x) (a.eval y)) : Sem Value).run X.P w = _
    rw [p2, p4, q1]
  | unOp op t x =>
    rw [hop] at hx
    simp only [xop] at hx
    have hd : ∀ c, o.op ≠ .defer c := fun c q => by rw [hop] at q; cases q
    replace hx := ob_eq hx
    obtain ⟨u, hu, hx⟩ := hx
    obtain ⟨p1, p2⟩ := opd_spec he hg hu
    refine wpIn_of_pure r hd hx (fun z hz => ?_) hn
    obtain ⟨q1, q2⟩ := xun_run (P := X.P) (w := w) (μ := μ) hz
    refine ⟨?_, q2⟩
    rw [hrun hop]
    refine val ?_
    show (Op.unary op (a.eval x)).run X.P w = _
    rw [p2, q1]
  | convert s t x =>
    rw [hop] at hx
    simp only [xop] at hx
    have hd : ∀ c, o.op ≠ .defer c := fun c q => by rw [hop] at q; cases q
    replace hx := ob_eq hx
    obtain ⟨u, hu, hx⟩ := hx
    obtain ⟨p1, p2⟩ := opd_spec he hg hu
    have pureCase : pure' h (xconv X.P h s t u) = some (v, h') → o.wpIn (Fw rd) n X.P a w next Q := by
      intro hx
      refine wpIn_of_pure r hd hx (fun z hz => ?_) hn
      obtain ⟨q1, q2⟩ := conv_spec (P := X.P) r p1 hz
      refine ⟨?_, q2⟩
      rw [hrun hop]
      refine val ?_
      show (convert s t (a.eval x)).run X.P w = _
      rw [p2, q1]
    cases u with
    | str l b =>
      simp only at hx
      replace hx := ob_eq hx
      obtain ⟨d, hdd, hx⟩ := hx
      replace hx := sel_some hx
      obtain ⟨hss, hx⟩ := hx
      obtain ⟨μ', w', q1, q2, q3, q4⟩ := strTo_spec (P := X.P) r p1 hdd hx hss
      refine wpIn_of_value hd ?_ q2 q3 q4 hn
      rw [hrun hop]
      refine val ?_
      show (convert s t (a.eval x)).run X.P w = _
      rw [p2, q1]
    | _ => exact pureCase hx
  | makeInterface t x =>
    rw [hop] at hx
    simp only [xop] at hx
    have hd : ∀ c, o.op ≠ .defer c := fun c q => by rw [hop] at q; cases q
    replace hx := ob_eq hx
    obtain ⟨u, hu, hx⟩ := hx
    obtain ⟨p1, p2⟩ := opd_spec he hg hu
    replace hx := ob_eq hx
    obtain ⟨d, hdd, hx⟩ := hx
    have fin : (v, h') = (.iface t u, h) → (∀ m, d ≠ .interface m) → o.wpIn (Fw rd) n X.P a w next Q := by
      intro q hni
      cases q
      refine wpIn_of_value hd ?_ r (Ext.refl _ _ _ r.lt) (by simpa only [Ok] using p1) hn
      rw [hrun hop]
      refine val ?_
      show (Instr.makeInterface t (a.eval x)).run X.P w = _
      simp only [Instr.makeInterface, Sem.run_bind, run_und hdd, Result.andThen_ok, p2, conc, Sem.run_pure]
    cases d <;> first
      | (cases hx; done)
      | exact fin (by cases hx; rfl) (fun m q => by cases q)
  | makeFunc fn x y =>
    rw [hop] at hx
    simp only [xop] at hx
    have hd : ∀ c, o.op ≠ .defer c := fun c q => by rw [hop] at q; cases q
    cases fn <;> (try simp only at hx) <;> try (cases hx; done)
    rename_i f
    replace hx := ob_eq hx
    obtain ⟨u, hu, hx⟩ := hx
    replace hx := ob_eq hx
    obtain ⟨u', hu', hx⟩ := hx
    cases hx
    obtain ⟨p1, p2⟩ := opds_arr he hg hu
    obtain ⟨p3, p4⟩ := opds_arr he hg hu'
    refine wpIn_of_value hd ?_ r (Ext.refl _ _ _ r.lt) (by simp only [Ok]; exact ⟨p1, p3⟩) hn
    rw [hrun hop]
    refine val ?_
    show (Instr.makeFunc (.func f) (x.map a.eval) (y.map a.eval)).run X.P w = _
    simp only [Instr.makeFunc, p2, p4, Sem.run_pure, conc]
  | makeMap t rs =>
    rw [hop] at hx
    simp only [xop] at hx
    have hd : ∀ c, o.op ≠ .defer c := fun c q => by rw [hop] at q; cases q
    obtain ⟨μ', q1, q2, q3, q4⟩ := newMap_spec r
    have mk : ((do pure (.map (some (← newObj (.map #[] 0))))) : Sem Value).run X.P w = .ok (conc μ' (.map h.nx)) (pushed w (.map #[] 0)) := by
      rw [q3]; rfl
    cases rs with
    | none =>
      simp only at hx
      cases hx
      refine wpIn_of_value hd ?_ q1 q2 q4 hn
      rw [hrun hop]
      exact val mk
    | some x =>
      simp only at hx
      replace hx := ob_eq hx
      obtain ⟨d, hdd, hx⟩ := hx
      cases d <;> (try simp only at hx) <;> try (cases hx; done)
      replace hx := ob_eq hx
      obtain ⟨u, hu, hx⟩ := hx
      obtain ⟨p1, p2⟩ := opd_spec he hg hu
      cases u <;> (try simp only at hx) <;> try (cases hx; done)
      cases hx
      refine wpIn_of_value hd ?_ q1 q2 q4 hn
      rw [hrun hop]
      refine val ?_
      show (Instr.makeMap t (some (a.eval x))).run X.P w = _
      simp only [Instr.makeMap, Sem.run_bind, run_und hdd, Result.andThen_ok, p2, conc, asInt, asIntOf, Sem.run_pure] at mk ⊢
      exact mk
  | makeSlice t x y =>
    rw [hop] at hx
    simp only [xop] at hx
    have hd : ∀ c, o.op ≠ .defer c := fun c q => by rw [hop] at q; cases q
    replace hx := ob_eq hx
    obtain ⟨u, hu, hx⟩ := hx
    replace hx := ob_eq hx
    obtain ⟨u', hu', hx⟩ := hx
    obtain ⟨p1, p2⟩ := opd_spec he hg hu
    obtain ⟨p3, p4⟩ := opd_spec he hg hu'
    obtain ⟨μ', w', q1, q2, q3, q4⟩ := make_spec r hx
    refine wpIn_of_value hd ?_ q2 q3 q4 hn
    rw [hrun hop]
    refine val ?_
    show (Instr.makeSlice t (a.eval x) (a.eval y)).run X.P w = _
    rw [p2, p4, q1]
  | slice t x lo hi mx =>
    rw [hop] at hx
    simp only [xop] at hx
    have hd : ∀ c, o.op ≠ .defer c := fun c q => by rw [hop] at q; cases q
    replace hx := ob_eq hx
    obtain ⟨u, hu, hx⟩ := hx
    replace hx := ob_eq hx
    obtain ⟨l, hl, hx⟩ := hx
    replace hx := ob_eq hx
    obtain ⟨hh, hhh, hx⟩ := hx
    replace hx := ob_eq hx
    obtain ⟨m, hm, hx⟩ := hx
    obtain ⟨p1, p2⟩ := opd_spec he hg hu
    obtain ⟨μ', w', q1, q2, q3, q4⟩ := slice_spec (P := X.P) r p1 hx
    refine wpIn_of_value hd ?_ q2 q3 q4 hn
    rw [hrun hop]
    refine val ?_
    show (Instr.sliceAt t (a.eval x) (lo.map a.eval) (hi.map a.eval) (mx.map a.eval)).run X.P w = _
    rw [p2, opdO_eval he hg hl, opdO_eval he hg hhh, opdO_eval he hg hm, q1]
  | fieldAddr s x f =>
    rw [hop] at hx
    simp only [xop] at hx
    have hd : ∀ c, o.op ≠ .defer c := fun c q => by rw [hop] at q; cases q
    replace hx := ob_eq hx
    obtain ⟨p, hp, hx⟩ := hx
    cases p <;> (try simp only at hx) <;> try (cases hx; done)
    obtain ⟨p1, p2⟩ := opd_spec he hg hp
    refine wpIn_of_pure r hd hx (fun u hu => ?_) hn
    obtain ⟨q1, q2⟩ := fieldAddr_spec (P := X.P) (w := w) p1 hu
    refine ⟨?_, q2⟩
    rw [hrun hop]
    refine val ?_
    show (Instr.fieldAt s (a.eval x) f).run X.P w = _
    rw [p2, q1]
  | field s x f =>
    rw [hop] at hx
    simp only [xop] at hx
    have hd : ∀ c, o.op ≠ .defer c := fun c q => by rw [hop] at q; cases q
    replace hx := ob_eq hx
    obtain ⟨p, hp, hx⟩ := hx
    cases p <;> (try simp only at hx) <;> try (cases hx; done)
    obtain ⟨p1, p2⟩ := opd_spec he hg hp
    refine wpIn_of_pure r hd hx (fun u hu => ?_) hn
    obtain ⟨q1, q2⟩ := field_spec (P := X.P) (w := w) p1 hu
    refine ⟨?_, q2⟩
    rw [hrun hop]
    refine val ?_
    show (Instr.field s (a.eval x) f).run X.P w = _
    rw [p2, q1]
  | indexAddr t x i =>
    rw [hop] at hx
    simp only [xop] at hx
    have hd : ∀ c, o.op ≠ .defer c := fun c q => by rw [hop] at q; cases q
    replace hx := ob_eq hx
    obtain ⟨u, hu, hx⟩ := hx
    replace hx := ob_eq hx
    obtain ⟨u', hu', hx⟩ := hx
    obtain ⟨p1, p2⟩ := opd_spec he hg hu
    obtain ⟨p3, p4⟩ := opd_spec he hg hu'
    refine wpIn_of_pure r hd hx (fun z hz => ?_) hn
    obtain ⟨q1, q2⟩ := indexAddr_spec (P := X.P) (w := w) p1 hz
    refine ⟨?_, q2⟩
    rw [hrun hop]
    refine val ?_
    show (Instr.indexAt t (a.eval x) (a.eval i)).run X.P w = _
    rw [p2, p4, q1]
  | index t x i =>
    rw [hop] at hx
    simp only [xop] at hx
    have hd : ∀ c, o.op ≠ .defer c := fun c q => by rw [hop] at q; cases q
    replace hx := ob_eq hx
    obtain ⟨u, hu, hx⟩ := hx
    replace hx := ob_eq hx
    obtain ⟨u', hu', hx⟩ := hx
    obtain ⟨p1, p2⟩ := opd_spec he hg hu
    obtain ⟨p3, p4⟩ := opd_spec he hg hu'
    refine wpIn_of_pure r hd hx (fun z hz => ?_) hn
    obtain ⟨q1, q2⟩ := index_spec (P := X.P) (w := w) p1 hz
    refine ⟨?_, q2⟩
    rw [hrun hop]
    refine val ?_
    show (Instr.index t (a.eval x) (a.eval i)).run X.P w = _
    rw [p2, p4, q1]
  | lookup t x i ok =>
    rw [hop] at hx
    simp only [xop] at hx
    have hd : ∀ c, o.op ≠ .defer c := fun c q => by rw [hop] at q; cases q
    replace hx := ob_eq hx
    obtain ⟨u, hu, hx⟩ := hx
    replace hx := ob_eq hx
    obtain ⟨u', hu', hx⟩ := hx
    obtain ⟨p1, p2⟩ := opd_spec he hg hu
    obtain ⟨p3, p4⟩ := opd_spec he hg hu'
    refine wpIn_of_pure r hd hx (fun z hz => ?_) hn
    obtain ⟨q1, q2⟩ := lookup_spec (P := X.P) r p1 p3 hz
    refine ⟨?_, q2⟩
    rw [hrun hop]
    refine val ?_
    show (Instr.lookup t (a.eval x) (a.eval i) ok).run X.P w = _
    rw [p2, p4, q1]
  | mapUpdate t m k x =>
    rw [hop] at hx
    simp only [xop] at hx
    have hd : ∀ c, o.op ≠ .defer c := fun c q => by rw [hop] at q; cases q
    replace hx := ob_eq hx
    obtain ⟨u, hu, hx⟩ := hx
    replace hx := ob_eq hx
    obtain ⟨u', hu', hx⟩ := hx
    replace hx := ob_eq hx
    obtain ⟨u2, hu2, hx⟩ := hx
    obtain ⟨p1, p2⟩ := opd_spec he hg hu
    obtain ⟨p3, p4⟩ := opd_spec he hg hu'
    obtain ⟨p5, p6⟩ := opd_spec he hg hu2
    unfold unit' at hx
    replace hx := ob_eq hx
    obtain ⟨h1, hh, hx⟩ := hx
    cases hx
    obtain ⟨w', q1, q2, q3⟩ := mapSet_spec (P := X.P) r p1 p3 p5 hh
    refine wpIn_of_skip hd ?_ q2 q3 hn
    rw [hrun hop]
    refine sk ?_
    show (Instr.mapUpdate t (a.eval m) (a.eval k) (a.eval x)).run X.P w = _
    rw [p2, p4, p6, q1]
  | insert t m k x =>
    rw [hop] at hx
    simp only [xop] at hx
    have hd : ∀ c, o.op ≠ .defer c := fun c q => by rw [hop] at q; cases q
    replace hx := ob_eq hx
    obtain ⟨u, hu, hx⟩ := hx
    replace hx := ob_eq hx
    obtain ⟨u', hu', hx⟩ := hx
    replace hx := ob_eq hx
    obtain ⟨u2, hu2, hx⟩ := hx
    obtain ⟨p1, p2⟩ := opd_spec he hg hu
    obtain ⟨p3, p4⟩ := opd_spec he hg hu'
    obtain ⟨p5, p6⟩ := opd_spec he hg hu2
    unfold unit' at hx
    replace hx := ob_eq hx
    obtain ⟨h1, hh, hx⟩ := hx
    cases hx
    obtain ⟨w', q1, q2, q3⟩ := mapSet_spec (P := X.P) r p1 p3 p5 hh
    refine wpIn_of_skip hd ?_ q2 q3 hn
    rw [hrun hop]
    refine sk ?_
    show (Instr.mapUpdate t (a.eval m) (a.eval k) (a.eval x)).run X.P w = _
    rw [p2, p4, p6, q1]
  | extract x i =>
    rw [hop] at hx
    simp only [xop] at hx
    have hd : ∀ c, o.op ≠ .defer c := fun c q => by rw [hop] at q; cases q
    replace hx := ob_eq hx
    obtain ⟨u, hu, hx⟩ := hx
    obtain ⟨p1, p2⟩ := opd_spec he hg hu
    cases u <;> (try simp only at hx) <;> try (cases hx; done)
    rename_i vs
    replace hx := ob_eq hx
    obtain ⟨z, hz, hx⟩ := hx
    cases hx
    simp only [Ok] at p1
    rw [OkL_iff] at p1
    refine wpIn_of_value hd ?_ r (Ext.refl _ _ _ r.lt) (p1 _ (List.mem_of_getElem? hz)) hn
    rw [hrun hop]
    refine val ?_
    show (Instr.extract (a.eval x) i).run X.P w = _
    rw [p2]
    have : (concL μ vs).toArray[i]? = some (conc μ v) := by simp [concL_eq, hz]
    simp only [Instr.extract, conc, this, Sem.run_pure]
  | call c =>
    rw [hop] at hx
    simp only [xop] at hx
    have hd : ∀ c, o.op ≠ .defer c := fun c q => by rw [hop] at q; cases q
    unfold xcallO at hx
    replace hx := ob_eq hx
    obtain ⟨args, hargs, hx⟩ := hx
    obtain ⟨p1, p2⟩ := opds_arr he hg hargs
    cases hc : c.callee with
    | value f =>
      rw [hc] at hx
      have viaV : (ob (opd X.G e f) fun f => xcallV X f args h) = some (v, h') → o.wpIn (Fw rd) n X.P a w next Q := by
        intro hx
        replace hx := ob_eq hx
        obtain ⟨fv, hf, hx⟩ := hx
        obtain ⟨q1, q2⟩ := opd_spec he hg hf
        exact callV_wpIn hX r hg gd hop hc q1 q2 p1 p2 hx hn
      cases f with
      | func g =>
        simp only at hx
        refine enter_wpIn hX r hg gd p1 hx hn (A := #[] ++ c.args.map a.eval ++ #[]) (by rw [p2]; simp) ?_
        rw [Oper.semAt_eq _ _ _ hd, hrun hop]
        exact resolve_fun hc rfl
      | _ => exact viaV hx
    | builtin b =>
      rw [hc] at hx
      exact builtin_wpIn r hop hc p1 p2 hx hn
    | invoke recv nm => rw [hc] at hx; cases hx
  | _ => rw [hop] at hx; cases hx
end
end Go.Th
