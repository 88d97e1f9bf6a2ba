/-
  PROVED: for every two ints the law theodolitelaw14.ElabForms returns true, and its arguments read behind the call as they read before: the tied card ElabFormsCardSaid.
  CONDITIONS: those of the given row alone (the listed variables read as laid); of them the proof uses strings.asciiSpace and no other.
  HOW: the arguments enter by Round(k, 23) alone; the 23 x 23 cases are evaluated by the kernel over texts that are tied to the program's functions.
-/
import Derived.Test.YtcjmeaghecmgeaaGreatDoorFormA
import Derived.Test.YtcjmeaghecmgeaaGreatDoorFormB
import Derived.Test.YtcjmeaghecmgeaaGreatDoorFormC
import Derived.Test.YtcjmeaghecmgeaaGreatDoorFormE
import Derived.IntWalk
import Derived.Test.YtcjmeaghecmgeaaGreatDoorLibF
import Derived.Test.YtcjmeaghecmgeaaGreatDoorTie
import Derived.Test.YtcjmeaghecmgeaaGreatDoorCards
set_option autoImplicit true
set_option relaxedAutoImplicit true
set_option linter.all false
open Go Go.Th
set_option maxRecDepth 100000
namespace S14
noncomputable section
theorem forms : ∀ i, i < 23 → ∀ j, j < 23 → formOk i j = true := by
  intro i hi j hj
  have key : ∀ (f : Nat → Bool), allTo (fun n => f (Nat.add n 0)) 6 = true → allTo (fun n => f (Nat.add n 6)) 6 = true → allTo (fun n => f (Nat.add n 12)) 6 = true → allTo (fun n => f (Nat.add n 18)) 5 = true → f j = true := by
    intro f h0 h1 h2 h3
    have a0 := allTo_get h0
    have a1 := allTo_get h1
    have a2 := allTo_get h2
    have a3 := allTo_get h3
    by_cases c0 : j < 6
    · simpa using a0 j c0
    · by_cases c1 : j < 12
      · have := a1 (j - 6) (by omega); rwa [show Nat.add (j - 6) 6 = j by show j - 6 + 6 = j; omega] at this
      · by_cases c2 : j < 18
        · have := a2 (j - 12) (by omega); rwa [show Nat.add (j - 12) 12 = j by show j - 12 + 12 = j; omega] at this
        · have := a3 (j - 18) (by omega); rwa [show Nat.add (j - 18) 18 = j by show j - 18 + 18 = j; omega] at this
  match i, hi with
  | 0, _ => exact key (formOk 0) form0_0 form0_6 form0_12 form0_18
  | 1, _ => exact key (formOk 1) form1_0 form1_6 form1_12 form1_18
  | 2, _ => exact key (formOk 2) form2_0 form2_6 form2_12 form2_18
  | 3, _ => exact key (formOk 3) form3_0 form3_6 form3_12 form3_18
  | 4, _ => exact key (formOk 4) form4_0 form4_6 form4_12 form4_18
  | 5, _ => exact key (formOk 5) form5_0 form5_6 form5_12 form5_18
  | 6, _ => exact key (formOk 6) form6_0 form6_6 form6_12 form6_18
  | 7, _ => exact key (formOk 7) form7_0 form7_6 form7_12 form7_18
  | 8, _ => exact key (formOk 8) form8_0 form8_6 form8_12 form8_18
  | 9, _ => exact key (formOk 9) form9_0 form9_6 form9_12 form9_18
  | 10, _ => exact key (formOk 10) form10_0 form10_6 form10_12 form10_18
  | 11, _ => exact key (formOk 11) form11_0 form11_6 form11_12 form11_18
  | 12, _ => exact key (formOk 12) form12_0 form12_6 form12_12 form12_18
  | 13, _ => exact key (formOk 13) form13_0 form13_6 form13_12 form13_18
  | 14, _ => exact key (formOk 14) form14_0 form14_6 form14_12 form14_18
  | 15, _ => exact key (formOk 15) form15_0 form15_6 form15_12 form15_18
  | 16, _ => exact key (formOk 16) form16_0 form16_6 form16_12 form16_18
  | 17, _ => exact key (formOk 17) form17_0 form17_6 form17_12 form17_18
  | 18, _ => exact key (formOk 18) form18_0 form18_6 form18_12 form18_18
  | 19, _ => exact key (formOk 19) form19_0 form19_6 form19_12 form19_18
  | 20, _ => exact key (formOk 20) form20_0 form20_6 form20_12 form20_18
  | 21, _ => exact key (formOk 21) form21_0 form21_6 form21_12 form21_18
  | 22, _ => exact key (formOk 22) form22_0 form22_6 form22_12 form22_18
  | n + 23, h => omega

abbrev EV1 : Ev := EVm M1
theorem EV1_ok : CxOk ⟨PP, GG, CC, EV1⟩ R0c := EVm_ok M1_ok
theorem xbin_rem (P : Program) (t : Nat) (c : Bool) (a : Int) (n : Nat) (hn : n ≠ 0) : xbin P .rem t c (.int .i64 a) (.int .i64 (n : Int)) = some (.int .i64 (a.tmod n)) := by
  show sel (kindEq .i64 .i64) (sel (xieq (n : Int) 0) none (some (AV.int .i64 (xrem a n)))) none = _
  have : xieq (n : Int) 0 = false := by rw [xieq_eq]; simp; exact hn
  rw [this, xrem_eq]; rfl
theorem xbin_add64 (P : Program) (t : Nat) (c : Bool) (a b : Int) (h1 : -9223372036854775808 ≤ a + b) (h2 : a + b ≤ 9223372036854775807) : xbin P .add t c (.int .i64 a) (.int .i64 b) = some (.int .i64 (a + b)) := by
  show sel (kindEq .i64 .i64) (some (AV.int .i64 (xwrap .i64 (a + b)))) none = _
  rw [xwrap_eq, IntWalk.i64_in _ (by omega)]; rfl
/-- what Round comes to -/
theorem round_ev (k : Int) (n : Nat) (h0 : n ≠ 0) (hn : n < 1000000) : ∃ i : Nat, i < n ∧ i = ((k.tmod n + n).tmod n).toNat ∧ ∀ h, EV1 (.fn 8) [.int .i64 k, .int .i64 n] h = some (.int .i64 (i : Int), h) := by
  have b1 : -(n : Int) < k.tmod n := by
    have := Int.tmod_lt_of_pos (-k) (show (0 : Int) < n by omega)
    rw [Int.neg_tmod] at this; omega
  have b2 : k.tmod n < n := Int.tmod_lt_of_pos k (by omega)
  have b3 : 0 ≤ (k.tmod n + n).tmod n := Int.tmod_nonneg _ (by omega)
  have b4 : (k.tmod n + n).tmod n < n := Int.tmod_lt_of_pos _ (by omega)
  refine ⟨((k.tmod n + n).tmod n).toNat, by omega, rfl, fun h => ?_⟩
  refine ev_of_shallow (P := PP) (G := GG) (C := CC) (L := LL) (M := M1) (f := 8) (by kernel_rfl) (by kernel_rfl) (s8_eq EV1 _ _ h) ?_
  unfold s8 r8
  rw [xbin_rem _ _ _ _ _ h0, ob_some, xbin_add64 _ _ _ _ _ (by omega) (by omega), ob_some, xbin_rem _ _ _ _ _ h0, ob_some, Int.toNat_of_nonneg b3]
theorem forms_tok (k l : Int) (h : Heap) : s4 EV1 (.int .i64 k) (.int .i64 l) h = s4 (tokE EV1 8 (tok1 EV1 8 k l)) .nilFunc .nilIface h := by kernel_rfl
theorem forms_ev (k l : Int) : ∃ h', EV1 (.fn 4) [.int .i64 k, .int .i64 l] H0 = some (.bool true, h') := by
  obtain ⟨i, hi, _, qi⟩ := round_ev k 23 (by omega) (by omega)
  obtain ⟨j, hj, _, qj⟩ := round_ev l 23 (by omega) (by omega)
  obtain ⟨h', q⟩ := isT_ex (forms i hi j hj)
  have hl : Lim (formE i j) (fun _ => tokE EV1 8 (tok1 EV1 8 k l)) := tokE_lim (fun t args h r hx => sx_ev PP GG CC LL M1 sT sT_ok 500 t args h r hx) (tok2_tok1 qi qj)
  obtain ⟨k0, q1⟩ := xbodyR_cv hl fn4 [.nilFunc, .nilIface] H0 _ ((s4_eq _ _ _ _).trans q)
  have q2 := (s4_eq _ _ _ _).symm.trans (q1 k0 (Nat.le_refl _))
  rw [← forms_tok] at q2
  exact ⟨h', ev_of_shallow (P := PP) (G := GG) (C := CC) (L := LL) (M := M1) (f := 4) (by kernel_rfl) (by kernel_rfl) (s4_eq EV1 _ _ H0) q2⟩
end
end S14

namespace Go.Proofs.YtcjmeaghecmgeaaGreatDoor.ElabFormsP
open Go Go.Th Go.ChangeShapes Go.WideShapes Go.ChangeAt Go.RowKit S14
set_option linter.unusedVariables false
set_option maxRecDepth 100000

theorem own : ownKnob Tryz.prog.godebug = none := by kernel_rfl
noncomputable def spaceZ : List Int := (List.range 256).map fun i => Int.ofNat (sel (Nat.beq i 32) 1 (sel (Nat.ble 9 i) (sel (Nat.ble i 13) 1 0) 0))
theorem space_obj : (spaceZ.map fun z => Value.int .u8 z) = spaceCells.map (conc fun _ => none) := by kernel_rfl
/-- what is laid lies there -/
theorem here_of {W : World} (hL : laidMetH Tryz.prog Rows.elabFormsRow.laid W) (hs : W.ShapedOpen Tryz.prog) : ∀ b o, R0c b = some o → W.heap[b]? = some o := by
  intro b o h
  have hm : ("strings.asciiSpace", DataW.agg (spaceZ.map fun z => .lit (.int .u8 z))) ∈ Rows.elabFormsRow.laid := List.mem_of_getElem? (i := 7) (by kernel_rfl)
  have key := laid_ints (P := Tryz.prog) (T := 132) (E := 5) (N := 256) (by kernel_rfl) hL hs hm (show Tryz.prog.globalNamed "strings.asciiSpace" = some 0 by kernel_rfl) (show (Tryz.prog.globals[0]?).map (·.type) = some 132 by kernel_rfl)
    Tryz.underlying132 Tryz.underlying5 (by kernel_rfl) (by kernel_rfl) (by decide +kernel) (by kernel_rfl)
  unfold R0c LV r0Of r0Of at h
  split at h
  · rename_i e
    subst e
    cases h
    rw [key, space_obj]; rfl
  · cases h
theorem walk (a0 a1 : Int) (w : World) (hG : Tryz.prog.globals.size ≤ w.heap.size) (hw : ∀ b o, R0c b = some o → w.heap[b]? = some o) :
    Calls Tryz.prog 4 #[.int .i64 a0, .int .i64 a1] w fun e w' => e = .returned (.bool true) ∧ Below w.heap.size w w' := by
  obtain ⟨h', hx⟩ := forms_ev a0 a1
  have q := calls_base (P := PP) EV1_ok LV_ok hx (by rfl) (w := w) (by exact hG) hw
  have ha : (concL (fun _ => none) [.int .i64 a0, .int .i64 a1]).toArray = #[.int .i64 a0, .int .i64 a1] := by simp [concL, conc]
  rw [ha] at q
  exact Calls.mono q fun e w' ⟨h1, h2, h3, h4, h5, h6⟩ => ⟨h1, ⟨h4, h5, h6, h2, h3⟩⟩

theorem lifted (os : Os) (started : os.Started) (H : Type) (enc : TypeId × Value → H) :
    ReturnsInHanded {} Tryz.checked os 4 .any (fun w args => (Rows.elabFormsSpec.pre enc Tryz.prog Tryz.f4 Rows.elabFormsRow.domain false w args ∧ laidMetH Tryz.prog Rows.elabFormsRow.laid w) ∧ sizedMet enc Tryz.prog Tryz.f4 (OpenSpec.ofChange Rows.elabFormsSpec) false w args)
      (Rows.elabFormsSpec.post enc Tryz.prog Tryz.f4 false true false false) := by
  refine returns_laid (C := Tryz.checked) (X := fun w _ => laidMetH Tryz.prog Rows.elabFormsRow.laid w) (fun _ _ _ hh h => h.of_heap hh) own started (by kernel_rfl) Tryz.func4
    (ChangeSpec.witness_shaped (enc := enc) (C := Tryz.checked) (os := os) (X := fun w _ => laidMetH Tryz.prog Rows.elabFormsRow.laid w) false (World.laidAll Tryz.prog os Rows.elabFormsRow.laid) #[.int .i64 0, .int .i64 0] 8 (World.laidAll_os _ _ _)
      (World.shaped_of_ZipB (by kernel_rfl) (by kernel_rfl)) (by kernel_rfl) (by kernel_rfl) (by kernel_rfl)
      (by rw [MakeChecks.laidMetH_plain _ _ _ (by kernel_rfl)]; exact laidMet_laidAll _ (by kernel_rfl) (by kernel_rfl))) ?_
  intro W base args ds gs before hval0 hW hL hs _
  have hval : ∀ (j : Nat) t v, Tryz.f4.params[j]? = some t → args[j]? = some v → Value.okWide Tryz.prog W .any base t v := hval0
  have hW' := hW
  obtain ⟨p, q, hA0, hV, rfl, hfz, hnd⟩ := hW
  have hA : DataW.TrodAll enc Tryz.prog W 0 (fun _ => true) true Tryz.f4.params.toList args.toList ds p := hA0
  rw [Tryz.params4] at hA hval
  obtain ⟨v0, vs0, d0, ds0, p0, q0, hargs, rfl, rfl, h0, r0⟩ := trodAll_cons hA
  obtain ⟨v1, vs1, d1, ds1, p1, q1, rfl, rfl, rfl, h1, r1⟩ := trodAll_cons r0
  obtain ⟨rfl, rfl, rfl⟩ := trodAll_nil r1
  obtain rfl : args = #[v0, v1] := by cases args; simp_all
  obtain ⟨rfl, rfl⟩ := trodVars_none hV
  obtain ⟨a0, rfl, rfl, rfl, w0⟩ := open_int Tryz.underlying3 (hval 0 3 v0 rfl rfl) h0
  obtain ⟨a1, rfl, rfl, rfl, w1⟩ := open_int Tryz.underlying3 (hval 1 3 v1 rfl rfl) h1
  clear hA0 hval0
  simp only [List.append_nil] at hW'
  have hG : Tryz.prog.globals.size ≤ W.heap.size := by
    have h1 : Nat.blt Tryz.prog.globals.size (begin Tryz.prog (fun _ _ => 0) default).world.heap.size = true := by kernel_rfl
    rw [blt_eq] at h1
    obtain ⟨o, _, hc, _⟩ := hs.2 Tryz.prog.globals.size (Nat.le_refl _) (of_decide_eq_true h1)
    exact Nat.le_of_lt (Array.getElem?_eq_some_iff.1 hc).1
  refine (walk a0 a1 W hG (here_of hL hs)).mono fun e W' ⟨he, hb⟩ => ?_
  subst he
  exact ⟨_, rfl, post_below (pa := []) (pv := []) hW' (fun _ _ _ => trodAll_mk1 (shut_bool Tryz.underlying4 _)) (fun sp _ => (trodAll_cons_mk (shut_int Tryz.underlying3 w0) (trodAll_cons_mk (shut_int Tryz.underlying3 w1) trodAll_mk0))) (fun _ _ => rfl) rfl hb (ok_one (by kernel_rfl) rfl (okWide_bool_mk Tryz.underlying4 _))⟩

theorem over : Rows.elabFormsRow.holds Tryz.pinned (OpenSpec.ofChange Rows.elabFormsSpec) :=
  OpenClaim.holds_of_wide 4 Tryz.f4 rfl rfl rfl rfl rfl rfl rfl ⟨rfl, rfl, rfl, rfl, rfl⟩ rfl rfl rfl rfl rfl (by kernel_rfl) Tryz.func4 (by kernel_rfl)
    (of_decide_eq_true (by kernel_rfl)) (by unfold Func.isWrapper; first | (rw [if_pos (by decide +kernel)]; kernel_rfl) | (rw [if_neg (by decide +kernel)]; exact ⟨rfl, rfl⟩))
    (fun os started H enc _ => lifted os started H enc)

theorem card_holds : Rows.ElabFormsCardSaid :=
  Claim7.holds_tied_plain_at .later [] [.data, .data, .data, .data, .sentinel, .sentinel, .listed, .data, .pinned, .pinned, .pinned, .pinned, .pinned, .pinned] true (true, "f85c2c8d5cbda77bf58781f78542f024fcedba630cfac582bb38a149ce1af501") true over (fun _ h => by cases h) (by kernel_rfl) (fun _ h => by cases h) elabForms_row_tie rfl ⟨rfl, rfl⟩ (by kernel_rfl) rfl
    (fun f fn hf hfn => by
      obtain rfl : f = 4 := Option.some.inj ((show Tryz.prog.funcNamed "theodolite/theodolitelaw14.ElabForms" = some 4 by kernel_rfl).symm.trans hf) |>.symm
      obtain rfl : fn = Tryz.f4 := (Option.some.inj (Tryz.func4.symm.trans hfn)).symm
      exact ⟨by kernel_rfl, fun j t ht => by
        rw [Tryz.params4] at ht
        have hm : t ∈ [3, 3] := by simpa using Array.mem_of_getElem? ht
        have hall : ([3, 3].all fun u => !Tryz.prog.wantsStandIn u) = true := by kernel_rfl
        exact (show Tryz.prog.wantsStandIn t = false by simpa using List.all_eq_true.1 hall t hm)⟩)
    (by kernel_rfl)
#print axioms card_holds
end Go.Proofs.YtcjmeaghecmgeaaGreatDoor.ElabFormsP
