/- Own texts of this proof: ThW, ThX, ThY, ThZ, ThZb, ThZc, ThZd, ThZe, ThZf. -/
import Derived.Test.YtcjmeaghecmgeaaGreatDoorLibC
import Derived.OrdersIn
import Derived.LoopNIn
import Derived.RangeFuncRecord
set_option autoImplicit true
set_option relaxedAutoImplicit true
set_option linter.all false
namespace Go.Th

/-! ## Regions -/
/-- what holds all the while -/
structure Inv (X : Cx) (R0 : Nat → Option Obj) (N : Nat) (μ : Mu) (e : Env) (h : Heap) (a : Act) (w : World) : Prop where
  rel : Rel μ h w
  glob : Glob X.G μ
  good : Good R0 μ h w
  env : EnvIs μ N e a.tmps
/-- on to a state that goes on from another -/
abbrev Onward (X : Cx) (R0 : Nat → Option Obj) (N : Nat) (μ : Mu) (h : Heap) (a : Act) (w : World) (e' : Env) (h' : Heap) (K : Act → World → Prop) : Prop :=
  ∀ μ' a' w', Inv X R0 N μ' e' h' a' w' → Ext μ h w μ' h' w' → a'.defers = a.defers → K a' w'

section
variable {X : Cx} {R0 : Nat → Option Obj} {N n : Nat} {rd : Option Nat} {μ : Mu} {e e' : Env} {h h' : Heap} {a : Act} {w : World} {Q : Exit → Act → World → Prop} {K : Act → World → Prop}

theorem Inv.ok (i : Inv X R0 N μ e h a w) (r : Rel μ' h' w') (x : Ext μ h w μ' h' w') {e' : Env} {a' : Act} (he : EnvIs μ' N e' a'.tmps) : Inv X R0 N μ' e' h' a' w' :=
  ⟨r, i.glob.le (x.le i.rel), i.good.ext x, he⟩

theorem slots_get (ops : List Oper) (j : Nat) : (slotsOf ops)[j]? = ops[j]?.map (·.dst) := by simp [slotsOf]
theorem want_spec {ops : Array Oper} (he : EnvIs μ N e a.tmps) {o : Oper} {b : Bool} (hw : wantE (slotsOf ops.toList) e o = some b) : Region.wanted o (yielded ops a.tmps) = b := by
  unfold wantE at hw
  unfold Region.wanted
  cases hg : o.guard with
  | none => rw [hg] at hw; cases hw; rfl
  | some p =>
    obtain ⟨j, want⟩ := p
    rw [hg] at hw
    simp only at hw ⊢
    rw [slots_get] at hw
    simp only [yielded]
    rw [← Array.getElem?_toList]
    cases hj : ops.toList[j]? with
    | none => rw [hj] at hw; cases hw; rfl
    | some oj =>
      rw [hj] at hw
      simp only [Option.map_some, Option.bind_some] at hw ⊢
      cases hd : oj.dst with
      | none => rw [hd] at hw; cases hw; rfl
      | some s =>
        rw [hd] at hw
        simp only [Option.bind_some] at hw ⊢
        replace hw := ob_eq hw
        obtain ⟨v, hv, hw⟩ := hw
        obtain ⟨_, q⟩ := he.2 s v hv
        rw [q]
        cases v with
        | bool t => 
          cases hw
          simp only [conc]
          cases t <;> cases want <;> rfl
        | slice b off len cap => cases hw; cases cap <;> rfl
        | _ => cases hw; rfl

theorem EnvIs.put {d : Option Tmp} (he : EnvIs μ N e a.tmps) (hle : μ.le μ') (hd : dstOk N d = true) {v : AV} (ov : Ok μ' v) : EnvIs μ' N (putE e d v) (a.put d (conc μ' v)).tmps := by
  have he' := he.le hle
  cases d with
  | none => exact he'
  | some t =>
    simp only [dstOk, blt_eq] at hd
    have hd := of_decide_eq_true hd
    refine ⟨by simp [Act.put, he'.1], fun i u hu => ?_⟩
    simp only [putE, Tri.at_set] at hu
    simp only [Act.put]
    by_cases hi : i = t
    · subst hi
      rw [if_pos rfl] at hu
      cases hu
      exact ⟨ov, by rw [Array.getElem?_setIfInBounds_self, he'.1, if_pos hd]⟩
    · rw [if_neg hi] at hu
      rw [Array.getElem?_setIfInBounds_ne (by omega)]
      exact he'.2 i u hu

theorem put_defers (a : Act) (d : Option Tmp) (v : Value) : (a.put d v).defers = a.defers := by cases d <;> rfl

theorem step_spec {ops : Array Oper} {i : Nat} {o : Oper} (hX : CxOk X R0) (ho : ops[i]? = some o) (inv : Inv X R0 N μ e h a w) (hx : xstep X N (slotsOf ops.toList) o e h = some (e', h')) (hK : Onward X R0 N μ h a w e' h' K) :
    wpOpIn (Fw rd) n X.P ops Q i K a w := by
  unfold xstep at hx
  replace hx := sel_some hx
  obtain ⟨hd, hx⟩ := hx
  replace hx := ob_eq hx
  obtain ⟨b, hb, hx⟩ := hx
  have hw := want_spec inv.env hb
  unfold wpOpIn
  simp only [ho, hw]
  cases b with
  | true =>
    rw [sel_true] at hx
    replace hx := ob_eq hx
    obtain ⟨⟨v, h1⟩, hv, hx⟩ := hx
    cases hx
    rw [if_pos rfl]
    refine op_wpIn hX inv.rel inv.glob inv.good inv.env hv fun μ' w' r' x' ov => ?_
    exact hK μ' _ w' (inv.ok r' x' (inv.env.put (x'.le inv.rel) hd ov)) x' (put_defers _ _ _)
  | false =>
    rw [sel_false] at hx
    cases hx
    rw [if_neg (by decide)]
    refine ⟨fun _ _ => trivial, ?_⟩
    have ou : Ok μ (.tuple []) := by simp [Ok, OkL]
    have := hK μ (a.put o.dst (conc μ (.tuple []))) w (inv.ok inv.rel (Ext.refl _ _ _ inv.rel.lt) (inv.env.put (Mu.le_refl _) hd ou)) (Ext.refl _ _ _ inv.rel.lt) (put_defers _ _ _)
    simp only [conc, concL] at this
    exact this

theorem steps_spec {ops : Array Oper} (hX : CxOk X R0) : ∀ (l : List Oper) (k : Nat) (μ : Mu) (e : Env) (h : Heap) (a : Act) (w : World), ops.toList.drop k = l → Inv X R0 N μ e h a w → xsteps X N (slotsOf ops.toList) l e h = some (e', h') →
    Onward X R0 N μ h a w e' h' (Q .normal) → wpOpsIn (Fw rd) n X.P ops Q (List.range' k l.length) a w := by
  intro l
  induction l with
  | nil =>
    intro k μ e h a w _ inv hx hK
    cases hx
    exact hK μ a w inv (Ext.refl _ _ _ inv.rel.lt) rfl
  | cons o l ih =>
    intro k μ e h a w hk inv hx hK
    have hok : ops[k]? = some o := by
      rw [← Array.getElem?_toList]
      have : (ops.toList.drop k)[0]? = some o := by rw [hk]; rfl
      simpa using this
    have hk' : ops.toList.drop (k + 1) = l := by
      rw [← List.drop_drop, hk]; rfl
    unfold xsteps at hx
    replace hx := ob_eq hx
    obtain ⟨⟨e1, h1⟩, hs, hx⟩ := hx
    rw [List.length_cons, List.range'_succ, wpOpsIn_cons]
    refine step_spec hX hok inv hs fun μ1 a1 w1 inv1 x1 d1 => ?_
    refine ih (k + 1) μ1 e1 h1 a1 w1 hk' inv1 hx fun μ2 a2 w2 inv2 x2 d2 => ?_
    exact hK μ2 a2 w2 inv2 (x1.trans x2) (d2.trans d1)
end
end Go.Th

namespace Go.Th
section
variable {X : Cx} {R0 : Nat → Option Obj} {N n : Nat} {rd : Option Nat} {μ : Mu} {e e2 : Env} {h h' h2 : Heap} {a : Act} {w : World} {v : AV}

/-! ## What an operation depends on -/
theorem opd_congr {G : Nat} {x : Operand} (hx : ∀ t, x = .tmp t → e2.at t = e.at t) : opd G e2 x = opd G e x := by
  cases x with
  | tmp t => exact hx t rfl
  | _ => rfl
theorem opds_congr {G : Nat} : ∀ {l : List Operand}, (∀ x ∈ l, ∀ t, x = .tmp t → e2.at t = e.at t) → opds G e2 l = opds G e l
  | [], _ => rfl
  | x :: l, hl => by
    simp only [opds]
    rw [opd_congr (hl x (List.mem_cons_self ..)), opds_congr (fun y hy => hl y (List.mem_cons_of_mem _ hy))]
theorem opdO_congr {G : Nat} {x : Option Operand} (hx : ∀ y, x = some y → ∀ t, y = .tmp t → e2.at t = e.at t) : opdO G e2 x = opdO G e x := by
  cases x with
  | none => rfl
  | some y => simp only [opdO]; rw [opd_congr (hx y rfl)]
theorem partOpds_congr {G : Nat} : ∀ {l : List (Nat × Operand)}, (∀ x ∈ l, ∀ t, x.2 = .tmp t → e2.at t = e.at t) → partOpds G e2 l = partOpds G e l
  | [], _ => rfl
  | (i, x) :: l, hl => by
    simp only [partOpds]
    rw [opd_congr (hl (i, x) (List.mem_cons_self ..)), partOpds_congr (fun y hy => hl y (List.mem_cons_of_mem _ hy))]

theorem xop_congr {op : Op} (hx : ∀ x ∈ op.operands.toList, ∀ t, x = .tmp t → e2.at t = e.at t) : xop X op e2 h = xop X op e h := by
  have one : ∀ x, x ∈ op.operands.toList → opd X.G e2 x = opd X.G e x := fun x hm => opd_congr (hx x hm)
  cases op with
  | alloc t => rfl
  | build t ps =>
    simp only [xop]
    rw [partOpds_congr (fun p hp t ht => hx p.2 (by simp only [Op.operands, List.mem_map]; exact ⟨p, hp, rfl⟩) t ht)]
  | buildSlice t len ps =>
    simp only [xop]
    rw [partOpds_congr (fun p hp t ht => hx p.2 (by simp only [Op.operands, List.mem_map]; exact ⟨p, hp, rfl⟩) t ht)]
  | makeFunc fn x y =>
    simp only [xop]
    rw [opds_congr (fun p hp t ht => hx p (by simp only [Op.operands, Array.toList_append, List.mem_append]; exact .inl hp) t ht),
      opds_congr (fun p hp t ht => hx p (by simp only [Op.operands, Array.toList_append, List.mem_append]; exact .inr hp) t ht)]
  | makeMap t r =>
    cases r with
    | none => rfl
    | some x =>
      simp only [xop]
      rw [one x (by simp [Op.operands])]
  | slice t x lo hi mx =>
    simp only [xop]
    rw [one x (by simp [Op.operands]), opdO_congr (fun y hy => hx y (by simp [Op.operands, hy])), opdO_congr (fun y hy => hx y (by simp [Op.operands, hy])), opdO_congr (fun y hy => hx y (by simp [Op.operands, hy]))]
  | call c =>
    show xcallO X e2 c h = xcallO X e c h
    unfold xcallO
    have hargs : opds X.G e2 c.args.toList = opds X.G e c.args.toList := opds_congr (fun p hp t ht => hx p (by
      unfold Op.operands Call.operands
      cases c.callee <;> simp_all) t ht)
    rw [hargs]
    cases hc : c.callee with
    | value f =>
      have hf : opd X.G e2 f = opd X.G e f := one f (by simp [Op.operands, Call.operands, hc])
      cases f with
      | func g => rfl
      | tmp t =>
        congr 1
        funext args
        show (ob (opd X.G e2 (.tmp t)) _) = (ob (opd X.G e (.tmp t)) _); rw [hf]
      | const u => rfl
      | global g => rfl
    | builtin b => rfl
    | invoke r nm => rfl
  | pick c x y => simp only [xop]; rw [one c (by simp [Op.operands]), one x (by simp [Op.operands]), one y (by simp [Op.operands])]
  | move x => simp only [xop]; rw [one x (by simp [Op.operands])]
  | assign x => simp only [xop]; rw [one x (by simp [Op.operands])]
  | box t x => simp only [xop]; rw [one x (by simp [Op.operands])]
  | load t x => simp only [xop]; rw [one x (by simp [Op.operands])]
  | store t x y => simp only [xop]; rw [one x (by simp [Op.operands]), one y (by simp [Op.operands])]
  | nilCheck x => simp only [xop]; rw [one x (by simp [Op.operands])]
  | binOp op t x y k => simp only [xop]; rw [one x (by simp [Op.operands]), one y (by simp [Op.operands])]
  | unOp op t x => simp only [xop]; rw [one x (by simp [Op.operands])]
  | convert s t x => simp only [xop]; rw [one x (by simp [Op.operands])]
  | makeInterface t x => simp only [xop]; rw [one x (by simp [Op.operands])]
  | makeSlice t x y => simp only [xop]; rw [one x (by simp [Op.operands]), one y (by simp [Op.operands])]
  | fieldAddr s x f => simp only [xop]; rw [one x (by simp [Op.operands])]
  | field s x f => simp only [xop]; rw [one x (by simp [Op.operands])]
  | indexAddr t x y => simp only [xop]; rw [one x (by simp [Op.operands]), one y (by simp [Op.operands])]
  | index t x y => simp only [xop]; rw [one x (by simp [Op.operands]), one y (by simp [Op.operands])]
  | lookup t x y ok => simp only [xop]; rw [one x (by simp [Op.operands]), one y (by simp [Op.operands])]
  | mapUpdate t m k x => simp only [xop]; rw [one m (by simp [Op.operands]), one k (by simp [Op.operands]), one x (by simp [Op.operands])]
  | insert t m k x => simp only [xop]; rw [one m (by simp [Op.operands]), one k (by simp [Op.operands]), one x (by simp [Op.operands])]
  | extract x i => simp only [xop]; rw [one x (by simp [Op.operands])]
  | _ => rfl

/-! ## The kinds -/
theorem pure'_inv {x : Option AV} (hx : pure' h x = some (v, h')) : x = some v ∧ h' = h := by
  unfold pure' at hx
  replace hx := ob_eq hx
  obtain ⟨u, hu, hx⟩ := hx
  cases hx
  exact ⟨hu, rfl⟩
theorem sel_cases {β : Type} {c : Bool} {x y : Option β} {b : β} (hx : sel c x y = some b) : (c = true ∧ x = some b) ∨ (c = false ∧ y = some b) := by
  cases c with
  | true => exact .inl ⟨rfl, hx⟩
  | false => exact .inr ⟨rfl, hx⟩

/-- kind 0: no memory is looked at, none is made -/
theorem cls0 {op : Op} (hc : opCls op = 0) (hx : xop X op e h = some (v, h')) : h' = h ∧ ∀ h2, xop X op e h2 = some (v, h2) := by
  have pu : ∀ {x : Option AV}, pure' h x = some (v, h') → h' = h ∧ ∀ h2, pure' h2 x = some (v, h2) := fun q => by
    obtain ⟨q1, q2⟩ := pure'_inv q
    subst q1
    exact ⟨q2, fun _ => rfl⟩
  cases op <;> (try simp only [opCls] at hc) <;> (try (cases hc; done)) <;> (try simp only [xop] at hx ⊢)
  case move x => exact pu hx
  case assign x => exact pu hx
  case pick c x y =>
    replace hx := ob_eq hx
    obtain ⟨u, hu, hx⟩ := hx
    rw [hu]
    cases u <;> (try simp only at hx) <;> try (cases hx; done)
    rename_i b
    cases b with
    | true => exact pu hx
    | false => exact pu hx
  case build t ps =>
    replace hx := ob_eq hx
    obtain ⟨u, hu, hx⟩ := hx
    rw [hu]
    exact pu hx
  case nilCheck x =>
    replace hx := ob_eq hx
    obtain ⟨u, hu, hx⟩ := hx
    rw [hu]
    cases u <;> (try simp only at hx) <;> (try (cases hx; done)) <;> (cases hx; exact ⟨rfl, fun _ => rfl⟩)
  case binOp op t x y k =>
    replace hx := ob_eq hx
    obtain ⟨u, hu, hx⟩ := hx
    replace hx := ob_eq hx
    obtain ⟨u2, hu2, hx⟩ := hx
    simp only [hu, ob_some, hu2]
    exact pu hx
  case unOp op t x =>
    replace hx := ob_eq hx
    obtain ⟨u, hu, hx⟩ := hx
    rw [hu]
    exact pu hx
  case makeInterface t x =>
    replace hx := ob_eq hx
    obtain ⟨u, hu, hx⟩ := hx
    replace hx := ob_eq hx
    obtain ⟨d, hd, hx⟩ := hx
    simp only [hu, ob_some, hd]
    cases d <;> (try simp only at hx) <;> (try (cases hx; done)) <;> (cases hx; exact ⟨rfl, fun _ => rfl⟩)
  case makeFunc fn x y =>
    cases fn <;> (try simp only at hx) <;> try (cases hx; done)
    replace hx := ob_eq hx
    obtain ⟨u, hu, hx⟩ := hx
    replace hx := ob_eq hx
    obtain ⟨u2, hu2, hx⟩ := hx
    simp only [hu, hu2, ob_some]
    cases hx
    exact ⟨rfl, fun _ => rfl⟩
  case fieldAddr s x f =>
    replace hx := ob_eq hx
    obtain ⟨u, hu, hx⟩ := hx
    rw [hu]
    cases u <;> (try simp only at hx) <;> try (cases hx; done)
    exact pu hx
  case field s x f =>
    replace hx := ob_eq hx
    obtain ⟨u, hu, hx⟩ := hx
    rw [hu]
    cases u <;> (try simp only at hx) <;> try (cases hx; done)
    exact pu hx
  case indexAddr t x y =>
    replace hx := ob_eq hx
    obtain ⟨u, hu, hx⟩ := hx
    replace hx := ob_eq hx
    obtain ⟨u2, hu2, hx⟩ := hx
    simp only [hu, ob_some, hu2]
    exact pu hx
  case index t x y =>
    replace hx := ob_eq hx
    obtain ⟨u, hu, hx⟩ := hx
    replace hx := ob_eq hx
    obtain ⟨u2, hu2, hx⟩ := hx
    simp only [hu, ob_some, hu2]
    exact pu hx
  case extract x i =>
    replace hx := ob_eq hx
    obtain ⟨u, hu, hx⟩ := hx
    rw [hu]
    cases u <;> (try simp only at hx) <;> try (cases hx; done)
    replace hx := ob_eq hx
    obtain ⟨u2, hu2, hx⟩ := hx
    simp only [ob_some, hu2]
    cases hx
    exact ⟨rfl, fun _ => rfl⟩
  case call c =>
    unfold xcallO at hx ⊢
    replace hx := ob_eq hx
    obtain ⟨args, hargs, hx⟩ := hx
    simp only [hargs, ob_some]
    cases hcc : c.callee with
    | value f => rw [hcc] at hc; cases hc
    | invoke r nm => rw [hcc] at hc; cases hc
    | builtin b =>
      rw [hcc] at hc hx
      simp only at hx ⊢
      cases b <;> (try simp only at hc) <;> (try (cases hc; done)) <;> (simp only [xbuiltin] at hx ⊢)
      · split at hx
        · split at hx
          · replace hx := ob_eq hx
            obtain ⟨u, hu, hx⟩ := hx
            simp only [hu, ob_some]
            cases hx
            exact ⟨rfl, fun _ => rfl⟩
          · cases hx
        · cases hx
      · split at hx
        · replace hx := ob_eq hx
          obtain ⟨u, hu, hx⟩ := hx
          simp only [hu, ob_some]
          cases hx
          exact ⟨rfl, fun _ => rfl⟩
        · cases hx
      · split at hx
        · replace hx := ob_eq hx
          obtain ⟨u, hu, hx⟩ := hx
          simp only [hu, ob_some]
          cases hx
          exact ⟨rfl, fun _ => rfl⟩
        · cases hx

theorem bump {h : Heap} {q : Tri Ob} (hn : (⟨Nat.succ h.nx, q⟩ : Heap).nx = h.nx) : False := by
  have : h.nx + 1 = h.nx := hn
  omega
theorem xslice_same {P : Program} {t : TypeId} {x : AV} {lo hi mx : Option AV} (hx : xslice P h t x lo hi mx = some (v, h')) (hn : h'.nx = h.nx) : h' = h := by
  unfold xslice at hx
  replace hx := ob_eq hx
  obtain ⟨d, hd, hx⟩ := hx
  cases d <;> (try simp only at hx) <;> try (cases hx; done)
  · cases x <;> (try simp only at hx) <;> try (cases hx; done)
    cases mx <;> (try simp only at hx) <;> try (cases hx; done)
    replace hx := ob_eq hx
    obtain ⟨_, _, hx⟩ := hx
    replace hx := ob_eq hx
    obtain ⟨_, _, hx⟩ := hx
    cases hx; rfl
  · replace hx := ob_eq hx
    obtain ⟨s, hs, hx⟩ := hx
    cases x <;> (try simp only at hx) <;> try (cases hx; done)
    · rename_i b off len cap
      cases cap with
      | some c =>
        cases mx <;> simp only at hx
        · replace hx := ob_eq hx
          obtain ⟨_, _, hx⟩ := hx
          replace hx := ob_eq hx
          obtain ⟨_, _, hx⟩ := hx
          cases hx; rfl
        · replace hx := ob_eq hx
          obtain ⟨_, _, hx⟩ := hx
          replace hx := ob_eq hx
          obtain ⟨_, _, hx⟩ := hx
          replace hx := ob_eq hx
          obtain ⟨_, _, hx⟩ := hx
          cases hx; rfl
      | none =>
        cases mx <;> simp only at hx
        · replace hx := ob_eq hx
          obtain ⟨_, _, hx⟩ := hx
          replace hx := ob_eq hx
          obtain ⟨_, _, hx⟩ := hx
          rcases sel_cases hx with ⟨_, hx⟩ | ⟨_, hx⟩
          · cases hx; rfl
          · rcases sel_cases hx with ⟨_, hx⟩ | ⟨_, hx⟩
            · replace hx := ob_eq hx
              obtain ⟨o, _, hx⟩ := hx
              cases o <;> (try simp only at hx) <;> try (cases hx; done)
              replace hx := sel_some hx
              obtain ⟨_, hx⟩ := hx
              replace hx := sel_some hx
              obtain ⟨_, hx⟩ := hx
              cases hx; rfl
            · cases hx; exact (bump hn).elim
        · replace hx := ob_eq hx
          obtain ⟨_, _, hx⟩ := hx
          replace hx := ob_eq hx
          obtain ⟨_, _, hx⟩ := hx
          replace hx := ob_eq hx
          obtain ⟨_, _, hx⟩ := hx
          cases hx; rfl
    · cases mx <;> simp only at hx
      · replace hx := ob_eq hx
        obtain ⟨_, _, hx⟩ := hx
        replace hx := ob_eq hx
        obtain ⟨_, _, hx⟩ := hx
        cases hx; rfl
      · replace hx := ob_eq hx
        obtain ⟨_, _, hx⟩ := hx
        replace hx := ob_eq hx
        obtain ⟨_, _, hx⟩ := hx
        replace hx := ob_eq hx
        obtain ⟨_, _, hx⟩ := hx
        cases hx; rfl
  · replace hx := ob_eq hx
    obtain ⟨s, hs, hx⟩ := hx
    cases x <;> (try simp only at hx) <;> try (cases hx; done)
    cases mx <;> simp only at hx
    · replace hx := ob_eq hx
      obtain ⟨_, _, hx⟩ := hx
      replace hx := ob_eq hx
      obtain ⟨_, _, hx⟩ := hx
      cases hx; rfl
    · replace hx := ob_eq hx
      obtain ⟨_, _, hx⟩ := hx
      replace hx := ob_eq hx
      obtain ⟨_, _, hx⟩ := hx
      replace hx := ob_eq hx
      obtain ⟨_, _, hx⟩ := hx
      cases hx; rfl

/-- kind 1: where no memory is made, nothing turns -/
theorem cls1 {op : Op} (hc : opCls op = 1) (hx : xop X op e h = some (v, h')) (hn : h'.nx = h.nx) : h' = h := by
  cases op <;> (try simp only [opCls] at hc) <;> (try (cases hc; done)) <;> (try simp only [xop] at hx)
  case load t x =>
    replace hx := ob_eq hx
    obtain ⟨u, hu, hx⟩ := hx
    cases u <;> (try simp only at hx) <;> try (cases hx; done)
    exact (pure'_inv hx).2
  case lookup t x y ok =>
    replace hx := ob_eq hx
    obtain ⟨u, hu, hx⟩ := hx
    replace hx := ob_eq hx
    obtain ⟨u2, hu2, hx⟩ := hx
    exact (pure'_inv hx).2
  case convert s t x =>
    replace hx := ob_eq hx
    obtain ⟨u, hu, hx⟩ := hx
    cases u with
    | str l b =>
      simp only at hx
      replace hx := ob_eq hx
      obtain ⟨d, hd, hx⟩ := hx
      replace hx := sel_some hx
      obtain ⟨_, hx⟩ := hx
      unfold strTo at hx
      split at hx
      · replace hx := sel_some hx
        obtain ⟨_, hx⟩ := hx
        cases hx
        exact (bump hn).elim
      · exact (pure'_inv hx).2
    | _ => exact (pure'_inv hx).2
  case slice t x lo hi mx =>
    replace hx := ob_eq hx
    obtain ⟨u, hu, hx⟩ := hx
    replace hx := ob_eq hx
    obtain ⟨_, _, hx⟩ := hx
    replace hx := ob_eq hx
    obtain ⟨_, _, hx⟩ := hx
    replace hx := ob_eq hx
    obtain ⟨_, _, hx⟩ := hx
    exact xslice_same hx hn
  case call c =>
    unfold xcallO at hx
    replace hx := ob_eq hx
    obtain ⟨args, hargs, hx⟩ := hx
    cases hcc : c.callee with
    | value f => rw [hcc] at hc; cases hc
    | invoke r nm => rw [hcc] at hc; cases hc
    | builtin b =>
      rw [hcc] at hc hx
      simp only at hx
      cases b <;> (try simp only at hc) <;> (try (cases hc; done)) <;> (simp only [xbuiltin] at hx)
      · split at hx
        · split at hx
          · replace hx := ob_eq hx
            obtain ⟨u, hu, hx⟩ := hx
            cases hx; rfl
          · cases hx
        · cases hx
      · split at hx
        · rename_i x
          cases x <;> (try simp only [xunsafeSliceData] at hx) <;> try (cases hx; done)
          · rename_i b off len cap
            cases cap <;> simp only at hx
            · rcases sel_cases hx with ⟨_, hx⟩ | ⟨_, hx⟩
              · cases hx
              · cases hx; rfl
            · rcases sel_cases hx with ⟨_, hx⟩ | ⟨_, hx⟩
              · cases hx
              · cases hx; rfl
          · cases hx; rfl
        · cases hx
end
end Go.Th

namespace Go.Th
section
variable {X : Cx} {R0 : Nat → Option Obj} {N n : Nat} {rd : Option Nat} {μ : Mu} {e e2 : Env} {h h' h2 : Heap} {a : Act} {w : World} {v : AV} {o : Oper}

/-! ## Kind 2: memory of its own is made -/
inductive Mk where
  | ptr
  | sl (l c : Nat)
  | mp
def Mk.av : Mk → Nat → AV
  | .ptr, b => .ptr b 0
  | .sl l c, b => .slice b 0 l (some c)
  | .mp, b => .map b
def Mk.va : Mk → Nat → Value
  | .ptr, β => .pointer (some ⟨β, 0, none⟩)
  | .sl l c, β => .slice (some ⟨β, 0, none⟩) l c
  | .mp, β => .map (some β)
theorem Mk.spec (k : Mk) {b : Nat} {m : BM} (hm : μ b = some m) (h0 : m.δ = 0) : conc μ (k.av b) = k.va m.β ∧ Ok μ (k.av b) := by
  cases k with
  | ptr => exact ⟨by simp [Mk.av, Mk.va, conc, addr_of hm, h0], by simp only [Mk.av, Ok]; exact ⟨m, hm⟩⟩
  | sl l c => exact ⟨by simp [Mk.av, Mk.va, conc, addr_of hm, h0], by simp only [Mk.av]; unfold Ok; exact ⟨m, hm, fun q => (by cases q)⟩⟩
  | mp => exact ⟨by simp [Mk.av, Mk.va, conc, Mu.blk, hm], by simp only [Mk.av, Ok]; exact ⟨m, hm⟩⟩

theorem newRel {l : List AV} (ok : ∀ v ∈ l, Ok μ v) {c : Array Value} (hc : c.toList = l.map (conc μ)) (elem : Nat) (w : World) (m : BM) (hβ : m.β = w.heap.size) (hδ : m.δ = 0) :
    ObRel μ m (pushed w (.cells c elem)) (.cells elem l.length (Tri.putRow l .lf 0) false false 0 0 false) := by
  refine ⟨c, elem, 0, 0, by rw [hβ]; exact pushed_new _ _, fun i hi => row_told ok (fun j hj => ?_) i hi, fun j _ _ q => by omega, fun _ q => by omega, fun q => (by cases q), fun _ => hδ, rfl⟩
  rw [hδ, Nat.zero_add, ← Array.getElem?_toList, hc, List.getElem?_map]

theorem cls2 {op : Op} (hc : opCls op = 2) (hx : xop X op e h = some (v, h')) :
    ∃ k ob, v = Mk.av k h.nx ∧ h' = h.add ob ∧ ob.ro = false ∧ ∀ h2, xop X op e h2 = some (Mk.av k h2.nx, h2.add ob) := by
  cases op <;> (try simp only [opCls] at hc) <;> (try (cases hc; done)) <;> (try simp only [xop] at hx ⊢)
  case alloc t =>
    replace hx := ob_eq hx
    obtain ⟨z, hz, hx⟩ := hx
    cases hx
    exact ⟨.ptr, _, rfl, rfl, rfl, fun h2 => by simp only [hz, ob_some]; rfl⟩
  case box t x =>
    replace hx := ob_eq hx
    obtain ⟨z, hz, hx⟩ := hx
    cases hx
    exact ⟨.ptr, _, rfl, rfl, rfl, fun h2 => by simp only [hz, ob_some]; rfl⟩
  case buildSlice t len ps =>
    replace hx := ob_eq hx
    obtain ⟨l, hl, hx⟩ := hx
    replace hx := ob_eq hx
    obtain ⟨d, hd, hx⟩ := hx
    cases d <;> (try simp only at hx) <;> try (cases hx; done)
    rename_i elem
    replace hx := ob_eq hx
    obtain ⟨s, hs, hx⟩ := hx
    replace hx := ob_eq hx
    obtain ⟨z, hz, hx⟩ := hx
    replace hx := sel_some hx
    obtain ⟨h1, hx⟩ := hx
    replace hx := sel_some hx
    obtain ⟨h3, hx⟩ := hx
    replace hx := ob_eq hx
    obtain ⟨cs, hcs, hx⟩ := hx
    cases hx
    exact ⟨.sl len len, _, rfl, rfl, rfl, fun h2 => by simp only [hl, hd, hs, hz, h1, h3, hcs, ob_some, sel_true]; rfl⟩
  case makeMap t r =>
    cases r with
    | none => cases hx; exact ⟨.mp, _, rfl, rfl, rfl, fun h2 => rfl⟩
    | some x =>
      simp only at hx
      replace hx := ob_eq hx
      obtain ⟨d, hd, hx⟩ := hx
      cases d <;> (try simp only at hx) <;> try (cases hx; done)
      replace hx := ob_eq hx
      obtain ⟨u, hu, hx⟩ := hx
      cases u <;> (try simp only at hx) <;> try (cases hx; done)
      cases hx
      exact ⟨.mp, _, rfl, rfl, rfl, fun h2 => by simp only [hd, hu, ob_some]; rfl⟩
  case makeSlice t x y =>
    replace hx := ob_eq hx
    obtain ⟨u, hu, hx⟩ := hx
    replace hx := ob_eq hx
    obtain ⟨u2, hu2, hx⟩ := hx
    obtain ⟨elem, z, ll, cc, row, rfl, rfl, q, _⟩ := make_run (fun _ => none) (default : World) hx
    exact ⟨.sl ll cc, _, rfl, rfl, rfl, fun h2 => by simp only [hu, hu2, ob_some]; exact q h2⟩
  case call c =>
    exfalso
    revert hc
    split <;> intro hc <;> cases hc

theorem mk_run {k : Mk} {ob : Ob} (hc : opCls o.op = 2) (hx : ∀ h2, xop X o.op e h2 = some (k.av h2.nx, h2.add ob)) (he : EnvIs μ N e a.tmps) (hg : Glob X.G μ) (w : World) :
    ∃ Xo, (execOp a.eval o).run X.P w = .ok (.value (k.va w.heap.size)) (pushed w Xo) ∧ ∀ m : BM, m.β = w.heap.size → m.δ = 0 → ObRel μ m (pushed w Xo) ob := by
  have hrun : ∀ {q : Op}, o.op = q → execOp a.eval o = execOp a.eval { o with op := q } := fun q => by subst q; rfl
  have val : ∀ {S : Sem Value} {u : Value} {w' : World}, S.run X.P w = .ok u w' → ((do pure (.value (← S))) : Sem Next).run X.P w = .ok (.value u) w' := fun q => by
    simp only [Sem.run_bind, q, Result.andThen_ok, Sem.run_pure]
  have key : ∀ (h : Heap), h = ⟨0, .lf⟩ → ∃ Xo, (execOp a.eval o).run X.P w = .ok (.value (k.va w.heap.size)) (pushed w Xo) ∧ ∀ m : BM, m.β = w.heap.size → m.δ = 0 → ObRel μ m (pushed w Xo) ob := by
    intro h hh
    have hob : ∀ {ob' : Ob}, h.add ob' = h.add ob → ob' = ob := fun {ob'} q => by
      have q1 := congrArg (fun x : Heap => x.ob.at h.nx) q
      simp only [Heap.add, Tri.at_set_same] at q1
      exact Option.some.inj q1
    have hx := hx h
    cases hop : o.op with
    | alloc t =>
      rw [hop] at hx
      simp only [xop] at hx
      replace hx := ob_eq hx
      obtain ⟨z, hz, hx⟩ := hx
      simp only [Option.some.injEq, Prod.mk.injEq] at hx
      obtain ⟨hk, hh'⟩ := hx
      have := hob hh'
      subst this
      have hkk : k = .ptr := by cases k <;> first | rfl | cases hk
      subst hkk
      obtain ⟨zv, hzv, hzc, hzo⟩ := zeroC_spec (w := w) hz μ
      refine ⟨.cells zv.cells t, ?_, newRel hzo hzc t w⟩
      rw [hrun hop]
      refine val ?_
      show (Instr.alloc t true (.tuple #[])).run X.P w = _
      simp only [Instr.alloc, Sem.run_bind, hzv, Result.andThen_ok]
      rfl
    | box t x =>
      rw [hop] at hx
      simp only [xop] at hx
      replace hx := ob_eq hx
      obtain ⟨u, hu, hx⟩ := hx
      simp only [Option.some.injEq, Prod.mk.injEq] at hx
      obtain ⟨hk, hh'⟩ := hx
      have := hob hh'
      subst this
      have hkk : k = .ptr := by cases k <;> first | rfl | cases hk
      subst hkk
      obtain ⟨p1, p2⟩ := opd_spec he hg hu
      refine ⟨.cells (conc μ u).cells t, ?_, newRel (Ok_cells p1) (conc_cells μ u) t w⟩
      rw [hrun hop]
      refine val ?_
      show (Instr.box t (a.eval x)).run X.P w = _
      rw [p2]; rfl
    | buildSlice t len ps =>
      rw [hop] at hx
      simp only [xop] at hx
      replace hx := ob_eq hx
      obtain ⟨l, hl, hx⟩ := hx
      replace hx := ob_eq hx
      obtain ⟨d, hd, hx⟩ := hx
      cases d <;> (try simp only at hx) <;> try (cases hx; done)
      rename_i elem
      replace hx := ob_eq hx
      obtain ⟨s, hs, hx⟩ := hx
      replace hx := ob_eq hx
      obtain ⟨z, hz, hx⟩ := hx
      replace hx := sel_some hx
      obtain ⟨h1, hx⟩ := hx
      have h1 := Nat.eq_of_beq_eq_true h1
      replace hx := sel_some hx
      obtain ⟨h3, hx⟩ := hx
      rw [ble_eq] at h3
      have h3 : len * s ≤ 16777216 := of_decide_eq_true h3
      replace hx := ob_eq hx
      obtain ⟨cs, hcs, hx⟩ := hx
      simp only [Option.some.injEq, Prod.mk.injEq] at hx
      obtain ⟨hk, hh'⟩ := hx
      have := hob hh'
      subst this
      have hkk : k = .sl len len := by cases k <;> first | (cases hk; rfl) | cases hk
      subst hkk
      obtain ⟨p1, p2⟩ := partOpds_spec he hg hl
      obtain ⟨q1, q2⟩ := buildSlice_run μ w hd hs hz h1 h3 hcs p1 (ps.map fun (i, x) => (i, a.eval x)) (by rw [Array.toList_map]; exact p2)
      refine ⟨.cells (cs.map (conc μ)).toArray elem, ?_, newRel q1 rfl elem w⟩
      rw [hrun hop]
      exact val q2
    | makeMap t r =>
      rw [hop] at hx
      have mkm : ∀ {S : Sem Value}, S.run X.P w = .ok (.map (some w.heap.size)) (pushed w (.map #[] 0)) → (some (AV.map h.nx, h.add (.map [])) = some (k.av h.nx, h.add ob)) → execOp a.eval o = (do pure (.value (← S)) : Sem Next) →
          ∃ Xo, (execOp a.eval o).run X.P w = .ok (.value (k.va w.heap.size)) (pushed w Xo) ∧ ∀ m : BM, m.β = w.heap.size → m.δ = 0 → ObRel μ m (pushed w Xo) ob := by
        intro S hS hx hex
        simp only [Option.some.injEq, Prod.mk.injEq] at hx
        obtain ⟨hk, hh'⟩ := hx
        have := hob hh'
        subst this
        have hkk : k = .mp := by cases k <;> first | rfl | cases hk
        subst hkk
        refine ⟨.map #[] 0, ?_, fun m hβ hδ => ⟨#[], 0, by rw [hβ]; exact pushed_new _ _, rfl, fun e he => by cases he⟩⟩
        rw [hex]
        exact val hS
      cases r with
      | none => exact mkm (S := Instr.makeMap t none) rfl hx (by rw [hrun hop]; rfl)
      | some x =>
        simp only [xop] at hx
        replace hx := ob_eq hx
        obtain ⟨d, hd, hx⟩ := hx
        cases d <;> (try simp only at hx) <;> try (cases hx; done)
        replace hx := ob_eq hx
        obtain ⟨u, hu, hx⟩ := hx
        obtain ⟨p1, p2⟩ := opd_spec he hg hu
        cases u <;> (try simp only at hx) <;> try (cases hx; done)
        refine mkm (S := Instr.makeMap t (some (a.eval x))) ?_ hx (by rw [hrun hop]; rfl)
        simp only [Instr.makeMap, Sem.run_bind, run_und hd, Result.andThen_ok, p2, conc, asInt, asIntOf, Sem.run_pure]
        rfl
    | makeSlice t x y =>
      rw [hop] at hx
      simp only [xop] at hx
      replace hx := ob_eq hx
      obtain ⟨u, hu, hx⟩ := hx
      replace hx := ob_eq hx
      obtain ⟨u2, hu2, hx⟩ := hx
      obtain ⟨p1, p2⟩ := opd_spec he hg hu
      obtain ⟨p3, p4⟩ := opd_spec he hg hu2
      obtain ⟨elem, z, ll, cc, row, hk, hh', _, q1, q2, q3⟩ := make_run μ w hx
      have := hob hh'.symm
      subst this
      have hkk : k = .sl ll cc := by cases k <;> first | (cases hk; rfl) | cases hk
      subst hkk
      refine ⟨.cells row elem, ?_, newRel q1 q2 elem w⟩
      rw [hrun hop]
      refine val ?_
      show (Instr.makeSlice t (a.eval x) (a.eval y)).run X.P w = _
      rw [p2, p4]
      exact q3
    | call c =>
      rw [hop] at hc
      exfalso
      revert hc
      simp only [opCls]
      split <;> intro hc <;> cases hc
    | _ => rw [hop] at hc; cases hc
  exact key _ rfl
end
end Go.Th

namespace Go.Th

/-! ## What stands ahead of what -/
inductive Reach (ops : List Oper) : Nat → Nat → Prop where
  | dep {j i : Nat} {o : Oper} {ed : Edge} (ho : ops[j]? = some o) (he : ed ∈ o.after.toList) (hb : Region.binds .any ed = true) (hi : ed.on = i) : Reach ops j i
  | step {j k i : Nat} {o : Oper} {ed : Edge} (ho : ops[j]? = some o) (he : ed ∈ o.after.toList) (hb : Region.binds .any ed = true) (hi : ed.on = k) (r : Reach ops k i) : Reach ops j i

def befStep (acc : List Nat) (o : Oper) : Nat := o.after.toList.foldl (fun s e => if Region.binds .any e then s ||| 2 ^ e.on ||| acc.getD e.on 0 else s) 0
theorem befM_eq (ops : List Oper) : befM ops = ops.foldl (fun acc o => acc ++ [befStep acc o]) [] := rfl
theorem befStep_bit (acc : List Nat) (i : Nat) : ∀ (l : List Edge) (s : Nat), (l.foldl (fun s e => if Region.binds .any e then s ||| 2 ^ e.on ||| acc.getD e.on 0 else s) s).testBit i = true →
    s.testBit i = true ∨ ∃ ed ∈ l, Region.binds .any ed = true ∧ (ed.on = i ∨ (acc.getD ed.on 0).testBit i = true) := by
  intro l
  induction l with
  | nil => intro s h; exact .inl h
  | cons x l ih =>
    intro s h
    rcases ih _ h with h | ⟨ed, h1, h2, h3⟩
    · dsimp only at h
      by_cases hb : Region.binds .any x = true
      · rw [if_pos hb] at h
        simp only [Nat.testBit_or, Bool.or_eq_true, Nat.testBit_two_pow] at h
        rcases h with (h | h) | h
        · exact .inl h
        · exact .inr ⟨x, List.mem_cons_self .., hb, .inl (by simpa using h)⟩
        · exact .inr ⟨x, List.mem_cons_self .., hb, .inr h⟩
      · rw [if_neg hb] at h; exact .inl h
    · exact .inr ⟨ed, List.mem_cons_of_mem _ h1, h2, h3⟩
theorem bef_fold (ops : List Oper) : ∀ (l : List Oper) (acc : List Nat), ops.drop acc.length = l → (∀ j i, (acc.getD j 0).testBit i = true → Reach ops j i) →
    ∀ j i, ((l.foldl (fun acc o => acc ++ [befStep acc o]) acc).getD j 0).testBit i = true → Reach ops j i := by
  intro l
  induction l with
  | nil => intro acc _ h; exact h
  | cons o l ih =>
    intro acc hd h
    have ho : ops[acc.length]? = some o := by
      have : (ops.drop acc.length)[0]? = some o := by rw [hd]; rfl
      simpa using this
    refine ih (acc ++ [befStep acc o]) ?_ ?_
    · rw [List.length_append, ← List.drop_drop, hd]; rfl
    · intro j i hb
      by_cases hj : j < acc.length
      · rw [List.getD_eq_getElem?_getD, List.getElem?_append_left hj, ← List.getD_eq_getElem?_getD] at hb; exact h j i hb
      · rw [List.getD_eq_getElem?_getD, List.getElem?_append_right (by omega), ← List.getD_eq_getElem?_getD] at hb
        by_cases hj2 : j = acc.length
        · subst hj2
          simp only [Nat.sub_self, List.getD_cons_zero] at hb
          rcases befStep_bit acc i _ 0 hb with hb | ⟨ed, h1, h2, h3⟩
          · simp at hb
          · rcases h3 with h3 | h3
            · exact .dep ho h1 h2 h3
            · exact .step ho h1 h2 rfl (h _ _ h3)
        · obtain ⟨k, hk⟩ : ∃ k, j - acc.length = k + 1 := ⟨j - acc.length - 1, by omega⟩
          rw [hk] at hb
          simp at hb
theorem bef_spec {ops : List Oper} {j i : Nat} (h : ((befM ops).getD j 0).testBit i = true) : Reach ops j i :=
  bef_fold ops ops [] (by simp) (fun j i h => by simp at h) j i h

/-! ## A region that draws its order -/
abbrev Ls (L : Array Bool) (i : Nat) : Prop := L.getD i false = true
def Closed (ops : Array Oper) (L : Array Bool) : Prop := ∀ j o, Ls L j → ops[j]? = some o → ∀ ed ∈ o.after.toList, Region.binds .any ed = true → Ls L ed.on
theorem reach_listed {ops : Array Oper} {L : Array Bool} (hc : Closed ops L) {j i : Nat} (r : Reach ops.toList j i) (hj : ∀ o, ops[j]? = some o → ∀ ed ∈ o.after.toList, Region.binds .any ed = true → Ls L ed.on) : Ls L i := by
  induction r with
  | dep ho he hb hi => subst hi; exact hj _ (by rw [← Array.getElem?_toList]; exact ho) _ he hb
  | step ho he hb hi _ ih =>
    subst hi
    have hk := hj _ (by rw [← Array.getElem?_toList]; exact ho) _ he hb
    exact ih fun o ho' ed hed hbd => hc _ o hk ho' ed hed hbd

/-- a result, where one is kept -/
def At (e : Env) (d : Option Tmp) (v : AV) : Prop := ∀ t, d = some t → e.at t = some v

section
variable (X : Cx) (R0 : Nat → Option Obj) (N : Nat) (ops : Array Oper) (b0 : Nat)

/-- an operation that the evaluation has done and the machine has not yet -/
def Pend (strong : Bool) (bid : Nat → Nat) (μ : Mu) (e : Env) (h : Heap) (i : Nat) (o : Oper) : Prop :=
  dstOk N o.dst = true ∧ (opCls o.op == 3) = false ∧
  ((wantE (slotsOf ops.toList) e o = some false ∧ At e o.dst (.tuple [])) ∨
   (wantE (slotsOf ops.toList) e o = some true ∧
     ((∃ v, (∀ h2, xop X o.op e h2 = some (v, h2)) ∧ At e o.dst v) ∨
      (opCls o.op = 1 ∧ ∃ v, (strong = true → xop X o.op e h = some (v, h)) ∧ At e o.dst v) ∨
      (opCls o.op = 2 ∧ ∃ k ob, ob.ro = false ∧ (∀ h2, xop X o.op e h2 = some (Mk.av k h2.nx, h2.add ob)) ∧ At e o.dst (k.av (bid i)) ∧ h.ob.at (bid i) = some ob ∧ μ (bid i) = none ∧ b0 ≤ bid i ∧ bid i < h.nx))))

structure J (μ0 : Mu) (h0 : Heap) (w0 : World) (a0 : Act) (dn kn : Nat) (strong : Bool) (bid : Nat → Nat) (μ : Mu) (e : Env) (h : Heap) (a : Act) (w : World) (L : Array Bool) : Prop where
  rel : Rel μ h w
  glob : Glob X.G μ
  good : Good R0 μ h w
  sz : a.tmps.size = N
  lsz : L.size = ops.size
  lin : ∀ i, Ls L i → dn.testBit i = true
  closed : Closed ops L
  known : ∀ i, kn.testBit i = true → Ls L i
  env : ∀ t v, e.at t = some v → (∀ i o, dn.testBit i = true → ops[i]? = some o → o.dst = some t → Ls L i) → Ok μ v ∧ a.tmps[t]? = some (conc μ v)
  pend : ∀ i o, dn.testBit i = true → ¬ Ls L i → ops[i]? = some o → Pend X N ops b0 strong bid μ e h i o
  inj : ∀ i j oi oj, dn.testBit i = true → dn.testBit j = true → ¬ Ls L i → ¬ Ls L j → ops[i]? = some oi → ops[j]? = some oj → opCls oi.op = 2 → opCls oj.op = 2 →
    wantE (slotsOf ops.toList) e oi = some true → wantE (slotsOf ops.toList) e oj = some true → i ≠ j → bid i ≠ bid j
  looks : ∀ i oi, dn.testBit i = true → ¬ Ls L i → ops[i]? = some oi → ∀ t ∈ oi.looksAt ops, ∀ j oj, dn.testBit j = true → ops[j]? = some oj → oj.dst = some t → ((befM ops.toList).getD i 0).testBit j = true
  befin : ∀ i, dn.testBit i = true → ∀ j, ((befM ops.toList).getD i 0).testBit j = true → dn.testBit j = true
  ext : Ext μ0 h0 w0 μ h w
  dfs : a.defers = a0.defers
end

section
variable {X : Cx} {R0 : Nat → Option Obj} {N n : Nat} {rd : Option Nat} {ops : Array Oper} {μ0 μ : Mu} {h0 h h' : Heap} {w0 w : World} {a0 a : Act} {dn kn : Nat} {strong : Bool} {bid : Nat → Nat} {e e' : Env} {L : Array Bool}
variable {Q : Exit → Act → World → Prop} {K : Act → World → Prop}

/-! the environment that is told for sure -/
noncomputable def hideL (l : List Nat) (e : Env) : Env := l.foldl (fun e t => e.set t none) e
theorem hideL_at (l : List Nat) : ∀ (e : Env) (t : Nat), (hideL l e).at t = if t ∈ l then none else e.at t := by
  induction l with
  | nil => intro e t; simp [hideL]
  | cons x l ih =>
    intro e t
    show (hideL l (e.set x none)).at t = _
    rw [ih]
    by_cases h1 : t ∈ l
    · rw [if_pos h1, if_pos (List.mem_cons_of_mem _ h1)]
    · rw [if_neg h1, Tri.at_set]
      by_cases h2 : t = x
      · rw [if_pos h2, if_pos (by rw [h2]; exact List.mem_cons_self ..)]
      · have h3 : ¬ t ∈ x :: l := fun q => by
          rcases List.mem_cons.1 q with q | q
          · exact h2 q
          · exact h1 q
        rw [if_neg h2, if_neg h3]
def hidden (ops : Array Oper) (dn : Nat) (L : Array Bool) : List Nat :=
  (List.range ops.size).filterMap fun i => if dn.testBit i && !(L.getD i false) then (ops[i]?).bind (·.dst) else none
theorem mem_hidden {t : Nat} : t ∈ hidden ops dn L ↔ ∃ i o, dn.testBit i = true ∧ ¬ Ls L i ∧ ops[i]? = some o ∧ o.dst = some t := by
  unfold hidden
  rw [List.mem_filterMap]
  constructor
  · rintro ⟨i, _, hi⟩
    split at hi
    · rename_i hc
      simp only [Bool.and_eq_true, Bool.not_eq_true'] at hc
      obtain ⟨o, ho, hd⟩ := Option.bind_eq_some_iff.1 hi
      exact ⟨i, o, hc.1, by simp [Ls, hc.2], ho, hd⟩
    · cases hi
  · rintro ⟨i, o, h1, h2, h3, h4⟩
    refine ⟨i, List.mem_range.2 (Array.getElem?_eq_some_iff.1 h3).1, ?_⟩
    have : (L.getD i false) = false := by simpa [Ls] using h2
    rw [if_pos (by rw [h1, this]; rfl), h3]
    exact h4
theorem J.envIs (j : J X R0 N ops b0 μ0 h0 w0 a0 dn kn strong bid μ e h a w L) : EnvIs μ N (hideL (hidden ops dn L) e) a.tmps := by
  refine ⟨j.sz, fun t v hv => ?_⟩
  rw [hideL_at] at hv
  split at hv
  · cases hv
  · rename_i hn
    refine j.env t v hv fun i o h1 h2 h3 => ?_
    exact Classical.byContradiction fun q => hn (mem_hidden.2 ⟨i, o, h1, q, h2, h3⟩)

/-! what is looked at -/
theorem want_congr {o : Oper} {e2 : Env} (hx : ∀ t ∈ o.looksAt ops, e2.at t = e.at t) : wantE (slotsOf ops.toList) e2 o = wantE (slotsOf ops.toList) e o := by
  unfold wantE
  cases hg : o.guard with
  | none => rfl
  | some p =>
    obtain ⟨j, want⟩ := p
    simp only
    rw [slots_get, Array.getElem?_toList]
    cases hj : ops[j]? with
    | none => rfl
    | some oj =>
      simp only [Option.map_some]
      cases hd : oj.dst with
      | none => rfl
      | some s =>
        simp only
        rw [hx s (by
          unfold Oper.looksAt
          rw [hg]
          simp only [List.mem_append]
          right
          simp [hj, hd])]
theorem looks_xop {o : Oper} {e2 : Env} (hx : ∀ t ∈ o.looksAt ops, e2.at t = e.at t) : xop X o.op e2 h = xop X o.op e h :=
  xop_congr fun x hm t ht => hx t (by
    unfold Oper.looksAt
    simp only [List.mem_append, List.mem_filterMap]
    left
    exact ⟨x, hm, by rw [ht]⟩)

theorem avEq_spec : ∀ (d : Nat) (x y : AV), avEq d x y = true → x = y := by
  intro d
  induction d with
  | zero => intro x y h; unfold avEq at h; cases h
  | succ d ih =>
    have go : ∀ l r : List AV, avEq.go d l r = true → l = r := by
      intro l
      induction l with
      | nil => intro r h; cases r with
        | nil => rfl
        | cons y r => cases h
      | cons x l ihl => intro r h; cases r with
        | nil => cases h
        | cons y r =>
          unfold avEq.go at h
          rw [sel_eq] at h
          split at h
          · rename_i hq
            rw [ih x y hq, ihl r h]
          · cases h
    have sb : ∀ {c : Bool} {x : Bool}, sel c x false = true → c = true ∧ x = true := fun {c x} q => by cases c <;> cases x <;> first | exact ⟨rfl, rfl⟩ | cases q
    intro x y h
    cases x with
    | slice b off l cap =>
      cases cap with
      | some c =>
        cases y with
        | slice b2 off2 l2 cap2 =>
          cases cap2 with
          | some c2 =>
            obtain ⟨h1, h⟩ := sb h
            obtain ⟨h2, h⟩ := sb h
            obtain ⟨h3, h4⟩ := sb h
            rw [Nat.eq_of_beq_eq_true h1, Nat.eq_of_beq_eq_true h2, Nat.eq_of_beq_eq_true h3, Nat.eq_of_beq_eq_true h4]
          | none => cases h
        | _ => cases h
      | none =>
        cases y with
        | slice b2 off2 l2 cap2 =>
          cases cap2 with
          | some c2 => cases h
          | none =>
            obtain ⟨h1, h⟩ := sb h
            obtain ⟨h2, h3⟩ := sb h
            rw [Nat.eq_of_beq_eq_true h1, Nat.eq_of_beq_eq_true h2, Nat.eq_of_beq_eq_true h3]
        | _ => cases h
    | bool x => cases y with
      | bool y => cases x <;> cases y <;> first | rfl | cases h
      | _ => cases h
    | int k x => cases y with
      | int k2 y =>
        obtain ⟨h1, h2⟩ := sb h
        rw [xieq_eq] at h2
        rw [kindEq_eq h1, eq_of_beq h2]
      | _ => cases h
    | str l x => cases y with
      | str l2 y =>
        have h : sEq l x l2 y = true := h
        unfold sEq at h
        obtain ⟨h1, h2⟩ := sb h
        rw [Nat.eq_of_beq_eq_true h1, Nat.eq_of_beq_eq_true h2]
      | _ => cases h
    | ptr x o => cases y with
      | ptr y o2 =>
        obtain ⟨h1, h2⟩ := sb h
        rw [Nat.eq_of_beq_eq_true h1, Nat.eq_of_beq_eq_true h2]
      | _ => cases h
    | map x => cases y with
      | map y => rw [Nat.eq_of_beq_eq_true (show Nat.beq x y = true from h)]
      | _ => cases h
    | agg x => cases y with
      | agg y => rw [go x y h]
      | _ => cases h
    | tuple x => cases y with
      | tuple y => rw [go x y h]
      | _ => cases h
    | nilPtr => cases y <;> first | rfl | cases h
    | nilSlice => cases y <;> first | rfl | cases h
    | nilMap => cases y <;> first | rfl | cases h
    | nilFunc => cases y <;> first | rfl | cases h
    | nilIface => cases y <;> first | rfl | cases h
    | func f a b => cases h
    | yield l => cases h
    | iface t v => cases h
end
end Go.Th

namespace Go.Th
section
variable {X : Cx} {R0 : Nat → Option Obj} {N n : Nat} {rd : Option Nat} {ops : Array Oper} {b0 : Nat} {μ0 μ μ' : Mu} {h0 h h' : Heap} {w0 w w' : World} {a0 a a' : Act} {dn kn : Nat} {strong : Bool} {bid : Nat → Nat} {e e' : Env} {L : Array Bool}
variable {Q : Exit → Act → World → Prop} {K : Act → World → Prop} {i : Nat} {o : Oper}

theorem Ls_set {L : Array Bool} {i k : Nat} : Ls (L.setIfInBounds i true) k ↔ (k = i ∧ i < L.size) ∨ Ls L k := by
  unfold Ls
  rw [Array.getD_eq_getD_getElem?, Array.getD_eq_getD_getElem?, Array.getElem?_setIfInBounds]
  by_cases h : i = k
  · subst h
    by_cases h2 : i < L.size
    · simp [h2]
    · simp [h2]
  · rw [if_neg h]
    constructor
    · exact .inr
    · rintro (⟨q, _⟩ | q)
      · exact absurd q.symm h
      · exact q

/-- what is told of the temporaries, behind one result more -/
theorem env_list (henv : ∀ t v, e.at t = some v → (∀ k o, dn.testBit k = true → ops[k]? = some o → o.dst = some t → Ls L k) → Ok μ v ∧ a.tmps[t]? = some (conc μ v))
    (hsz : a.tmps.size = N) (ho : ops[i]? = some o) (hlt : i < L.size) (hd : dstOk N o.dst = true) {v : AV} (ov : Ok μ' v) (hat : At e o.dst v) (hle : μ.le μ') :
    ∀ t u, e.at t = some u → (∀ k o, dn.testBit k = true → ops[k]? = some o → o.dst = some t → Ls (L.setIfInBounds i true) k) → Ok μ' u ∧ (a.put o.dst (conc μ' v)).tmps[t]? = some (conc μ' u) := by
  intro t u hu hc
  by_cases ht : o.dst = some t
  · have := hat t ht
    rw [hu] at this
    cases this
    refine ⟨ov, ?_⟩
    rw [ht] at hd ⊢
    simp only [dstOk, blt_eq] at hd
    have hd := of_decide_eq_true hd
    simp only [Act.put]
    rw [Array.getElem?_setIfInBounds_self, hsz, if_pos hd]
  · obtain ⟨q1, q2⟩ := henv t u hu fun k ok h1 h2 h3 => by
      rcases Ls_set.1 (hc k ok h1 h2 h3) with ⟨rfl, _⟩ | q
      · rw [ho] at h2; cases h2; exact absurd h3 ht
      · exact q
    obtain ⟨c1, c2⟩ := conc_le hle u q1
    refine ⟨c2, ?_⟩
    rw [c1]
    cases hdd : o.dst with
    | none => exact q2
    | some d =>
      simp only [Act.put]
      rw [Array.getElem?_setIfInBounds_ne (by intro q; subst q; exact ht hdd)]
      exact q2

theorem J.listed (j : J X R0 N ops b0 μ0 h0 w0 a0 dn kn true bid μ e h a w L) (hi : dn.testBit i = true) (ho : ops[i]? = some o) (hready : ∀ ed ∈ o.after.toList, Region.binds .any ed = true → Ls L ed.on)
    {v : AV} (r' : Rel μ' h w') (x' : Ext μ0 h0 w0 μ' h w') (hle : μ.le μ') (gd' : Good R0 μ' h w') (hd : dstOk N o.dst = true) (ov : Ok μ' v) (hat : At e o.dst v)
    (hid : ∀ k ok, dn.testBit k = true → ¬ Ls L k → k ≠ i → ops[k]? = some ok → opCls ok.op = 2 → wantE (slotsOf ops.toList) e ok = some true → μ (bid k) = none → bid k < h.nx → μ' (bid k) = none) :
    J X R0 N ops b0 μ0 h0 w0 a0 dn kn true bid μ' e h (a.put o.dst (conc μ' v)) w' (L.setIfInBounds i true) := by
  have hlt : i < L.size := by rw [j.lsz]; exact (Array.getElem?_eq_some_iff.1 ho).1
  have up : ∀ {k}, Ls L k → Ls (L.setIfInBounds i true) k := fun q => Ls_set.2 (.inr q)
  have dn2 : ∀ {k}, ¬ Ls (L.setIfInBounds i true) k → k ≠ i ∧ ¬ Ls L k := fun q => ⟨fun r => q (Ls_set.2 (.inl ⟨r, hlt⟩)), fun r => q (up r)⟩
  exact {
    rel := r'
    glob := j.glob.le hle
    good := gd'
    sz := by rw [← j.sz]; cases o.dst <;> simp [Act.put]
    lsz := by rw [Array.size_setIfInBounds]; exact j.lsz
    lin := fun k q => by
      rcases Ls_set.1 q with ⟨rfl, _⟩ | q
      · exact hi
      · exact j.lin k q
    closed := fun k ok q hok ed he hb => by
      rcases Ls_set.1 q with ⟨rfl, _⟩ | q
      · rw [ho] at hok; cases hok; exact up (hready ed he hb)
      · exact up (j.closed k ok q hok ed he hb)
    known := fun k q => up (j.known k q)
    env := env_list j.env j.sz ho hlt hd ov hat hle
    pend := fun k ok h1 h2 h3 => by
      obtain ⟨hne, hul⟩ := dn2 h2
      obtain ⟨p1, p2, p3⟩ := j.pend k ok h1 hul h3
      refine ⟨p1, p2, ?_⟩
      rcases p3 with p3 | ⟨p3, p4⟩
      · exact .inl p3
      · refine .inr ⟨p3, ?_⟩
        rcases p4 with p4 | p4 | ⟨c, q1, q2, q3, q4, q5, q6, q7, q8, q9⟩
        · exact .inl p4
        · exact .inr (.inl p4)
        · exact .inr (.inr ⟨c, q1, q2, q3, q4, q5, q6, hid k ok h1 hul hne h3 c p3 q7 q9, q8, q9⟩)
    inj := fun k l ok ol h1 h2 h3 h4 => j.inj k l ok ol h1 h2 (dn2 h3).2 (dn2 h4).2
    looks := fun k ok h1 h2 => j.looks k ok h1 (dn2 h2).2
    befin := j.befin
    ext := x'
    dfs := by rw [put_defers]; exact j.dfs }

theorem J.same (j : J X R0 N ops b0 μ0 h0 w0 a0 dn kn strong bid μ e h a w L) (hready : ∀ ed ∈ o.after.toList, Region.binds .any ed = true → Ls L ed.on) (ho : ops[i]? = some o)
    (hl : ∀ t ∈ o.looksAt ops, ∀ k ok, dn.testBit k = true → ops[k]? = some ok → ok.dst = some t → ((befM ops.toList).getD i 0).testBit k = true) :
    ∀ t ∈ o.looksAt ops, (hideL (hidden ops dn L) e).at t = e.at t := by
  intro t ht
  rw [hideL_at, if_neg]
  intro hm
  obtain ⟨k, ok, h1, h2, h3, h4⟩ := mem_hidden.1 hm
  exact h2 (reach_listed j.closed (bef_spec (hl t ht k ok h1 h3 h4)) fun o' ho' ed hed hb => by
    rw [ho] at ho'; cases ho'; exact hready ed hed hb)

/-- one that the evaluation has done already -/
theorem J.pick (hX : CxOk X R0) (hb0 : b0 = h0.nx) (r0 : Rel μ0 h0 w0) (j : J X R0 N ops b0 μ0 h0 w0 a0 dn kn true bid μ e h a w L) (hi : dn.testBit i = true) (hul : ¬ Ls L i) (ho : ops[i]? = some o)
    (hready : ∀ ed ∈ o.after.toList, Region.binds .any ed = true → Ls L ed.on)
    (hK : ∀ μ' a' w', J X R0 N ops b0 μ0 h0 w0 a0 dn kn true bid μ' e h a' w' (L.setIfInBounds i true) → K a' w') : wpOpIn (Fw rd) n X.P ops Q i K a w := by
  obtain ⟨hd, hc3, hp⟩ := j.pend i o hi hul ho
  have hsame := j.same hready ho (fun t ht k ok h1 h2 h3 => j.looks i o hi hul ho t ht k ok h1 h2 h3)
  have henv := j.envIs
  have onVal : ∀ v, xop X o.op (hideL (hidden ops dn L) e) h = some (v, h) → At e o.dst v → o.wpIn (Fw rd) n X.P a w K Q := by
    intro v hx hat
    refine op_wpIn hX j.rel j.glob j.good henv hx fun μ' w' r' x' ov => ?_
    refine hK μ' _ w' (j.listed hi ho hready r' (j.ext.trans x') (x'.le j.rel) (j.good.ext x') hd ov hat fun k ok _ _ _ _ _ _ q1 q2 => ?_)
    rw [x'.mu _ q2]; exact q1
  unfold wpOpIn
  simp only [ho]
  rcases hp with ⟨hw, hat⟩ | ⟨hw, hp⟩
  · have hw' := want_spec henv ((want_congr hsame).trans hw)
    rw [hw', if_neg (by decide)]
    refine ⟨fun _ _ => trivial, ?_⟩
    have ou : Ok μ (.tuple []) := by simp [Ok, OkL]
    have := hK μ (a.put o.dst (conc μ (.tuple []))) w (j.listed hi ho hready j.rel j.ext (Mu.le_refl _) j.good hd ou hat fun k ok _ _ _ _ _ _ q1 q2 => q1)
    simp only [conc, concL] at this
    exact this
  · have hw' := want_spec henv ((want_congr hsame).trans hw)
    rw [hw', if_pos rfl]
    rcases hp with ⟨v, hv, hat⟩ | ⟨_, v, hv, hat⟩ | ⟨hc, k, ob, hro, hv, hat, hbo, hmn, hge, hlt⟩
    · exact onVal v ((looks_xop hsame).trans (hv h)) hat
    · exact onVal v ((looks_xop hsame).trans (hv rfl)) hat
    · obtain ⟨Xo, hrun, hob⟩ := mk_run hc (fun h2 => (looks_xop hsame).trans (hv h2)) henv j.glob w
      let m : BM := ⟨w.heap.size, 0, 0, 0⟩
      let μ' : Mu := fun x => if x = bid i then some m else μ x
      have hmu : ∀ x, x ≠ bid i → μ' x = μ x := fun x hx => if_neg hx
      have hmi : μ' (bid i) = some m := if_pos rfl
      have hle : μ.le μ' := fun x mx hx => by
        rw [hmu]; exact hx
        intro q; subst q; rw [hmn] at hx; cases hx
      have r' : Rel μ' h (pushed w Xo) := by
        refine ⟨j.rel.lt, fun x mx hx => ?_, fun x q mx hq hx => ?_, fun x y o1 o2 m1 m2 e1 e2 f1 f2 hβ => ?_, fun x mx hx => ?_⟩
        · by_cases hxb : x = bid i
          · rw [hxb]; exact hlt
          · rw [hmu x hxb] at hx; exact j.rel.mlt x mx hx
        · by_cases hxb : x = bid i
          · subst hxb
            rw [hbo] at hq; cases hq
            rw [hmi] at hx; cases hx
            have := hob m rfl rfl
            exact ObRel.mono hle rfl this
          · rw [hmu x hxb] at hx
            exact ObRel.mono hle (pushed_old w Xo (j.rel.bnd x mx hx)) (j.rel.ok x q mx hq hx)
        · by_cases hx : x = bid i <;> by_cases hy : y = bid i
          · rw [hx, hy]
          · exfalso
            rw [hmu y hy] at f2; rw [hx, hmi] at f1; cases f1
            have := j.rel.bnd y m2 f2
            have hβ : w.heap.size = m2.β := hβ
            omega
          · exfalso
            rw [hmu x hx] at f1; rw [hy, hmi] at f2; cases f2
            have := j.rel.bnd x m1 f1
            have hβ : m1.β = w.heap.size := hβ
            omega
          · rw [hmu x hx] at f1; rw [hmu y hy] at f2
            exact j.rel.inj x y o1 o2 m1 m2 e1 e2 f1 f2 hβ
        · rw [pushed_size]
          by_cases hxb : x = bid i
          · subst hxb; rw [hmi] at hx; cases hx; exact Nat.lt_succ_self _
          · rw [hmu x hxb] at hx; exact Nat.lt_succ_of_lt (j.rel.bnd x mx hx)
      have x' : Ext μ0 h0 w0 μ' h (pushed w Xo) := by
        refine ⟨j.ext.nx, fun x hx => ?_, fun x hx hn => j.ext.old x hx hn, j.ext.live, fun x q mx hx hq hm => ?_, by rw [pushed_size]; exact Nat.le_succ_of_le j.ext.size, fun β hβ hno => ?_, j.ext.os, j.ext.tape, j.ext.output⟩
        · rw [hmu x (by omega), j.ext.mu x hx]
        · by_cases hxb : x = bid i
          · subst hxb; rw [hmi] at hm; cases hm; exact .inl j.ext.size
          · rw [hmu x hxb] at hm; exact j.ext.newb x q mx hx hq hm
        · rw [pushed_old w Xo (Nat.lt_of_lt_of_le hβ j.ext.size)]; exact j.ext.kept β hβ hno
      have gd' : Good R0 μ' h (pushed w Xo) := by
        refine ⟨fun β ob' hβ => ?_, fun x q mx hq hr hm => ?_⟩
        · rw [pushed_old w Xo (j.good.bound hβ)]; exact j.good.here β ob' hβ
        · by_cases hxb : x = bid i
          · subst hxb; rw [hmi] at hm; cases hm
            cases hR : R0 m.β with
            | none => rfl
            | some o' =>
              have := j.good.bound hR
              have : w.heap.size < w.heap.size := this
              omega
          · rw [hmu x hxb] at hm; exact j.good.sep x q mx hq hr hm
      obtain ⟨hcv, hov⟩ := k.spec hmi rfl
      refine ⟨fun _ _ => trivial, ?_⟩
      have hdf : ∀ c, o.op ≠ .defer c := fun c q => by rw [q] at hc; cases hc
      rw [Oper.semAt_eq _ _ _ hdf, hrun]
      have := hK μ' (a.put o.dst (conc μ' (k.av (bid i)))) (pushed w Xo) (j.listed hi ho hready r' x' hle gd' hd hov hat fun k' ok h1 h2 h3 h4 h5 h6 q1 q2 => by
        rw [hmu _ (fun q => j.inj k' i ok o h1 hi h2 hul h4 ho h5 hc h6 hw h3 q)]; exact q1)
      rw [hcv] at this
      exact this

/-- the one that acts -/
theorem J.act (hX : CxOk X R0) (j : J X R0 N ops b0 μ0 h0 w0 a0 dn kn true bid μ e h a w L) (hi : dn.testBit i = false) (ho : ops[i]? = some o)
    (hready : ∀ ed ∈ o.after.toList, Region.binds .any ed = true → Ls L ed.on)
    (hbef : ∀ k, ((befM ops.toList).getD i 0).testBit k = true → dn.testBit k = true)
    (hlook : ∀ t ∈ o.looksAt ops, ∀ k ok, dn.testBit k = true → ops[k]? = some ok → ok.dst = some t → ((befM ops.toList).getD i 0).testBit k = true)
    (hwrite : ∀ t, o.dst = some t → ∀ k ok, ops[k]? = some ok → t ∈ ok.looksAt ops → ((befM ops.toList).getD k 0).testBit i = true ∨ (kn ||| 2 ^ i ||| (befM ops.toList).getD i 0).testBit k = true)
    (hdst : ∀ k ok t, ops[k]? = some ok → k ≠ i → o.dst = some t → ok.dst ≠ some t)
    (hx : xstep X N (slotsOf ops.toList) o e h = some (e', h'))
    (hK : ∀ μ' a' w', J X R0 N ops b0 μ0 h0 w0 a0 (dn ||| 2 ^ i) (kn ||| 2 ^ i ||| (befM ops.toList).getD i 0) false bid μ' e' h' a' w' (L.setIfInBounds i true) → K a' w') : wpOpIn (Fw rd) n X.P ops Q i K a w := by
  have hlt : i < L.size := by rw [j.lsz]; exact (Array.getElem?_eq_some_iff.1 ho).1
  have hnl : ¬ Ls L i := fun q => by have := j.lin i q; rw [hi] at this; cases this
  have hsame := j.same hready ho hlook
  have henv := j.envIs
  have up : ∀ {k}, Ls L k → Ls (L.setIfInBounds i true) k := fun q => Ls_set.2 (.inr q)
  have me : Ls (L.setIfInBounds i true) i := Ls_set.2 (.inl ⟨rfl, hlt⟩)
  have dn2 : ∀ {k}, ¬ Ls (L.setIfInBounds i true) k → k ≠ i ∧ ¬ Ls L k := fun q => ⟨fun r => q (Ls_set.2 (.inl ⟨r, hlt⟩)), fun r => q (up r)⟩
  have tb : ∀ k, (dn ||| 2 ^ i).testBit k = true ↔ dn.testBit k = true ∨ k = i := fun k => by
    rw [Nat.testBit_or, Bool.or_eq_true, Nat.testBit_two_pow]
    simp only [decide_eq_true_eq]
    constructor <;> (intro q; rcases q with q | q) <;> first | exact .inl q | exact .inr q.symm
  have knl : ∀ k, (kn ||| 2 ^ i ||| (befM ops.toList).getD i 0).testBit k = true → Ls (L.setIfInBounds i true) k := fun k q => by
    simp only [Nat.testBit_or, Bool.or_eq_true, Nat.testBit_two_pow, decide_eq_true_eq] at q
    rcases q with (q | q) | q
    · exact up (j.known k q)
    · subst q; exact me
    · exact up (reach_listed j.closed (bef_spec q) fun o' ho' ed hed hb => by rw [ho] at ho'; cases ho'; exact hready ed hed hb)
  unfold xstep at hx
  replace hx := sel_some hx
  obtain ⟨hd, hx⟩ := hx
  replace hx := ob_eq hx
  obtain ⟨wb, hw, hx⟩ := hx
  have hw' := want_spec henv ((want_congr hsame).trans hw)
  -- the state behind it
  have fin : ∀ (μ' : Mu) (w' : World) (h' : Heap) (v : AV), Rel μ' h' w' → Ext μ h w μ' h' w' → Ok μ' v →
      J X R0 N ops b0 μ0 h0 w0 a0 (dn ||| 2 ^ i) (kn ||| 2 ^ i ||| (befM ops.toList).getD i 0) false bid μ' (putE e o.dst v) h' (a.put o.dst (conc μ' v)) w' (L.setIfInBounds i true) := by
    intro μ' w' h' v r' x' ov
    have hle := x'.le j.rel
    have nolook : ∀ k ok, dn.testBit k = true → ¬ Ls L k → ops[k]? = some ok → ∀ t ∈ ok.looksAt ops, (putE e o.dst v).at t = e.at t := by
      intro k ok h1 h2 h3 t ht
      cases hdd : o.dst with
      | none => rfl
      | some d =>
        simp only [putE]
        rw [Tri.at_set_ne]
        intro q
        subst q
        rcases hwrite t hdd k ok h3 ht with q | q
        · have := j.befin k h1 i q; rw [hi] at this; cases this
        · rcases Ls_set.1 (knl k q) with ⟨rfl, _⟩ | q
          · rw [hi] at h1; cases h1
          · exact h2 q
    have atp : ∀ k ok u, dn.testBit k = true → ops[k]? = some ok → At e ok.dst u → At (putE e o.dst v) ok.dst u := by
      intro k ok u h1 h3 hat t ht
      have hki : k ≠ i := fun q => by subst q; rw [hi] at h1; cases h1
      cases hdd : o.dst with
      | none => exact hat t ht
      | some d =>
        simp only [putE]
        rw [Tri.at_set_ne]
        · exact hat t ht
        · intro q; subst q; exact hdst k ok t h3 hki hdd ht
    exact {
      rel := r'
      glob := j.glob.le hle
      good := j.good.ext x'
      sz := by rw [← j.sz]; cases o.dst <;> simp [Act.put]
      lsz := by rw [Array.size_setIfInBounds]; exact j.lsz
      lin := fun k q => by
        rw [tb]
        rcases Ls_set.1 q with ⟨rfl, _⟩ | q
        · exact .inr rfl
        · exact .inl (j.lin k q)
      closed := fun k ok q hok ed he hb => by
        rcases Ls_set.1 q with ⟨rfl, _⟩ | q
        · rw [ho] at hok; cases hok; exact up (hready ed he hb)
        · exact up (j.closed k ok q hok ed he hb)
      known := knl
      env := fun t u hu hc => by
        by_cases ht : o.dst = some t
        · rw [ht] at hu hd ⊢
          simp only [putE, Tri.at_set_same] at hu
          cases hu
          simp only [dstOk, blt_eq] at hd
          have hd := of_decide_eq_true hd
          refine ⟨ov, ?_⟩
          simp only [Act.put]
          rw [Array.getElem?_setIfInBounds_self, j.sz, if_pos hd]
        · have hu' : e.at t = some u := by
            cases hdd : o.dst with
            | none => rw [hdd] at hu; exact hu
            | some d =>
              rw [hdd] at hu
              simp only [putE] at hu
              rw [Tri.at_set_ne _ _ (by intro q; subst q; exact ht hdd)] at hu
              exact hu
          obtain ⟨q1, q2⟩ := j.env t u hu' fun k ok h1 h2 h3 => by
            rcases Ls_set.1 (hc k ok ((tb k).2 (.inl h1)) h2 h3) with ⟨rfl, _⟩ | q
            · rw [hi] at h1; cases h1
            · exact q
          obtain ⟨c1, c2⟩ := conc_le hle u q1
          refine ⟨c2, ?_⟩
          rw [c1]
          cases hdd : o.dst with
          | none => exact q2
          | some d =>
            simp only [Act.put]
            rw [Array.getElem?_setIfInBounds_ne (by intro q; subst q; exact ht hdd)]
            exact q2
      pend := fun k ok h1 h2 h3 => by
        obtain ⟨hne, hul⟩ := dn2 h2
        have h1 : dn.testBit k = true := by
          rcases (tb k).1 h1 with q | q
          · exact q
          · exact absurd q hne
        obtain ⟨p1, p2, p3⟩ := j.pend k ok h1 hul h3
        have nl := nolook k ok h1 hul h3
        refine ⟨p1, p2, ?_⟩
        rcases p3 with ⟨p3, p4⟩ | ⟨p3, p4⟩
        · exact .inl ⟨(want_congr nl).trans p3, atp k ok _ h1 h3 p4⟩
        · refine .inr ⟨(want_congr nl).trans p3, ?_⟩
          rcases p4 with ⟨u, q1, q2⟩ | ⟨q0, u, q1, q2⟩ | ⟨c, kk, ob, q3, q4, q5, q6, q7, q8, q9⟩
          · exact .inl ⟨u, fun h2 => (looks_xop nl).trans (q1 h2), atp k ok _ h1 h3 q2⟩
          · exact .inr (.inl ⟨q0, u, fun q => (by cases q), atp k ok _ h1 h3 q2⟩)
          · exact .inr (.inr ⟨c, kk, ob, q3, fun h2 => (looks_xop nl).trans (q4 h2), atp k ok _ h1 h3 q5, by rw [x'.old _ q9 q7]; exact q6, by rw [x'.mu _ q9]; exact q7, q8, Nat.lt_of_lt_of_le q9 x'.nx⟩)
      inj := fun k l ok ol h1 h2 h3 h4 h5 h6 h7 h8 h9 h10 => by
        obtain ⟨n3, u3⟩ := dn2 h3
        obtain ⟨n4, u4⟩ := dn2 h4
        have h1 : dn.testBit k = true := by
          rcases (tb k).1 h1 with q | q
          · exact q
          · exact absurd q n3
        have h2 : dn.testBit l = true := by
          rcases (tb l).1 h2 with q | q
          · exact q
          · exact absurd q n4
        exact j.inj k l ok ol h1 h2 u3 u4 h5 h6 h7 h8 ((want_congr (nolook k ok h1 u3 h5)).symm.trans h9) ((want_congr (nolook l ol h2 u4 h6)).symm.trans h10)
      looks := fun k ok h1 h2 h3 t ht l ol h4 h5 h6 => by
        obtain ⟨hne, hul⟩ := dn2 h2
        have h1 : dn.testBit k = true := by
          rcases (tb k).1 h1 with q | q
          · exact q
          · exact absurd q hne
        rcases (tb l).1 h4 with q | q
        · exact j.looks k ok h1 hul h3 t ht l ol q h5 h6
        · subst q
          rw [ho] at h5; cases h5
          rcases hwrite t h6 k ok h3 ht with q | q
          · exact q
          · exact absurd (knl k q) h2
      befin := fun k h1 l hl => by
        rw [tb]
        rcases (tb k).1 h1 with q | q
        · exact .inl (j.befin k q l hl)
        · subst q; exact .inl (hbef l hl)
      ext := j.ext.trans x'
      dfs := by rw [put_defers]; exact j.dfs }
  unfold wpOpIn
  simp only [ho, hw']
  cases wb with
  | true =>
    rw [sel_true] at hx
    replace hx := ob_eq hx
    obtain ⟨⟨v, h1⟩, hv, hx⟩ := hx
    cases hx
    rw [if_pos rfl]
    exact op_wpIn hX j.rel j.glob j.good henv ((looks_xop hsame).trans hv) fun μ' w' r' x' ov => hK _ _ _ (fin μ' w' _ v r' x' ov)
  | false =>
    rw [sel_false] at hx
    cases hx
    rw [if_neg (by decide)]
    refine ⟨fun _ _ => trivial, ?_⟩
    have ou : Ok μ (.tuple []) := by simp [Ok, OkL]
    have := hK μ _ w (fin μ w _ (.tuple []) j.rel (Ext.refl _ _ _ j.rel.lt) ou)
    simp only [conc, concL] at this
    exact this
end
end Go.Th

namespace Go.Th
section
variable {X : Cx} {R0 : Nat → Option Obj} {N n : Nat} {rd : Option Nat} {ops : Array Oper} {b0 : Nat} {μ0 μ μ' : Mu} {h0 h h' : Heap} {w0 w w' : World} {a0 a a' : Act} {dn kn : Nat} {strong : Bool} {bid : Nat → Nat} {e e' : Env} {L : Array Bool}
variable {Q : Exit → Act → World → Prop} {K : Act → World → Prop} {i : Nat} {o : Oper}

theorem all_range {n : Nat} {p : Nat → Bool} (h : ((List.range n).all p) = true) {k : Nat} (hk : k < n) : p k = true := (List.all_eq_true.1 h) k (List.mem_range.2 hk)
theorem looks_stat {bm done : Nat} (h : looksOk ops.toList bm done o = true) : ∀ t ∈ o.looksAt ops, ∀ k ok, done.testBit k = true → ops[k]? = some ok → ok.dst = some t → bm.testBit k = true := by
  intro t ht k ok h1 h2 h3
  unfold looksOk at h
  rw [Array.toArray_toList] at h
  have := all_range ((List.all_eq_true.1 h) t ht) (k := k) (by rw [Array.length_toList]; exact (Array.getElem?_eq_some_iff.1 h2).1)
  rw [Array.getElem?_toList, h2] at this
  simp only [h3, beq_self_eq_true, h1, Bool.and_self, if_true] at this
  exact this
theorem writes_stat {known : Nat} {bef : List Nat} (h : writesOk ops.toList bef known i o = true) : ∀ t, o.dst = some t → ∀ k ok, ops[k]? = some ok → t ∈ ok.looksAt ops → (bef.getD k 0).testBit i = true ∨ known.testBit k = true := by
  intro t ht k ok h2 h3
  unfold writesOk at h
  rw [ht, Array.toArray_toList] at h
  have := all_range h (k := k) (by rw [Array.length_toList]; exact (Array.getElem?_eq_some_iff.1 h2).1)
  rw [Array.getElem?_toList, h2] at this
  simp only [List.contains_iff_mem, h3, if_true, Bool.or_eq_true] at this
  exact this
theorem land_sub {x y : Nat} (h : (Nat.land x y == x) = true) {k : Nat} (hk : x.testBit k = true) : y.testBit k = true := by
  have h : x &&& y = x := eq_of_beq h
  rw [← h, Nat.testBit_and, Bool.and_eq_true] at hk
  exact hk.2
theorem dsts_stat (h : dstsOk ops.toList = true) {k : Nat} {ok : Oper} {t : Tmp} (ho : ops[i]? = some o) (h2 : ops[k]? = some ok) (hne : k ≠ i) (ht : o.dst = some t) : ok.dst ≠ some t := by
  intro h3
  unfold dstsOk at h
  have h1 := all_range h (k := i) (by rw [Array.length_toList]; exact (Array.getElem?_eq_some_iff.1 ho).1)
  have := all_range h1 (k := k) (by rw [Array.length_toList]; exact (Array.getElem?_eq_some_iff.1 h2).1)
  rw [Array.getElem?_toList, Array.getElem?_toList, ho, h2] at this
  simp only [ht, h3, beq_self_eq_true, Bool.not_true, Bool.or_false, beq_iff_eq] at this
  exact hne this.symm
theorem edges_stat (h : edgesOk ops.toList = true) (ho : ops[i]? = some o) {ed : Edge} (he : ed ∈ o.after.toList) (hb : Region.binds .any ed = true) : ed.on < i := by
  unfold edgesOk at h
  have := all_range h (k := i) (by rw [Array.length_toList]; exact (Array.getElem?_eq_some_iff.1 ho).1)
  rw [Array.getElem?_toList, ho] at this
  have := (List.all_eq_true.1 this) ed he
  simp only [hb, Bool.not_true, Bool.false_or, blt_eq, decide_eq_true_eq] at this
  exact this
theorem opCls_le (op : Op) : opCls op = 0 ∨ opCls op = 1 ∨ opCls op = 2 ∨ opCls op = 3 := by
  cases op <;> simp [opCls]
  split <;> simp

theorem bit_or (dn i k : Nat) : (dn ||| 2 ^ i).testBit k = true ↔ dn.testBit k = true ∨ k = i := by
  rw [Nat.testBit_or, Bool.or_eq_true, Nat.testBit_two_pow]
  simp only [decide_eq_true_eq]
  constructor <;> (intro q; rcases q with q | q) <;> first | exact .inl q | exact .inr q.symm

/-- the evaluation goes one operation ahead -/
theorem J.add (j : J X R0 N ops b0 μ0 h0 w0 a0 dn kn false bid μ e h a w L) (hi : dn.testBit i = false) (ho : ops[i]? = some o) (hdst : dstsOk ops.toList = true)
    (hbef : ∀ k, ((befM ops.toList).getD i 0).testBit k = true → dn.testBit k = true)
    (hlook : ∀ t ∈ o.looksAt ops, ∀ k ok, dn.testBit k = true → ops[k]? = some ok → ok.dst = some t → ((befM ops.toList).getD i 0).testBit k = true)
    (hwrite : ∀ t, o.dst = some t → ∀ k ok, ops[k]? = some ok → t ∈ ok.looksAt ops → ((befM ops.toList).getD k 0).testBit i = true ∨ kn.testBit k = true)
    {v : AV} {bid' : Nat → Nat} (hrel : Rel μ h' w) (hext : Ext μ0 h0 w0 μ h' w) (hgood : Good R0 μ h' w) (hob : ∀ b, b < h.nx → h'.ob.at b = h.ob.at b) (hnx : h.nx ≤ h'.nx) (hbid : ∀ k, k ≠ i → bid' k = bid k)
    (hpi : (∀ t ∈ o.looksAt ops, (putE e o.dst v).at t = e.at t) → Pend X N ops b0 false bid' μ (putE e o.dst v) h' i o) (hnew : opCls o.op = 2 → wantE (slotsOf ops.toList) e o = some true → h.nx ≤ bid' i) :
    J X R0 N ops b0 μ0 h0 w0 a0 (dn ||| 2 ^ i) kn false bid' μ (putE e o.dst v) h' a w L := by
  have hnl : ¬ Ls L i := fun q => by have := j.lin i q; rw [hi] at this; cases this
  have nolook : ∀ k ok, (dn.testBit k = true ∨ k = i) → ¬ Ls L k → ops[k]? = some ok → ∀ t ∈ ok.looksAt ops, (putE e o.dst v).at t = e.at t := by
    intro k ok h1 h2 h3 t ht
    cases hdd : o.dst with
    | none => rfl
    | some d =>
      simp only [putE]
      rw [Tri.at_set_ne]
      intro q
      subst q
      rcases hwrite t hdd k ok h3 ht with q | q
      · rcases h1 with h1 | h1
        · have := j.befin k h1 i q; rw [hi] at this; cases this
        · subst h1; have := hbef k q; rw [hi] at this; cases this
      · exact h2 (j.known k q)
  have atp : ∀ k ok u, k ≠ i → ops[k]? = some ok → At e ok.dst u → At (putE e o.dst v) ok.dst u := by
    intro k ok u hki h3 hat t ht
    cases hdd : o.dst with
    | none => exact hat t ht
    | some d =>
      simp only [putE]
      rw [Tri.at_set_ne]
      · exact hat t ht
      · intro q; subst q; exact dsts_stat hdst ho h3 hki hdd ht
  have split : ∀ k, (dn ||| 2 ^ i).testBit k = true → k ≠ i → dn.testBit k = true := fun k q hk => by
    rcases (bit_or dn i k).1 q with q | q
    · exact q
    · exact absurd q hk
  have made : ∀ k ok, dn.testBit k = true → ¬ Ls L k → ops[k]? = some ok → opCls ok.op = 2 → wantE (slotsOf ops.toList) e ok = some true → bid k < h.nx := by
    intro k ok h1 h2 h3 h4 h5
    obtain ⟨_, _, p3⟩ := j.pend k ok h1 h2 h3
    rcases p3 with ⟨q, _⟩ | ⟨_, ⟨u, q1, _⟩ | ⟨q, _⟩ | ⟨_, _, _, _, _, _, _, _, _, q9⟩⟩
    · rw [h5] at q; cases q
    · obtain ⟨kk, ob, r1, r2, _⟩ := cls2 h4 (q1 h)
      have := congrArg Heap.nx r2
      simp only [Heap.add] at this
      omega
    · rw [h4] at q; cases q
    · exact q9
  exact {
    rel := hrel
    glob := j.glob
    good := hgood
    sz := j.sz
    lsz := j.lsz
    lin := fun k q => (bit_or dn i k).2 (.inl (j.lin k q))
    closed := j.closed
    known := j.known
    env := fun t u hu hc => by
      by_cases ht : o.dst = some t
      · exact absurd (hc i o ((bit_or dn i i).2 (.inr rfl)) ho ht) hnl
      · have hu' : e.at t = some u := by
          cases hdd : o.dst with
          | none => rw [hdd] at hu; exact hu
          | some d =>
            rw [hdd] at hu
            simp only [putE] at hu
            rw [Tri.at_set_ne _ _ (by intro q; subst q; exact ht hdd)] at hu
            exact hu
        exact j.env t u hu' fun k ok h1 h2 h3 => hc k ok ((bit_or dn i k).2 (.inl h1)) h2 h3
    pend := fun k ok h1 h2 h3 => by
      by_cases hki : k = i
      · subst hki
        rw [ho] at h3; cases h3
        exact hpi (nolook k o (.inr rfl) h2 ho)
      · have h1 := split k h1 hki
        obtain ⟨p1, p2, p3⟩ := j.pend k ok h1 h2 h3
        have nl := nolook k ok (.inl h1) h2 h3
        refine ⟨p1, p2, ?_⟩
        rcases p3 with ⟨p3, p4⟩ | ⟨p3, p4⟩
        · exact .inl ⟨(want_congr nl).trans p3, atp k ok _ hki h3 p4⟩
        · refine .inr ⟨(want_congr nl).trans p3, ?_⟩
          rcases p4 with ⟨u, q1, q2⟩ | ⟨q0, u, q1, q2⟩ | ⟨c, kk, ob, q3, q4, q5, q6, q7, q8, q9⟩
          · exact .inl ⟨u, fun h2 => (looks_xop nl).trans (q1 h2), atp k ok _ hki h3 q2⟩
          · exact .inr (.inl ⟨q0, u, fun q => (by cases q), atp k ok _ hki h3 q2⟩)
          · rw [← hbid k hki] at q5 q6 q7 q8 q9
            exact .inr (.inr ⟨c, kk, ob, q3, fun h2 => (looks_xop nl).trans (q4 h2), atp k ok _ hki h3 q5, by rw [hob _ q9]; exact q6, q7, q8, Nat.lt_of_lt_of_le q9 hnx⟩)
    inj := fun k l ok ol h1 h2 h3 h4 h5 h6 h7 h8 h9 h10 hkl => by
      by_cases hki : k = i
      · subst hki
        have hli : l ≠ k := fun q => hkl q.symm
        have h2' := split l h2 hli
        rw [ho] at h5; cases h5
        have q1 := hnew h7 ((want_congr (nolook k o (.inr rfl) h3 ho)).symm.trans h9)
        have q2 := made l ol h2' h4 h6 h8 ((want_congr (nolook l ol (.inl h2') h4 h6)).symm.trans h10)
        rw [hbid l hli]; omega
      · have h1' := split k h1 hki
        have e9 := (want_congr (nolook k ok (.inl h1') h3 h5)).symm.trans h9
        by_cases hli : l = i
        · subst hli
          rw [ho] at h6; cases h6
          have q1 := hnew h8 ((want_congr (nolook l o (.inr rfl) h4 ho)).symm.trans h10)
          have q2 := made k ok h1' h3 h5 h7 e9
          rw [hbid k hki]; omega
        · have h2' := split l h2 hli
          rw [hbid k hki, hbid l hli]
          exact j.inj k l ok ol h1' h2' h3 h4 h5 h6 h7 h8 e9 ((want_congr (nolook l ol (.inl h2') h4 h6)).symm.trans h10) hkl
    looks := fun k ok h1 h2 h3 t ht l ol h4 h5 h6 => by
      by_cases hki : k = i
      · subst hki
        rw [ho] at h3; cases h3
        by_cases hli : l = k
        · subst hli
          rcases hwrite t (by rw [ho] at h5; cases h5; exact h6) l o ho ht with q | q
          · exact q
          · exact absurd (j.known l q) h2
        · exact hlook t ht l ol (split l h4 hli) h5 h6
      · have h1 := split k h1 hki
        by_cases hli : l = i
        · subst hli
          rcases hwrite t (by rw [ho] at h5; cases h5; exact h6) k ok h3 ht with q | q
          · exact q
          · exact absurd (j.known k q) h2
        · exact j.looks k ok h1 h2 h3 t ht l ol (split l h4 hli) h5 h6
    befin := fun k h1 l hl => by
      rw [bit_or]
      by_cases hki : k = i
      · subst hki; exact .inl (hbef l hl)
      · exact .inl (j.befin k (split k h1 hki) l hl)
    ext := hext
    dfs := j.dfs }

/-- memory that the machine has not made yet -/
theorem J.ghost (j : J X R0 N ops b0 μ0 h0 w0 a0 dn kn strong bid μ e h a w L) (ob : Ob) : Rel μ (h.add ob) w ∧ Ext μ0 h0 w0 μ (h.add ob) w ∧ Good R0 μ (h.add ob) w := by
  have hn : μ h.nx = none := by
    cases hm : μ h.nx with
    | none => rfl
    | some m => have := j.rel.mlt h.nx m hm; omega
  have g : ∀ x q, (h.add ob).ob.at x = some q → ∀ m, μ x = some m → x ≠ h.nx ∧ h.ob.at x = some q := by
    intro x q hq m hm
    have hx : x ≠ h.nx := fun r => by subst r; rw [hn] at hm; cases hm
    refine ⟨hx, ?_⟩
    simp only [Heap.add] at hq
    rw [Tri.at_set_ne _ _ hx] at hq
    exact hq
  have hnx := j.ext.nx
  refine ⟨⟨fun x q hq => ?_, fun x m hm => Nat.lt_succ_of_lt (j.rel.mlt x m hm), fun x q m hq hm => j.rel.ok x q m (g x q hq m hm).2 hm, fun x y o1 o2 m1 m2 e1 e2 f1 f2 => j.rel.inj x y o1 o2 m1 m2 (g x o1 e1 m1 f1).2 (g y o2 e2 m2 f2).2 f1 f2, j.rel.bnd⟩,
    ⟨Nat.le_succ_of_le hnx, j.ext.mu, fun x hx hm => ?_, fun x q hx hq => ?_, fun x q m hx hq hm => j.ext.newb x q m hx (g x q hq m hm).2 hm, j.ext.size, j.ext.kept, j.ext.os, j.ext.tape, j.ext.output⟩,
    ⟨j.good.here, fun x q m hq hr hm => j.good.sep x q m (g x q hq m hm).2 hr hm⟩⟩
  · simp only [Heap.add, Tri.at_set] at hq ⊢
    by_cases hx : x = h.nx
    · omega
    · rw [if_neg hx] at hq
      have := j.rel.lt x q hq
      omega
  · simp only [Heap.add]
    rw [Tri.at_set_ne _ _ (by omega)]
    exact j.ext.old x hx hm
  · simp only [Heap.add] at hq
    rw [Tri.at_set_ne _ _ (by omega)] at hq
    exact j.ext.live x q hx hq

theorem J.runs (hb0 : b0 = h0.nx) (hdst : dstsOk ops.toList = true) : ∀ (l : List Nat) (dn dn' : Nat) (bid : Nat → Nat) (e : Env) (h : Heap), J X R0 N ops b0 μ0 h0 w0 a0 dn kn false bid μ e h a w L →
    runsOk ops.toList (befM ops.toList) kn l dn = some dn' → xruns X N (slotsOf ops.toList) ops.toList l e h = some (e', h') → ∃ bid', J X R0 N ops b0 μ0 h0 w0 a0 dn' kn false bid' μ e' h' a w L := by
  intro l
  induction l with
  | nil => intro dn dn' bid e h j h1 h2; cases h1; cases h2; exact ⟨bid, j⟩
  | cons i l ih =>
    intro dn dn' bid e h j h1 h2
    unfold runsOk at h1
    unfold xruns at h2
    replace h2 := ob_eq h2
    obtain ⟨o, ho, h2⟩ := h2
    rw [ho] at h1
    simp only at h1
    split at h1
    · rename_i hc
      simp only [Bool.and_eq_true, Bool.not_eq_true', bne_iff_ne, ne_eq] at hc
      obtain ⟨⟨⟨⟨c1, c2⟩, c3⟩, c4⟩, c5⟩ := hc
      rw [Array.getElem?_toList] at ho
      replace h2 := ob_eq h2
      obtain ⟨⟨e1, h1'⟩, hs, h2⟩ := h2
      have hbef : ∀ k, ((befM ops.toList).getD i 0).testBit k = true → dn.testBit k = true := fun k hk => land_sub c3 hk
      have hlook := looks_stat c4
      have hwrite := writes_stat c5
      unfold xstepN at hs
      replace hs := ob_eq hs
      obtain ⟨⟨e2, h2'⟩, hst, hs⟩ := hs
      have hst0 := hst
      unfold xstep at hst
      replace hst := sel_some hst
      obtain ⟨hd, hst⟩ := hst
      replace hst := ob_eq hst
      obtain ⟨b, hw, hst⟩ := hst
      have c2' : (opCls o.op == 3) = false := by simpa using c2
      cases b with
      | false =>
        rw [sel_false] at hst
        cases hst
        have hh : e1 = putE e o.dst (.tuple []) ∧ h1' = h := by
          split at hs
          · replace hs := sel_some hs
            cases hs.2; exact ⟨rfl, rfl⟩
          · cases hs; exact ⟨rfl, rfl⟩
        obtain ⟨rfl, rfl⟩ := hh
        refine ih _ dn' bid _ _ (j.add (bid' := bid) c1 ho hdst hbef hlook hwrite j.rel j.ext j.good (fun _ _ => rfl) (Nat.le_refl _) (fun _ _ => rfl) (fun nl => ?_) (fun _ q => by rw [hw] at q; cases q)) h1 h2
        refine ⟨hd, c2', .inl ⟨(want_congr nl).trans hw, fun t ht => ?_⟩⟩
        rw [ht]; simp only [putE, Tri.at_set_same]
      | true =>
        rw [sel_true] at hst
        replace hst := ob_eq hst
        obtain ⟨⟨v, h3⟩, hv, hst⟩ := hst
        cases hst
        have hat : At (putE e o.dst v) o.dst v := fun t ht => by rw [ht]; simp only [putE, Tri.at_set_same]
        rcases opCls_le o.op with hc | hc | hc | hc
        · obtain ⟨rfl, hall⟩ := cls0 hc hv
          rw [hc] at hs
          cases hs
          refine ih _ dn' bid _ _ (j.add (bid' := bid) c1 ho hdst hbef hlook hwrite j.rel j.ext j.good (fun _ _ => rfl) (Nat.le_refl _) (fun _ _ => rfl) (fun nl => ?_) (fun q => by rw [hc] at q; cases q)) h1 h2
          exact ⟨hd, c2', .inr ⟨(want_congr nl).trans hw, .inl ⟨v, fun h2 => (looks_xop nl).trans (hall h2), hat⟩⟩⟩
        · rw [hc] at hs
          replace hs := sel_some hs
          obtain ⟨hn, hs⟩ := hs
          cases hs
          have := cls1 hc hv (Nat.eq_of_beq_eq_true hn)
          subst this
          refine ih _ dn' bid _ _ (j.add (bid' := bid) c1 ho hdst hbef hlook hwrite j.rel j.ext j.good (fun _ _ => rfl) (Nat.le_refl _) (fun _ _ => rfl) (fun nl => ?_) (fun q => by rw [hc] at q; cases q)) h1 h2
          exact ⟨hd, c2', .inr ⟨(want_congr nl).trans hw, .inr (.inl ⟨hc, v, fun q => (by cases q), hat⟩)⟩⟩
        · rw [hc] at hs
          cases hs
          obtain ⟨k, ob, rfl, rfl, hro, hall⟩ := cls2 hc hv
          obtain ⟨g1, g2, g3⟩ := j.ghost ob
          refine ih _ dn' (fun x => if x = i then h.nx else bid x) _ _ (j.add (bid' := fun x => if x = i then h.nx else bid x) c1 ho hdst hbef hlook hwrite g1 g2 g3 (fun b hb => ?_) (Nat.le_succ _) (fun x hx => if_neg hx) (fun nl => ?_) (fun _ _ => ?_)) h1 h2
          · simp only [Heap.add]; rw [Tri.at_set_ne _ _ (by omega)]
          · refine ⟨hd, c2', .inr ⟨(want_congr nl).trans hw, .inr (.inr ⟨hc, k, ob, hro, fun h2 => (looks_xop nl).trans (hall h2), ?_, ?_, ?_, ?_, ?_⟩)⟩⟩
            · simp only [if_true]; exact hat
            · simp only [if_true, Heap.add, Tri.at_set_same]
            · simp only [if_true]
              cases hm : μ h.nx with
              | none => rfl
              | some m => have := j.rel.mlt h.nx m hm; omega
            · simp only [if_true]; rw [hb0]; exact j.ext.nx
            · simp only [if_true, Heap.add]; exact Nat.lt_succ_self _
          · simp only [if_true]; exact Nat.le_refl _
        · exact absurd hc c2
    · cases h1

theorem xchks_spec {l : List Nat} (hx : xchks X (slotsOf ops.toList) ops.toList l e h = true) : ∀ i ∈ l, ∃ o, ops[i]? = some o ∧ xchk X (slotsOf ops.toList) o e h = true := by
  induction l with
  | nil => intro i hi; cases hi
  | cons x l ih =>
    intro i hi
    unfold xchks at hx
    cases ho : ops.toList[x]? with
    | none => rw [ho] at hx; cases hx
    | some o =>
      rw [ho] at hx
      simp only at hx
      rw [sel_eq] at hx
      split at hx
      · rename_i hc
        rcases List.mem_cons.1 hi with rfl | hi
        · exact ⟨o, by rw [← Array.getElem?_toList]; exact ho, hc⟩
        · exact ih hx i hi
      · cases hx

theorem J.firm (j : J X R0 N ops b0 μ0 h0 w0 a0 dn kn false bid μ e h a w L) {chk : List Nat} (hx : xchks X (slotsOf ops.toList) ops.toList chk e h = true)
    (hc : ∀ r o, ops[r]? = some o → opCls o.op = 1 → dn.testBit r = true → kn.testBit r = true ∨ r ∈ chk) : J X R0 N ops b0 μ0 h0 w0 a0 dn kn true bid μ e h a w L := by
  refine { j with pend := fun i o h1 h2 h3 => ?_ }
  obtain ⟨p1, p2, p3⟩ := j.pend i o h1 h2 h3
  refine ⟨p1, p2, ?_⟩
  rcases p3 with p3 | ⟨p3, p4 | ⟨q0, v, _, q2⟩ | p4⟩
  · exact .inl p3
  · exact .inr ⟨p3, .inl p4⟩
  · have hi : i ∈ chk := by
      rcases hc i o h3 q0 h1 with q | q
      · exact absurd (j.known i q) h2
      · exact q
    obtain ⟨o', ho', hk⟩ := xchks_spec hx i hi
    rw [h3] at ho'; cases ho'
    unfold xchk at hk
    rw [p3] at hk
    simp only at hk
    cases hv : xop X o.op e h with
    | none => rw [hv] at hk; cases hk
    | some r =>
      obtain ⟨u, h'⟩ := r
      rw [hv] at hk
      simp only [sel_eq] at hk
      split at hk
      · rename_i hn
        have := cls1 q0 hv (Nat.eq_of_beq_eq_true hn)
        subst this
        cases hd : o.dst with
        | none => exact .inr ⟨p3, .inr (.inl ⟨q0, u, fun _ => rfl, fun t ht => (by cases ht)⟩)⟩
        | some d =>
          rw [hd] at hk
          simp only at hk
          rw [q2 d hd] at hk
          have := avEq_spec 4 v u hk
          subst this
          exact .inr ⟨p3, .inr (.inl ⟨q0, v, fun _ => rfl, fun t ht => q2 t (by rw [hd]; exact ht)⟩)⟩
      · cases hk
  · exact .inr ⟨p3, .inr (.inr p4)⟩
end
end Go.Th

namespace Go.Th
section
variable {X : Cx} {R0 : Nat → Option Obj} {N n : Nat} {rd : Option Nat} {ops : Array Oper} {b0 : Nat} {μ0 μ μ' : Mu} {h0 h h' : Heap} {w0 w w' : World} {a0 a a' : Act} {dn kn : Nat} {strong : Bool} {bid : Nat → Nat} {e e' : Env} {L : Array Bool}
variable {Q : Exit → Act → World → Prop} {K : Act → World → Prop} {i : Nat} {o : Oper}

/-- what is left of a plan behind what does not act -/
def Tail (X : Cx) (N : Nat) (ops : Array Oper) (e' : Env) (h' : Heap) (act : Option Nat) (l : List Phase) (dn kn : Nat) (e : Env) (h : Heap) : Prop := match act with
  | none => (∀ r, r < ops.size → dn.testBit r = true) ∧ e = e' ∧ h = h'
  | some c => ∃ o, ops[c]? = some o ∧ dn.testBit c = false ∧ (∀ k, ((befM ops.toList).getD c 0).testBit k = true → dn.testBit k = true) ∧ looksOk ops.toList ((befM ops.toList).getD c 0) dn o = true ∧
      writesOk ops.toList (befM ops.toList) (kn ||| 2 ^ c ||| (befM ops.toList).getD c 0) c o = true ∧ (∀ r, r < ops.size → dn.testBit r = true ∨ r = c ∨ ((befM ops.toList).getD r 0).testBit c = true) ∧
      phasesOk ops.toList (befM ops.toList) l (dn ||| 2 ^ c) (kn ||| 2 ^ c ||| (befM ops.toList).getD c 0) = true ∧
      ∃ e2 h2, xstep X N (slotsOf ops.toList) o e h = some (e2, h2) ∧ xphases X N (slotsOf ops.toList) ops.toList l e2 h2 = some (e', h')

theorem J.enter (hb0 : b0 = h0.nx) (hdst : dstsOk ops.toList = true) (j : J X R0 N ops b0 μ0 h0 w0 a0 dn kn false bid μ e h a w L) {ps : List Phase} (hp : phasesOk ops.toList (befM ops.toList) ps dn kn = true)
    (hx : xphases X N (slotsOf ops.toList) ops.toList ps e h = some (e', h')) :
    ∃ dn' bid' e1 h1 act l, J X R0 N ops b0 μ0 h0 w0 a0 dn' kn true bid' μ e1 h1 a w L ∧ Tail X N ops e' h' act l dn' kn e1 h1 := by
  cases ps with
  | nil => cases hp
  | cons p l =>
    unfold phasesOk at hp
    unfold xphases at hx
    cases hr : runsOk ops.toList (befM ops.toList) kn p.run dn with
    | none => rw [hr] at hp; cases hp
    | some dn' =>
      rw [hr] at hp
      simp only [Bool.and_eq_true] at hp
      obtain ⟨hchk, hp⟩ := hp
      replace hx := ob_eq hx
      obtain ⟨⟨e1, h1⟩, hrun, hx⟩ := hx
      replace hx := sel_some hx
      obtain ⟨hck, hx⟩ := hx
      obtain ⟨bid', j'⟩ := J.runs hb0 hdst p.run dn dn' bid e h j hr hrun
      have j' := j'.firm hck fun r o ho hc hd => by
        have := all_range hchk (k := r) (by rw [Array.length_toList]; exact (Array.getElem?_eq_some_iff.1 ho).1)
        rw [Array.getElem?_toList, ho] at this
        simp only [hc, beq_self_eq_true, Bool.not_true, Bool.false_or, hd, Bool.or_eq_true, List.contains_iff_mem] at this
        exact this
      refine ⟨dn', bid', e1, h1, p.act, l, j', ?_⟩
      cases ha : p.act with
      | none =>
        rw [ha] at hp hx
        simp only [Bool.and_eq_true] at hp
        cases hx
        exact ⟨fun r hr => all_range hp.2 (by rw [Array.length_toList]; exact hr), rfl, rfl⟩
      | some c =>
        rw [ha] at hp hx
        simp only at hp hx
        replace hx := ob_eq hx
        obtain ⟨o, ho, hx⟩ := hx
        rw [ho] at hp
        simp only [Bool.and_eq_true, Bool.not_eq_true'] at hp
        obtain ⟨⟨⟨⟨⟨q1, q2⟩, q3⟩, q4⟩, q5⟩, q6⟩ := hp
        replace hx := ob_eq hx
        obtain ⟨⟨e2, h2⟩, hs, hx⟩ := hx
        refine ⟨o, by rw [← Array.getElem?_toList]; exact ho, q1, fun k hk => land_sub q2 hk, q3, q4, fun r hr => ?_, q6, e2, h2, hs, hx⟩
        have := all_range q5 (k := r) (by rw [Array.length_toList]; exact hr)
        simp only [Bool.or_eq_true, beq_iff_eq] at this
        rcases this with (q | q) | q
        · exact .inl q
        · exact .inr (.inl q)
        · exact .inr (.inr q)

theorem getD_tf {L : Array Bool} {i : Nat} (h : L.getD i true = false) : i < L.size ∧ ¬ Ls L i := by
  rw [Array.getD_eq_getD_getElem?] at h
  cases hq : L[i]? with
  | none => rw [hq] at h; cases h
  | some b =>
    rw [hq] at h
    have hb : b = false := h
    subst hb
    refine ⟨(Array.getElem?_eq_some_iff.1 hq).1, ?_⟩
    unfold Ls
    rw [Array.getD_eq_getD_getElem?, hq]
    simp
theorem getD_ft {L : Array Bool} {i : Nat} (hi : i < L.size) (h : ¬ Ls L i) : L.getD i true = false := by
  unfold Ls at h
  rw [Array.getD_eq_getD_getElem?] at h ⊢
  rw [Array.getElem?_eq_getElem hi] at h ⊢
  simpa using h
theorem count_set {L : Array Bool} {i : Nat} (hi : i < L.size) (h : ¬ Ls L i) : (L.setIfInBounds i true).toList.count true = L.toList.count true + 1 := by
  have hf : L.toList[i]'(by simpa using hi) = false := by
    unfold Ls at h
    rw [Array.getD_eq_getD_getElem?, Array.getElem?_eq_getElem hi] at h
    simpa using h
  rw [Array.toList_setIfInBounds, List.count_set (by simpa using hi), hf]
  simp
theorem count_full {L : Array Bool} (h : L.toList.count true = L.size) : ∀ i, i < L.size → Ls L i := by
  intro i hi
  rw [← Array.length_toList, List.count_eq_length] at h
  have := h (L.toList[i]'(by simpa using hi)) (List.getElem_mem _)
  unfold Ls
  rw [Array.getD_eq_getD_getElem?, Array.getElem?_eq_getElem hi]
  simpa using this.symm

theorem J.main (hX : CxOk X R0) (hb0 : b0 = h0.nx) (r0 : Rel μ0 h0 w0) (hdst : dstsOk ops.toList = true) (hedge : edgesOk ops.toList = true)
    (hQ : ∀ μ a w, Inv X R0 N μ e' h' a w → Ext μ0 h0 w0 μ h' w → a.defers = a0.defers → Q .normal a w) :
    ∀ (fuel dn kn : Nat) (bid : Nat → Nat) (μ : Mu) (e : Env) (h : Heap) (a : Act) (w : World) (L : Array Bool) (act : Option Nat) (l : List Phase), J X R0 N ops b0 μ0 h0 w0 a0 dn kn true bid μ e h a w L →
      Tail X N ops e' h' act l dn kn e h → L.toList.count true + fuel = ops.size → wpAnyIn (Fw rd) n X.P .any ops Q fuel L a w := by
  intro fuel
  induction fuel with
  | zero =>
    intro dn kn bid μ e h a w L act l j ht hc
    have hall : ∀ i, i < L.size → Ls L i := count_full (by rw [j.lsz]; exact hc)
    have hr : Region.ready .any ops L = [] := by
      refine List.eq_nil_iff_forall_not_mem.2 fun i hi => ?_
      obtain ⟨q1, q2⟩ := getD_tf (mem_ready.1 hi).1
      exact q2 (hall i q1)
    refine ⟨hr, ?_⟩
    cases act with
    | some c =>
      obtain ⟨o, ho, hd, _⟩ := ht
      have := j.lin c (hall c (by rw [j.lsz]; exact (Array.getElem?_eq_some_iff.1 ho).1))
      rw [hd] at this; cases this
    | none =>
      obtain ⟨_, rfl, rfl⟩ := ht
      refine hQ μ a w ⟨j.rel, j.glob, j.good, j.sz, fun t v hv => j.env t v hv fun k ok _ hk _ => hall k (by rw [j.lsz]; exact (Array.getElem?_eq_some_iff.1 hk).1)⟩ j.ext j.dfs
  | succ fuel ih =>
    intro dn kn bid μ e h a w L act l j ht hc
    refine ⟨fun hr => ?_, fun i hi => ?_⟩
    · exfalso
      have hall : ∀ i, i < ops.size → Ls L i := by
        intro i
        induction i using Nat.strongRecOn with
        | _ i ihi =>
          intro hi
          refine Classical.byContradiction fun hn => ?_
          have : i ∈ Region.ready .any ops L := mem_ready.2 ⟨getD_ft (by rw [j.lsz]; exact hi) hn, ops[i], Array.getElem?_eq_getElem hi, fun ed he hb => by
            have hlt := edges_stat hedge (Array.getElem?_eq_getElem hi) (Array.mem_toList_iff.2 he) hb
            exact ihi ed.on hlt (by omega)⟩
          rw [hr] at this; cases this
      have hfull : L.toList.count true = ops.size := by
        rw [← j.lsz, ← Array.length_toList, List.count_eq_length]
        intro b hb
        obtain ⟨k, hk, rfl⟩ := List.mem_iff_getElem.1 hb
        have hk' : k < L.size := by simpa using hk
        have := hall k (by rw [← j.lsz]; exact hk')
        unfold Ls at this
        rw [Array.getD_eq_getD_getElem?, Array.getElem?_eq_getElem hk'] at this
        simpa using this.symm
      omega
    · obtain ⟨hlf, o, ho, hdep⟩ := mem_ready.1 hi
      obtain ⟨hlt, hul⟩ := getD_tf hlf
      have hready : ∀ ed ∈ o.after.toList, Region.binds .any ed = true → Ls L ed.on := fun ed he hb => hdep ed (Array.mem_toList_iff.1 he) hb
      have hcnt := count_set hlt hul
      cases hd : dn.testBit i with
      | true =>
        exact j.pick hX hb0 r0 hd hul ho hready fun μ' a' w' j' => ih dn kn bid μ' e h a' w' _ act l j' ht (by rw [hcnt]; omega)
      | false =>
        have hisz : i < ops.size := by rw [← j.lsz]; exact hlt
        cases act with
        | none => have := ht.1 i hisz; rw [hd] at this; cases this
        | some c =>
          obtain ⟨oc, hoc, q1, q2, q3, q4, q5, q6, e2, h2, q7, q8⟩ := ht
          have hic : i = c := by
            rcases q5 i hisz with q | q | q
            · rw [hd] at q; cases q
            · exact q
            · exfalso
              have hl : Ls L c := reach_listed j.closed (bef_spec q) fun o' ho' ed hed hb => by
                rw [ho] at ho'; cases ho'; exact hready ed hed hb
              have := j.lin c hl
              rw [q1] at this; cases this
          subst hic
          rw [ho] at hoc; cases hoc
          refine j.act hX hd ho hready q2 (looks_stat q3) (writes_stat q4) (fun k ok t hk hne ht => dsts_stat hdst ho hk hne ht) q7 fun μ' a' w' j' => ?_
          obtain ⟨dn', bid', e1, h1, act', l', j2, ht2⟩ := j'.enter hb0 hdst q6 q8
          exact ih dn' _ bid' μ' e1 h1 a' w' _ act' l' j2 ht2 (by rw [hcnt]; omega)

theorem drawn_spec (hX : CxOk X R0) (hm : X.P.follows .mixedOrders = true) (inv : Inv X R0 N μ e h a w) {ps : List Phase} (hp : planOk ops.toList ps = true) (hx : xphases X N (slotsOf ops.toList) ops.toList ps e h = some (e', h'))
    {id : Nat} (hK : Onward X R0 N μ h a w e' h' (Q .normal)) : (Code.region id ops true).wpIn (Fw rd) n X.P Q a w := by
  refine wpIn_region_any hm ?_
  unfold planOk at hp
  simp only [Bool.and_eq_true] at hp
  obtain ⟨⟨hdst, hedge⟩, hph⟩ := hp
  obtain ⟨r1, x1⟩ := inv.rel.same (w' := { w with drawn := w.drawn + 1 }) rfl rfl rfl rfl
  have nols : ∀ i, ¬ Ls (Array.replicate ops.size false) i := fun i q => by
    unfold Ls at q
    rw [Array.getD_eq_getD_getElem?, Array.getElem?_replicate] at q
    split at q <;> cases q
  have j0 : J X R0 N ops h.nx μ h { w with drawn := w.drawn + 1 } a 0 0 false (fun _ => 0) μ e h a { w with drawn := w.drawn + 1 } (Array.replicate ops.size false) := {
    rel := r1
    glob := inv.glob
    good := inv.good.ext x1
    sz := inv.env.1
    lsz := Array.size_replicate
    lin := fun i q => absurd q (nols i)
    closed := fun i _ q => absurd q (nols i)
    known := fun i q => by simp at q
    env := fun t v hv _ => inv.env.2 t v hv
    pend := fun i _ q => by simp at q
    inj := fun i _ _ _ q => by simp at q
    looks := fun i _ q => by simp at q
    befin := fun i q => by simp at q
    ext := Ext.refl _ _ _ r1.lt
    dfs := rfl }
  obtain ⟨dn', bid', e1, h1, act, l, j1, ht⟩ := j0.enter rfl hdst hph hx
  refine J.main hX rfl r1 hdst hedge (fun μ' a' w' inv' x' hd' => hK μ' a' w' inv' (x1.trans x') hd') ops.size dn' 0 bid' μ e1 h1 a _ _ act l j1 ht ?_
  have : (Array.replicate ops.size false).toList.count true = 0 := by
    rw [List.count_eq_zero]
    intro q
    simp at q
  omega

/-- a region, drawn or not -/
theorem region_spec (hX : CxOk X R0) (hm : X.P.follows .mixedOrders = true) (inv : Inv X R0 N μ e h a w) {draw : Bool} (hx : xregion X N ops.toList draw e h = some (e', h'))
    {id : Nat} (hK : Onward X R0 N μ h a w e' h' (Q .normal)) : (Code.region id ops draw).wpIn (Fw rd) n X.P Q a w := by
  unfold xregion at hx
  cases draw with
  | true =>
    rw [sel_true] at hx
    replace hx := sel_some hx
    exact drawn_spec hX hm inv hx.1 hx.2 hK
  | false =>
    rw [sel_false] at hx
    refine wpIn_region ?_
    have := steps_spec (Q := Q) (n := n) (rd := rd) hX ops.toList 0 μ e h a w (by simp) inv hx hK
    rw [Array.length_toList] at this
    rw [List.range_eq_range']
    exact this
end
end Go.Th

namespace Go.Th
section
variable {X : Cx} {R0 : Nat → Option Obj} {N n lim : Nat} {rd : Option Nat} {μ μ' : Mu} {h h' : Heap} {w w' : World} {a a' : Act} {e e' : Env} {B : Nat}
variable {Q : Exit → Act → World → Prop}

/-! ## The marks of ranges over functions, among what is deferred -/
def markOf (r : Nat) : Deferred := { target := .collected r, args := #[] }
def Marks (B : Nat) (a : Act) (w : World) : Prop := ∃ rs : List Nat, a.defers = rs.map markOf ∧ rs.Nodup ∧ ∀ r ∈ rs, B ≤ r ∧ w.heap[r]? = some (.deferred (some []))
theorem not_told {o : Ob} {m : BM} (h : ObRel μ m w o) {d : Option (List Deferred)} : w.heap[m.β]? ≠ some (.deferred d) := by
  intro q
  cases o with
  | cells elem n cs ro dyn fz esz sish => obtain ⟨c, el, lo, hi, h1, _⟩ := h; rw [h1] at q; cases q
  | map es => obtain ⟨l, k, h1, _⟩ := h; rw [h1] at q; cases q
  | loop st pd env N ps as bd => obtain ⟨r, h1, _⟩ := h; rw [h1] at q; cases q
theorem Ext.defer (x : Ext μ h w μ' h' w') (r : Rel μ h w) {k : Nat} {d : Option (List Deferred)} (hk : w.heap[k]? = some (.deferred d)) : w'.heap[k]? = some (.deferred d) := by
  rw [x.kept k (Array.getElem?_eq_some_iff.1 hk).1 fun b o m hb _ hm hβ => ?_]
  · exact hk
  · subst hβ; exact not_told (r.ok b o m hb hm) hk
theorem Marks.ext (mk : Marks B a w) (r : Rel μ h w) (x : Ext μ h w μ' h' w') (hd : a'.defers = a.defers) : Marks B a' w' := by
  obtain ⟨rs, h1, h2, h3⟩ := mk
  exact ⟨rs, hd.trans h1, h2, fun k hk => ⟨(h3 k hk).1, x.defer r (h3 k hk).2⟩⟩

/-- a told block is told no more; it may turn -/
theorem Rel.forget (r : Rel μ h w) {b : Nat} {o : Ob} {m : BM} (e : h.ob.at b = some o) (em : μ b = some m) (hro : o.ro = false)
    (hsz : w'.heap.size = w.heap.size) (hoth : ∀ β, β ≠ m.β → w'.heap[β]? = w.heap[β]?) (h1 : w'.os = w.os) (h2 : w'.tape = w.tape) (h3 : w'.output = w.output) :
    Rel μ (h.upd b none) w' ∧ Ext μ h w μ (h.upd b none) w' := by
  have g : ∀ x q, (h.upd b none).ob.at x = some q → x ≠ b ∧ h.ob.at x = some q := by
    intro x q e'
    simp only [Heap.upd, Tri.at_set] at e'
    by_cases hx : x = b
    · rw [if_pos hx] at e'; cases e'
    · rw [if_neg hx] at e'; exact ⟨hx, e'⟩
  refine ⟨⟨fun x q e => r.lt x q (g x q e).2, r.mlt, fun x q mx hq hm => ?_, fun x y o1 o2 m1 m2 e1 e2 => r.inj x y o1 o2 m1 m2 (g _ _ e1).2 (g _ _ e2).2, fun x mx hm => by rw [hsz]; exact r.bnd x mx hm⟩,
    ⟨Nat.le_refl _, fun _ _ => rfl, ?_, fun x q _ e => ⟨q, (g x q e).2, rfl⟩, fun x q m hx e _ => by have := r.lt x q (g x q e).2; have hx2 : h.nx ≤ x := hx; omega, by omega, fun β hβ hno => hoth β fun hb => hno b o m e hro em hb.symm, h1, h2, h3⟩⟩
  · obtain ⟨hne, hq⟩ := g x q hq
    exact ObRel.mono (Mu.le_refl _) (hoth _ fun hβ => hne (r.inj x b q o mx m hq e hm em hβ)) (r.ok x q mx hq hm)
  · intro x hx hn
    simp only [Heap.upd]
    rw [Tri.at_set_ne]
    intro hxb; subst hxb; rw [em] at hn; cases hn

/-- a block that is told of nowhere -/
theorem Rel.pushOther (r : Rel μ h w) (Xo : Obj) : Rel μ h (pushed w Xo) ∧ Ext μ h w μ h (pushed w Xo) := by
  refine ⟨⟨r.lt, r.mlt, fun x q mx hq hm => ObRel.mono (Mu.le_refl _) (pushed_old w Xo (r.bnd x mx hm)) (r.ok x q mx hq hm), r.inj, fun x mx hm => by rw [pushed_size]; exact Nat.lt_succ_of_lt (r.bnd x mx hm)⟩,
    ⟨Nat.le_refl _, fun _ _ => rfl, fun _ _ _ => rfl, fun _ o _ e => ⟨o, e, rfl⟩, fun b o m hb e _ => by have := r.lt b o e; omega, by rw [pushed_size]; omega, fun β hβ _ => pushed_old w Xo hβ, rfl, rfl, rfl⟩⟩

theorem Inv.ext (inv : Inv X R0 N μ e h a w) (r : Rel μ' h' w') (x : Ext μ h w μ' h' w') (ht : a'.tmps = a.tmps) : Inv X R0 N μ' e h' a' w' :=
  ⟨r, inv.glob.le (x.le inv.rel), inv.good.ext x, by rw [ht]; exact inv.env.le (x.le inv.rel)⟩

/-- what a walk of code comes to -/
abbrev Cont (X : Cx) (R0 : Nat → Option Obj) (N B : Nat) (μ : Mu) (h : Heap) (w : World) (k : K) (r : AV × Heap) (q : Act → World → Prop) : Prop :=
  ∀ μ' e' h' a' w', k e' h' = some r → Inv X R0 N μ' e' h' a' w' → Ext μ h w μ' h' w' → Marks B a' w' → q a' w'

/-- the frame's round, if it is one -/
def RdOk (rd rc : Option Nat) (μ : Mu) : Prop := match rd with
  | none => rc = none
  | some l => ∃ m, μ l = some m ∧ rc = some m.β
theorem RdOk.ext {rc : Option Nat} (hr : RdOk rd rc μ) (hle : μ.le μ') : RdOk rd rc μ' := by
  cases rd with
  | none => exact hr
  | some l => obtain ⟨m, h1, h2⟩ := hr; exact ⟨m, hle l m h1, h2⟩

theorem run_spec (hX : CxOk X R0) (hm : X.P.follows .mixedOrders = true) {rc : Option Nat} (r : AV × Heap) : ∀ (c : Code) (kn : K) (kx : Nat → K) (kr : K) (Q : Exit → Act → World → Prop) (μ : Mu) (e : Env) (h : Heap) (a : Act) (w : World),
    run X N lim rd c kn kx kr e h = some r → Inv X R0 N μ e h a w → RdOk rd rc μ → Marks B a w → B ≤ w.heap.size →
    Cont X R0 N B μ h w kn r (Q .normal) → (∀ i, Cont X R0 N B μ h w (kx i) r (Q (.exit i))) → Cont X R0 N B μ h w kr r (Q .ret) → c.wpIn (Fw rc) n X.P Q a w := by
  intro c
  induction c with
  | skip =>
    intro kn kx kr Q μ e h a w hx inv hr mk hB hn _ _
    exact wpIn_skip (hn μ e h a w hx inv (Ext.refl _ _ _ inv.rel.lt) mk)
  | region id ops draw =>
    intro kn kx kr Q μ e h a w hx inv hr mk hB hn _ _
    unfold run at hx
    replace hx := ob_eq hx
    obtain ⟨⟨e1, h1⟩, hreg, hx⟩ := hx
    exact region_spec hX hm inv hreg fun μ' a' w' inv' x' hd => hn μ' e1 h1 a' w' hx inv' x' (mk.ext inv.rel x' hd)
  | seq x y ihx ihy =>
    intro kn kx kr Q μ e h a w hx inv hr mk hB hn hxx hrr
    unfold run at hx
    refine wpIn_seq (ihx _ kx kr _ μ e h a w hx inv hr mk hB ?_ hxx hrr)
    intro μ1 e1 h1 a1 w1 hx1 inv1 x1 mk1
    exact ihy kn kx kr Q μ1 e1 h1 a1 w1 hx1 inv1 (hr.ext (x1.le inv.rel)) mk1 (Nat.le_trans hB x1.size) (fun μ2 e2 h2 a2 w2 q1 q2 q3 q4 => hn μ2 e2 h2 a2 w2 q1 q2 (x1.trans q3) q4)
      (fun i μ2 e2 h2 a2 w2 q1 q2 q3 q4 => hxx i μ2 e2 h2 a2 w2 q1 q2 (x1.trans q3) q4) (fun μ2 e2 h2 a2 w2 q1 q2 q3 q4 => hrr μ2 e2 h2 a2 w2 q1 q2 (x1.trans q3) q4)
  | cond c x y ihx ihy =>
    intro kn kx kr Q μ e h a w hx inv hr mk hB hn hxx hrr
    unfold run at hx
    replace hx := ob_eq hx
    obtain ⟨v, hv, hx⟩ := hx
    obtain ⟨oq, q⟩ := opd_spec inv.env inv.glob hv
    clear oq
    cases v <;> (try simp only at hx) <;> try (cases hx; done)
    rename_i t
    cases t with
    | true => exact wpIn_cond_true q (ihx kn kx kr Q μ e h a w hx inv hr mk hB hn hxx hrr)
    | false => exact wpIn_cond_false q (ihy kn kx kr Q μ e h a w hx inv hr mk hB hn hxx hrr)
  | block id c ih =>
    intro kn kx kr Q μ e h a w hx inv hr mk hB hn hxx hrr
    unfold run at hx
    refine wpIn_block (ih kn _ kr _ μ e h a w hx inv hr mk hB hn (fun i μ2 e2 h2 a2 w2 q1 q2 q3 q4 => ?_) hrr)
    show if i = id then Q .normal a2 w2 else Q (.exit i) a2 w2
    by_cases hi : i = id
    · rw [if_pos hi]
      rw [beq_t hi] at q1
      exact hn μ2 e2 h2 a2 w2 q1 q2 q3 q4
    · rw [if_neg hi]
      rw [beq_f hi] at q1
      exact hxx i μ2 e2 h2 a2 w2 q1 q2 q3 q4
  | loop c ih =>
    intro kn kx kr Q μ e h a w hx inv hr mk hB hn hxx hrr
    unfold run at hx
    refine wpIn_loop_rounds lim ?_
    have key : ∀ (m : Nat) (μ1 : Mu) (e1 : Env) (h1 : Heap) (a1 : Act) (w1 : World), loopK (fun k => run X N lim rd c k kx kr) m e1 h1 = some r → Inv X R0 N μ1 e1 h1 a1 w1 → Ext μ h w μ1 h1 w1 → Marks B a1 w1 → Code.roundsIn (Fw rc) n X.P c Q m a1 w1 := by
      intro m
      induction m with
      | zero => intro μ1 e1 h1 a1 w1 q1; cases q1
      | succ m ihm =>
        intro μ1 e1 h1 a1 w1 q1 inv1 x1 mk1
        rw [roundsIn_succ]
        refine ih (loopK (fun k => run X N lim rd c k kx kr) m) kx kr _ μ1 e1 h1 a1 w1 q1 inv1 (hr.ext (x1.le inv.rel)) mk1 (Nat.le_trans hB x1.size) (fun μ2 e2 h2 a2 w2 q1 q2 q3 q4 => ihm μ2 e2 h2 a2 w2 q1 q2 (x1.trans q3) q4)
          (fun i μ2 e2 h2 a2 w2 q1 q2 q3 q4 => hxx i μ2 e2 h2 a2 w2 q1 q2 (x1.trans q3) q4) (fun μ2 e2 h2 a2 w2 q1 q2 q3 q4 => hrr μ2 e2 h2 a2 w2 q1 q2 (x1.trans q3) q4)
    exact key lim μ e h a w hx inv (Ext.refl _ _ _ inv.rel.lt) mk
  | label l =>
    intro kn kx kr Q μ e h a w hx inv hr mk hB hn _ _
    exact wpIn_label (hn μ e h a w hx inv (Ext.refl _ _ _ inv.rel.lt) mk)
  | exit i =>
    intro kn kx kr Q μ e h a w hx inv hr mk hB _ hxx _
    exact wpIn_exit (hxx i μ e h a w hx inv (Ext.refl _ _ _ inv.rel.lt) mk)
  | ret =>
    intro kn kx kr Q μ e h a w hx inv hr mk hB _ _ hrr
    exact wpIn_ret (hrr μ e h a w hx inv (Ext.refl _ _ _ inv.rel.lt) mk)
  | rangeFunc g ps assign body _ _ =>
    intro kn kx kr Q μ e h a w hx inv hr mk hB hn hxx hrr
    unfold run at hx
    replace hx := ob_eq hx
    obtain ⟨f, hf, hx⟩ := hx
    replace hx := sel_some hx
    obtain ⟨hrk, hx⟩ := hx
    replace hx := ob_eq hx
    obtain ⟨⟨v, h1⟩, hcall, hx⟩ := hx
    simp only at hx
    replace hx := ob_eq hx
    obtain ⟨o, ho, hx⟩ := hx
    obtain ⟨of, hfe⟩ := opd_spec inv.env inv.glob hf
    unfold xranged at hcall
    cases f <;> (try simp only at hcall) <;> try (cases hcall; done)
    rename_i g' first cap
    cases hC : X.C g' <;> rw [hC] at hcall <;> (try simp only at hcall) <;> try (cases hcall; done)
    refine wpIn_rangeFunc fun fn _ => ?_
    -- the record is laid
    obtain ⟨wd, mark, dl, hmark, hwd, hrd, hxd, hent⟩ : ∃ (wd : World) (mark : List Deferred) (dl : Nat), Marks B { a with defers := mark ++ a.defers } wd ∧ w.heap.size ≤ wd.heap.size ∧ Rel μ h wd ∧ Ext μ h w μ h wd ∧
        (Instr.enterLoop fn a.tmps ps assign body rc).run X.P w = .ok (wd.heap.size, mark) (pushed wd (.loop { state := .ready, pending := none, fn, tmps := a.tmps, params := ps, assign, body, defers := dl })) := by
      cases rd with
      | none =>
        have hrc : rc = none := hr
        subst hrc
        obtain ⟨r1, x1⟩ := inv.rel.pushOther (.deferred (some []))
        refine ⟨pushed w (.deferred (some [])), [markOf w.heap.size], w.heap.size, ?_, by rw [pushed_size]; omega, r1, x1, ?_⟩
        · obtain ⟨rs, q1, q2, q3⟩ := mk
          refine ⟨w.heap.size :: rs, by simp [q1, markOf], ?_, fun k hk => ?_⟩
          · refine List.nodup_cons.2 ⟨fun q => ?_, q2⟩
            have := (Array.getElem?_eq_some_iff.1 (q3 _ q).2).1
            omega
          · rcases List.mem_cons.1 hk with rfl | hk
            · exact ⟨hB, pushed_new _ _⟩
            · exact ⟨(q3 k hk).1, x1.defer inv.rel (q3 k hk).2⟩
        · rw [run_enterLoop_outer, pushed_size]; rfl
      | some l =>
        obtain ⟨m, hl, hrc⟩ := hr
        subst hrc
        simp only [roundOk] at hrk
        cases hol : h.ob.at l with
        | none => rw [hol] at hrk; cases hrk
        | some ol =>
          rw [hol] at hrk
          cases ol <;> (try simp only at hrk) <;> try (cases hrk; done)
          obtain ⟨rec, q1, _⟩ := inv.rel.ok l _ m hol hl
          refine ⟨w, [], rec.defers, mk, Nat.le_refl _, inv.rel, Ext.refl _ _ _ inv.rel.lt, ?_⟩
          unfold Instr.enterLoop
          simp only [Sem.run_bind, run_getLoop q1, Result.andThen_ok, Sem.run_pure]
          rfl
    let Lo : Loop := { state := .ready, pending := none, fn, tmps := a.tmps, params := ps, assign, body, defers := dl }
    let m : BM := ⟨wd.heap.size, 0, 0, 0⟩
    obtain ⟨r2, x2⟩ := hrd.add (m := m) rfl (X := .loop Lo) (o := .loop 0 none e N ps.toList assign body)
      ⟨Lo, pushed_new _ _, rfl, rfl, rfl, rfl, rfl, inv.env.le (hrd.le_ext m)⟩
    have hyo : Ok (μ.ext h.nx m) (.yield h.nx) := by simp only [Ok]; exact ⟨m, Mu.ext_same _ _ _⟩
    have hyc : conc (μ.ext h.nx m) (.yield h.nx) = .func (.yield wd.heap.size) #[] #[] := by simp [conc, Mu.blk, Mu.ext_same, m]
    simp only [Ok] at of
    obtain ⟨c1, c2⟩ := concL_le (hrd.le_ext m) first of.1
    obtain ⟨c3, c4⟩ := concL_le (hrd.le_ext m) cap of.2
    have hargs : (concL (μ.ext h.nx m) (first ++ [.yield h.nx] ++ cap)).toArray = (concL μ first).toArray ++ #[.func (.yield wd.heap.size) #[] #[]] ++ (concL μ cap).toArray := by
      have c1' := c1
      have c3' := c3
      simp only [concL_eq] at c1' c3' ⊢
      rw [List.map_append, List.map_append, c1', c3']
      simp only [List.map_cons, List.map_nil, hyc]
      simp
    have hcl := hX.fn g' _ _ v h1 hcall (n - 1) (μ.ext h.nx m) (pushed wd (.loop Lo)) r2 (inv.glob.le (Mu.le_trans (hxd.le inv.rel) (x2.le hrd))) ((inv.good.ext hxd).ext x2)
      (by
        rw [OkL_iff] at c2 c4 ⊢
        intro x hx
        simp only [List.mem_append, List.mem_singleton] at hx
        rcases hx with (hx | rfl) | hx
        · exact c2 x hx
        · exact hyo
        · exact c4 x hx)
    refine ⟨wd.heap.size, mark, pushed wd (.loop Lo), ⟨.fn (.func g') (concL μ cap).toArray, (concL μ first).toArray ++ #[.func (.yield wd.heap.size) #[] #[]]⟩, pushed wd (.loop Lo), g', (concL (μ.ext h.nx m) (first ++ [.yield h.nx] ++ cap)).toArray, pushed wd (.loop Lo), hent, ?_, fun _ _ => trivial, ?_, fun q => by simp [Fw] at q, ?_⟩
    · simp only [conc] at hfe
      simp only [resolve, rangeCall, hfe, Deferred.ofValue, Sem.run_pure]
      simp [Act.eval]
    · simp only [invoke]
      rw [hX.c.go g' hC, hargs]
    · refine CallsIn.mono (F := Fw rc) (R := Post (μ.ext h.nx m) (h.add (.loop 0 none e N ps.toList assign body)) (pushed wd (.loop Lo)) v h1) hcl ?_
      intro en w3 q
      obtain ⟨μ3, rfl, r3, x3, _⟩ := q
      have hm3 : μ3 h.nx = some m := by
        rw [x3.mu h.nx (Nat.lt_succ_self _)]; exact Mu.ext_same _ _ _
      have hob := r3.ok h.nx o m ho hm3
      have xall : Ext μ h w μ3 h1 w3 := hxd.trans (x2.trans x3)
      have mk3 : Marks B { a with defers := mark ++ a.defers } w3 := (hmark.ext hrd x2 rfl).ext r2 x3 rfl
      -- how the record is left
      have leave : ∀ (rec : Loop) (st : Nat) (pd : Option Code), w3.heap[m.β]? = some (.loop rec) → rec.state = lstate st → st ≠ 1 → rec.pending = pd →
          (∀ w4, Inv X R0 N μ3 e (h1.upd h.nx none) { a with defers := mark ++ a.defers } w4 → Ext μ h w μ3 (h1.upd h.nx none) w4 → Marks B { a with defers := mark ++ a.defers } w4 →
            (match pd with | none => Q .normal { a with defers := mark ++ a.defers } w4 | some c => c.wpIn (Fw rc) n X.P Q { a with defers := mark ++ a.defers } w4)) →
          rangePost (Fw rc) n X.P wd.heap.size Q { a with defers := mark ++ a.defers } (.returned (conc μ3 v)) w3 := by
        intro rec st pd hrec hst hne hpd hgo
        have hbusy : rec.state ≠ .busy := by
          rw [hst]
          match st, hne with
          | 0, _ => intro q; cases q
          | (k + 2), _ => intro q; cases q
        obtain ⟨r4, x4⟩ := r3.forget (w' := w3.putObj m.β (.loop { rec with state := .exhausted })) ho hm3 (by cases o <;> first | rfl | (exfalso; obtain ⟨_, _, _, _, q, _⟩ := hob; rw [hrec] at q; cases q))
          (by simp) (fun β hβ => World.putObj_heap_other hβ) rfl rfl rfl
        refine ⟨rec.pending, _, run_endLoop hrec hbusy, ?_⟩
        subst hpd
        exact hgo _ (inv.ext r4 (xall.trans x4) rfl) (xall.trans x4) (mk3.ext r3 x4 rfl)
      cases o with
      | cells elem nn cs ro dyn fz esz sish => cases hx
      | map es => cases hx
      | loop st pd env NN pps as bd =>
        obtain ⟨rec, q1, q2, q3, _⟩ := hob
        unfold xendLoop at hx
        match st, pd, hx with
        | 0, none, hx => exact leave rec 0 none q1 q2 (by decide) q3 fun w4 i4 x4 mk4 => hn μ3 e _ _ w4 hx i4 x4 mk4
        | 2, some c, hx =>
          refine leave rec 2 (some c) q1 q2 (by decide) q3 fun w4 i4 x4 mk4 => ?_
          simp only
          cases c with
          | ret => exact wpIn_ret (hrr μ3 e _ _ w4 hx i4 x4 mk4)
          | exit i => exact wpIn_exit (hxx i μ3 e _ _ w4 hx i4 x4 mk4)
          | _ => cases hx
  | _ => intro kn kx kr Q μ e h a w hx; cases hx
end
end Go.Th

namespace Go.Th
section
variable {P : Program} {G : Nat} {C : Nat → Fwd} {R0 : Nat → Option Obj} {N n lim : Nat} {μ μ' : Mu} {h h' : Heap} {w w' : World} {a a' : Act} {e e' : Env} {B : Nat}

/-! ## A round -/
theorem putPs_spec : ∀ (ps : List Tmp) (args : List AV) (env e : Env) (tmps : Array Value), putPs ps args N env = some e → EnvIs μ N env tmps → (∀ v ∈ args, Ok μ v) →
    args.length = ps.length ∧ EnvIs μ N e ((ps.zip (args.map (conc μ))).foldl (fun tmps (t, a) => tmps.setIfInBounds t a) tmps) := by
  intro ps
  induction ps with
  | nil =>
    intro args env e tmps hp he _
    cases args with
    | nil => cases hp; exact ⟨rfl, he⟩
    | cons x l => cases hp
  | cons t ps ih =>
    intro args env e tmps hp he ho
    cases args with
    | nil => cases hp
    | cons x l =>
      unfold putPs at hp
      replace hp := sel_some hp
      obtain ⟨ht, hp⟩ := hp
      have hput := EnvIs.put (μ' := μ) (a := { tmps := tmps, defers := [] }) (d := some t) he (Mu.le_refl _) (by simpa [dstOk] using ht) (ho x (List.mem_cons_self ..))
      obtain ⟨q1, q2⟩ := ih l (env.set t (some x)) e (tmps.setIfInBounds t (conc μ x)) hp hput (fun v hv => ho v (List.mem_cons_of_mem _ hv))
      exact ⟨by simp [q1], q2⟩

theorem endRound_spec {l : Nat} {m : BM} {jump : Option Code} {v : AV} (r : Rel μ h w) (hl : μ l = some m) (hx : endRound l jump h = some (v, h')) :
    ∃ w', (Instr.endRound m.β jump).run P w = .ok (conc μ v) w' ∧ Rel μ h' w' ∧ Ext μ h w μ h' w' ∧ Ok μ v := by
  unfold endRound at hx
  replace hx := ob_eq hx
  obtain ⟨o, ho, hx⟩ := hx
  cases o <;> (try simp only at hx) <;> try (cases hx; done)
  rename_i st pd env N ps as bd
  obtain ⟨rec, q1, q2, q3, q4, q5, q6, q7⟩ := r.ok l _ m ho hl
  have hb := r.bnd l m hl
  cases hx
  obtain ⟨r', x'⟩ := r.upd (w' := w.putObj m.β (.loop { rec with state := if jump.isNone then .ready else .done, pending := jump }))
    (o' := .loop (match jump with | none => 0 | some _ => 2) jump env N ps as bd) ho hl rfl rfl (by simp) (fun β hβ => World.putObj_heap_other hβ) rfl rfl rfl
    ⟨_, World.putObj_heap_same hb, by cases jump <;> rfl, rfl, q4, q5, q6, q7⟩
  refine ⟨_, ?_, r', x', by cases jump <;> simp [Ok]⟩
  rw [run_endRound jump q1]
  cases jump <;> rfl

theorem round_ok {X : Cx} (hX : CxOk X R0) (hm : X.P.follows .mixedOrders = true) {l : Nat} {args : List AV} {v : AV} (hx : xround X lim l args h = some (v, h')) (r : Rel μ h w) (hg : Glob X.G μ) (gd : Good R0 μ h w) (oa : OkL μ args) {m : BM} (hl : μ l = some m) :
    ∃ r : Loop, w.heap[m.β]? = some (.loop r) ∧ (concL μ args).toArray.size = r.params.size ∧
      RoundIn Fence.wide n X.P m.β r.fn ((r.params.zip (concL μ args).toArray).foldl (fun tmps (t, a) => tmps.setIfInBounds t a) r.tmps) r.assign r.body w (Post μ h w v h') := by
  unfold xround at hx
  replace hx := ob_eq hx
  obtain ⟨o, ho, hx⟩ := hx
  cases o <;> (try simp only at hx) <;> try (cases hx; done)
  rename_i st pd env N ps assign body
  match st, hx with
  | 0, hx =>
    replace hx := ob_eq hx
    obtain ⟨e, hp, hx⟩ := hx
    obtain ⟨rec, q1, q2, q3, q4, q5, q6, q7⟩ := r.ok l _ m ho hl
    obtain ⟨p1, p2⟩ := putPs_spec ps args env e rec.tmps hp q7 ((OkL_iff μ args).1 oa)
    have hsz : (concL μ args).toArray.size = rec.params.size := by
      rw [concL_eq, List.size_toArray, List.length_map, p1, ← q4, Array.length_toList]
    refine ⟨rec, q1, hsz, ?_⟩
    have hfold : ((rec.params.zip (concL μ args).toArray).foldl (fun tmps (x : Tmp × Value) => tmps.setIfInBounds x.1 x.2) rec.tmps) = ((ps.zip (args.map (conc μ))).foldl (fun tmps (x : Tmp × Value) => tmps.setIfInBounds x.1 x.2) rec.tmps) := by
      rw [← Array.foldl_toList, Array.toList_zip, q4, concL_eq]
    rw [q5, q6]
    refine roundIn_of_wpIn trivial ?_
    show assign.wpIn (Fw (some m.β)) n X.P _ _ w
    have inv : Inv X R0 N μ e h { tmps := ((rec.params.zip (concL μ args).toArray).foldl (fun tmps (x : Tmp × Value) => tmps.setIfInBounds x.1 x.2) rec.tmps), defers := [] } w := ⟨r, hg, gd, by rw [hfold]; exact p2⟩
    have nomark : ∀ (tmps : Array Value) (w : World), Marks 0 { tmps := tmps, defers := [] } w := fun tmps w => ⟨[], rfl, List.nodup_nil, fun k hk => by cases hk⟩
    refine run_spec hX hm (v, h') assign _ _ _ _ μ e h _ w hx inv ⟨m, hl, rfl⟩ (nomark _ _) (Nat.zero_le _) ?_ (fun i μ' e' h' a' w' q => by cases q) (fun μ' e' h' a' w' q => by cases q)
    intro μ1 e1 h1 a1 w1 hx1 inv1 x1 mk1
    replace hx1 := ob_eq hx1
    obtain ⟨o1, ho1, hx1⟩ := hx1
    cases o1 <;> (try simp only at hx1) <;> try (cases hx1; done)
    rename_i st1 pd1 env1 N1 ps1 as1 bd1
    match st1, hx1 with
    | 0, hx1 =>
      have hl1 : μ1 l = some m := x1.le r l m hl
      obtain ⟨rec1, s1, s2, s3, s4, s5, s6, s7⟩ := inv1.rel.ok l _ m ho1 hl1
      have hb := inv1.rel.bnd l m hl1
      obtain ⟨r2, x2⟩ := inv1.rel.upd (w' := w1.putObj m.β (.loop { rec1 with state := .busy })) (o' := .loop 1 pd1 env1 N1 ps1 as1 bd1) ho1 hl1 rfl rfl (by simp) (fun β hβ => World.putObj_heap_other hβ) rfl rfl rfl
        ⟨_, World.putObj_heap_same hb, rfl, s3, s4, s5, s6, s7⟩
      refine ⟨_, run_beginRound s1 s2, ?_⟩
      show body.wpIn (Fw (some m.β)) n X.P _ a1 _
      have inv2 : Inv X R0 N μ1 e1 (h1.upd l (some (.loop 1 pd1 env1 N1 ps1 as1 bd1))) a1 (w1.putObj m.β (.loop { rec1 with state := .busy })) := inv1.ext r2 x2 rfl
      have fin : ∀ (jump : Option Code) (μ3 : Mu) (h3 : Heap) (w3 : World), endRound l jump h3 = some (v, h') → Rel μ3 h3 w3 → Ext μ1 (h1.upd l (some (.loop 1 pd1 env1 N1 ps1 as1 bd1))) (w1.putObj m.β (.loop { rec1 with state := .busy })) μ3 h3 w3 →
          ∃ vv w', (Instr.endRound m.β jump).run X.P w3 = .ok vv w' ∧ Post μ h w v h' (.returned vv) w' := by
        intro jump μ3 h3 w3 hx3 r3 x3
        have hl3 : μ3 l = some m := x3.le r2 l m hl1
        obtain ⟨w4, t1, t2, t3, t4⟩ := endRound_spec (P := X.P) r3 hl3 hx3
        exact ⟨_, w4, t1, μ3, rfl, t2, (x1.trans x2).trans (x3.trans t3), t4⟩
      refine run_spec hX hm (v, h') body _ _ _ _ μ1 e1 _ a1 _ hx1 inv2 ⟨m, hl1, rfl⟩ (mk1.ext inv1.rel x2 rfl) (Nat.zero_le _) ?_ ?_ ?_
      · intro μ3 e3 h3 a3 w3 hx3 inv3 x3 _
        exact fin none μ3 h3 w3 hx3 inv3.rel x3
      · intro i μ3 e3 h3 a3 w3 hx3 inv3 x3 _
        exact fin (some (.exit i)) μ3 h3 w3 hx3 inv3.rel x3
      · intro μ3 e3 h3 a3 w3 hx3 inv3 x3 _
        exact fin (some .ret) μ3 h3 w3 hx3 inv3.rel x3
    | k + 1, hx1 => cases hx1
  | k + 1, hx => cases hx

/-! ## A function -/
theorem Rel.other (r : Rel μ h w) {k : Nat} {d : Option (List Deferred)} (hk : w.heap[k]? = some (.deferred d)) (o : Obj) : Rel μ h (w.putObj k o) := by
  refine ⟨r.lt, r.mlt, fun x q mx hq hm => ?_, r.inj, fun x mx hm => by rw [World.putObj_size]; exact r.bnd x mx hm⟩
  refine ObRel.mono (Mu.le_refl _) (World.putObj_heap_other fun hβ => ?_) (r.ok x q mx hq hm)
  subst hβ
  exact not_told (r.ok x q mx hq hm) hk
theorem Ext.other {w0 : World} {μ0 : Mu} {h0 : Heap} (x : Ext μ0 h0 w0 μ h w) {k : Nat} (hk : w0.heap.size ≤ k) (o : Obj) : Ext μ0 h0 w0 μ h (w.putObj k o) :=
  ⟨x.nx, x.mu, x.old, x.live, x.newb, by rw [World.putObj_size]; exact x.size, fun β hβ hno => by rw [World.putObj_heap_other (by omega)]; exact x.kept β hβ hno, x.os, x.tape, x.output⟩

def resOf (tmps : Array Value) : ResultVar → Sem Value
  | .tmp t => pure (tmps.getD t undef)
  | .cell c t => do loadVar t (← asAddr (tmps.getD c undef))
noncomputable def resX (P : Program) (e : Env) (h : Heap) : ResultVar → Option AV
  | .tmp t => e.at t
  | .cell a t => ob (e.at a) fun p => (match p with | .ptr b off => xload P h t b off | _ => none)
theorem result_run {rv : ResultVar} {v : AV} (r : Rel μ h w) (he : EnvIs μ N e a.tmps)
    (hx : resX P e h rv = some v) : (resOf a.tmps rv).run P w = .ok (conc μ v) w ∧ Ok μ v := by
  cases rv with
  | tmp t =>
    obtain ⟨o, q⟩ := he.2 t v hx
    refine ⟨?_, o⟩
    simp only [resOf, Sem.run_pure, Array.getD_eq_getD_getElem?, q, Option.getD_some]
  | cell c t =>
    simp only [resX] at hx
    replace hx := ob_eq hx
    obtain ⟨p, hp, hx⟩ := hx
    obtain ⟨o, q⟩ := he.2 c p hp
    cases p <;> (try simp only at hx) <;> try (cases hx; done)
    obtain ⟨q1, q2⟩ := load_spec (P := P) r o hx
    refine ⟨?_, q2⟩
    simp only [resOf, Sem.run_bind, Array.getD_eq_getD_getElem?, q, Option.getD_some, conc, asAddr, Sem.run_pure, Result.andThen_ok, q1]
theorem xresults_run (r : Rel μ h w) (he : EnvIs μ N e a.tmps) : ∀ (l : List ResultVar) (vs : List AV), xresults P l e h = some vs →
    (l.mapM (resOf a.tmps)).run P w = .ok (vs.map (conc μ)) w ∧ ∀ v ∈ vs, Ok μ v := by
  intro l
  induction l with
  | nil => intro vs hx; cases hx; exact ⟨rfl, fun v hv => by cases hv⟩
  | cons x l ih =>
    intro vs hx
    unfold xresults at hx
    replace hx := ob_eq hx
    obtain ⟨v, hv, hx⟩ := hx
    replace hx := ob_eq hx
    obtain ⟨us, hu, hx⟩ := hx
    cases hx
    obtain ⟨q1, q2⟩ := result_run (P := P) (rv := x) r he (by cases x <;> exact hv)
    obtain ⟨q3, q4⟩ := ih us hu
    refine ⟨?_, fun u hu => ?_⟩
    · rw [List.mapM_cons]
      simp only [Sem.run_bind]
      rw [q1]
      simp only [Result.andThen_ok]
      rw [q3]
      simp
    · rcases List.mem_cons.1 hu with rfl | hu
      · exact q2
      · exact q4 u hu
theorem results_spec (r : Rel μ h w) (he : EnvIs μ N e a.tmps) {fn : Func} {vs : List AV} (hx : xresults P fn.results.toList e h = some vs) :
    (results fn a.tmps).run P w = .ok (conc μ (one vs)) w ∧ Ok μ (one vs) := by
  obtain ⟨q1, q2⟩ := xresults_run (P := P) r he _ _ hx
  have q2' := (OkL_iff μ vs).2 q2
  have hr : (results fn a.tmps).run P w = .ok (if h : (vs.map (conc μ)).toArray.size = 1 then (vs.map (conc μ)).toArray[0] else .tuple (vs.map (conc μ)).toArray) w := by
    have hres : results fn a.tmps = (do let vs ← fn.results.mapM (resOf a.tmps); pure (if h : vs.size = 1 then vs[0] else .tuple vs)) := by
      unfold results
      congr 2
    rw [hres, Array.mapM_eq_mapM_toList]
    simp only [Sem.run_bind, Sem.run_map]
    rw [q1]
    rfl
  rw [hr]
  match vs, q2, q2' with
  | [], _, _ => exact ⟨rfl, by simp [one, Ok, OkL]⟩
  | [v], q2, _ => exact ⟨rfl, q2 v (by simp)⟩
  | x :: y :: l, _, q2' =>
    refine ⟨?_, by simpa only [one, Ok] using q2'⟩
    simp only [one, conc, concL_eq]
    rw [dif_neg (by simp)]

theorem leaves_spec {F : Fence} {fn : Func} {vs : List AV} {w0 : World} {μ0 : Mu} {h0 : Heap} (he : EnvIs μ N e a.tmps) (hx : xresults P fn.results.toList e h = some vs) : ∀ (rs : List Nat) (w : World), Rel μ h w → Ext μ0 h0 w0 μ h w → rs.Nodup →
    (∀ r ∈ rs, w0.heap.size ≤ r ∧ w.heap[r]? = some (.deferred (some []))) → LeavesInM F n P fn a.tmps (Post μ0 h0 w0 (one vs) h) (rs.map markOf) .returning w := by
  intro rs
  induction rs with
  | nil =>
    intro w r x _ _
    obtain ⟨q1, q2⟩ := results_spec r he hx
    exact ⟨_, q1, μ, rfl, r, x, q2⟩
  | cons k rs ih =>
    intro w r x hnd hr
    obtain ⟨hk, hnd⟩ := List.nodup_cons.1 hnd
    obtain ⟨h1, h2⟩ := hr k (List.mem_cons_self ..)
    refine ⟨by simp, .inl ⟨k, _, rfl, run_takeDeferred h2, ?_⟩⟩
    refine ih _ (r.other h2 _) (x.other h1 _) hnd fun r' hr' => ⟨(hr r' (List.mem_cons_of_mem _ hr')).1, ?_⟩
    rw [World.putObj_heap_other (by intro q; subst q; exact hk hr')]
    exact (hr r' (List.mem_cons_of_mem _ hr')).2

theorem body_ok {X : Cx} (hX : CxOk X R0) (hm : X.P.follows .mixedOrders = true) {f : Nat} {fn : Func} (hf : X.P.funcs[f]? = some fn) {args : List AV} {v : AV} (hx : xbody X lim fn args h = some (v, h')) (r : Rel μ h w) (hg : Glob X.G μ) (gd : Good R0 μ h w) (oa : OkL μ args) :
    CallsIn Fence.wide n X.P f (concL μ args).toArray w (Post μ h w v h') := by
  unfold xbody at hx
  cases hb : fn.body with
  | none => rw [hb] at hx; cases hx
  | some c =>
    rw [hb] at hx
    simp only at hx
    replace hx := sel_some hx
    obtain ⟨hle, hx⟩ := hx
    rw [ble_eq] at hle
    have hle := of_decide_eq_true hle
    refine callsIn_of_wp_marks hf hb trivial ?_
    have hsz : (concL μ args).toArray.size = args.length := by rw [concL_eq, List.size_toArray, List.length_map]
    have henv : EnvIs μ fn.ntmps (Tri.putRow args .lf 0) ((concL μ args).toArray ++ Array.replicate (fn.ntmps - (concL μ args).toArray.size) undef) := by
      refine ⟨by rw [Array.size_append, hsz, Array.size_replicate]; omega, fun i v hv => ?_⟩
      rw [Tri.at_putRow] at hv
      split at hv
      · rename_i hi
        simp only [Nat.sub_zero, Nat.zero_add] at hv hi
        refine ⟨(OkL_iff μ args).1 oa v (List.mem_of_getElem? hv), ?_⟩
        rw [Array.getElem?_append_left (by rw [hsz]; omega)]
        simp [concL_eq, hv]
      · cases hv
    have fin : Cont X R0 fn.ntmps w.heap.size μ h w (xret X.P fn) (v, h') (fun a w' => LeavesInM Fence.wide n X.P fn a.tmps (Post μ h w v h') a.defers .returning w') := by
      intro μ1 e1 h1 a1 w1 hx1 inv1 x1 mk1
      unfold xret at hx1
      replace hx1 := ob_eq hx1
      obtain ⟨vs, hv, hx1⟩ := hx1
      cases hx1
      obtain ⟨rs, d1, d2, d3⟩ := mk1
      rw [d1]
      exact leaves_spec inv1.env hv rs w1 inv1.rel x1 d2 d3
    exact run_spec hX hm (v, h') c _ _ _ (bodyPostM Fence.wide n X.P fn (Post μ h w v h')) μ (Tri.putRow args .lf 0) h _ w hx ⟨r, hg, gd, henv⟩ rfl ⟨[], rfl, List.nodup_nil, fun k hk => by cases hk⟩ (Nat.le_refl _) fin (fun i μ' e' h' a' w' q => by cases q) fin

/-- what is known otherwise -/
def MemoOk (P : Program) (G : Nat) (R0 : Nat → Option Obj) (M : Memo) : Prop := FnOk P G R0 fun t args h => match t with
  | .fn f => M f args h
  | .yld _ => none

/-- the evaluator tells the truth -/
theorem xfun_ok {M : Memo} (hC : COk P C) (hm : P.follows .mixedOrders = true) (hM : MemoOk P G R0 M) : ∀ k, CxOk ⟨P, G, C, xfun P G C M lim k⟩ R0 := by
  intro k
  induction k with
  | zero => exact ⟨hC, fun f args h v h' hx => (by cases hx), fun l args h v h' hx => (by cases hx)⟩
  | succ k ih =>
    refine ⟨hC, fun f args h v h' hx n μ w r hg gd oa => ?_, fun l args h v h' hx n μ w m r hg gd oa hl => round_ok ih hm hx r hg gd oa hl⟩
    have hx : (match M f args h with
      | some r => some r
      | none => (match P.funcs[f]? with
        | some fn => xbody ⟨P, G, C, xfun P G C M lim k⟩ lim fn args h
        | none => none)) = some (v, h') := hx
    cases hMf : M f args h with
    | some r' =>
      rw [hMf] at hx
      cases hx
      exact hM f args h v h' hMf n μ w r hg gd oa
    | none =>
      rw [hMf] at hx
      simp only at hx
      cases hf : P.funcs[f]? with
      | none => rw [hf] at hx; cases hx
      | some fn =>
        rw [hf] at hx
        exact body_ok (X := ⟨P, G, C, xfun P G C M lim k⟩) ih hm hf hx r hg gd oa

theorem xfun_calls {M : Memo} (hC : COk P C) (hm : P.follows .mixedOrders = true) (hM : MemoOk P G R0 M) {k f : Nat} {args : List AV} {v : AV} (hx : xfun P G C M lim k (.fn f) args h = some (v, h')) (r : Rel μ h w) (hg : Glob G μ) (gd : Good R0 μ h w) (oa : OkL μ args) :
    Calls P f (concL μ args).toArray w (Post μ h w v h') :=
  callsIn_wide.1 ((xfun_ok hC hm hM k).fn f args h v h' hx 0 μ w r hg gd oa)
end
end Go.Th
