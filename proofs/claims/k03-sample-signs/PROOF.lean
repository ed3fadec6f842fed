import PyProof.Rows.All
import Wide.All
import OpenK.AllK
import Wide.FinOn
import HandS.ForMost
import HandS.IsInst
import HandS.Codes
import HandS.Walk
import HandS.Defaults
import HandS.Evl
import PySem.Challenge.RW_regrow_k03_sample_signs
set_option Elab.async false
set_option linter.all false
set_option maxRecDepth 100000
set_option maxHeartbeats 4000000
namespace G
open PySem PySem.Spec PyProof.Rows L2
/-! ### texts by their codes -/
def S (t : List Nat) : V := .str ⟨⟨t⟩⟩
theorem S_inj {a b : List Nat} (h : S a = S b) : a = b := by
  unfold S at h
  injection h with h
  injection h with h
  injection h
theorem S_eq {a b : List Nat} : (S a = S b) = (a = b) := propext ⟨S_inj, fun h => by rw [h]⟩
theorem str_S (x : Str) : V.str x = S x.cps.toList := rfl
/-! ### what stays -/
def Ext (P P' : Hp) : Prop := ∀ a o, P a = some o → P' a = some o
theorem Ext.refl (P : Hp) : Ext P P := fun _ _ h => h
theorem Ext.trans {P P1 P2 : Hp} (a : Ext P P1) (b : Ext P1 P2) : Ext P P2 := fun x o h => b x o (a x o h)
theorem Ext.new {P : Hp} {p : Addr} {o : HO} (h : P p = none) : Ext P (upd P p o) := fun a u e => by
  rw [upd_ne (ne_of_none e h)]
  exact e
theorem Ext.rd {P P' : Hp} {a : Addr} {u : HO} (e : Ext P P') (h : Rd P a u) : Rd P' a u := by
  rcases h with h | ⟨o, h⟩
  · exact Or.inl (e a _ h)
  · exact Or.inr ⟨o, e a _ h⟩
theorem Ext.sql {K : PySem.W.Frag} {P P' : Hp} {a : Addr} {xs : List V} (e : Ext P P') (h : SqL K P a xs) : SqL K P' a xs := by
  rcases h with h | h
  · exact Or.inl (e.rd h)
  · exact Or.inr h
theorem Ext.sqt {K : PySem.W.Frag} {P P' : Hp} {a : Addr} {xs : List V} (e : Ext P P') (h : SqT K P a xs) : SqT K P' a xs := by
  rcases h with h | h
  · exact Or.inl (e.rd h)
  · exact Or.inr h
/-! ### the world: what is frozen (P), the cells that may change (cs) -/
abbrev Cs := List (Addr × HO)
structure Wd (P H : Hp) (cs : Cs) : Prop where
  sub : Ext P H
  nd : (cs.map (·.1)).Nodup
  ok : ∀ p ∈ cs, H p.1 = some p.2 ∧ P p.1 = none
section
variable {P H : Hp} {cs : Cs} {a p : Addr} {o o' : HO} {i : Nat}
theorem Wd.mem (w : Wd P H cs) (h : (a, o) ∈ cs) : H a = some o := (w.ok _ h).1
theorem Wd.get (w : Wd P H cs) (i : Nat) (h : cs[i]? = some (a, o)) : H a = some o := (w.ok _ (List.mem_of_getElem? h)).1
theorem Wd.hd (w : Wd P H ((a, o) :: cs)) : H a = some o := (w.ok _ List.mem_cons_self).1
theorem Wd.pnone (w : Wd P H cs) (hp : H p = none) : P p = none := by
  cases q : P p with
  | none => rfl
  | some u =>
    rw [w.sub p u q] at hp
    cases hp
theorem map_set1 : ∀ (cs : Cs) (i : Nat) (a : Addr) (o o' : HO), cs[i]? = some (a, o) → (cs.set i (a, o')).map (·.1) = cs.map (·.1)
  | [], _, _, _, _, h => by simp at h
  | c :: r, 0, a, o, o', h => by
    have e : c = (a, o) := Option.some.inj h
    subst e
    rfl
  | c :: r, i + 1, a, o, o', h => by
    have ih := map_set1 r i a o o' h
    show c.1 :: (r.set i (a, o')).map (·.1) = c.1 :: r.map (·.1)
    rw [ih]
theorem mem_set1 : ∀ (cs : Cs) (i : Nat) (a : Addr) (o o' : HO), (cs.map (·.1)).Nodup → cs[i]? = some (a, o) → ∀ q ∈ cs.set i (a, o'), q = (a, o') ∨ (q ∈ cs ∧ q.1 ≠ a)
  | [], _, _, _, _, _, h => by simp at h
  | c :: r, 0, a, o, o', nd, h => by
    have e : c = (a, o) := Option.some.inj h
    subst e
    intro q hq
    rcases List.mem_cons.mp hq with z | z
    · exact Or.inl z
    · refine Or.inr ⟨List.mem_cons_of_mem _ z, fun e => ?_⟩
      have nd' : a ∉ r.map (·.1) := (List.nodup_cons.mp nd).1
      exact nd' (e ▸ List.mem_map_of_mem z)
  | c :: r, i + 1, a, o, o', nd, h => by
    intro q hq
    have nd' := List.nodup_cons.mp nd
    rcases List.mem_cons.mp hq with z | z
    · refine Or.inr ⟨z ▸ List.mem_cons_self, fun e => ?_⟩
      have hm : (a, o) ∈ r := List.mem_of_getElem? h
      have : a ∈ r.map (·.1) := List.mem_map_of_mem (f := (·.1)) hm
      rw [← e, z] at this
      exact nd'.1 this
    · rcases mem_set1 r i a o o' nd'.2 h q z with y | ⟨y1, y2⟩
      · exact Or.inl y
      · exact Or.inr ⟨List.mem_cons_of_mem _ y1, y2⟩
theorem Wd.put (w : Wd P H cs) (i : Nat) (o' : HO) (h : cs[i]? = some (a, o)) : Wd P (upd H a o') (cs.set i (a, o')) where
  sub := fun b u e => by
    have hb : b ≠ a := fun z => by
      subst z
      rw [(w.ok _ (List.mem_of_getElem? h)).2] at e
      cases e
    rw [upd_ne hb]
    exact w.sub b u e
  nd := by rw [map_set1 cs i a o o' h]; exact w.nd
  ok := fun q hq => by
    rcases mem_set1 cs i a o o' w.nd h q hq with z | ⟨z1, z2⟩
    · subst z
      exact ⟨upd_same, (w.ok _ (List.mem_of_getElem? h)).2⟩
    · rw [upd_ne z2]
      exact w.ok q z1
/-- a new cell that may change -/
theorem Wd.new (w : Wd P H cs) (hp : H p = none) (o : HO) : Wd P (upd H p o) ((p, o) :: cs) where
  sub := fun b u e => by
    rw [upd_ne (ne_of_none (w.sub b u e) hp)]
    exact w.sub b u e
  nd := by
    refine List.nodup_cons.mpr ⟨fun hm => ?_, w.nd⟩
    obtain ⟨q, hq, e⟩ := List.mem_map.mp hm
    have := (w.ok q hq).1
    rw [show q.1 = p from e, hp] at this
    cases this
  ok := fun q hq => by
    rcases List.mem_cons.mp hq with z | z
    · subst z
      exact ⟨upd_same, w.pnone hp⟩
    · rw [upd_ne (ne_of_none (w.ok q z).1 hp)]
      exact w.ok q z
/-- a cell is frozen -/
theorem Wd.keep (w : Wd P H ((a, o) :: cs)) : Wd (upd P a o) H cs where
  sub := fun b u e => by
    by_cases hb : b = a
    · subst hb
      rw [upd_same] at e
      cases e
      exact w.hd
    · rw [upd_ne hb] at e
      exact w.sub b u e
  nd := (List.nodup_cons.mp w.nd).2
  ok := fun q hq => by
    have n : q.1 ≠ a := fun e => (List.nodup_cons.mp w.nd).1 (show a ∈ cs.map (·.1) from e ▸ List.mem_map_of_mem hq)
    rw [upd_ne n]
    exact w.ok q (List.mem_cons_of_mem _ hq)
theorem Wd.kext (w : Wd P H ((a, o) :: cs)) : Ext P (upd P a o) := Ext.new (w.ok _ List.mem_cons_self).2
/-- a new thing that never changes -/
theorem Wd.frz (w : Wd P H cs) (hp : H p = none) (o : HO) : Wd (upd P p o) (upd H p o) cs := (w.new hp o).keep
theorem Wd.fext (w : Wd P H cs) (hp : H p = none) (o : HO) : Ext P (upd P p o) := Ext.new (w.pnone hp)
theorem Wd.sublist {cs' : Cs} (w : Wd P H cs) (h : cs'.Sublist cs) : Wd P H cs' := ⟨w.sub, w.nd.sublist (h.map _), fun q hq => w.ok q (h.subset hq)⟩
theorem Wd.tl {c : Addr × HO} (w : Wd P H (c :: cs)) : Wd P H cs := w.sublist (List.sublist_cons_self _ _)
theorem Wd.perm {cs' : Cs} (w : Wd P H cs) (h : cs.Perm cs') : Wd P H cs' := ⟨w.sub, (h.map _).nodup_iff.mp w.nd, fun q hq => w.ok q (h.mem_iff.mpr hq)⟩
theorem perm_pull {α : Type} : ∀ (l : List α) (i : Nat) (x : α), l[i]? = some x → l.Perm (x :: l.eraseIdx i)
  | [], _, _, h => by simp at h
  | c :: r, 0, x, h => by
    have e : c = x := Option.some.inj h
    subst e
    exact List.Perm.refl _
  | c :: r, i + 1, x, h => ((perm_pull r i x h).cons c).trans (List.Perm.swap x c _)
theorem Wd.pull (w : Wd P H cs) (i : Nat) (h : cs[i]? = some (a, o)) : Wd P H ((a, o) :: cs.eraseIdx i) := w.perm (perm_pull cs i _ h)
/-- all is frozen that is there -/
theorem Wd.all (H : Hp) : Wd H H [] := ⟨Ext.refl H, List.nodup_nil, fun _ h => by cases h⟩
theorem Wd.sql {K : PySem.W.Frag} {xs : List V} (w : Wd P H cs) (h : SqL K P a xs) : SqL K H a xs := w.sub.sql h
theorem Wd.sqt {K : PySem.W.Frag} {xs : List V} (w : Wd P H cs) (h : SqT K P a xs) : SqT K H a xs := w.sub.sqt h
theorem Wd.lst {K : PySem.W.Frag} {xs : List V} (w : Wd P H cs) (h : P a = some (.lst xs)) : SqL K H a xs := .inl (.inl (w.sub _ _ h))
theorem Wd.tup {K : PySem.W.Frag} {xs : List V} (w : Wd P H cs) (h : P a = some (.tup xs)) : SqT K H a xs := .inl (.inl (w.sub _ _ h))
/-- a cell is lent: frozen for a while -/
def hid (P : Hp) (a : Addr) : Hp := fun b => if b = a then none else P b
theorem hid_same {P : Hp} {a : Addr} : hid P a a = none := by unfold hid; rw [if_pos rfl]
theorem hid_ne {P : Hp} {a b : Addr} (h : b ≠ a) : hid P a b = P b := by unfold hid; rw [if_neg h]
theorem Wd.unlend {P' : Hp} (w : Wd P' H cs) (h : P' a = some o) : Wd (hid P' a) H ((a, o) :: cs) where
  sub := fun b u e => by
    by_cases hb : b = a
    · subst hb
      rw [hid_same] at e
      cases e
    · rw [hid_ne hb] at e
      exact w.sub b u e
  nd := by
    refine List.nodup_cons.mpr ⟨fun hm => ?_, w.nd⟩
    obtain ⟨q, hq, e⟩ := List.mem_map.mp hm
    have := (w.ok q hq).2
    rw [show q.1 = a from e, h] at this
    cases this
  ok := fun q hq => by
    rcases List.mem_cons.mp hq with z | z
    · subst z
      exact ⟨w.sub _ _ h, hid_same⟩
    · refine ⟨(w.ok q z).1, ?_⟩
      have n : q.1 ≠ a := fun e => by
        have := (w.ok q z).2
        rw [e, h] at this
        cases this
      rw [hid_ne n]
      exact (w.ok q z).2
theorem Ext.unlend {P P' : Hp} (h : P a = none) (e : Ext (upd P a o) P') : Ext P (hid P' a) := fun b u q => by
  have hb : b ≠ a := ne_of_none q h
  rw [hid_ne hb]
  exact e b u (by rw [upd_ne hb]; exact q)
end
/-! ### data -/
section
variable {K : PySem.W.Frag} {P P' : Hp}
mutual
theorem dpm (e : Ext P P') : ∀ (d : PyData) (v : V), Dp K P v d → Dp K P' v d
  | .none, _, h => by cases h; exact .non
  | .bool b, _, h => by cases h; exact .bl b
  | .int i, _, h => by cases h; exact .int i
  | .str x, _, h => by cases h; exact .str x
  | .list ds, _, h => by
    cases h with
    | lst hs ha => exact .lst (e.sql hs) (dpmAll e ds _ ha)
  | .tuple ds, _, h => by
    cases h with
    | tup hs ha => exact .tup (e.sqt hs) (dpmAll e ds _ ha)
  | .dict _, _, h => by cases h
theorem dpmAll (e : Ext P P') : ∀ (ds : List PyData) (vs : List V), DpAll K P vs ds → DpAll K P' vs ds
  | [], _, h => by cases h; exact .nil
  | d :: ds, _, h => by
    cases h with
    | cons h1 h2 => exact .cons (dpm e d _ h1) (dpmAll e ds _ h2)
end
end
theorem Dp.mono {K : PySem.W.Frag} {P P' : Hp} {v : V} {d : PyData} (h : Dp K P v d) (e : Ext P P') : Dp K P' v d := dpm e d v h
theorem DpAll.mono {K : PySem.W.Frag} {P P' : Hp} {vs : List V} {ds : List PyData} (h : DpAll K P vs ds) (e : Ext P P') : DpAll K P' vs ds := dpmAll e ds vs h
end G
namespace G
open PySem PySem.Spec PyProof.Rows L2
abbrev cs (s : String) : List Nat := (Str.ofString s).cps.toList
def eS (t : List Nat) : PyData := .str ⟨⟨t⟩⟩
/-! ### tests -/
theorem iteB {b : Bool} {A B : Prop} (h1 : b = true → A) (h2 : b = false → B) : if b = true then A else B := by
  cases b with
  | true => rw [if_pos rfl]; exact h1 rfl
  | false => rw [if_neg Bool.false_ne_true]; exact h2 rfl
theorem ite_t {α : Type} {b : Bool} {x y : α} (h : b = true) : (if b = true then x else y) = x := if_pos h
theorem ite_f {α : Type} {b : Bool} {x y : α} (h : b = false) : (if b = true then x else y) = y := if_neg (by rw [h]; exact Bool.false_ne_true)
/-! ### operators over texts by their codes -/
section
variable {X : Cx}
theorem pe_strS {x : Str} {j : Nat} {pos : Pos} : PE X (.Constant (.str x) j pos) (tC (S x.cps.toList)) := pe_str
def rAdd : R2 := rI0 fun i j => .int (i + j)
def rSub : R2 := rI0 fun i j => .int (i - j)
def rMul : R2 := rI CMul fun i j => .int (i * j)
def rMod : R2 := rI (fun _ j => 0 < j) fun i j => .int (i % j)
def rDiv : R2 := rI CDiv fun i j => .int (i / j)
def rPow : R2 := rI CPow fun i j => .int (i ^ j.toNat)
def rLt : R2 := rI0 fun i j => .bl (decide (i < j))
def rLe : R2 := rI0 fun i j => .bl (decide (i ≤ j))
def rGt : R2 := rI0 fun i j => .bl (decide (j < i))
def rGe : R2 := rI0 fun i j => .bl (decide (j ≤ i))
theorem o_add : OpR X (binaryOp .Add) rAdd := op_add
theorem o_sub : OpR X (binaryOp .Sub) rSub := op_sub
theorem o_mul : OpR X (binaryOp .Mult) rMul := op_mul
theorem o_mod : OpR X (binaryOp .Mod) rMod := op_mod
theorem o_div : OpR X (binaryOp .FloorDiv) rDiv := op_fdiv
theorem o_pow : OpR X (binaryOp .Pow) rPow := op_pow
theorem o_lt : OpR X (compareOp .Lt) rLt := op_lt
theorem o_le : OpR X (compareOp .LtE) rLe := op_le
theorem o_gt : OpR X (compareOp .Gt) rGt := op_gt
theorem o_ge : OpR X (compareOp .GtE) rGe := op_ge
def rAddS : R2 := fun x y H Q => ∃ a b : List Nat, x = S a ∧ y = S b ∧ a.length + b.length ≤ sizeLine ∧ Q (S (a ++ b)) H
theorem S_app (a b : List Nat) : V.str ((⟨⟨a⟩⟩ : Str) ++ (⟨⟨b⟩⟩ : Str)) = S (a ++ b) := by
  show V.str ⟨(⟨a⟩ : Array Nat) ++ (⟨b⟩ : Array Nat)⟩ = V.str ⟨⟨a ++ b⟩⟩
  congr 2
  simp
theorem o_addS : OpR X (binaryOp .Add) rAddS := fun pins s σ H x y v u Q I rx ry h => by
  obtain ⟨a, b, rfl, rfl, hz, q⟩ := h
  exact op_add_str pins s σ H _ _ v u Q I rx ry ⟨_, _, rfl, rfl, hz, by rw [S_app]; exact q⟩
def rEqI : R2 := fun x y H Q => ∃ i j : Int, x = .int i ∧ y = .int j ∧ Q (.bl (decide (i = j))) H
def rNeI : R2 := fun x y H Q => ∃ i j : Int, x = .int i ∧ y = .int j ∧ Q (.bl (!decide (i = j))) H
def rEqB : R2 := fun x y H Q => ∃ i j : Bool, x = .bl i ∧ y = .bl j ∧ Q (.bl (decide (i = j))) H
def rNeB : R2 := fun x y H Q => ∃ i j : Bool, x = .bl i ∧ y = .bl j ∧ Q (.bl (!decide (i = j))) H
def rEqS : R2 := fun x y H Q => ∃ a b : List Nat, x = S a ∧ y = S b ∧ Q (.bl (decide (a = b))) H
def rNeS : R2 := fun x y H Q => ∃ a b : List Nat, x = S a ∧ y = S b ∧ Q (.bl (!decide (a = b))) H
theorem dI (i j : Int) : decide (V.int i = V.int j) = decide (i = j) := decide_eq_decide.mpr ⟨fun h => V.int.inj h, fun h => by rw [h]⟩
theorem dB (i j : Bool) : decide (V.bl i = V.bl j) = decide (i = j) := decide_eq_decide.mpr ⟨fun h => V.bl.inj h, fun h => by rw [h]⟩
theorem dS (i j : List Nat) : decide (S i = S j) = decide (i = j) := decide_eq_decide.mpr ⟨S_inj, fun h => by rw [h]⟩
theorem o_eqI : OpR X (compareOp .Eq) rEqI := fun pins s σ H x y v u Q I rx ry h => by
  obtain ⟨i, j, rfl, rfl, q⟩ := h
  exact op_eq pins s σ H _ _ v u Q I rx ry ⟨rfl, by rw [dI]; exact q⟩
theorem o_neI : OpR X (compareOp .NotEq) rNeI := fun pins s σ H x y v u Q I rx ry h => by
  obtain ⟨i, j, rfl, rfl, q⟩ := h
  exact op_ne pins s σ H _ _ v u Q I rx ry ⟨rfl, by rw [dI]; exact q⟩
theorem o_eqB : OpR X (compareOp .Eq) rEqB := fun pins s σ H x y v u Q I rx ry h => by
  obtain ⟨i, j, rfl, rfl, q⟩ := h
  exact op_eq pins s σ H _ _ v u Q I rx ry ⟨rfl, by rw [dB]; exact q⟩
theorem o_neB : OpR X (compareOp .NotEq) rNeB := fun pins s σ H x y v u Q I rx ry h => by
  obtain ⟨i, j, rfl, rfl, q⟩ := h
  exact op_ne pins s σ H _ _ v u Q I rx ry ⟨rfl, by rw [dB]; exact q⟩
theorem o_eqS : OpR X (compareOp .Eq) rEqS := fun pins s σ H x y v u Q I rx ry h => by
  obtain ⟨i, j, rfl, rfl, q⟩ := h
  exact op_eq pins s σ H _ _ v u Q I rx ry ⟨rfl, by rw [dS]; exact q⟩
theorem o_neS : OpR X (compareOp .NotEq) rNeS := fun pins s σ H x y v u Q I rx ry h => by
  obtain ⟨i, j, rfl, rfl, q⟩ := h
  exact op_ne pins s σ H _ _ v u Q I rx ry ⟨rfl, by rw [dS]; exact q⟩
/-- one sign in a text -/
def rInS : R2 := fun x y H Q => ∃ (c : Nat) (t : List Nat), x = S [c] ∧ y = S t ∧ Q (.bl (decide (c ∈ t))) H
def rNiS : R2 := fun x y H Q => ∃ (c : Nat) (t : List Nat), x = S [c] ∧ y = S t ∧ Q (.bl (!decide (c ∈ t))) H
theorem o_inS : OpR X (compareOp .In) rInS := fun pins s σ H x y v u Q I rx ry h => by
  obtain ⟨c, t, rfl, rfl, q⟩ := h
  exact op_in_sign pins s σ H _ _ v u Q I rx ry ⟨c, _, rfl, rfl, q⟩
theorem o_niS : OpR X (compareOp .NotIn) rNiS := fun pins s σ H x y v u Q I rx ry h => by
  obtain ⟨c, t, rfl, rfl, q⟩ := h
  exact op_notIn_sign pins s σ H _ _ v u Q I rx ry ⟨c, _, rfl, rfl, q⟩
/-- a text in a list or tuple of texts -/
theorem inV_S (t : List Nat) : ∀ ts : List (List Nat), inV (S t) (ts.map S) = decide (t ∈ ts)
  | [] => by simp [inV]
  | a :: r => by
    have ih := inV_S t r
    unfold inV at ih ⊢
    simp only [List.map_cons, List.any_cons, ih]
    rw [Bool.eq_iff_iff]
    have e : eqV (S a) (S t) = true ↔ a = t := by
      constructor
      · intro h
        simp [eqV, S] at h
        first | exact h | simpa using h
      · intro h
        subst h
        simp [eqV, S]
    have e2 : eqV (S t) (S a) = true ↔ a = t := by
      constructor
      · intro h
        simp [eqV, S] at h
        first | exact h.symm | (have := h; simp_all)
      · intro h
        subst h
        simp [eqV, S]
    simp only [Bool.or_eq_true, decide_eq_true_eq, List.mem_cons]
    constructor
    · rintro (h | h)
      · left; first | exact (e.mp h).symm | exact (e2.mp h).symm
      · right; exact h
    · rintro (h | h)
      · left; first | exact e.mpr h.symm | exact e2.mpr h.symm
      · right; exact h
theorem flat_S (ts : List (List Nat)) : (ts.map S).all flatV = true := by
  rw [List.all_eq_true]
  intro x hx
  obtain ⟨t, _, rfl⟩ := List.mem_map.mp hx
  rfl
def rInTS (K : PySem.W.Frag) : R2 := fun x y H Q => ∃ (t : List Nat) (a : Addr) (ts : List (List Nat)), x = S t ∧ y = .ref a ∧ (SqL K H a (ts.map S) ∨ SqT K H a (ts.map S)) ∧ Q (.bl (decide (t ∈ ts))) H
def rNiTS (K : PySem.W.Frag) : R2 := fun x y H Q => ∃ (t : List Nat) (a : Addr) (ts : List (List Nat)), x = S t ∧ y = .ref a ∧ (SqL K H a (ts.map S) ∨ SqT K H a (ts.map S)) ∧ Q (.bl (!decide (t ∈ ts))) H
theorem o_inTS : OpR X (compareOp .In) (rInTS X.K) := fun pins s σ H x y v u Q I rx ry h => by
  obtain ⟨t, a, ts, rfl, rfl, hs, q⟩ := h
  exact op_in_seq pins s σ H _ _ v u Q I rx ry ⟨a, _, rfl, hs, rfl, flat_S ts, by rw [inV_S]; exact q⟩
theorem o_niTS : OpR X (compareOp .NotIn) (rNiTS X.K) := fun pins s σ H x y v u Q I rx ry h => by
  obtain ⟨t, a, ts, rfl, rfl, hs, q⟩ := h
  exact op_notIn_seq pins s σ H _ _ v u Q I rx ry ⟨a, _, rfl, hs, rfl, flat_S ts, by rw [inV_S]; exact q⟩
/-! ### len, items, slices -/
def rLenS : List V → Hp → VK → Prop := fun xs H Q => ∃ t : List Nat, xs = [S t] ∧ t.length ≤ sizeLine ∧ Q (.int t.length) H
theorem c_lenS : CallR X (.builtin "len") rLenS := fun pins s σ H xs us Q I r h => by
  obtain ⟨t, rfl, hz, q⟩ := h
  exact call_len_str pins s σ H _ us Q I r ⟨_, rfl, hz, q⟩
def rLenL (K : PySem.W.Frag) : List V → Hp → VK → Prop := fun xs H Q => ∃ (p : Addr) (ys : List V), xs = [.ref p] ∧ (SqL K H p ys ∨ SqT K H p ys) ∧ Q (.int ys.length) H
theorem c_lenL : CallR X (.builtin "len") (rLenL X.K) := call_len_seq
def rIxT : R2 := fun x y H Q => ∃ (t : List Nat) (i : Int) (c : Nat), x = S t ∧ y = .int i ∧ t.length ≤ sizeLine ∧ atI t i = some c ∧ Q (S [c]) H
theorem i_str : IxR X rIxT := fun value slice pins s σ H x y v u Q I rx ry h hs => by
  obtain ⟨t, i, c, rfl, rfl, hz, ha, q⟩ := h
  exact ix_str value slice pins s σ H _ _ v u Q I rx ry ⟨_, i, c, rfl, rfl, hz, ha, q⟩ hs
theorem atI_getD {α : Type} {t : List α} {i : Int} {d : α} (h : 0 ≤ i ∧ i < t.length) : atI t i = some (t.getD i.toNat d) := by
  obtain ⟨n, rfl⟩ := Int.eq_ofNat_of_zero_le h.1
  have hl : n < t.length := by omega
  refine atI_nat ?_
  rw [Int.toNat_natCast, List.getElem?_eq_getElem hl]
  simp [List.getD, List.getElem?_eq_getElem hl]
theorem atI_mapD {α β : Type} {t : List α} {i : Int} {d : α} {f : α → β} (h : 0 ≤ i ∧ i < t.length) : atI (t.map f) i = some (f (t.getD i.toNat d)) := by
  obtain ⟨n, rfl⟩ := Int.eq_ofNat_of_zero_le h.1
  have hl : n < t.length := by omega
  refine atI_nat ?_
  rw [Int.toNat_natCast, List.getElem?_map, List.getElem?_eq_getElem hl]
  simp [List.getD, List.getElem?_eq_getElem hl]
theorem atI_lastD {t : List Nat} {d : Nat} (h : t ≠ []) : atI t (-1) = some (t.getLastD d) := by
  obtain ⟨r, x, rfl⟩ : ∃ r x, t = r ++ [x] := ⟨t.dropLast, t.getLast h, (List.dropLast_concat_getLast h).symm⟩
  rw [atI_last]
  simp
/-! ### isalpha, isdigit -/
def rAlpha : V → List V → Hp → VK → Prop := fun x xs H Q => ∃ t : List Nat, x = S t ∧ xs = [] ∧ Q (.bl (Txt.isalpha ⟨⟨t⟩⟩)) H
def rDigit : V → List V → Hp → VK → Prop := fun x xs H Q => ∃ t : List Nat, x = S t ∧ xs = [] ∧ Q (.bl (Txt.isdigit ⟨⟨t⟩⟩)) H
theorem m_alpha : MtR X "str.isalpha" rAlpha := fun pins s σ H x xs v us Q I rx rs h => by
  obtain ⟨t, rfl, rfl, q⟩ := h
  exact mt_isalpha pins s σ H _ _ v us Q I rx rs ⟨_, rfl, rfl, trivial, q⟩
theorem m_digit : MtR X "str.isdigit" rDigit := fun pins s σ H x xs v us Q I rx rs h => by
  obtain ⟨t, rfl, rfl, q⟩ := h
  exact mt_isdigit pins s σ H _ _ v us Q I rx rs ⟨_, rfl, rfl, trivial, q⟩
/-! ### join -/
def rJoin (K : PySem.W.Frag) : V → List V → Hp → VK → Prop := fun x xs H Q => ∃ (sep : List Nat) (p : Addr) (ts : List (List Nat)), x = S sep ∧ xs = [.ref p] ∧ (SqL K H p (ts.map S) ∨ SqT K H p (ts.map S)) ∧
  (ts.map List.length).sum + ts.length * sep.length ≤ 16777216 ∧ Q (S (TL.joinL sep ts)) H
theorem map_tl (ts : List (List Nat)) : (ts.map fun t => (⟨⟨t⟩⟩ : Str)).map TL.tl = ts := by
  rw [List.map_map]
  conv => rhs; rw [← List.map_id ts]
  rfl
theorem m_join : MtR X "str.join" (rJoin X.K) := fun pins s σ H x xs v us Q I rx rs h => by
  obtain ⟨sep, p, ts, rfl, rfl, hs, hz, q⟩ := h
  have e1 : ts.map S = (ts.map fun t => (⟨⟨t⟩⟩ : Str)).map V.str := by rw [List.map_map]; rfl
  have e2 : (ts.map fun t => (⟨⟨t⟩⟩ : Str)).map (·.length) = ts.map List.length := by rw [List.map_map]; rfl
  rw [e1] at hs
  refine mt_join pins s σ H _ _ v us Q I rx rs ⟨⟨⟨sep⟩⟩, p, ts.map fun t => (⟨⟨t⟩⟩ : Str), rfl, rfl, hs, ?_, ?_⟩
  · rw [e2, List.length_map]
    exact hz
  · have e3 : V.str (Txt.join ⟨⟨sep⟩⟩ (ts.map fun t => (⟨⟨t⟩⟩ : Str))) = S (TL.joinL sep ts) := by
      have := TL.tl_join ⟨⟨sep⟩⟩ (ts.map fun t => (⟨⟨t⟩⟩ : Str))
      rw [map_tl] at this
      rw [TL.join_eq]
      show S (TL.tl (Str.join ⟨⟨sep⟩⟩ (ts.map fun t => (⟨⟨t⟩⟩ : Str)))) = S (TL.joinL sep ts)
      rw [this]
    rw [e3]
    exact q
end
/-! ### data: opened -/
section
variable {K : PySem.W.Frag} {P : Hp} {v : V}
theorem dp_str {t : List Nat} (h : Dp K P v (eS t)) : v = S t := by cases h; rfl
theorem dp_int {i : Int} (h : Dp K P v (.int i)) : v = .int i := by cases h; rfl
theorem dp_bl {i : Bool} (h : Dp K P v (.bool i)) : v = .bl i := by cases h; rfl
theorem dp_non (h : Dp K P v .none) : v = .non := by cases h; rfl
theorem pd_str (t : List Nat) : Dp K P (S t) (eS t) := .str _
theorem pd_int (i : Int) : Dp K P (.int i) (.int i) := .int _
theorem pd_bl (i : Bool) : Dp K P (.bl i) (.bool i) := .bl _
theorem pd_non : Dp K P .non .none := .non
theorem dp_list {ds : List PyData} (h : Dp K P v (.list ds)) : ∃ a vs, v = .ref a ∧ SqL K P a vs ∧ DpAll K P vs ds := by
  cases h with
  | lst hs ha => exact ⟨_, _, rfl, hs, ha⟩
theorem dp_tup {ds : List PyData} (h : Dp K P v (.tuple ds)) : ∃ a vs, v = .ref a ∧ SqT K P a vs ∧ DpAll K P vs ds := by
  cases h with
  | tup hs ha => exact ⟨_, _, rfl, hs, ha⟩
theorem dpa_nil {vs : List V} (h : DpAll K P vs []) : vs = [] := by cases h; rfl
theorem dpa_cons {vs : List V} {d : PyData} {ds : List PyData} (h : DpAll K P vs (d :: ds)) : ∃ u us, vs = u :: us ∧ Dp K P u d ∧ DpAll K P us ds := by
  cases h with
  | cons h1 h2 => exact ⟨_, _, rfl, h1, h2⟩
theorem dp_tup2 {d1 d2 : PyData} (h : Dp K P v (.tuple [d1, d2])) : ∃ a v1 v2, v = .ref a ∧ SqT K P a [v1, v2] ∧ Dp K P v1 d1 ∧ Dp K P v2 d2 := by
  obtain ⟨a, vs, rfl, hs, ha⟩ := dp_tup h
  obtain ⟨v1, vs, rfl, h1, ha⟩ := dpa_cons ha
  obtain ⟨v2, vs, rfl, h2, ha⟩ := dpa_cons ha
  obtain rfl := dpa_nil ha
  exact ⟨a, v1, v2, rfl, hs, h1, h2⟩
theorem dp_tup3 {d1 d2 d3 : PyData} (h : Dp K P v (.tuple [d1, d2, d3])) : ∃ a v1 v2 v3, v = .ref a ∧ SqT K P a [v1, v2, v3] ∧ Dp K P v1 d1 ∧ Dp K P v2 d2 ∧ Dp K P v3 d3 := by
  obtain ⟨a, vs, rfl, hs, ha⟩ := dp_tup h
  obtain ⟨v1, vs, rfl, h1, ha⟩ := dpa_cons ha
  obtain ⟨v2, vs, rfl, h2, ha⟩ := dpa_cons ha
  obtain ⟨v3, vs, rfl, h3, ha⟩ := dpa_cons ha
  obtain rfl := dpa_nil ha
  exact ⟨a, v1, v2, v3, rfl, hs, h1, h2, h3⟩
theorem dp_tup4 {d1 d2 d3 d4 : PyData} (h : Dp K P v (.tuple [d1, d2, d3, d4])) : ∃ a v1 v2 v3 v4, v = .ref a ∧ SqT K P a [v1, v2, v3, v4] ∧ Dp K P v1 d1 ∧ Dp K P v2 d2 ∧ Dp K P v3 d3 ∧ Dp K P v4 d4 := by
  obtain ⟨a, vs, rfl, hs, ha⟩ := dp_tup h
  obtain ⟨v1, vs, rfl, h1, ha⟩ := dpa_cons ha
  obtain ⟨v2, vs, rfl, h2, ha⟩ := dpa_cons ha
  obtain ⟨v3, vs, rfl, h3, ha⟩ := dpa_cons ha
  obtain ⟨v4, vs, rfl, h4, ha⟩ := dpa_cons ha
  obtain rfl := dpa_nil ha
  exact ⟨a, v1, v2, v3, v4, rfl, hs, h1, h2, h3, h4⟩
/-- a list of scalars is known by its values -/
theorem dpa_map {α : Type} {f : α → V} {e : α → PyData} (hf : ∀ (v : V) (x : α), Dp K P v (e x) → v = f x) : ∀ {xs : List α} {vs : List V}, DpAll K P vs (xs.map e) → vs = xs.map f
  | [], _, h => dpa_nil h
  | x :: r, _, h => by
    obtain ⟨u, us, rfl, h1, h2⟩ := dpa_cons h
    rw [hf u x h1, dpa_map hf h2]
    rfl
theorem dpa_strs {ts : List (List Nat)} {vs : List V} (h : DpAll K P vs (ts.map eS)) : vs = ts.map S := dpa_map (fun _ _ h => dp_str h) h
theorem pda_map {α : Type} {f : α → V} {e : α → PyData} (hf : ∀ x : α, Dp K P (f x) (e x)) : ∀ xs : List α, DpAll K P (xs.map f) (xs.map e)
  | [] => .nil
  | x :: r => .cons (hf x) (pda_map hf r)
theorem pda_strs (ts : List (List Nat)) : DpAll K P (ts.map S) (ts.map eS) := pda_map (fun t => pd_str t) ts
theorem dpa_len : ∀ {ds : List PyData} {vs : List V}, DpAll K P vs ds → vs.length = ds.length
  | [], _, h => by rw [dpa_nil h]; rfl
  | d :: ds, _, h => by
    obtain ⟨u, us, rfl, h1, h2⟩ := dpa_cons h
    rw [List.length_cons, List.length_cons, dpa_len h2]
theorem dpa_app : ∀ {ds es : List PyData} {vs us : List V}, DpAll K P vs ds → DpAll K P us es → DpAll K P (vs ++ us) (ds ++ es)
  | [], _, _, _, h, h' => by
    rw [dpa_nil h]
    exact h'
  | d :: ds, _, _, _, h, h' => by
    obtain ⟨u, us, rfl, h1, h2⟩ := dpa_cons h
    exact .cons h1 (dpa_app h2 h')
theorem dpa_one {d : PyData} (h : Dp K P v d) : DpAll K P [v] [d] := .cons h .nil
theorem dpa_get {α : Type} {e : α → PyData} : ∀ {xs : List α} {vs : List V} {i : Nat} {v : V}, DpAll K P vs (xs.map e) → vs[i]? = some v → ∃ x, xs[i]? = some x ∧ Dp K P v (e x) ∧ xs.drop i = x :: xs.drop (i + 1)
  | [], _, i, v, h, hi => by
    rw [dpa_nil h] at hi
    simp at hi
  | x :: r, _, 0, v, h, hi => by
    obtain ⟨u, us, rfl, h1, h2⟩ := dpa_cons h
    cases hi
    exact ⟨x, rfl, h1, rfl⟩
  | x :: r, _, i + 1, v, h, hi => by
    obtain ⟨u, us, rfl, h1, h2⟩ := dpa_cons h
    exact dpa_get (xs := r) (vs := us) (i := i) (v := v) h2 hi
theorem dpa_at {α : Type} {e : α → PyData} {xs : List α} {vs : List V} {i : Int} {d : α} (h : DpAll K P vs (xs.map e)) (hi : 0 ≤ i ∧ i < xs.length) : ∃ v, atI vs i = some v ∧ Dp K P v (e (xs.getD i.toNat d)) := by
  obtain ⟨n, rfl⟩ := Int.eq_ofNat_of_zero_le hi.1
  have hl : n < xs.length := by omega
  have hl2 : n < vs.length := by rw [dpa_len h, List.length_map]; exact hl
  obtain ⟨x, hx, hd, _⟩ := dpa_get (i := n) h (List.getElem?_eq_getElem hl2)
  refine ⟨_, atI_nat (List.getElem?_eq_getElem hl2), ?_⟩
  rw [Int.toNat_natCast]
  have : xs.getD n d = x := by
    rw [List.getD, hx]
    rfl
  rw [this]
  exact hd
end
theorem get_map {α : Type} {f : α → V} : ∀ {xs : List α} {i : Nat} {v : V}, (xs.map f)[i]? = some v → ∃ x, xs[i]? = some x ∧ v = f x ∧ xs.drop i = x :: xs.drop (i + 1)
  | [], _, _, h => by simp at h
  | x :: r, 0, v, h => ⟨x, rfl, (Option.some.inj h).symm, rfl⟩
  | x :: r, i + 1, v, h => get_map (xs := r) (i := i) (v := v) h
theorem get_drop {α : Type} : ∀ {xs : List α} {i : Nat} {v : α}, xs[i]? = some v → xs.drop i = v :: xs.drop (i + 1)
  | [], _, _, h => by simp at h
  | x :: r, 0, v, h => by
    have e : x = v := Option.some.inj h
    subst e
    rfl
  | x :: r, i + 1, v, h => get_drop (xs := r) (i := i) (v := v) h
theorem sz {n : Nat} (h : n ≤ 1000000) : n ≤ sizeLine := Nat.le_trans h (by decide)
theorem szl {n : Nat} (h : n < 1000000) : n < sizeLine := Nat.lt_of_lt_of_le h (by decide)
end G
namespace G
open PySem PySem.Spec PyProof.Rows L2
section
variable {X : Cx}
abbrev rIxT1 : R2 := rIxT
def rLenM (K : PySem.W.Frag) : List V → Hp → VK → Prop := fun xs H Q => ∃ (p : Addr) (ys : List V) (n : Nat), xs = [.ref p] ∧ SqL K H p ys ∧ ys.length = n ∧ Q (.int n) H
theorem c_lenM : CallR X (.builtin "len") (rLenM X.K) := fun pins s σ H xs us Q I r h => by
  obtain ⟨p, ys, n, rfl, hs, rfl, q⟩ := h
  exact call_len_seq pins s σ H _ us Q I r ⟨p, ys, rfl, .inl hs, q⟩
def rInt : List V → Hp → VK → Prop := fun xs H Q => (∃ i, xs = [.int i] ∧ Q (.int i) H) ∨ ∃ k, xs = [.bl k] ∧ Q (.int (if k then 1 else 0)) H
theorem c_int : CallR X (.type "int") rInt := call_int1
end
/-- a def of the module, by its promise -/
structure Cal (P : Program) (w : World) (K : PySem.W.Frag) (mg : Str → Option Value) (base : Heap) (k : Nat) (x : Str) (sp : Sp) : Prop where
  ex : ∃ (f : Addr) (fd : FuncData) (ps : List Str), FnOk P w K mg base CX0 k f fd ps sp ∧ mg x = some (.ref f) ∧ PySem.W.keepIn K (.ref f) = true ∧ Binds K fd ps []
section
variable {X : Cx}
theorem pe_c {k j : Nat} {x : Str} {sp : Sp} {p pos : Pos} {e : Expr} {es : List Expr} {t : TA} (c : Cal X.prog X.w X.K X.mg X.base k x sp) (hr : Room j X.A) (hk : k ≤ j) (hg : Gl X x) (ha : PA X (e :: es) t)
    (hdb : (x == ("__debug__" : Str)) = false := by decide) (he : starEach (e :: es) X.env = (false, eval e X.env) :: starEach es X.env := by rfl) (hpl : (backTo pos (starEach es X.env)).any (·.1) = false := by rfl) :
    PE X (.Call (.Name x p) (e :: es) [] pos) (tCall sp [] E0 t) := by
  obtain ⟨f, fd, ps, F, hm, kp, b⟩ := c.ex
  exact pe_call F (hr.mono hk) hg hm kp b .nil pass0 ha hdb he hpl
theorem pe_c0 {k j : Nat} {x : Str} {sp : Sp} {p pos : Pos} (c : Cal X.prog X.w X.K X.mg X.base k x sp) (hr : Room j X.A) (hk : k ≤ j) (hg : Gl X x) (hdb : (x == ("__debug__" : Str)) = false := by decide) : PE X (.Call (.Name x p) [] [] pos) (tCall sp [] E0 tNil) := by
  obtain ⟨f, fd, ps, F, hm, kp, b⟩ := c.ex
  exact pe_call0 F (hr.mono hk) hg hm kp b .nil pass0 hdb
def rMulS : R2 := fun x y H Q => ∃ (a : List Nat) (n : Int), x = S a ∧ y = .int n ∧ (0 ≤ n ∧ n ≤ 1000) ∧ a.length * n.toNat ≤ sizeLine ∧ Q (S (List.replicate n.toNat a).flatten) H
end
theorem q_cutM {D : Ends} {σ : L2.St} {H : Hp} {tu tz : TS} (M : L2.St → Hp → Prop) (h : tu { D with nx := M } σ H) (k : ∀ σ' H', M σ' H' → tz D σ' H') : Evl.tCut tu tz D σ H := ⟨M, h, k⟩
/-! ### turns -/
theorem range_drop {n i : Nat} (h : i < n) : (List.range n).drop i = i :: (List.range n).drop (i + 1) := get_drop (by
  rw [List.getElem?_eq_getElem (by rw [List.length_range]; exact h)]
  simp)
theorem drop_range_all {n : Nat} : (List.range n).drop n = [] := List.drop_of_length_le (by rw [List.length_range]; exact Nat.le_refl _)
theorem take_range_all {n : Nat} : (List.range n).take n = List.range n := List.take_of_length_le (by rw [List.length_range]; exact Nat.le_refl _)
theorem str_drop {t : List Nat} {i c : Nat} (h : ((⟨⟨t⟩⟩ : Str).cps)[i]? = some c) : t.drop i = c :: t.drop (i + 1) := get_drop (by simpa using h)
theorem str_mem {t : List Nat} {i c : Nat} (h : ((⟨⟨t⟩⟩ : Str).cps)[i]? = some c) : c ∈ t := List.mem_of_getElem? (l := t) (i := i) (by simpa using h)
theorem drop_str_all {t : List Nat} : t.drop (⟨⟨t⟩⟩ : Str).cps.size = [] := List.drop_of_length_le (Nat.le_refl _)
theorem take_str_all {t : List Nat} : t.take (⟨⟨t⟩⟩ : Str).cps.size = t := List.take_of_length_le (Nat.le_refl _)
theorem str_bnd {t : List Nat} {n : Nat} (h : t.length ≤ n) : (⟨⟨t⟩⟩ : Str).cps.size ≤ n := h
section
variable {K : PySem.W.Frag} {P : Hp} {vs : List V} {α : Type} {e : α → PyData} {xs : List α}
theorem drop_dpa_all (h : DpAll K P vs (xs.map e)) : xs.drop vs.length = [] := List.drop_of_length_le (by rw [dpa_len h, List.length_map]; exact Nat.le_refl _)
theorem take_dpa_all (h : DpAll K P vs (xs.map e)) : xs.take vs.length = xs := List.take_of_length_le (by rw [dpa_len h, List.length_map]; exact Nat.le_refl _)
theorem dpa_bnd {n : Nat} (h : DpAll K P vs (xs.map e)) (hn : xs.length ≤ n) : vs.length ≤ n := by
  rw [dpa_len h, List.length_map]
  exact hn
theorem dpa_snoc {v : V} {x : α} (h : DpAll K P vs (xs.map e)) (hx : Dp K P v (e x)) : DpAll K P (vs ++ [v]) ((xs ++ [x]).map e) := by
  rw [List.map_append]
  exact dpa_app h (dpa_one hx)
end
section
variable {α β : Type} {xs : List α} {i : Nat} {x : α} {f : α → β} {p : α → Bool}
theorem take_snoc (h : xs.drop i = x :: xs.drop (i + 1)) : xs.take (i + 1) = xs.take i ++ [x] := by
  have hl : i < xs.length := by
    have := congrArg List.length h
    simp only [List.length_drop, List.length_cons] at this
    omega
  have hx : xs[i]? = some x := by
    have := congrArg List.head? h
    rw [List.head?_drop] at this
    exact this
  rw [List.take_add_one, hx]
  rfl
theorem take_snoc_map (h : xs.drop i = x :: xs.drop (i + 1)) : (xs.take (i + 1)).map f = (xs.take i).map f ++ [f x] := by
  rw [take_snoc h, List.map_append]
  rfl
theorem take_snoc_filter (h : xs.drop i = x :: xs.drop (i + 1)) (hp : p x = true) : ((xs.take (i + 1)).filter p).map f = ((xs.take i).filter p).map f ++ [f x] := by
  rw [take_snoc h, List.filter_append, List.map_append, List.filter_cons, if_pos hp]
  rfl
theorem take_snoc_filter_no (h : xs.drop i = x :: xs.drop (i + 1)) (hp : p x = false) : ((xs.take (i + 1)).filter p).map f = ((xs.take i).filter p).map f := by
  rw [take_snoc h, List.filter_append, List.map_append, List.filter_cons, if_neg (by rw [hp]; exact Bool.false_ne_true)]
  simp
theorem len_tm : ((xs.take i).map f).length ≤ i := by
  rw [List.length_map, List.length_take]
  exact Nat.min_le_left _ _
theorem len_tf : (((xs.take i).filter p).map f).length ≤ i := by
  rw [List.length_map]
  refine Nat.le_trans (List.length_filter_le _ _) ?_
  rw [List.length_take]
  exact Nat.min_le_left _ _
end
theorem sum_le {ts : List (List Nat)} {c : Nat} (h : ∀ t ∈ ts, t.length ≤ c) : (ts.map List.length).sum ≤ ts.length * c := by
  induction ts with
  | nil => simp
  | cons t r ih =>
    rw [List.map_cons, List.sum_cons, List.length_cons, Nat.succ_mul]
    have h1 := h t List.mem_cons_self
    have h2 := ih fun u hu => h u (List.mem_cons_of_mem _ hu)
    omega
theorem join_ok {ts : List (List Nat)} {sep : List Nat} (n c : Nat) (h : ∀ t ∈ ts, t.length ≤ c) (hn : ts.length ≤ n) (hb : n * (c + sep.length) ≤ 16777216) : (ts.map List.length).sum + ts.length * sep.length ≤ 16777216 := by
  have h1 := sum_le h
  have h2 : ts.length * c + ts.length * sep.length ≤ n * (c + sep.length) := by
    rw [← Nat.mul_add]
    exact Nat.mul_le_mul_right _ hn
  omega
theorem one_map {xs : List Nat} : ∀ t ∈ xs.map (fun c => ([c] : List Nat)), t.length ≤ 1 := fun t ht => by
  obtain ⟨c, _, rfl⟩ := List.mem_map.mp ht
  exact Nat.le_refl _
theorem joinL_nil : ∀ ts : List (List Nat), TL.joinL [] ts = ts.flatten
  | [] => rfl
  | [t] => by simp [TL.joinL]
  | t :: u :: r => by
    have ih := joinL_nil (u :: r)
    show t ++ ([] ++ TL.joinL [] (u :: r)) = (t :: u :: r).flatten
    rw [ih]
    rfl
/-! ### the draws -/
structure Box where
  i : Nat
  acc : Int
  seed : Int
def boxO (l : Addr) (b : Box) : HO := .lst [.ref l, .int b.i, .int b.acc, .int b.seed]
def take1 (ns : List Int) (b : Box) : Box :=
  if (decide (b.acc < 2) && decide ((b.i : Int) < ns.length)) = true then
    { i := b.i + 1, seed := (b.seed * 48271 + ns.getD b.i 0 % 2147483629 * 69621 + 11) % 2147483647, acc := if decide (10 ^ 18 ≤ ns.getD b.i 0) = true then ns.getD b.i 0 - 10 ^ 18 else b.acc }
  else b
def m_take (ns : List Int) (b : Box) (n : Int) : Int × Box :=
  if decide (1 < (take1 ns b).acc) = true then ((take1 ns b).acc % n, { take1 ns b with acc := (take1 ns b).acc / n })
  else (((take1 ns b).seed * 48271 + 12345) % 2147483647 / 2048 % n, { take1 ns b with seed := ((take1 ns b).seed * 48271 + 12345) % 2147483647 })
theorem take_rng (ns : List Int) (b : Box) {n : Int} (h : 0 < n) : 0 ≤ (m_take ns b n).1 ∧ (m_take ns b n).1 < n := by
  unfold m_take
  split
  · exact ⟨Int.emod_nonneg _ (by omega), Int.emod_lt_of_pos _ h⟩
  · exact ⟨Int.emod_nonneg _ (by omega), Int.emod_lt_of_pos _ h⟩
end G
namespace G
open PySem PySem.Spec PyProof.Rows L2
/-! ### _law_take: its reading -/
abbrev ixB (K : PySem.W.Frag) (i : Int) : TE := tOp (rIxL K) (tVar 0) (tC (V.int i))
def tTakeR (K : PySem.W.Frag) : TS :=
  tSeq (tIfS (tAnd (tTest (tOp rLt (ixB K 2) (tC (V.int 2)))) (tTest (tOp rLt (ixB K 1) (tCB (rLenL K) (tCons (ixB K 0) tNil)))))
    (tSeq (tAsg (tOp (rIxL K) (ixB K 0) (ixB K 1)) (gName 2))
    (tSeq (tAsg (tOp rAdd (ixB K 1) (tC (V.int 1))) (gSub (tVar 0) (tC (V.int 1)) rSetL))
    (tSeq (tAsg (tOp rMod (tCB rInt (tCons (tOp rAdd (tOp rAdd (tOp rMul (ixB K 3) (tC (V.int 48271))) (tOp rMul (tOp rMod (tCB rInt (tCons (tVar 2) tNil)) (tC (V.int 2147483629))) (tC (V.int 69621)))) (tC (V.int 11))) tNil)) (tC (V.int 2147483647))) (gSub (tVar 0) (tC (V.int 3)) rSetL))
    (tIfS (tTest (tOp rGe (tVar 2) (tOp rPow (tC (V.int 10)) (tC (V.int 18))))) (tAsg (tOp rSub (tVar 2) (tOp rPow (tC (V.int 10)) (tC (V.int 18)))) (gSub (tVar 0) (tC (V.int 2)) rSetL)) tNext)))) tNext)
  (tSeq (tIfS (tTest (tOp rGt (ixB K 2) (tC (V.int 1))))
    (tSeq (tAsg (tOp rMod (tCB rInt (tCons (ixB K 2) tNil)) (tVar 1)) (gName 3))
    (tSeq (tAsg (tOp rDiv (ixB K 2) (tVar 1)) (gSub (tVar 0) (tC (V.int 2)) rSetL)) (tRet (tVar 3)))) tNext)
  (tSeq (tAsg (tOp rMod (tCB rInt (tCons (tOp rAdd (tOp rMul (ixB K 3) (tC (V.int 48271))) (tC (V.int 12345))) tNil)) (tC (V.int 2147483647))) (gSub (tVar 0) (tC (V.int 3)) rSetL))
  (tRet (tOp rMod (tCB rInt (tCons (tOp rDiv (ixB K 3) (tC (V.int 2048))) tNil)) (tVar 1)))))
def takeE (b : Box) (n : Int) : Int × Box := if decide (1 < b.acc) = true then (b.acc % n, { b with acc := b.acc / n }) else ((b.seed * 48271 + 12345) % 2147483647 / 2048 % n, { b with seed := (b.seed * 48271 + 12345) % 2147483647 })
section
variable {K : PySem.W.Frag}
/-- the rest of _law_take, once the first if is behind -/
theorem take_rest {P H : Hp} {cs0 : Cs} {a l : Addr} {b : Box} {n : Int} {Q : VK} {x : Option V} (w : Wd P H ((a, boxO l b) :: cs0)) (n0 : 0 < n) (n1 : n < 1000000)
    (q : ∀ H1, Wd P H1 ((a, boxO l (takeE b n).2) :: cs0) →
      Q (.int (takeE b n).1) H1) :
    (tSeq (tIfS (tTest (tOp rGt (ixB K 2) (tC (V.int 1))))
    (tSeq (tAsg (tOp rMod (tCB rInt (tCons (ixB K 2) tNil)) (tVar 1)) (gName 3))
    (tSeq (tAsg (tOp rDiv (ixB K 2) (tVar 1)) (gSub (tVar 0) (tC (V.int 2)) rSetL)) (tRet (tVar 3)))) tNext)
  (tSeq (tAsg (tOp rMod (tCB rInt (tCons (tOp rAdd (tOp rMul (ixB K 3) (tC (V.int 48271))) (tC (V.int 12345))) tNil)) (tC (V.int 2147483647))) (gSub (tVar 0) (tC (V.int 3)) rSetL))
  (tRet (tOp rMod (tCB rInt (tCons (tOp rDiv (ixB K 3) (tC (V.int 2048))) tNil)) (tVar 1))))) { nx := fun _ H1 => Q .non H1, rt := Q } [some (.ref a), some (.int n), x, none] H := by
  refine ⟨_, rfl, a, _, 2, _, rfl, rfl, .inl (.inl w.hd), rfl, _, _, rfl, rfl, _, rfl, ?_⟩
  refine iteB (fun hb => ?_) (fun hb => ?_)
  · have eE : takeE b n = (b.acc % n, { b with acc := b.acc / n }) := by unfold takeE; rw [if_pos hb]
    rw [eE] at q
    refine ⟨_, rfl, a, _, 2, _, rfl, rfl, .inl (.inl w.hd), rfl, ?_⟩
    refine Or.inl ⟨_, rfl, _, rfl, _, _, rfl, rfl, n0, ?_⟩
    refine ⟨_, rfl, a, _, 2, _, rfl, rfl, .inl (.inl w.hd), rfl, _, rfl, _, _, rfl, rfl, ⟨n0, by omega⟩, _, rfl, a, _, 2, 2, rfl, rfl, w.hd, rfl, _, rfl, ?_⟩
    exact q _ (w.put 0 _ rfl)
  · have eE : takeE b n = ((b.seed * 48271 + 12345) % 2147483647 / 2048 % n, { b with seed := (b.seed * 48271 + 12345) % 2147483647 }) := by unfold takeE; rw [if_neg (by rw [show decide (1 < b.acc) = false from hb]; exact Bool.false_ne_true)]
    rw [eE] at q
    refine ⟨_, rfl, a, _, 3, _, rfl, rfl, .inl (.inl w.hd), rfl, _, _, rfl, rfl, .inr ⟨by decide, by decide⟩, _, _, rfl, rfl, ?_⟩
    refine Or.inl ⟨_, rfl, _, _, rfl, rfl, (by decide : (0 : Int) < 2147483647), _, rfl, a, _, 3, 3, rfl, rfl, w.hd, rfl, ?_⟩
    have w2 := w.put 0 (boxO l { b with seed := (b.seed * 48271 + 12345) % 2147483647 }) rfl
    refine ⟨_, rfl, a, _, 3, _, rfl, rfl, .inl (.inl w2.hd), rfl, _, _, rfl, rfl, ⟨by decide, by decide⟩, ?_⟩
    refine Or.inl ⟨_, rfl, _, rfl, _, _, rfl, rfl, n0, ?_⟩
    exact q _ w2
theorem rd_takeR {P H : Hp} {cs0 : Cs} {a l : Addr} {ns : List Int} {b : Box} {n : Int} {Q : VK} (w : Wd P H ((a, boxO l b) :: cs0)) (hl : SqL K P l (ns.map V.int)) (n0 : 0 < n) (n1 : n < 1000000)
    (q : ∀ H1, Wd P H1 ((a, boxO l (m_take ns b n).2) :: cs0) → Q (.int (m_take ns b n).1) H1) : tTakeR K { nx := fun _ H1 => Q .non H1, rt := Q } [some (.ref a), some (.int n), none, none] H := by
  have em : m_take ns b n = takeE (take1 ns b) n := rfl
  rw [em] at q
  have hB : ∀ Q' : Bool → Hp → Prop, Q' (decide (b.acc < 2) && decide ((b.i : Int) < ns.length)) H → (tAnd (tTest (tOp rLt (ixB K 2) (tC (V.int 2)))) (tTest (tOp rLt (ixB K 1) (tCB (rLenL K) (tCons (ixB K 0) tNil))))) [some (.ref a), some (.int n), none, none] H Q' := by
    intro Q' hQ
    refine ⟨_, rfl, a, _, 2, _, rfl, rfl, .inl (.inl w.hd), rfl, _, _, rfl, rfl, _, rfl, ?_⟩
    refine iteB (fun h1 => ?_) (fun h1 => ?_)
    · rw [h1, Bool.true_and] at hQ
      refine ⟨_, rfl, a, _, 1, _, rfl, rfl, .inl (.inl w.hd), rfl, _, rfl, a, _, 0, _, rfl, rfl, .inl (.inl w.hd), rfl, l, _, rfl, .inl (w.sql hl), _, _, rfl, rfl, _, rfl, ?_⟩
      rw [List.length_map]
      exact hQ
    · rw [h1, Bool.false_and] at hQ
      exact hQ
  refine hB _ ?_
  refine iteB (fun h1 => ?_) (fun h1 => ?_)
  · have e1 : take1 ns b = { i := b.i + 1, seed := (b.seed * 48271 + ns.getD b.i 0 % 2147483629 * 69621 + 11) % 2147483647, acc := if decide (10 ^ 18 ≤ ns.getD b.i 0) = true then ns.getD b.i 0 - 10 ^ 18 else b.acc } := by
      unfold take1
      rw [if_pos h1]
    rw [e1] at q
    rw [Bool.and_eq_true, decide_eq_true_eq, decide_eq_true_eq] at h1
    have hat : atI (ns.map V.int) (b.i : Int) = some (V.int (ns.getD b.i 0)) := by
      have := atI_mapD (t := ns) (i := (b.i : Int)) (d := 0) (f := V.int) ⟨by omega, h1.2⟩
      rw [Int.toNat_natCast] at this
      exact this
    refine ⟨_, rfl, a, _, 0, _, rfl, rfl, .inl (.inl w.hd), rfl, _, rfl, a, _, 1, _, rfl, rfl, .inl (.inl w.hd), rfl, l, _, _, _, rfl, rfl, w.sql hl, hat, ?_⟩
    refine ⟨_, rfl, a, _, 1, _, rfl, rfl, .inl (.inl w.hd), rfl, _, _, rfl, rfl, _, rfl, a, _, 1, 1, rfl, rfl, w.hd, rfl, ?_⟩
    have w2 := w.put 0 (boxO l { b with i := b.i + 1 }) rfl
    have w2' : Wd P (upd H a (HO.lst [.ref l, .int ((b.i : Int) + 1), .int b.acc, .int b.seed])) ((a, boxO l { b with i := b.i + 1 }) :: cs0) := w2
    refine ⟨_, rfl, a, _, 3, _, rfl, rfl, .inl (.inl w2'.hd), rfl, _, _, rfl, rfl, .inr ⟨by decide, by decide⟩, _, rfl, ?_⟩
    refine Or.inl ⟨_, rfl, _, _, rfl, rfl, (by decide : (0 : Int) < 2147483629), _, _, rfl, rfl, .inr ⟨by decide, by decide⟩, _, _, rfl, rfl, _, _, rfl, rfl, ?_⟩
    refine Or.inl ⟨_, rfl, _, _, rfl, rfl, (by decide : (0 : Int) < 2147483647), _, rfl, a, _, 3, 3, rfl, rfl, w2'.hd, rfl, ?_⟩
    have w3 := w2'.put 0 (boxO l { i := b.i + 1, acc := b.acc, seed := (b.seed * 48271 + ns.getD b.i 0 % 2147483629 * 69621 + 11) % 2147483647 }) rfl
    refine ⟨_, rfl, _, _, rfl, rfl, ⟨by decide, by decide, by decide⟩, _, _, rfl, rfl, _, rfl, ?_⟩
    refine iteB (fun h2 => ?_) (fun h2 => ?_)
    · have h2' : decide ((10 : Int) ^ 18 ≤ ns.getD b.i 0) = true := h2
      rw [h2', if_pos rfl] at q
      refine ⟨_, rfl, _, _, rfl, rfl, ⟨by decide, by decide, by decide⟩, _, _, rfl, rfl, _, rfl, a, _, 2, 2, rfl, rfl, w3.hd, rfl, ?_⟩
      have w4 := w3.put 0 (boxO l { i := b.i + 1, acc := ns.getD b.i 0 - 10 ^ 18, seed := (b.seed * 48271 + ns.getD b.i 0 % 2147483629 * 69621 + 11) % 2147483647 }) rfl
      exact take_rest w4 n0 n1 q
    · have h2' : decide ((10 : Int) ^ 18 ≤ ns.getD b.i 0) = false := h2
      rw [h2', if_neg Bool.false_ne_true] at q
      exact take_rest w3 n0 n1 q
  · have e1 : take1 ns b = b := by
      unfold take1
      rw [if_neg (by rw [h1]; exact Bool.false_ne_true)]
    rw [e1] at q
    exact take_rest w n0 n1 q
end
/-! ### _law_box: its reading -/
def absL (ns : List Int) : List Int := (cutT0 ns).map fun i => if i < 0 then -i else i
where cutT0 (ns : List Int) : List Int := ns.take 63
def box0 : Box := ⟨0, 1, 7⟩
def tBoxR (K : PySem.W.Frag) : TS :=
  tRet (tLst (tCons (tLc (iList K (tSl (rSlL K) (tVar 0) tNoPart (tPart (tC (V.int 63))))) (gName 1) tYes (tCB (fun xs H Q => ∃ i, xs = [.int i] ∧ Q (.int (if i < 0 then -i else i)) H) (tCons (tVar 1) tNil)) [1]) (tCons (tC (V.int 0)) (tCons (tC (V.int 1)) (tCons (tC (V.int 7)) tNil)))))
theorem cut63 (ns : List Int) (h : ns.length ≤ 63) : cutV (ns.map V.int) none (some 63) = ns.map V.int := by
  unfold cutV
  rw [HT.sIx_none, List.drop_zero]
  refine List.take_of_length_le ?_
  rw [Nat.sub_zero, List.length_map]
  rw [show HT.sIx ns.length ns.length (some 63) = min 63 ns.length from HT.sIx_nat ns.length ns.length 63]
  omega
theorem rd_boxR {K : PySem.W.Frag} {P H : Hp} {cs0 : Cs} {a : Addr} {ns : List Int} {Q : VK} (w : Wd P H cs0) (hl : SqL K P a (ns.map V.int)) (hlen : ns.length ≤ 63)
    (q : ∀ (H1 P1 : Hp) (p l : Addr), Ext P P1 → Wd P1 H1 ((p, boxO l box0) :: cs0) → SqL K P1 l ((absL ns).map V.int) → Q (.ref p) H1) : tBoxR K { nx := fun _ H1 => Q .non H1, rt := Q } [some (.ref a), none] H := by
  refine ⟨_, rfl, 63, rfl, a, _, rfl, w.sql hl, fun c nc => ?_⟩
  rw [cut63 ns hlen]
  have w1 := w.frz nc (HO.lst (ns.map V.int))
  have e1 := w.fext nc (HO.lst (ns.map V.int))
  have hc : (upd P c (HO.lst (ns.map V.int))) c = some (HO.lst (ns.map V.int)) := upd_same
  generalize upd H c (HO.lst (ns.map V.int)) = H2 at w1 ⊢
  generalize upd P c (HO.lst (ns.map V.int)) = P2 at w1 e1 hc
  refine ⟨c, rfl, ⟨_, w1.lst hc⟩, fun D nD => ?_⟩
  refine lc_it (walk_list (K := K) (a := c) (xs := ns.map V.int)) (fun i H1 => Wd P2 H1 ((D, HO.lst (((ns.take i).map fun i => if i < 0 then -i else i).map V.int)) :: cs0)) (w1.new nD _) (fun i H1 _ w2 => w2.lst hc) ?_ ?_
  · rintro i x H1 H3 hi w2 y
    obtain ⟨eH, hx⟩ := y
    rw [eH]
    obtain ⟨z, hz, rfl, eD⟩ := get_map hx
    refine ⟨rfl, ?_⟩
    refine ⟨_, rfl, _, rfl, _, w2.hd, ?_, ?_⟩
    · rw [List.length_map, List.length_map, List.length_take]
      exact szl (by omega)
    · have w3 := w2.put 0 (HO.lst (((ns.take i).map fun i => if i < 0 then -i else i).map V.int ++ [V.int (if z < 0 then -z else z)])) rfl
      have e2 : ((ns.take (i + 1)).map fun i => if i < 0 then -i else i).map V.int = ((ns.take i).map fun i => if i < 0 then -i else i).map V.int ++ [V.int (if z < 0 then -z else z)] := by
        rw [take_snoc_map eD, List.map_append]
        rfl
      show Wd P2 _ ((D, HO.lst (((ns.take (i + 1)).map fun i => if i < 0 then -i else i).map V.int)) :: cs0)
      rw [e2]
      exact w3
  · rintro H3 w2
    rw [List.length_map, List.take_of_length_le (Nat.le_refl _)] at w2
    have w3 := w2.keep
    have e3 := w2.kext
    have hD : (upd P2 D (HO.lst ((ns.map fun i => if i < 0 then -i else i).map V.int))) D = some (HO.lst ((ns.map fun i => if i < 0 then -i else i).map V.int)) := upd_same
    generalize upd P2 D (HO.lst ((ns.map fun i => if i < 0 then -i else i).map V.int)) = P3 at w3 e3 hD
    refine ⟨(by show 4 ≤ sizeLine; decide), fun p np => ?_⟩
    refine q _ P3 p D (e1.trans e3) (w3.new np _) (.inl (.inl ?_))
    unfold absL absL.cutT0
    rw [List.take_of_length_le hlen]
    exact hD
theorem snoc_all {α : Type} {p : α → Prop} {l : List α} {x : α} (h : ∀ t ∈ l, p t) (hx : p x) : ∀ t ∈ l ++ [x], p t := fun t ht => by
  rcases List.mem_append.mp ht with z | z
  · exact h t z
  · rw [List.mem_singleton.mp z]; exact hx
section
variable {X : Cx}
theorem pe_gc {x : Str} {v : V} {pos : Pos} (hg : Gl X x) (h : ∃ u, X.mg x = some u ∧ RelV v u) (hd : (x == ("__debug__" : Str)) = false := by decide) : PE X (.Name x pos) (tC v) := by
  obtain ⟨u, h1, h2⟩ := h
  exact pe_glob hg h1 h2 hd
end
theorem walk_range0 {n : Nat} : Walk (Itr 0 n) n (fun _ => True) (fun i H x H' => H' = H ∧ x = V.int (i : Int)) := walk_range.mono (fun _ h => h) fun i H x H' _ _ y => ⟨y.1, by rw [y.2]; show V.int (0 + (i : Int)) = _; rw [Int.zero_add]⟩
/-! ### cuts -/
def cutT {α : Type} (t : List α) (lo hi : Option Int) : List α := (t.drop (HT.sIx t.length 0 lo)).take (HT.sIx t.length t.length hi - HT.sIx t.length 0 lo)
theorem cutT_len {α : Type} (t : List α) (lo hi : Option Int) : (cutT t lo hi).length ≤ t.length := by
  unfold cutT
  rw [List.length_take, List.length_drop]
  omega
def rSlT1 : V → Option Int → Option Int → Hp → VK → Prop := fun x lo hi H Q => ∃ t : List Nat, x = S t ∧ t.length ≤ sizeLine ∧ Q (S (cutT t lo hi)) H
theorem s_strT {X : Cx} : SlR X rSlT1 := fun pins s σ H x v vl vu lo hi sl Q I rx hs pl pu h => by
  obtain ⟨t, rfl, hz, q⟩ := h
  exact sl_str pins s σ H _ v vl vu lo hi sl Q I rx hs pl pu ⟨_, rfl, hz, q⟩
theorem joinL_len {ts : List (List Nat)} {c : Nat} (h : ∀ t ∈ ts, t.length ≤ c) : (TL.joinL (cs "") ts).length ≤ ts.length * c := by
  rw [show cs "" = [] from by decide, joinL_nil]
  induction ts with
  | nil => simp
  | cons t r ih =>
    rw [List.flatten_cons, List.length_append, List.length_cons, Nat.succ_mul]
    have h1 := h t List.mem_cons_self
    have h2 := ih fun u hu => h u (List.mem_cons_of_mem _ hu)
    omega
end G
namespace G
open PySem PySem.Spec PyProof.Rows L2
/-- what the row asks of law -/
def spL (K : PySem.W.Frag) : Sp := fun vs H Q _ => ∃ (a : Addr) (ns : List Int), vs = [.ref a] ∧ SqL K H a (ns.map V.int) ∧ ns.length ≤ 63 ∧ ∀ H1, Q (.bl true) H1
theorem sqt_strs {K : PySem.W.Frag} {a : Addr} {o : Obj} {its : Array Value} {n : Nat} {xs : List V} (h1 : K.lookup a = some o) (h2 : o.cls = .type "tuple") (h3 : o.data = .seq its n) (h4 : its.size ≤ sizeLine) (h5 : Vals xs its.toList) (H : Hp) : SqT K H a xs :=
  .inr ⟨o, its, n, h1, h2, h3, h4, h5⟩
end G
namespace G
open PySem PySem.Spec PyProof.Rows L2

def topS (i : Nat) : Stmt := PySem.Challenge.pw_regrow_k03_sample_signs.main.body.getD i (.Pass ⟨0, 0, 0, 0⟩)
def cCAPITALS : List Nat := [65, 66, 67, 68, 69, 70, 71, 72, 73, 74, 75, 76, 77, 78, 79, 80, 81, 82, 83, 84, 85, 86, 87, 88, 89, 90]
def cSMALLS : List Nat := [97, 98, 99, 100, 101, 102, 103, 104, 105, 106, 107, 108, 109, 110, 111, 112, 113, 114, 115, 116, 117, 118, 119, 120, 121, 122]
def cFIGURES : List Nat := [48, 49, 50, 51, 52, 53, 54, 55, 56, 57]
def cSIGNS : List Nat := [32, 33, 34, 35, 36, 38, 39, 40, 41, 42, 43, 44, 45, 46, 47, 48, 49, 50, 51, 52, 53, 54, 55, 56, 57, 58, 59, 60, 61, 62, 63, 64, 65, 66, 67, 68, 69, 70, 71, 72, 73, 74, 75, 76, 77, 78, 79, 80, 81, 82, 83, 84, 85, 86, 87, 88, 89, 90, 91, 92, 93, 94, 95, 96, 97, 98, 99, 100, 101, 102, 103, 104, 105, 106, 107, 108, 109, 110, 111, 112, 113, 114, 115, 116, 117, 118, 119, 120, 121, 122, 123, 124, 125, 126]
abbrev s_take : Stmt := topS 12
abbrev s_box : Stmt := topS 11
abbrev s_kind_of : Stmt := topS 6
abbrev s_least_unnamed : Stmt := topS 7
abbrev s_sample_signs : Stmt := topS 8
abbrev s_sample_of : Stmt := topS 9
abbrev s_signs : Stmt := topS 13
abbrev s_sign : Stmt := topS 14
abbrev s_lkind : Stmt := topS 15
abbrev s_least : Stmt := topS 16
abbrev s_samples : Stmt := topS 17
abbrev s_law : Stmt := topS 18
structure GA where
  z0 : Addr
  aKINDS : Addr
structure Fa (K : PySem.W.Frag) (G : GA) : Prop where
  tr : True
  sKINDS : ∀ H : Hp, SqT K H G.aKINDS [S (cs "letter"), S (cs "figure"), S (cs "mark")]
structure Tx (K : PySem.W.Frag) (G : GA) (mg : Str → Option Value) : Prop where
  fa : Fa K G
  d_take : ∃ f fd, Fun K "_law_take" "_law_take" s_take f fd ∧ Binds K fd ["_law_box_here", "_law_size"] [] ∧ mg "_law_take" = some (.ref f)
  d_box : ∃ f fd, Fun K "_law_box" "_law_box" s_box f fd ∧ Binds K fd ["_law_script"] [] ∧ mg "_law_box" = some (.ref f)
  d_kind_of : ∃ f fd, Fun K "kind_of" "kind_of" s_kind_of f fd ∧ Binds K fd ["sign"] [] ∧ mg "kind_of" = some (.ref f)
  d_least_unnamed : ∃ f fd, Fun K "least_unnamed" "least_unnamed" s_least_unnamed f fd ∧ Binds K fd ["kind", "signs"] [] ∧ mg "least_unnamed" = some (.ref f)
  d_sample_signs : ∃ f fd, Fun K "sample_signs" "sample_signs" s_sample_signs f fd ∧ Binds K fd ["signs"] [] ∧ mg "sample_signs" = some (.ref f)
  d_sample_of : ∃ f fd, Fun K "sample_of" "sample_of" s_sample_of f fd ∧ Binds K fd ["sign", "signs"] [] ∧ mg "sample_of" = some (.ref f)
  d_signs : ∃ f fd, Fun K "_law_signs" "_law_signs" s_signs f fd ∧ Binds K fd [] [] ∧ mg "_law_signs" = some (.ref f)
  d_sign : ∃ f fd, Fun K "_law_sign" "_law_sign" s_sign f fd ∧ Binds K fd ["_law_box_here"] [] ∧ mg "_law_sign" = some (.ref f)
  d_lkind : ∃ f fd, Fun K "_law_kind" "_law_kind" s_lkind f fd ∧ Binds K fd ["_law_sign_here"] [] ∧ mg "_law_kind" = some (.ref f)
  d_least : ∃ f fd, Fun K "_law_least" "_law_least" s_least f fd ∧ Binds K fd ["_law_kind_here", "_law_named"] [] ∧ mg "_law_least" = some (.ref f)
  d_samples : ∃ f fd, Fun K "_law_samples" "_law_samples" s_samples f fd ∧ Binds K fd ["_law_named"] [] ∧ mg "_law_samples" = some (.ref f)
  d_law : ∃ f fd, Fun K "law" "law" s_law f fd ∧ Binds K fd ["_law_script"] [] ∧ mg "law" = some (.ref f)
  z_abs : mg "abs" = none
  z_int : mg "int" = none
  z_isinstance : mg "isinstance" = none
  z_len : mg "len" = none
  z_range : mg "range" = none
  z_str : mg "str" = none
  g_CAPITALS : ∃ u, mg "CAPITALS" = some u ∧ RelV (S cCAPITALS) u
  g_SMALLS : ∃ u, mg "SMALLS" = some u ∧ RelV (S cSMALLS) u
  g_FIGURES : ∃ u, mg "FIGURES" = some u ∧ RelV (S cFIGURES) u
  g_SIGNS : ∃ u, mg "SIGNS" = some u ∧ RelV (S cSIGNS) u
  g_KINDS : ∃ u, mg "KINDS" = some u ∧ RelV (V.ref G.aKINDS) u

def sp_take (K : PySem.W.Frag) (G : GA) : Sp := fun vs H Q _ => ∃ (P : Hp) (cs0 : Cs) (a l : Addr) (ns : List Int) (b : Box) (n : Int), vs = [.ref a, .int n] ∧ Wd P H ((a, boxO l b) :: cs0) ∧ SqL K P l (ns.map V.int) ∧ 0 < n ∧ n < 1000000 ∧
  ∀ (H1 P1 : Hp), Ext P P1 → Wd P1 H1 ((a, boxO l (m_take ns b n).2) :: cs0) → Q (.int (m_take ns b n).1) H1
theorem sc_take : FnScope ["_law_box_here", "_law_size", "_law_cell", "_law_digit"] ["_law_box_here", "_law_size"] (defScope s_take) := ⟨rfl, rfl, rfl, by decide +kernel, rfl, by decide +kernel, by decide +kernel⟩
theorem c_take {P : Program} {w : World} {K : PySem.W.Frag} {mg : Str → Option Value} {base : Heap} {G : GA} (T : Tx K G mg) : Cal P w K mg base 1 "_law_take" (sp_take K G) := by
  obtain ⟨f, fd, F, b, g⟩ := T.d_take
  refine ⟨f, fd, _, F.ok sc_take (fun vs H Q E h => ?_) (fun cdv A outer s H vs Q E hr h => ⟨tTakeR K, ?_, ?_⟩), g, F.kp, b⟩
  · obtain ⟨_, _, _, _, _, _, _, rfl, _⟩ := h
    rfl
  · exact pss_cons (ps_if (PW.pt (pw_and (pt_cmpR o_lt (pe_ix ix_list (pv 0) pe_int (fun _ _ => rfl)) pe_int (nomark _)) (pw_and1 (pt_cmpR o_lt (pe_ix ix_list (pv 0) pe_int (fun _ _ => rfl)) (pe_callB c_lenL (by rfl) T.z_len PySem.boot_len (pa_cons (pe_ix ix_list (pv 0) pe_int (fun _ _ => rfl)) pa_nil)) (nomark _)))))
        (pss_cons (ps_set (i := 2) sc_take.nd rfl (.inl rfl) (pe_ix ix_list (pe_ix ix_list (pv 0) pe_int (fun _ _ => rfl)) (pe_ix ix_list (pv 0) pe_int (fun _ _ => rfl)) (fun _ _ => rfl)))
        (pss_cons (ps_asg (pe_op o_add (pe_ix ix_list (pv 0) pe_int (fun _ _ => rfl)) pe_int) (pg_sub (pv 0) pe_int set_list))
        (pss_cons (ps_asg (pe_op o_mod (pe_callTy c_int (by rfl) T.z_int (by decide +kernel) (pa_cons (pe_op o_add (pe_op o_add (pe_op o_mul (pe_ix ix_list (pv 0) pe_int (fun _ _ => rfl)) pe_int) (pe_op o_mul (pe_op o_mod (pe_callTy c_int (by rfl) T.z_int (by decide +kernel) (pa_cons (pv 2) pa_nil)) pe_int) pe_int)) pe_int) pa_nil)) pe_int) (pg_sub (pv 0) pe_int set_list))
        (pss_one (ps_if (pt_cmpR o_ge (pv 2) (pe_op o_pow pe_int pe_int) (nomark _)) (pss_one (ps_asg (pe_op o_sub (pv 2) (pe_op o_pow pe_int pe_int)) (pg_sub (pv 0) pe_int set_list))) pss_nil)))))
        pss_nil)
      (pss_cons (ps_if (pt_cmpR o_gt (pe_ix ix_list (pv 0) pe_int (fun _ _ => rfl)) pe_int (nomark _))
        (pss_cons (ps_set (i := 3) sc_take.nd rfl (.inl rfl) (pe_op o_mod (pe_callTy c_int (by rfl) T.z_int (by decide +kernel) (pa_cons (pe_ix ix_list (pv 0) pe_int (fun _ _ => rfl)) pa_nil)) (pv 1)))
        (pss_cons (ps_asg (pe_op o_div (pe_ix ix_list (pv 0) pe_int (fun _ _ => rfl)) (pv 1)) (pg_sub (pv 0) pe_int set_list))
        (pss_one (ps_ret (pv 3))))) pss_nil)
      (pss_cons (ps_asg (pe_op o_mod (pe_callTy c_int (by rfl) T.z_int (by decide +kernel) (pa_cons (pe_op o_add (pe_op o_mul (pe_ix ix_list (pv 0) pe_int (fun _ _ => rfl)) pe_int) pe_int) pa_nil)) pe_int) (pg_sub (pv 0) pe_int set_list))
      (pss_one (ps_ret (pe_op o_mod (pe_callTy c_int (by rfl) T.z_int (by decide +kernel) (pa_cons (pe_op o_div (pe_ix ix_list (pv 0) pe_int (fun _ _ => rfl)) pe_int) pa_nil)) (pv 1))))))
  · obtain ⟨P, cs0, a, l, ns, b, n, rfl, w, hl, n0, n1, q⟩ := h
    exact rd_takeR w hl n0 n1 (fun H1 w1 => q H1 P (Ext.refl _) w1)
def sp_box (K : PySem.W.Frag) (G : GA) : Sp := fun vs H Q _ => ∃ (P : Hp) (cs0 : Cs) (a : Addr) (ns : List Int), vs = [.ref a] ∧ Wd P H cs0 ∧ SqL K P a (ns.map V.int) ∧ ns.length ≤ 63 ∧
  ∀ (H1 P1 : Hp) (p l : Addr), Ext P P1 → Wd P1 H1 ((p, boxO l box0) :: cs0) → SqL K P1 l ((absL ns).map V.int) → Q (.ref p) H1
theorem sc_box : FnScope ["_law_script", "_law_cell"] ["_law_script"] (defScope s_box) := ⟨rfl, rfl, rfl, by decide +kernel, rfl, by decide +kernel, by decide +kernel⟩
theorem c_box {P : Program} {w : World} {K : PySem.W.Frag} {mg : Str → Option Value} {base : Heap} {G : GA} (T : Tx K G mg) : Cal P w K mg base 1 "_law_box" (sp_box K G) := by
  obtain ⟨f, fd, F, b, g⟩ := T.d_box
  refine ⟨f, fd, _, F.ok sc_box (fun vs H Q E h => ?_) (fun cdv A outer s H vs Q E hr h => ⟨tBoxR K, ?_, ?_⟩), g, F.kp, b⟩
  · obtain ⟨_, _, _, _, rfl, _⟩ := h
    rfl
  · exact pss_one (ps_ret (pe_lst (pa_cons (pe_lc (own := [("_law_cell", 1)]) rfl sc_box.nd (pi_list (pe_slice sl_list (pv 0) po_none (po_some pe_int))) (blkOk_by (N := ["_law_script", "_law_cell"]) (sc := defScope s_box) (by decide +kernel)) (fun _ _ _ _ _ => pg_name (i := 1) sc_box.nd rfl (Or.inl rfl)) (fun _ _ _ _ _ => pts_nil) (fun _ _ _ _ _ => pe_callB call_abs (by rfl) T.z_abs (by decide +kernel) (pa_cons (pv 1) pa_nil))) (pa_cons pe_int (pa_cons pe_int (pa_cons pe_int pa_nil))))))
  · obtain ⟨P, cs0, a, ns, rfl, w, hl, hlen, q⟩ := h
    exact rd_boxR w hl hlen q

def m_kind_of (sign1 : Nat) : (List Nat) :=
  (if ((decide (sign1 ∈ cCAPITALS)) || (decide (sign1 ∈ cSMALLS))) then (cs "letter") else (if (decide (sign1 ∈ cFIGURES)) then (cs "figure") else (cs "mark")))
def sp_kind_of (K : PySem.W.Frag) (G : GA) : Sp := fun vs H Q _ => ∃ (P : Hp) (cs0 : Cs) (sign1 : Nat), vs = [(S [sign1])] ∧ Wd P H cs0 ∧ ∀ (H1 P1 : Hp), Ext P P1 → Wd P1 H1 cs0 → Q (S (m_kind_of sign1)) H1
def t_kind_of (K : PySem.W.Frag) (G : GA) : TS := (tSeq (tIfS (tOr (tTest (tOp rInS (tVar 0) (tC (S cCAPITALS)))) (tTest (tOp rInS (tVar 0) (tC (S cSMALLS))))) (tRet (tC (S (cs "letter")))) tNext) (tSeq (tIfS (tTest (tOp rInS (tVar 0) (tC (S cFIGURES)))) (tRet (tC (S (cs "figure")))) tNext) (tRet (tC (S (cs "mark"))))))
theorem sc_kind_of : FnScope ["sign"] ["sign"] (defScope s_kind_of) := ⟨rfl, rfl, rfl, by decide +kernel, rfl, by decide +kernel, by decide +kernel⟩
theorem rd_kind_of {K : PySem.W.Frag} {G : GA} (F : Fa K G) (vs : List V) (H : Hp) (Q : VK) (E : XK) (h : sp_kind_of K G vs H Q E) : t_kind_of K G { nx := fun _ H1 => Q .non H1, rt := Q } (L2.start ["sign"] vs) H := by
  obtain ⟨P, cs0, sign1, rfl, w, q⟩ := h
  generalize eR : (m_kind_of sign1) = R0 at q
  unfold m_kind_of at eR
  try dsimp only at eR
  have hB1 : ∀ Q : (Bool → Hp → Prop), (∀ Hz Pz, Ext P Pz → Wd Pz Hz cs0 → Q ((decide (sign1 ∈ cCAPITALS)) || (decide (sign1 ∈ cSMALLS))) Hz) → (tOr (tTest (tOp rInS (tVar 0) (tC (S cCAPITALS)))) (tTest (tOp rInS (tVar 0) (tC (S cSMALLS))))) [some (S ([sign1] : List Nat))] H Q := by
    intro Q hQ
    refine ⟨_, rfl, sign1, _, rfl, rfl, _, rfl, ?_⟩
    refine iteB (fun hb1 => ?_) (fun hb1 => ?_)
    · have hq1 := hQ H P (Ext.refl _) w
      rw [hb1, Bool.true_or] at hq1
      exact hq1
    · refine ⟨_, rfl, sign1, _, rfl, rfl, _, rfl, ?_⟩
      have hq2 := hQ H P (Ext.refl _) w
      rw [hb1, Bool.false_or] at hq2
      exact hq2
  refine hB1 _ fun H1 P1 e1 w1 => ?_
  refine iteB (fun hb2 => ?_) (fun hb2 => ?_)
  · rw [ite_t hb2] at eR
    subst eR
    exact q H1 P1 e1 w1
  · rw [ite_f hb2] at eR
    refine ⟨_, rfl, sign1, _, rfl, rfl, _, rfl, ?_⟩
    refine iteB (fun hb3 => ?_) (fun hb3 => ?_)
    · rw [ite_t hb3] at eR
      have hb3p := of_decide_eq_true hb3
      subst eR
      exact q H1 P1 e1 w1
    · rw [ite_f hb3] at eR
      have hb3p := of_decide_eq_false hb3
      subst eR
      exact q H1 P1 e1 w1
theorem fn_kind_of {P : Program} {w : World} {K : PySem.W.Frag} {mg : Str → Option Value} {base : Heap} {G : GA} {f : Addr} {fd : FuncData} (T : Tx K G mg) (F : Fun K "kind_of" "kind_of" s_kind_of f fd) : FnOk P w K mg base CX0 1 f fd ["sign"] (sp_kind_of K G) := by
  refine F.ok sc_kind_of (fun vs H Q E h => ?_) (fun cdv A outer s H vs Q E hr h => ⟨t_kind_of K G, ?_, rd_kind_of T.fa vs H Q E h⟩)
  · obtain ⟨_, _, _, rfl, _⟩ := h
    rfl
  · exact (pss_cons (ps_if (PW.pt (pw_or (pt_cmpR o_inS (pv 0) (pe_gc (by rfl) T.g_CAPITALS) (by rfl)) (pw_or1 (pt_cmpR o_inS (pv 0) (pe_gc (by rfl) T.g_SMALLS) (by rfl))))) (pss_one (ps_ret pe_strS)) pss_nil) (pss_cons (ps_if (pt_cmpR o_inS (pv 0) (pe_gc (by rfl) T.g_FIGURES) (by rfl)) (pss_one (ps_ret pe_strS)) pss_nil) (pss_one (ps_ret pe_strS))))
theorem c_kind_of {P : Program} {w : World} {K : PySem.W.Frag} {mg : Str → Option Value} {base : Heap} {G : GA} (T : Tx K G mg) : Cal P w K mg base 1 "kind_of" (sp_kind_of K G) := by
  obtain ⟨f, fd, F, b, g⟩ := T.d_kind_of
  exact ⟨f, fd, _, fn_kind_of T F, g, F.kp, b⟩

def lp_least_unnamed_1 (kind1 : (List Nat)) (signs1 : (List Nat)) (k : (List Nat)) : List Nat → (List Nat)
  | [] => k 
  | it1 :: rest => (if ((!(decide (it1 ∈ signs1))) && (decide ((m_kind_of it1) = kind1))) then ([it1] : List Nat) else lp_least_unnamed_1 kind1 signs1 k rest )
def m_least_unnamed (kind1 : (List Nat)) (signs1 : (List Nat)) : (List Nat) :=
  ((lp_least_unnamed_1 kind1 signs1) ((cs "")) cSIGNS )
def sp_least_unnamed (K : PySem.W.Frag) (G : GA) : Sp := fun vs H Q _ => ∃ (P : Hp) (cs0 : Cs) (kind1 : (List Nat)) (signs1 : (List Nat)), vs = [(S kind1), (S signs1)] ∧ Wd P H cs0 ∧ ∀ (H1 P1 : Hp), Ext P P1 → Wd P1 H1 cs0 → Q (S (m_least_unnamed kind1 signs1)) H1
def t_least_unnamed (K : PySem.W.Frag) (G : GA) : TS := (tSeq (tFor (iStr (tC (S cSIGNS))) (gName 2) (tIfS (tAnd (tTest (tOp rNiS (tVar 2) (tVar 1))) (tTest (tOp rEqS (tCall (sp_kind_of K G) [] E0 (tCons (tVar 2) tNil)) (tVar 0)))) (tRet (tVar 2)) tNext)) (tRet (tC (S (cs "")))))
theorem sc_least_unnamed : FnScope ["kind", "signs", "sign"] ["kind", "signs"] (defScope s_least_unnamed) := ⟨rfl, rfl, rfl, by decide +kernel, rfl, by decide +kernel, by decide +kernel⟩
theorem rd_least_unnamed {K : PySem.W.Frag} {G : GA} (F : Fa K G) (vs : List V) (H : Hp) (Q : VK) (E : XK) (h : sp_least_unnamed K G vs H Q E) : t_least_unnamed K G { nx := fun _ H1 => Q .non H1, rt := Q } (L2.start ["kind", "signs", "sign"] vs) H := by
  obtain ⟨P, cs0, kind1, signs1, rfl, w, q⟩ := h
  generalize eR : (m_least_unnamed kind1 signs1) = R0 at q
  unfold m_least_unnamed at eR
  try dsimp only at eR
  refine ⟨_, rfl, for_it (walk_str (z := ⟨⟨cSIGNS⟩⟩)) (fun i σz Hz => ∃ (Pz : Hp) (yz0 : Option V), Ext P Pz ∧ σz = [some (S kind1), some (S signs1), yz0] ∧ Wd Pz Hz (cs0) ∧ (lp_least_unnamed_1 kind1 signs1) ((cs "")) (cSIGNS.drop i)  = R0) ?_ ?_ ?_ ?_⟩
  · exact ⟨P, none, (Ext.refl _), rfl, w, eR⟩
  · rintro i σz Hz _ ⟨Pz, yz0, ee, rfl, ww, _⟩
    trivial
  · rintro i1 x1 _ H1 H2 hi1 ⟨P1, y2, e1, rfl, w1, eR⟩ y1
    obtain ⟨eH1, hx1⟩ := y1
    rw [eH1]
    obtain ⟨it1, hitit1, rfl⟩ := hx1
    have eD1 := str_drop hitit1
    have memit1 := str_mem hitit1
    rw [eD1] at eR
    rw [lp_least_unnamed_1] at eR
    try dsimp only at eR
    have hB1 : ∀ Q : (Bool → Hp → Prop), (∀ Hz Pz, Ext P1 Pz → Wd Pz Hz cs0 → Q ((!(decide (it1 ∈ signs1))) && (decide ((m_kind_of it1) = kind1))) Hz) → (tAnd (tTest (tOp rNiS (tVar 2) (tVar 1))) (tTest (tOp rEqS (tCall (sp_kind_of K G) [] E0 (tCons (tVar 2) tNil)) (tVar 0)))) [some (S kind1), some (S signs1), some (S ([it1] : List Nat))] H1 Q := by
      intro Q hQ
      refine ⟨_, rfl, _, rfl, it1, _, rfl, rfl, _, rfl, ?_⟩
      refine iteB (fun hb1 => ?_) (fun hb1 => ?_)
      · refine ⟨_, rfl, P1, (cs0), it1, rfl, w1, fun H3 P2 e2 w2 => ?_⟩
        refine ⟨_, rfl, _, _, rfl, rfl, _, rfl, ?_⟩
        have hq1 := hQ H3 P2 e2 w2
        rw [hb1, Bool.true_and] at hq1
        exact hq1
      · have hq2 := hQ H1 P1 (Ext.refl _) w1
        rw [hb1, Bool.false_and] at hq2
        exact hq2
    refine hB1 _ fun H4 P3 e3 w3 => ?_
    refine iteB (fun hb2 => ?_) (fun hb2 => ?_)
    · rw [ite_t hb2] at eR
      refine ⟨_, rfl, ?_⟩
      subst eR
      exact q H4 P3 (e1.trans e3) w3
    · rw [ite_f hb2] at eR
      exact ⟨P3, (some (S ([it1] : List Nat))), (e1.trans e3), rfl, w3, eR⟩
  rintro _ H5 ⟨P4, y3, e4, rfl, w4, eR⟩
  rw [drop_str_all, lp_least_unnamed_1] at eR
  try dsimp only at eR
  subst eR
  exact q H5 P4 e4 w4
theorem fn_least_unnamed {P : Program} {w : World} {K : PySem.W.Frag} {mg : Str → Option Value} {base : Heap} {G : GA} {f : Addr} {fd : FuncData} (T : Tx K G mg) (F : Fun K "least_unnamed" "least_unnamed" s_least_unnamed f fd) : FnOk P w K mg base CX0 2 f fd ["kind", "signs"] (sp_least_unnamed K G) := by
  refine F.ok sc_least_unnamed (fun vs H Q E h => ?_) (fun cdv A outer s H vs Q E hr h => ⟨t_least_unnamed K G, ?_, rd_least_unnamed T.fa vs H Q E h⟩)
  · obtain ⟨_, _, _, _, rfl, _⟩ := h
    rfl
  · exact (pss_cons (ps_for PassesOwn.never rfl (pi_str (pe_gc (by rfl) T.g_SIGNS)) (pg_name (i := 2) sc_least_unnamed.nd rfl (Or.inl rfl)) (pss_one (ps_if (PW.pt (pw_and (pt_cmpR o_niS (pv 2) (pv 1) (by rfl)) (pw_and1 (pt_cmpR o_eqS (pe_c (c_kind_of T) hr (by decide) (by rfl) (pa_cons (pv 2) pa_nil)) (pv 0) (nomark _))))) (pss_one (ps_ret (pv 2))) pss_nil))) (pss_one (ps_ret pe_strS)))
theorem c_least_unnamed {P : Program} {w : World} {K : PySem.W.Frag} {mg : Str → Option Value} {base : Heap} {G : GA} (T : Tx K G mg) : Cal P w K mg base 2 "least_unnamed" (sp_least_unnamed K G) := by
  obtain ⟨f, fd, F, b, g⟩ := T.d_least_unnamed
  exact ⟨f, fd, _, fn_least_unnamed T F, g, F.kp, b⟩

def m_sample_signs (signs1 : (List Nat)) : (List Nat) :=
  (TL.joinL (cs "") ((cSIGNS.filter (fun it2 => ((decide (it2 ∈ signs1)) || (decide (([it2] : List Nat) ∈ (([cs "letter", cs "figure", cs "mark"] : List (List Nat)).map (fun it1 => (m_least_unnamed it1 signs1)))))))).map (fun it2 => ([it2] : List Nat))))
def sp_sample_signs (K : PySem.W.Frag) (G : GA) : Sp := fun vs H Q _ => ∃ (P : Hp) (cs0 : Cs) (signs1 : (List Nat)), vs = [(S signs1)] ∧ Wd P H cs0 ∧ ∀ (H1 P1 : Hp), Ext P P1 → Wd P1 H1 cs0 → Q (S (m_sample_signs signs1)) H1
def t_sample_signs (K : PySem.W.Frag) (G : GA) : TS := (tSeq (tAsg (tLc (iTup K (tC (V.ref G.aKINDS))) (gName 2) tYes (tCall (sp_least_unnamed K G) [] E0 (tCons (tVar 2) (tCons (tVar 0) tNil))) [2]) (gName 1)) (tRet (tM1 (rJoin K) (tC (S (cs ""))) (tLc (iStr (tC (S cSIGNS))) (gName 3) (tOr (tTest (tOp rInS (tVar 3) (tVar 0))) (tTest (tOp (rInTS K) (tVar 3) (tVar 1)))) (tVar 3) [3]))))
theorem sc_sample_signs : FnScope ["signs", "others", "kind", "sign"] ["signs"] (defScope s_sample_signs) := ⟨rfl, rfl, rfl, by decide +kernel, rfl, by decide +kernel, by decide +kernel⟩
theorem rd_sample_signs {K : PySem.W.Frag} {G : GA} (F : Fa K G) (vs : List V) (H : Hp) (Q : VK) (E : XK) (h : sp_sample_signs K G vs H Q E) : t_sample_signs K G { nx := fun _ H1 => Q .non H1, rt := Q } (L2.start ["signs", "others", "kind", "sign"] vs) H := by
  obtain ⟨P, cs0, signs1, rfl, w, q⟩ := h
  generalize eR : (m_sample_signs signs1) = R0 at q
  unfold m_sample_signs at eR
  try dsimp only at eR
  have sq1 := F.sKINDS P
  have al1 : DpAll K P ([S (cs "letter"), S (cs "figure"), S (cs "mark")] : List V) (([cs "letter", cs "figure", cs "mark"] : List (List Nat)).map eS) := pda_strs ([cs "letter", cs "figure", cs "mark"] : List (List Nat))
  refine ⟨G.aKINDS, rfl, ⟨_, w.sqt sq1⟩, fun D1 nD1 => ?_⟩
  refine lc_it (walk_tup (K := K) (a := G.aKINDS) (xs := ([S (cs "letter"), S (cs "figure"), S (cs "mark")] : List V))) (fun i Hz => ∃ (Pz : Hp) (vsz : List V), Ext P Pz ∧ Wd Pz Hz ((D1, (HO.lst vsz)) :: cs0) ∧ DpAll K Pz vsz (((([cs "letter", cs "figure", cs "mark"] : List (List Nat)).take i).map (fun it1 => (m_least_unnamed it1 signs1))).map eS)) ?_ ?_ ?_ ?_
  · exact ⟨P, [], Ext.refl _, w.new nD1 _, DpAll.nil⟩
  · rintro i Hz _ ⟨Pz, vsz, ee, ww, _⟩
    exact ww.sqt (Ext.sqt ee sq1)
  · rintro i1 x1 H1 H2 hi1 ⟨P1, vs1, e1, w1, al2⟩ y1
    replace sq1 := Ext.sqt e1 sq1
    replace al1 := DpAll.mono al1 e1
    obtain ⟨eH1, hx1⟩ := y1
    rw [eH1]
    obtain ⟨it1, memit1, hd1, eD1⟩ := dpa_get al1 hx1
    replace memit1 : it1 ∈ ([cs "letter", cs "figure", cs "mark"] : List (List Nat)) := List.mem_of_getElem? memit1
    obtain rfl := dp_str hd1
    refine ⟨rfl, ?_⟩
    refine ⟨_, rfl, _, rfl, P1, ((D1, (HO.lst vs1)) :: cs0), it1, signs1, rfl, w1, fun H3 P2 e2 w2 => ?_⟩
    replace sq1 := Ext.sqt e2 sq1
    replace al1 := DpAll.mono al1 e2
    replace al2 := DpAll.mono al2 e2
    refine ⟨vs1, (w2.get 0 rfl), (szl (by rw [dpa_len al2, List.length_map]; exact Nat.lt_of_le_of_lt len_tm (Nat.lt_of_lt_of_le hi1 (dpa_bnd al1 (by first | decide | (simp only [List.length_append, List.length_cons, List.length_nil, List.length_map]; omega) | omega))))), ?_⟩
    exact ⟨P2, _, (e1.trans e2), (w2.put 0 (HO.lst (vs1 ++ [(S (m_least_unnamed it1 signs1))])) rfl), (by rw [take_snoc_map eD1]; exact dpa_snoc al2 (pd_str _))⟩
  rintro H4 ⟨P3, vs2, e3, w3, al3⟩
  rw [take_dpa_all al1] at al3
  replace sq1 := Ext.sqt e3 sq1
  replace al1 := DpAll.mono al1 e3
  have e4 : Ext P3 (upd P3 D1 (HO.lst vs2)) := w3.kext
  have w4 : Wd (upd P3 D1 (HO.lst vs2)) H4 cs0 := w3.keep
  have fq1 : upd P3 D1 (HO.lst vs2) D1 = some (HO.lst vs2) := upd_same
  generalize upd P3 D1 (HO.lst vs2) = P4 at w4 e4 fq1
  replace sq1 := Ext.sqt e4 sq1
  replace al1 := DpAll.mono al1 e4
  replace al3 := DpAll.mono al3 e4
  have sq2 : SqL K P4 D1 vs2 := .inl (.inl fq1)
  refine ⟨⟨_, rfl⟩, _, rfl, fun D2 nD2 => ?_⟩
  refine lc_it (walk_str (z := ⟨⟨cSIGNS⟩⟩)) (fun i Hz => ∃ (Pz : Hp) (vsz : List V), Ext P4 Pz ∧ Wd Pz Hz ((D2, (HO.lst vsz)) :: cs0) ∧ DpAll K Pz vsz ((((cSIGNS.take i).filter (fun it2 => ((decide (it2 ∈ signs1)) || (decide (([it2] : List Nat) ∈ (([cs "letter", cs "figure", cs "mark"] : List (List Nat)).map (fun it1 => (m_least_unnamed it1 signs1)))))))).map (fun it2 => ([it2] : List Nat))).map eS)) ?_ ?_ ?_ ?_
  · exact ⟨P4, [], Ext.refl _, w4.new nD2 _, DpAll.nil⟩
  · rintro i Hz _ ⟨Pz, vsz, ee, ww, _⟩
    trivial
  · rintro i2 x2 H5 H6 hi2 ⟨P5, vs3, e5, w5, al4⟩ y2
    replace sq1 := Ext.sqt e5 sq1
    replace al1 := DpAll.mono al1 e5
    replace al3 := DpAll.mono al3 e5
    replace sq2 := Ext.sql e5 sq2
    obtain ⟨eH2, hx2⟩ := y2
    rw [eH2]
    obtain ⟨it2, hitit2, rfl⟩ := hx2
    have eD2 := str_drop hitit2
    have memit2 := str_mem hitit2
    refine ⟨rfl, ?_⟩
    have hB1 : ∀ Q : (Bool → Hp → Prop), (∀ Hz Pz, Ext P5 Pz → Wd Pz Hz ((D2, (HO.lst vs3)) :: cs0) → Q ((decide (it2 ∈ signs1)) || (decide (([it2] : List Nat) ∈ (([cs "letter", cs "figure", cs "mark"] : List (List Nat)).map (fun it1 => (m_least_unnamed it1 signs1)))))) Hz) → (tOr (tTest (tOp rInS (tVar 3) (tVar 0))) (tTest (tOp (rInTS K) (tVar 3) (tVar 1)))) [some (S signs1), some (.ref D1), none, some (S ([it2] : List Nat))] H5 Q := by
      intro Q hQ
      refine ⟨_, rfl, _, rfl, it2, _, rfl, rfl, _, rfl, ?_⟩
      refine iteB (fun hb1 => ?_) (fun hb1 => ?_)
      · have hq1 := hQ H5 P5 (Ext.refl _) w5
        rw [hb1, Bool.true_or] at hq1
        exact hq1
      · refine ⟨_, rfl, _, rfl, ([it2] : List Nat), D1, (([cs "letter", cs "figure", cs "mark"] : List (List Nat)).map (fun it1 => (m_least_unnamed it1 signs1))), rfl, rfl, (.inl (dpa_strs al3 ▸ (w5.sql sq2))), _, rfl, ?_⟩
        have hq2 := hQ H5 P5 (Ext.refl _) w5
        rw [hb1, Bool.false_or] at hq2
        exact hq2
    refine hB1 _ fun H7 P6 e6 w6 => ?_
    replace sq1 := Ext.sqt e6 sq1
    replace al1 := DpAll.mono al1 e6
    replace al3 := DpAll.mono al3 e6
    replace sq2 := Ext.sql e6 sq2
    replace al4 := DpAll.mono al4 e6
    refine iteB (fun hb2 => ?_) (fun hb2 => ?_)
    · refine ⟨_, rfl, vs3, (w6.get 0 rfl), (szl (by rw [dpa_len al4, List.length_map]; exact Nat.lt_of_le_of_lt len_tf (Nat.lt_of_lt_of_le hi2 (str_bnd (by decide))))), ?_⟩
      exact ⟨P6, _, (e5.trans e6), (w6.put 0 (HO.lst (vs3 ++ [(S ([it2] : List Nat))])) rfl), (by rw [take_snoc_filter eD2 (p := fun it2 => ((decide (it2 ∈ signs1)) || (decide (([it2] : List Nat) ∈ (([cs "letter", cs "figure", cs "mark"] : List (List Nat)).map (fun it1 => (m_least_unnamed it1 signs1))))))) hb2]; exact dpa_snoc al4 (pd_str _))⟩
    · exact ⟨P6, _, (e5.trans e6), w6, (by rw [take_snoc_filter_no eD2 (p := fun it2 => ((decide (it2 ∈ signs1)) || (decide (([it2] : List Nat) ∈ (([cs "letter", cs "figure", cs "mark"] : List (List Nat)).map (fun it1 => (m_least_unnamed it1 signs1))))))) hb2]; exact al4)⟩
  rintro H8 ⟨P7, vs4, e7, w7, al5⟩
  rw [take_str_all] at al5
  replace sq1 := Ext.sqt e7 sq1
  replace al1 := DpAll.mono al1 e7
  replace al3 := DpAll.mono al3 e7
  replace sq2 := Ext.sql e7 sq2
  have e8 : Ext P7 (upd P7 D2 (HO.lst vs4)) := w7.kext
  have w8 : Wd (upd P7 D2 (HO.lst vs4)) H8 cs0 := w7.keep
  have fq2 : upd P7 D2 (HO.lst vs4) D2 = some (HO.lst vs4) := upd_same
  generalize upd P7 D2 (HO.lst vs4) = P8 at w8 e8 fq2
  replace sq1 := Ext.sqt e8 sq1
  replace al1 := DpAll.mono al1 e8
  replace al3 := DpAll.mono al3 e8
  replace sq2 := Ext.sql e8 sq2
  replace al5 := DpAll.mono al5 e8
  have sq3 : SqL K P8 D2 vs4 := .inl (.inl fq2)
  refine ⟨_, D2, ((cSIGNS.filter (fun it2 => ((decide (it2 ∈ signs1)) || (decide (([it2] : List Nat) ∈ (([cs "letter", cs "figure", cs "mark"] : List (List Nat)).map (fun it1 => (m_least_unnamed it1 signs1)))))))).map (fun it2 => ([it2] : List Nat))), rfl, rfl, (.inl (dpa_strs al5 ▸ (w8.sql sq3))), (join_ok 100 1 (by first | exact one_map | assumption) (by first | omega | (rw [List.length_map]; refine Nat.le_trans (List.length_filter_le _ _) (by decide))) (by decide)), ?_⟩
  subst eR
  exact q H8 P8 (((e3.trans e4).trans e7).trans e8) w8
theorem fn_sample_signs {P : Program} {w : World} {K : PySem.W.Frag} {mg : Str → Option Value} {base : Heap} {G : GA} {f : Addr} {fd : FuncData} (T : Tx K G mg) (F : Fun K "sample_signs" "sample_signs" s_sample_signs f fd) : FnOk P w K mg base CX0 3 f fd ["signs"] (sp_sample_signs K G) := by
  refine F.ok sc_sample_signs (fun vs H Q E h => ?_) (fun cdv A outer s H vs Q E hr h => ⟨t_sample_signs K G, ?_, rd_sample_signs T.fa vs H Q E h⟩)
  · obtain ⟨_, _, _, rfl, _⟩ := h
    rfl
  · exact (pss_cons (ps_set (i := 1) sc_sample_signs.nd rfl (.inr rfl) (pe_lc (own := [("kind", 2)]) rfl sc_sample_signs.nd (pi_tup (pe_gc (by rfl) T.g_KINDS)) (blkOk_by (N := ["signs", "others", "kind", "sign"]) (sc := defScope s_sample_signs) (by decide +kernel)) (fun _ _ _ _ _ => (pg_name (i := 2) sc_sample_signs.nd rfl (Or.inl rfl))) (fun _ _ _ _ _ => pts_nil) (fun _ _ _ _ _ => (pe_c (c_least_unnamed T) hr (by decide) (by rfl) (pa_cons (pv 2) (pa_cons (pv 0) pa_nil)))))) (pss_one (ps_ret (pe_m1 PySem.F.slot_str_join PySem.F.type_str_join m_join pe_strS (pe_lc (own := [("sign", 3)]) rfl sc_sample_signs.nd (pi_str (pe_gc (by rfl) T.g_SIGNS)) (blkOk_by (N := ["signs", "others", "kind", "sign"]) (sc := defScope s_sample_signs) (by decide +kernel)) (fun _ _ _ _ _ => (pg_name (i := 3) sc_sample_signs.nd rfl (Or.inl rfl))) (fun _ _ _ _ _ => pts_one (PW.pt (pw_or (pt_cmpR o_inS (pv 3) (pv 0) (by rfl)) (pw_or1 (pt_cmpR o_inTS (pv 3) (pv 1) (by rfl)))))) (fun _ _ _ _ _ => (pv 3)))))))
theorem c_sample_signs {P : Program} {w : World} {K : PySem.W.Frag} {mg : Str → Option Value} {base : Heap} {G : GA} (T : Tx K G mg) : Cal P w K mg base 3 "sample_signs" (sp_sample_signs K G) := by
  obtain ⟨f, fd, F, b, g⟩ := T.d_sample_signs
  exact ⟨f, fd, _, fn_sample_signs T F, g, F.kp, b⟩

def m_sample_of (sign1 : Nat) (signs1 : (List Nat)) : (List Nat) :=
  (if (decide (sign1 ∈ signs1)) then ([sign1] : List Nat) else (m_least_unnamed (m_kind_of sign1) signs1))
def sp_sample_of (K : PySem.W.Frag) (G : GA) : Sp := fun vs H Q _ => ∃ (P : Hp) (cs0 : Cs) (sign1 : Nat) (signs1 : (List Nat)), vs = [(S [sign1]), (S signs1)] ∧ Wd P H cs0 ∧ ∀ (H1 P1 : Hp), Ext P P1 → Wd P1 H1 cs0 → Q (S (m_sample_of sign1 signs1)) H1
def t_sample_of (K : PySem.W.Frag) (G : GA) : TS := (tSeq (tIfS (tTest (tOp rInS (tVar 0) (tVar 1))) (tRet (tVar 0)) tNext) (tRet (tCall (sp_least_unnamed K G) [] E0 (tCons (tCall (sp_kind_of K G) [] E0 (tCons (tVar 0) tNil)) (tCons (tVar 1) tNil)))))
theorem sc_sample_of : FnScope ["sign", "signs"] ["sign", "signs"] (defScope s_sample_of) := ⟨rfl, rfl, rfl, by decide +kernel, rfl, by decide +kernel, by decide +kernel⟩
theorem rd_sample_of {K : PySem.W.Frag} {G : GA} (F : Fa K G) (vs : List V) (H : Hp) (Q : VK) (E : XK) (h : sp_sample_of K G vs H Q E) : t_sample_of K G { nx := fun _ H1 => Q .non H1, rt := Q } (L2.start ["sign", "signs"] vs) H := by
  obtain ⟨P, cs0, sign1, signs1, rfl, w, q⟩ := h
  generalize eR : (m_sample_of sign1 signs1) = R0 at q
  unfold m_sample_of at eR
  try dsimp only at eR
  refine ⟨_, rfl, _, rfl, sign1, _, rfl, rfl, _, rfl, ?_⟩
  refine iteB (fun hb1 => ?_) (fun hb1 => ?_)
  · rw [ite_t hb1] at eR
    have hb1p := of_decide_eq_true hb1
    refine ⟨_, rfl, ?_⟩
    subst eR
    exact q H P (Ext.refl _) w
  · rw [ite_f hb1] at eR
    have hb1p := of_decide_eq_false hb1
    refine ⟨_, rfl, P, (cs0), sign1, rfl, w, fun H1 P1 e1 w1 => ?_⟩
    refine ⟨_, rfl, P1, (cs0), (m_kind_of sign1), signs1, rfl, w1, fun H2 P2 e2 w2 => ?_⟩
    subst eR
    exact q H2 P2 (e1.trans e2) w2
theorem fn_sample_of {P : Program} {w : World} {K : PySem.W.Frag} {mg : Str → Option Value} {base : Heap} {G : GA} {f : Addr} {fd : FuncData} (T : Tx K G mg) (F : Fun K "sample_of" "sample_of" s_sample_of f fd) : FnOk P w K mg base CX0 3 f fd ["sign", "signs"] (sp_sample_of K G) := by
  refine F.ok sc_sample_of (fun vs H Q E h => ?_) (fun cdv A outer s H vs Q E hr h => ⟨t_sample_of K G, ?_, rd_sample_of T.fa vs H Q E h⟩)
  · obtain ⟨_, _, _, _, rfl, _⟩ := h
    rfl
  · exact (pss_cons (ps_if (pt_cmpR o_inS (pv 0) (pv 1) (by rfl)) (pss_one (ps_ret (pv 0))) pss_nil) (pss_one (ps_ret (pe_c (c_least_unnamed T) hr (by decide) (by rfl) (pa_cons (pe_c (c_kind_of T) hr (by decide) (by rfl) (pa_cons (pv 0) pa_nil)) (pa_cons (pv 1) pa_nil))))))
theorem c_sample_of {P : Program} {w : World} {K : PySem.W.Frag} {mg : Str → Option Value} {base : Heap} {G : GA} (T : Tx K G mg) : Cal P w K mg base 3 "sample_of" (sp_sample_of K G) := by
  obtain ⟨f, fd, F, b, g⟩ := T.d_sample_of
  exact ⟨f, fd, _, fn_sample_of T F, g, F.kp, b⟩

def m_signs  : (List Nat) :=
  ((cs " !\"#$&'()*+,-./0123456789:;<=>?@ABCDEFGHIJKLMNOPQRSTUVWXYZ") ++ (cs "[\\]^_`abcdefghijklmnopqrstuvwxyz{|}~"))
def sp_signs (K : PySem.W.Frag) (G : GA) : Sp := fun vs H Q _ => ∃ (P : Hp) (cs0 : Cs) , vs = [] ∧ Wd P H cs0 ∧ ∀ (H1 P1 : Hp), Ext P P1 → Wd P1 H1 cs0 → Q (S m_signs) H1
def t_signs (K : PySem.W.Frag) (G : GA) : TS := (tSeq (tAsg (tC (S (cs " !\"#$&'()*+,-./0123456789:;<=>?@ABCDEFGHIJKLMNOPQRSTUVWXYZ"))) (gName 0)) (tRet (tOp rAddS (tVar 0) (tC (S (cs "[\\]^_`abcdefghijklmnopqrstuvwxyz{|}~"))))))
theorem sc_signs : FnScope ["_law_every"] [] (defScope s_signs) := ⟨rfl, rfl, rfl, by decide +kernel, rfl, by decide +kernel, by decide +kernel⟩
theorem rd_signs {K : PySem.W.Frag} {G : GA} (F : Fa K G) (vs : List V) (H : Hp) (Q : VK) (E : XK) (h : sp_signs K G vs H Q E) : t_signs K G { nx := fun _ H1 => Q .non H1, rt := Q } (L2.start ["_law_every"] vs) H := by
  obtain ⟨P, cs0, rfl, w, q⟩ := h
  generalize eR : m_signs = R0 at q
  unfold m_signs at eR
  try dsimp only at eR
  refine ⟨_, rfl, _, _, rfl, rfl, (sz (by have hc0 : (cs " !\"#$&'()*+,-./0123456789:;<=>?@ABCDEFGHIJKLMNOPQRSTUVWXYZ").length = 58 := (by decide); have hc1 : (cs "[\\]^_`abcdefghijklmnopqrstuvwxyz{|}~").length = 36 := (by decide); (try simp only [List.length_append, List.length_cons, List.length_nil, List.length_map]); omega)), ?_⟩
  subst eR
  exact q H P (Ext.refl _) w
theorem fn_signs {P : Program} {w : World} {K : PySem.W.Frag} {mg : Str → Option Value} {base : Heap} {G : GA} {f : Addr} {fd : FuncData} (T : Tx K G mg) (F : Fun K "_law_signs" "_law_signs" s_signs f fd) : FnOk P w K mg base CX0 1 f fd [] (sp_signs K G) := by
  refine F.ok sc_signs (fun vs H Q E h => ?_) (fun cdv A outer s H vs Q E hr h => ⟨t_signs K G, ?_, rd_signs T.fa vs H Q E h⟩)
  · obtain ⟨_, _, rfl, _⟩ := h
    rfl
  · exact (pss_cons (ps_set (i := 0) sc_signs.nd rfl (.inl rfl) pe_strS) (pss_one (ps_ret (pe_op o_addS (pv 0) pe_strS))))
theorem c_signs {P : Program} {w : World} {K : PySem.W.Frag} {mg : Str → Option Value} {base : Heap} {G : GA} (T : Tx K G mg) : Cal P w K mg base 1 "_law_signs" (sp_signs K G) := by
  obtain ⟨f, fd, F, b, g⟩ := T.d_signs
  exact ⟨f, fd, _, fn_signs T F, g, F.kp, b⟩

theorem signs_len : m_signs.length = 94 := by decide
def m_sign (ns : List Int) (boxhere1 : Box) : (Nat × Box) :=
  (let t1 := (m_take ns boxhere1 94); (m_signs.getD (t1.1).toNat 0, t1.2))
def sp_sign (K : PySem.W.Frag) (G : GA) : Sp := fun vs H Q _ => ∃ (P : Hp) (cs0 : Cs) (aboxhere1 lboxhere1 : Addr) (ns : List Int) (boxhere1 : Box), vs = [V.ref aboxhere1] ∧ Wd P H ((aboxhere1, (boxO lboxhere1 boxhere1)) :: cs0) ∧ SqL K P lboxhere1 (ns.map V.int) ∧ ∀ (H1 P1 : Hp), Ext P P1 → Wd P1 H1 ((aboxhere1, (boxO lboxhere1 (m_sign ns boxhere1).2)) :: cs0) → Q (S [(m_sign ns boxhere1).1]) H1
def t_sign (K : PySem.W.Frag) (G : GA) : TS := (tRet (tOp rIxT1 (tCall (sp_signs K G) [] E0 tNil) (tCall (sp_take K G) [] E0 (tCons (tVar 0) (tCons (tC (V.int 94)) tNil)))))
theorem sc_sign : FnScope ["_law_box_here"] ["_law_box_here"] (defScope s_sign) := ⟨rfl, rfl, rfl, by decide +kernel, rfl, by decide +kernel, by decide +kernel⟩
theorem rd_sign {K : PySem.W.Frag} {G : GA} (F : Fa K G) (vs : List V) (H : Hp) (Q : VK) (E : XK) (h : sp_sign K G vs H Q E) : t_sign K G { nx := fun _ H1 => Q .non H1, rt := Q } (L2.start ["_law_box_here"] vs) H := by
  obtain ⟨P, cs0, aboxhere1, lboxhere1, ns, boxhere1, rfl, w, hl, q⟩ := h
  generalize eR : (m_sign ns boxhere1) = R0 at q
  unfold m_sign at eR
  try dsimp only at eR
  refine ⟨P, ((aboxhere1, (boxO lboxhere1 boxhere1)) :: cs0), rfl, w, fun H1 P1 e1 w1 => ?_⟩
  replace hl := Ext.sql e1 hl
  have hp1 := signs_len
  refine ⟨_, rfl, P1, (cs0), aboxhere1, lboxhere1, ns, boxhere1, 94, rfl, w1, hl, (by decide), (by decide), fun H2 P2 e2 w2 => ?_⟩
  replace hl := Ext.sql e2 hl
  have hp2 := take_rng ns boxhere1 (n := 94) (by decide)
  generalize et1 : (m_take ns boxhere1 94) = t1 at w2 hp2 eR ⊢
  refine ⟨_, _, _, rfl, rfl, (sz (by (try simp only [List.length_append, List.length_cons, List.length_nil, List.length_map]); omega)), (atI_getD (d := 0) (by (try simp only [List.length_append, List.length_cons, List.length_nil, List.length_map]); omega)), ?_⟩
  subst eR
  exact q H2 P2 (e1.trans e2) w2
theorem fn_sign {P : Program} {w : World} {K : PySem.W.Frag} {mg : Str → Option Value} {base : Heap} {G : GA} {f : Addr} {fd : FuncData} (T : Tx K G mg) (F : Fun K "_law_sign" "_law_sign" s_sign f fd) : FnOk P w K mg base CX0 2 f fd ["_law_box_here"] (sp_sign K G) := by
  refine F.ok sc_sign (fun vs H Q E h => ?_) (fun cdv A outer s H vs Q E hr h => ⟨t_sign K G, ?_, rd_sign T.fa vs H Q E h⟩)
  · obtain ⟨_, _, _, _, _, _, rfl, _⟩ := h
    rfl
  · exact (pss_one (ps_ret (pe_ix i_str (pe_c0 (c_signs T) hr (by decide) (by rfl)) (pe_c (c_take T) hr (by decide) (by rfl) (pa_cons (pv 0) (pa_cons pe_int pa_nil))) (fun _ _ => rfl))))
theorem c_sign {P : Program} {w : World} {K : PySem.W.Frag} {mg : Str → Option Value} {base : Heap} {G : GA} (T : Tx K G mg) : Cal P w K mg base 2 "_law_sign" (sp_sign K G) := by
  obtain ⟨f, fd, F, b, g⟩ := T.d_sign
  exact ⟨f, fd, _, fn_sign T F, g, F.kp, b⟩

def m_lkind (signhere1 : Nat) : (List Nat) :=
  (if (Txt.isalpha ⟨⟨([signhere1] : List Nat)⟩⟩) then (cs "letter") else (if (Txt.isdigit ⟨⟨([signhere1] : List Nat)⟩⟩) then (cs "figure") else (cs "mark")))
def sp_lkind (K : PySem.W.Frag) (G : GA) : Sp := fun vs H Q _ => ∃ (P : Hp) (cs0 : Cs) (signhere1 : Nat), vs = [(S [signhere1])] ∧ Wd P H cs0 ∧ ∀ (H1 P1 : Hp), Ext P P1 → Wd P1 H1 cs0 → Q (S (m_lkind signhere1)) H1
def t_lkind (K : PySem.W.Frag) (G : GA) : TS := (tSeq (tIfS (tB (tM0 rAlpha (tVar 0))) (tRet (tC (S (cs "letter")))) tNext) (tSeq (tIfS (tB (tM0 rDigit (tVar 0))) (tRet (tC (S (cs "figure")))) tNext) (tRet (tC (S (cs "mark"))))))
theorem sc_lkind : FnScope ["_law_sign_here"] ["_law_sign_here"] (defScope s_lkind) := ⟨rfl, rfl, rfl, by decide +kernel, rfl, by decide +kernel, by decide +kernel⟩
theorem rd_lkind {K : PySem.W.Frag} {G : GA} (F : Fa K G) (vs : List V) (H : Hp) (Q : VK) (E : XK) (h : sp_lkind K G vs H Q E) : t_lkind K G { nx := fun _ H1 => Q .non H1, rt := Q } (L2.start ["_law_sign_here"] vs) H := by
  obtain ⟨P, cs0, signhere1, rfl, w, q⟩ := h
  generalize eR : (m_lkind signhere1) = R0 at q
  unfold m_lkind at eR
  try dsimp only at eR
  refine ⟨_, rfl, ⟨_, rfl⟩, _, rfl, rfl, _, rfl, ?_⟩
  refine iteB (fun hb1 => ?_) (fun hb1 => ?_)
  · rw [ite_t hb1] at eR
    subst eR
    exact q H P (Ext.refl _) w
  · rw [ite_f hb1] at eR
    refine ⟨_, rfl, ⟨_, rfl⟩, _, rfl, rfl, _, rfl, ?_⟩
    refine iteB (fun hb2 => ?_) (fun hb2 => ?_)
    · rw [ite_t hb2] at eR
      subst eR
      exact q H P (Ext.refl _) w
    · rw [ite_f hb2] at eR
      subst eR
      exact q H P (Ext.refl _) w
theorem fn_lkind {P : Program} {w : World} {K : PySem.W.Frag} {mg : Str → Option Value} {base : Heap} {G : GA} {f : Addr} {fd : FuncData} (T : Tx K G mg) (F : Fun K "_law_kind" "_law_kind" s_lkind f fd) : FnOk P w K mg base CX0 1 f fd ["_law_sign_here"] (sp_lkind K G) := by
  refine F.ok sc_lkind (fun vs H Q E h => ?_) (fun cdv A outer s H vs Q E hr h => ⟨t_lkind K G, ?_, rd_lkind T.fa vs H Q E h⟩)
  · obtain ⟨_, _, _, rfl, _⟩ := h
    rfl
  · exact (pss_cons (ps_if (pt_val (pe_m0 PySem.F.slot_str_isalpha PySem.F.type_str_isalpha m_alpha (pv 0))) (pss_one (ps_ret pe_strS)) pss_nil) (pss_cons (ps_if (pt_val (pe_m0 PySem.F.slot_str_isdigit PySem.F.type_str_isdigit m_digit (pv 0))) (pss_one (ps_ret pe_strS)) pss_nil) (pss_one (ps_ret pe_strS))))
theorem c_lkind {P : Program} {w : World} {K : PySem.W.Frag} {mg : Str → Option Value} {base : Heap} {G : GA} (T : Tx K G mg) : Cal P w K mg base 1 "_law_kind" (sp_lkind K G) := by
  obtain ⟨f, fd, F, b, g⟩ := T.d_lkind
  exact ⟨f, fd, _, fn_lkind T F, g, F.kp, b⟩

def lp_least_1 (kindhere1 : (List Nat)) (named1 : (List Nat)) (k : (List Nat)) : List Nat → (List Nat)
  | [] => k 
  | it1 :: rest => (if ((!(decide (it1 ∈ named1))) && (decide ((m_lkind it1) = kindhere1))) then ([it1] : List Nat) else lp_least_1 kindhere1 named1 k rest )
def m_least (kindhere1 : (List Nat)) (named1 : (List Nat)) : (List Nat) :=
  ((lp_least_1 kindhere1 named1) ((cs "")) m_signs )
def sp_least (K : PySem.W.Frag) (G : GA) : Sp := fun vs H Q _ => ∃ (P : Hp) (cs0 : Cs) (kindhere1 : (List Nat)) (named1 : (List Nat)), vs = [(S kindhere1), (S named1)] ∧ Wd P H cs0 ∧ ∀ (H1 P1 : Hp), Ext P P1 → Wd P1 H1 cs0 → Q (S (m_least kindhere1 named1)) H1
def t_least (K : PySem.W.Frag) (G : GA) : TS := (tSeq (tFor (iStr (tCall (sp_signs K G) [] E0 tNil)) (gName 2) (tIfS (tAnd (tTest (tOp rNiS (tVar 2) (tVar 1))) (tTest (tOp rEqS (tCall (sp_lkind K G) [] E0 (tCons (tVar 2) tNil)) (tVar 0)))) (tRet (tVar 2)) tNext)) (tRet (tC (S (cs "")))))
theorem sc_least : FnScope ["_law_kind_here", "_law_named", "_law_sign_here"] ["_law_kind_here", "_law_named"] (defScope s_least) := ⟨rfl, rfl, rfl, by decide +kernel, rfl, by decide +kernel, by decide +kernel⟩
theorem rd_least {K : PySem.W.Frag} {G : GA} (F : Fa K G) (vs : List V) (H : Hp) (Q : VK) (E : XK) (h : sp_least K G vs H Q E) : t_least K G { nx := fun _ H1 => Q .non H1, rt := Q } (L2.start ["_law_kind_here", "_law_named", "_law_sign_here"] vs) H := by
  obtain ⟨P, cs0, kindhere1, named1, rfl, w, q⟩ := h
  generalize eR : (m_least kindhere1 named1) = R0 at q
  unfold m_least at eR
  try dsimp only at eR
  refine ⟨P, (cs0), rfl, w, fun H1 P1 e1 w1 => ?_⟩
  have hp1 := signs_len
  refine ⟨_, rfl, for_it (walk_str (z := ⟨⟨m_signs⟩⟩)) (fun i σz Hz => ∃ (Pz : Hp) (yz0 : Option V), Ext P1 Pz ∧ σz = [some (S kindhere1), some (S named1), yz0] ∧ Wd Pz Hz (cs0) ∧ (lp_least_1 kindhere1 named1) ((cs "")) (m_signs.drop i)  = R0) ?_ ?_ ?_ ?_⟩
  · exact ⟨P1, none, (Ext.refl _), rfl, w1, eR⟩
  · rintro i σz Hz _ ⟨Pz, yz0, ee, rfl, ww, _⟩
    trivial
  · rintro i1 x1 _ H2 H3 hi1 ⟨P2, y2, e2, rfl, w2, eR⟩ y1
    obtain ⟨eH1, hx1⟩ := y1
    rw [eH1]
    obtain ⟨it1, hitit1, rfl⟩ := hx1
    have eD1 := str_drop hitit1
    have memit1 := str_mem hitit1
    rw [eD1] at eR
    rw [lp_least_1] at eR
    try dsimp only at eR
    have hB1 : ∀ Q : (Bool → Hp → Prop), (∀ Hz Pz, Ext P2 Pz → Wd Pz Hz cs0 → Q ((!(decide (it1 ∈ named1))) && (decide ((m_lkind it1) = kindhere1))) Hz) → (tAnd (tTest (tOp rNiS (tVar 2) (tVar 1))) (tTest (tOp rEqS (tCall (sp_lkind K G) [] E0 (tCons (tVar 2) tNil)) (tVar 0)))) [some (S kindhere1), some (S named1), some (S ([it1] : List Nat))] H2 Q := by
      intro Q hQ
      refine ⟨_, rfl, _, rfl, it1, _, rfl, rfl, _, rfl, ?_⟩
      refine iteB (fun hb1 => ?_) (fun hb1 => ?_)
      · refine ⟨_, rfl, P2, (cs0), it1, rfl, w2, fun H4 P3 e3 w3 => ?_⟩
        refine ⟨_, rfl, _, _, rfl, rfl, _, rfl, ?_⟩
        have hq1 := hQ H4 P3 e3 w3
        rw [hb1, Bool.true_and] at hq1
        exact hq1
      · have hq2 := hQ H2 P2 (Ext.refl _) w2
        rw [hb1, Bool.false_and] at hq2
        exact hq2
    refine hB1 _ fun H5 P4 e4 w4 => ?_
    refine iteB (fun hb2 => ?_) (fun hb2 => ?_)
    · rw [ite_t hb2] at eR
      refine ⟨_, rfl, ?_⟩
      subst eR
      exact q H5 P4 ((e1.trans e2).trans e4) w4
    · rw [ite_f hb2] at eR
      exact ⟨P4, (some (S ([it1] : List Nat))), (e2.trans e4), rfl, w4, eR⟩
  rintro _ H6 ⟨P5, y3, e5, rfl, w5, eR⟩
  rw [drop_str_all, lp_least_1] at eR
  try dsimp only at eR
  subst eR
  exact q H6 P5 (e1.trans e5) w5
theorem fn_least {P : Program} {w : World} {K : PySem.W.Frag} {mg : Str → Option Value} {base : Heap} {G : GA} {f : Addr} {fd : FuncData} (T : Tx K G mg) (F : Fun K "_law_least" "_law_least" s_least f fd) : FnOk P w K mg base CX0 2 f fd ["_law_kind_here", "_law_named"] (sp_least K G) := by
  refine F.ok sc_least (fun vs H Q E h => ?_) (fun cdv A outer s H vs Q E hr h => ⟨t_least K G, ?_, rd_least T.fa vs H Q E h⟩)
  · obtain ⟨_, _, _, _, rfl, _⟩ := h
    rfl
  · exact (pss_cons (ps_for PassesOwn.never rfl (pi_str (pe_c0 (c_signs T) hr (by decide) (by rfl))) (pg_name (i := 2) sc_least.nd rfl (Or.inl rfl)) (pss_one (ps_if (PW.pt (pw_and (pt_cmpR o_niS (pv 2) (pv 1) (by rfl)) (pw_and1 (pt_cmpR o_eqS (pe_c (c_lkind T) hr (by decide) (by rfl) (pa_cons (pv 2) pa_nil)) (pv 0) (nomark _))))) (pss_one (ps_ret (pv 2))) pss_nil))) (pss_one (ps_ret pe_strS)))
theorem c_least {P : Program} {w : World} {K : PySem.W.Frag} {mg : Str → Option Value} {base : Heap} {G : GA} (T : Tx K G mg) : Cal P w K mg base 2 "_law_least" (sp_least K G) := by
  obtain ⟨f, fd, F, b, g⟩ := T.d_least
  exact ⟨f, fd, _, fn_least T F, g, F.kp, b⟩

def m_samples (named1 : (List Nat)) : (List Nat) :=
  (TL.joinL (cs "") ((m_signs.filter (fun it2 => ((decide (it2 ∈ named1)) || (decide (([it2] : List Nat) ∈ (([(cs "letter"), (cs "figure"), (cs "mark")] : List (List Nat)).map (fun it1 => (m_least it1 named1)))))))).map (fun it2 => ([it2] : List Nat))))
def sp_samples (K : PySem.W.Frag) (G : GA) : Sp := fun vs H Q _ => ∃ (P : Hp) (cs0 : Cs) (named1 : (List Nat)), vs = [(S named1)] ∧ Wd P H cs0 ∧ ∀ (H1 P1 : Hp), Ext P P1 → Wd P1 H1 cs0 → Q (S (m_samples named1)) H1
def t_samples (K : PySem.W.Frag) (G : GA) : TS := (tSeq (tAsg (tLc (iList K (tLst (tCons (tC (S (cs "letter"))) (tCons (tC (S (cs "figure"))) (tCons (tC (S (cs "mark"))) tNil))))) (gName 2) tYes (tCall (sp_least K G) [] E0 (tCons (tVar 2) (tCons (tVar 0) tNil))) [2]) (gName 1)) (tRet (tM1 (rJoin K) (tC (S (cs ""))) (tLc (iStr (tCall (sp_signs K G) [] E0 tNil)) (gName 3) (tOr (tTest (tOp rInS (tVar 3) (tVar 0))) (tTest (tOp (rInTS K) (tVar 3) (tVar 1)))) (tVar 3) [3]))))
theorem sc_samples : FnScope ["_law_named", "_law_others", "_law_kind_here", "_law_sign_here"] ["_law_named"] (defScope s_samples) := ⟨rfl, rfl, rfl, by decide +kernel, rfl, by decide +kernel, by decide +kernel⟩
theorem rd_samples {K : PySem.W.Frag} {G : GA} (F : Fa K G) (vs : List V) (H : Hp) (Q : VK) (E : XK) (h : sp_samples K G vs H Q E) : t_samples K G { nx := fun _ H1 => Q .non H1, rt := Q } (L2.start ["_law_named", "_law_others", "_law_kind_here", "_law_sign_here"] vs) H := by
  obtain ⟨P, cs0, named1, rfl, w, q⟩ := h
  generalize eR : (m_samples named1) = R0 at q
  unfold m_samples at eR
  try dsimp only at eR
  refine ⟨(by show 3 ≤ sizeLine; decide), fun p1 np1 => ?_⟩
  have al1 : DpAll K P ([(S (cs "letter")), (S (cs "figure")), (S (cs "mark"))] : List V) (([(cs "letter"), (cs "figure"), (cs "mark")] : List (List Nat)).map eS) := (DpAll.cons (pd_str _) (DpAll.cons (pd_str _) (DpAll.cons (pd_str _) DpAll.nil)))
  have e1 := w.fext np1 (HO.lst ([(S (cs "letter")), (S (cs "figure")), (S (cs "mark"))] : List V))
  have w1 := w.frz np1 (HO.lst ([(S (cs "letter")), (S (cs "figure")), (S (cs "mark"))] : List V))
  have fq1 : upd P p1 (HO.lst ([(S (cs "letter")), (S (cs "figure")), (S (cs "mark"))] : List V)) p1 = some (HO.lst ([(S (cs "letter")), (S (cs "figure")), (S (cs "mark"))] : List V)) := upd_same
  generalize upd H p1 (HO.lst ([(S (cs "letter")), (S (cs "figure")), (S (cs "mark"))] : List V)) = H1 at w1 ⊢
  generalize upd P p1 (HO.lst ([(S (cs "letter")), (S (cs "figure")), (S (cs "mark"))] : List V)) = P1 at w1 e1 fq1
  replace al1 := DpAll.mono al1 e1
  have sq1 : SqL K P1 p1 ([(S (cs "letter")), (S (cs "figure")), (S (cs "mark"))] : List V) := .inl (.inl fq1)
  refine ⟨p1, rfl, ⟨_, (w1.sql sq1)⟩, fun D1 nD1 => ?_⟩
  refine lc_it (walk_list (K := K) (a := p1) (xs := ([(S (cs "letter")), (S (cs "figure")), (S (cs "mark"))] : List V))) (fun i Hz => ∃ (Pz : Hp) (vsz : List V), Ext P1 Pz ∧ Wd Pz Hz ((D1, (HO.lst vsz)) :: cs0) ∧ DpAll K Pz vsz (((([(cs "letter"), (cs "figure"), (cs "mark")] : List (List Nat)).take i).map (fun it1 => (m_least it1 named1))).map eS)) ?_ ?_ ?_ ?_
  · exact ⟨P1, [], Ext.refl _, w1.new nD1 _, DpAll.nil⟩
  · rintro i Hz _ ⟨Pz, vsz, ee, ww, _⟩
    exact ww.sql (Ext.sql ee sq1)
  · rintro i1 x1 H2 H3 hi1 ⟨P2, vs1, e2, w2, al2⟩ y1
    replace al1 := DpAll.mono al1 e2
    replace sq1 := Ext.sql e2 sq1
    obtain ⟨eH1, hx1⟩ := y1
    rw [eH1]
    obtain ⟨it1, memit1, hd1, eD1⟩ := dpa_get al1 hx1
    replace memit1 : it1 ∈ ([(cs "letter"), (cs "figure"), (cs "mark")] : List (List Nat)) := List.mem_of_getElem? memit1
    obtain rfl := dp_str hd1
    refine ⟨rfl, ?_⟩
    refine ⟨_, rfl, _, rfl, P2, ((D1, (HO.lst vs1)) :: cs0), it1, named1, rfl, w2, fun H4 P3 e3 w3 => ?_⟩
    replace al1 := DpAll.mono al1 e3
    replace sq1 := Ext.sql e3 sq1
    replace al2 := DpAll.mono al2 e3
    refine ⟨vs1, (w3.get 0 rfl), (szl (by rw [dpa_len al2, List.length_map]; exact Nat.lt_of_le_of_lt len_tm (Nat.lt_of_lt_of_le hi1 (dpa_bnd al1 (by first | decide | (simp only [List.length_append, List.length_cons, List.length_nil, List.length_map]; omega) | omega))))), ?_⟩
    exact ⟨P3, _, (e2.trans e3), (w3.put 0 (HO.lst (vs1 ++ [(S (m_least it1 named1))])) rfl), (by rw [take_snoc_map eD1]; exact dpa_snoc al2 (pd_str _))⟩
  rintro H5 ⟨P4, vs2, e4, w4, al3⟩
  rw [take_dpa_all al1] at al3
  replace al1 := DpAll.mono al1 e4
  replace sq1 := Ext.sql e4 sq1
  have e5 : Ext P4 (upd P4 D1 (HO.lst vs2)) := w4.kext
  have w5 : Wd (upd P4 D1 (HO.lst vs2)) H5 cs0 := w4.keep
  have fq2 : upd P4 D1 (HO.lst vs2) D1 = some (HO.lst vs2) := upd_same
  generalize upd P4 D1 (HO.lst vs2) = P5 at w5 e5 fq2
  replace al1 := DpAll.mono al1 e5
  replace sq1 := Ext.sql e5 sq1
  replace al3 := DpAll.mono al3 e5
  have sq2 : SqL K P5 D1 vs2 := .inl (.inl fq2)
  refine ⟨⟨_, rfl⟩, P5, (cs0), rfl, w5, fun H6 P6 e6 w6 => ?_⟩
  replace al1 := DpAll.mono al1 e6
  replace sq1 := Ext.sql e6 sq1
  replace al3 := DpAll.mono al3 e6
  replace sq2 := Ext.sql e6 sq2
  have hp1 := signs_len
  refine ⟨_, rfl, fun D2 nD2 => ?_⟩
  refine lc_it (walk_str (z := ⟨⟨m_signs⟩⟩)) (fun i Hz => ∃ (Pz : Hp) (vsz : List V), Ext P6 Pz ∧ Wd Pz Hz ((D2, (HO.lst vsz)) :: cs0) ∧ DpAll K Pz vsz ((((m_signs.take i).filter (fun it2 => ((decide (it2 ∈ named1)) || (decide (([it2] : List Nat) ∈ (([(cs "letter"), (cs "figure"), (cs "mark")] : List (List Nat)).map (fun it1 => (m_least it1 named1)))))))).map (fun it2 => ([it2] : List Nat))).map eS)) ?_ ?_ ?_ ?_
  · exact ⟨P6, [], Ext.refl _, w6.new nD2 _, DpAll.nil⟩
  · rintro i Hz _ ⟨Pz, vsz, ee, ww, _⟩
    trivial
  · rintro i2 x2 H7 H8 hi2 ⟨P7, vs3, e7, w7, al4⟩ y2
    replace al1 := DpAll.mono al1 e7
    replace sq1 := Ext.sql e7 sq1
    replace al3 := DpAll.mono al3 e7
    replace sq2 := Ext.sql e7 sq2
    obtain ⟨eH2, hx2⟩ := y2
    rw [eH2]
    obtain ⟨it2, hitit2, rfl⟩ := hx2
    have eD2 := str_drop hitit2
    have memit2 := str_mem hitit2
    refine ⟨rfl, ?_⟩
    have hB1 : ∀ Q : (Bool → Hp → Prop), (∀ Hz Pz, Ext P7 Pz → Wd Pz Hz ((D2, (HO.lst vs3)) :: cs0) → Q ((decide (it2 ∈ named1)) || (decide (([it2] : List Nat) ∈ (([(cs "letter"), (cs "figure"), (cs "mark")] : List (List Nat)).map (fun it1 => (m_least it1 named1)))))) Hz) → (tOr (tTest (tOp rInS (tVar 3) (tVar 0))) (tTest (tOp (rInTS K) (tVar 3) (tVar 1)))) [some (S named1), some (.ref D1), none, some (S ([it2] : List Nat))] H7 Q := by
      intro Q hQ
      refine ⟨_, rfl, _, rfl, it2, _, rfl, rfl, _, rfl, ?_⟩
      refine iteB (fun hb1 => ?_) (fun hb1 => ?_)
      · have hq1 := hQ H7 P7 (Ext.refl _) w7
        rw [hb1, Bool.true_or] at hq1
        exact hq1
      · refine ⟨_, rfl, _, rfl, ([it2] : List Nat), D1, (([(cs "letter"), (cs "figure"), (cs "mark")] : List (List Nat)).map (fun it1 => (m_least it1 named1))), rfl, rfl, (.inl (dpa_strs al3 ▸ (w7.sql sq2))), _, rfl, ?_⟩
        have hq2 := hQ H7 P7 (Ext.refl _) w7
        rw [hb1, Bool.false_or] at hq2
        exact hq2
    refine hB1 _ fun H9 P8 e8 w8 => ?_
    replace al1 := DpAll.mono al1 e8
    replace sq1 := Ext.sql e8 sq1
    replace al3 := DpAll.mono al3 e8
    replace sq2 := Ext.sql e8 sq2
    replace al4 := DpAll.mono al4 e8
    refine iteB (fun hb2 => ?_) (fun hb2 => ?_)
    · refine ⟨_, rfl, vs3, (w8.get 0 rfl), (szl (by rw [dpa_len al4, List.length_map]; exact Nat.lt_of_le_of_lt len_tf (Nat.lt_of_lt_of_le hi2 (str_bnd (by omega))))), ?_⟩
      exact ⟨P8, _, (e7.trans e8), (w8.put 0 (HO.lst (vs3 ++ [(S ([it2] : List Nat))])) rfl), (by rw [take_snoc_filter eD2 (p := fun it2 => ((decide (it2 ∈ named1)) || (decide (([it2] : List Nat) ∈ (([(cs "letter"), (cs "figure"), (cs "mark")] : List (List Nat)).map (fun it1 => (m_least it1 named1))))))) hb2]; exact dpa_snoc al4 (pd_str _))⟩
    · exact ⟨P8, _, (e7.trans e8), w8, (by rw [take_snoc_filter_no eD2 (p := fun it2 => ((decide (it2 ∈ named1)) || (decide (([it2] : List Nat) ∈ (([(cs "letter"), (cs "figure"), (cs "mark")] : List (List Nat)).map (fun it1 => (m_least it1 named1))))))) hb2]; exact al4)⟩
  rintro H10 ⟨P9, vs4, e9, w9, al5⟩
  rw [take_str_all] at al5
  replace al1 := DpAll.mono al1 e9
  replace sq1 := Ext.sql e9 sq1
  replace al3 := DpAll.mono al3 e9
  replace sq2 := Ext.sql e9 sq2
  have e10 : Ext P9 (upd P9 D2 (HO.lst vs4)) := w9.kext
  have w10 : Wd (upd P9 D2 (HO.lst vs4)) H10 cs0 := w9.keep
  have fq3 : upd P9 D2 (HO.lst vs4) D2 = some (HO.lst vs4) := upd_same
  generalize upd P9 D2 (HO.lst vs4) = P10 at w10 e10 fq3
  replace al1 := DpAll.mono al1 e10
  replace sq1 := Ext.sql e10 sq1
  replace al3 := DpAll.mono al3 e10
  replace sq2 := Ext.sql e10 sq2
  replace al5 := DpAll.mono al5 e10
  have sq3 : SqL K P10 D2 vs4 := .inl (.inl fq3)
  refine ⟨_, D2, ((m_signs.filter (fun it2 => ((decide (it2 ∈ named1)) || (decide (([it2] : List Nat) ∈ (([(cs "letter"), (cs "figure"), (cs "mark")] : List (List Nat)).map (fun it1 => (m_least it1 named1)))))))).map (fun it2 => ([it2] : List Nat))), rfl, rfl, (.inl (dpa_strs al5 ▸ (w10.sql sq3))), (join_ok 100 1 (by first | exact one_map | assumption) (by first | omega | (rw [List.length_map]; refine Nat.le_trans (List.length_filter_le _ _) (by decide))) (by decide)), ?_⟩
  subst eR
  exact q H10 P10 (((((e1.trans e4).trans e5).trans e6).trans e9).trans e10) w10
theorem fn_samples {P : Program} {w : World} {K : PySem.W.Frag} {mg : Str → Option Value} {base : Heap} {G : GA} {f : Addr} {fd : FuncData} (T : Tx K G mg) (F : Fun K "_law_samples" "_law_samples" s_samples f fd) : FnOk P w K mg base CX0 3 f fd ["_law_named"] (sp_samples K G) := by
  refine F.ok sc_samples (fun vs H Q E h => ?_) (fun cdv A outer s H vs Q E hr h => ⟨t_samples K G, ?_, rd_samples T.fa vs H Q E h⟩)
  · obtain ⟨_, _, _, rfl, _⟩ := h
    rfl
  · exact (pss_cons (ps_set (i := 1) sc_samples.nd rfl (.inr rfl) (pe_lc (own := [("_law_kind_here", 2)]) rfl sc_samples.nd (pi_list (pe_lst (pa_cons pe_strS (pa_cons pe_strS (pa_cons pe_strS pa_nil))))) (blkOk_by (N := ["_law_named", "_law_others", "_law_kind_here", "_law_sign_here"]) (sc := defScope s_samples) (by decide +kernel)) (fun _ _ _ _ _ => (pg_name (i := 2) sc_samples.nd rfl (Or.inl rfl))) (fun _ _ _ _ _ => pts_nil) (fun _ _ _ _ _ => (pe_c (c_least T) hr (by decide) (by rfl) (pa_cons (pv 2) (pa_cons (pv 0) pa_nil)))))) (pss_one (ps_ret (pe_m1 PySem.F.slot_str_join PySem.F.type_str_join m_join pe_strS (pe_lc (own := [("_law_sign_here", 3)]) rfl sc_samples.nd (pi_str (pe_c0 (c_signs T) hr (by decide) (by rfl))) (blkOk_by (N := ["_law_named", "_law_others", "_law_kind_here", "_law_sign_here"]) (sc := defScope s_samples) (by decide +kernel)) (fun _ _ _ _ _ => (pg_name (i := 3) sc_samples.nd rfl (Or.inl rfl))) (fun _ _ _ _ _ => pts_one (PW.pt (pw_or (pt_cmpR o_inS (pv 3) (pv 0) (by rfl)) (pw_or1 (pt_cmpR o_inTS (pv 3) (pv 1) (by rfl)))))) (fun _ _ _ _ _ => (pv 3)))))))
theorem c_samples {P : Program} {w : World} {K : PySem.W.Frag} {mg : Str → Option Value} {base : Heap} {G : GA} (T : Tx K G mg) : Cal P w K mg base 3 "_law_samples" (sp_samples K G) := by
  obtain ⟨f, fd, F, b, g⟩ := T.d_samples
  exact ⟨f, fd, _, fn_samples T F, g, F.kp, b⟩

def lp_law_1 (ns : List Int) (k : (List (List Nat)) → Box → Bool) : List Nat → (List (List Nat)) → Box → Bool
  | [], acc1, b1 => k acc1 b1
  | i1 :: rest, acc1, b1 => (let t3 := (m_sign ns b1); lp_law_1 ns k rest (acc1 ++ [([t3.1] : List Nat)]) t3.2)
def m_law (ns : List Int) : Bool :=
  (let t1 := (m_take ns box0 8); (let t2 := (m_take ns t1.2 41); ((lp_law_1 ns) (fun (acc2 : List (List Nat)) (b2 : Box) => (if (decide (t1.1 = 0)) then (if (decide (t1.1 = 1)) then (if ((!true) || (!(decide ((m_sample_signs (((cutT m_signs (some 32) (some 58)) ++ (cutT m_signs (some 64) (some 90))) ++ ((cs "9876543210") ++ (TL.joinL (cs "") acc2)))) = (m_samples (TL.joinL (cs "") ((m_signs.filter (fun it2 => (decide (it2 ∈ (((cutT m_signs (some 32) (some 58)) ++ (cutT m_signs (some 64) (some 90))) ++ ((cs "9876543210") ++ (TL.joinL (cs "") acc2))))))).map (fun it2 => ([it2] : List Nat))))))))) then false else (let t4 := (m_sign ns b2); (if (!(decide (t4.1 ∈ (TL.joinL (cs "") ((m_signs.filter (fun it2 => (decide (it2 ∈ (((cutT m_signs (some 32) (some 58)) ++ (cutT m_signs (some 64) (some 90))) ++ ((cs "9876543210") ++ (TL.joinL (cs "") acc2))))))).map (fun it2 => ([it2] : List Nat))))))) then (true && (decide ((m_sample_of (t4.1) (TL.joinL (cs "") ((m_signs.filter (fun it2 => (decide (it2 ∈ (((cutT m_signs (some 32) (some 58)) ++ (cutT m_signs (some 64) (some 90))) ++ ((cs "9876543210") ++ (TL.joinL (cs "") acc2))))))).map (fun it2 => ([it2] : List Nat))))) = (m_least (m_lkind (t4.1)) (TL.joinL (cs "") ((m_signs.filter (fun it2 => (decide (it2 ∈ (((cutT m_signs (some 32) (some 58)) ++ (cutT m_signs (some 64) (some 90))) ++ ((cs "9876543210") ++ (TL.joinL (cs "") acc2))))))).map (fun it2 => ([it2] : List Nat)))))))) else (true && (decide ((m_sample_of (t4.1) (TL.joinL (cs "") ((m_signs.filter (fun it2 => (decide (it2 ∈ (((cutT m_signs (some 32) (some 58)) ++ (cutT m_signs (some 64) (some 90))) ++ ((cs "9876543210") ++ (TL.joinL (cs "") acc2))))))).map (fun it2 => ([it2] : List Nat))))) = ([t4.1] : List Nat))))))) else (if ((!true) || (!(decide ((m_sample_signs ((cs "9876543210") ++ (TL.joinL (cs "") acc2))) = (m_samples (TL.joinL (cs "") ((m_signs.filter (fun it3 => (decide (it3 ∈ ((cs "9876543210") ++ (TL.joinL (cs "") acc2)))))).map (fun it3 => ([it3] : List Nat))))))))) then false else (let t5 := (m_sign ns b2); (if (!(decide (t5.1 ∈ (TL.joinL (cs "") ((m_signs.filter (fun it3 => (decide (it3 ∈ ((cs "9876543210") ++ (TL.joinL (cs "") acc2)))))).map (fun it3 => ([it3] : List Nat))))))) then (true && (decide ((m_sample_of (t5.1) (TL.joinL (cs "") ((m_signs.filter (fun it3 => (decide (it3 ∈ ((cs "9876543210") ++ (TL.joinL (cs "") acc2)))))).map (fun it3 => ([it3] : List Nat))))) = (m_least (m_lkind (t5.1)) (TL.joinL (cs "") ((m_signs.filter (fun it3 => (decide (it3 ∈ ((cs "9876543210") ++ (TL.joinL (cs "") acc2)))))).map (fun it3 => ([it3] : List Nat)))))))) else (true && (decide ((m_sample_of (t5.1) (TL.joinL (cs "") ((m_signs.filter (fun it3 => (decide (it3 ∈ ((cs "9876543210") ++ (TL.joinL (cs "") acc2)))))).map (fun it3 => ([it3] : List Nat))))) = ([t5.1] : List Nat)))))))) else (if (decide (t1.1 = 1)) then (if ((!true) || (!(decide ((m_sample_signs (((cutT m_signs (some 32) (some 58)) ++ (cutT m_signs (some 64) (some 90))) ++ (TL.joinL (cs "") acc2))) = (m_samples (TL.joinL (cs "") ((m_signs.filter (fun it4 => (decide (it4 ∈ (((cutT m_signs (some 32) (some 58)) ++ (cutT m_signs (some 64) (some 90))) ++ (TL.joinL (cs "") acc2)))))).map (fun it4 => ([it4] : List Nat))))))))) then false else (let t6 := (m_sign ns b2); (if (!(decide (t6.1 ∈ (TL.joinL (cs "") ((m_signs.filter (fun it4 => (decide (it4 ∈ (((cutT m_signs (some 32) (some 58)) ++ (cutT m_signs (some 64) (some 90))) ++ (TL.joinL (cs "") acc2)))))).map (fun it4 => ([it4] : List Nat))))))) then (true && (decide ((m_sample_of (t6.1) (TL.joinL (cs "") ((m_signs.filter (fun it4 => (decide (it4 ∈ (((cutT m_signs (some 32) (some 58)) ++ (cutT m_signs (some 64) (some 90))) ++ (TL.joinL (cs "") acc2)))))).map (fun it4 => ([it4] : List Nat))))) = (m_least (m_lkind (t6.1)) (TL.joinL (cs "") ((m_signs.filter (fun it4 => (decide (it4 ∈ (((cutT m_signs (some 32) (some 58)) ++ (cutT m_signs (some 64) (some 90))) ++ (TL.joinL (cs "") acc2)))))).map (fun it4 => ([it4] : List Nat)))))))) else (true && (decide ((m_sample_of (t6.1) (TL.joinL (cs "") ((m_signs.filter (fun it4 => (decide (it4 ∈ (((cutT m_signs (some 32) (some 58)) ++ (cutT m_signs (some 64) (some 90))) ++ (TL.joinL (cs "") acc2)))))).map (fun it4 => ([it4] : List Nat))))) = ([t6.1] : List Nat))))))) else (if ((!true) || (!(decide ((m_sample_signs (TL.joinL (cs "") acc2)) = (m_samples (TL.joinL (cs "") ((m_signs.filter (fun it5 => (decide (it5 ∈ (TL.joinL (cs "") acc2))))).map (fun it5 => ([it5] : List Nat))))))))) then false else (let t7 := (m_sign ns b2); (if (!(decide (t7.1 ∈ (TL.joinL (cs "") ((m_signs.filter (fun it5 => (decide (it5 ∈ (TL.joinL (cs "") acc2))))).map (fun it5 => ([it5] : List Nat))))))) then (true && (decide ((m_sample_of (t7.1) (TL.joinL (cs "") ((m_signs.filter (fun it5 => (decide (it5 ∈ (TL.joinL (cs "") acc2))))).map (fun it5 => ([it5] : List Nat))))) = (m_least (m_lkind (t7.1)) (TL.joinL (cs "") ((m_signs.filter (fun it5 => (decide (it5 ∈ (TL.joinL (cs "") acc2))))).map (fun it5 => ([it5] : List Nat)))))))) else (true && (decide ((m_sample_of (t7.1) (TL.joinL (cs "") ((m_signs.filter (fun it5 => (decide (it5 ∈ (TL.joinL (cs "") acc2))))).map (fun it5 => ([it5] : List Nat))))) = ([t7.1] : List Nat)))))))))) (List.range (t2.1).toNat) [] t2.2)))
def sp_law (K : PySem.W.Frag) (G : GA) : Sp := fun vs H Q _ => ∃ (P : Hp) (cs0 : Cs) (ascr : Addr) (ns0 : List Int), vs = [V.ref ascr] ∧ Wd P H cs0 ∧ SqL K P ascr (ns0.map V.int) ∧ ns0.length ≤ 63 ∧ ∀ (H1 P1 : Hp), Ext P P1 → Wd P1 H1 cs0 → Q (V.bl (m_law (absL ns0))) H1
def t_law (K : PySem.W.Frag) (G : GA) : TS := (tSeq (tAsg (tCall (sp_box K G) [] E0 (tCons (tVar 0) tNil)) (gName 1)) (tSeq (tAsg (tCall (sp_take K G) [] E0 (tCons (tVar 1) (tCons (tC (V.int 8)) tNil))) (gName 2)) (tSeq (tAsg (tM1 (rJoin K) (tC (S (cs ""))) (tLc (iRng1 (tCons (tCall (sp_take K G) [] E0 (tCons (tVar 1) (tCons (tC (V.int 41)) tNil))) tNil)) (gName 8) tYes (tCall (sp_sign K G) [] E0 (tCons (tVar 1) tNil)) [8])) (gName 3)) (tSeq (tIfS (tTest (tOp rEqI (tVar 2) (tC (V.int 0)))) (tAsg (tOp rAddS (tC (S (cs "9876543210"))) (tVar 3)) (gName 3)) tNext) (tSeq (tIfS (tTest (tOp rEqI (tVar 2) (tC (V.int 1)))) (tAsg (tOp rAddS (tOp rAddS (tSl rSlT1 (tCall (sp_signs K G) [] E0 tNil) (tPart (tC (V.int 32))) (tPart (tC (V.int 58)))) (tSl rSlT1 (tCall (sp_signs K G) [] E0 tNil) (tPart (tC (V.int 64))) (tPart (tC (V.int 90))))) (tVar 3)) (gName 3)) tNext) (tSeq (tAsg (tM1 (rJoin K) (tC (S (cs ""))) (tLc (iStr (tCall (sp_signs K G) [] E0 tNil)) (gName 6) (tTest (tOp rInS (tVar 6) (tVar 3))) (tVar 6) [6])) (gName 4)) (tSeq (tAsg (tCall (sp_sample_signs K G) [] E0 (tCons (tVar 3) tNil)) (gName 5)) (tSeq (tIfS (tOr (tNot (tB (tCB (rIsi K) (tCons (tVar 5) (tCons (tC (V.ty "str")) tNil))))) (tTest (tOp rNeS (tVar 5) (tCall (sp_samples K G) [] E0 (tCons (tVar 4) tNil))))) (tRet (tC (V.bl false))) tNext) (tSeq (tAsg (tCall (sp_sign K G) [] E0 (tCons (tVar 1) tNil)) (gName 6)) (tSeq (tAsg (tVar 6) (gName 7)) (tSeq (tIfS (tTest (tOp rNiS (tVar 6) (tVar 4))) (tAsg (tCall (sp_least K G) [] E0 (tCons (tCall (sp_lkind K G) [] E0 (tCons (tVar 6) tNil)) (tCons (tVar 4) tNil))) (gName 7)) tNext) (tSeq (tAsg (tCall (sp_sample_of K G) [] E0 (tCons (tVar 6) (tCons (tVar 4) tNil))) (gName 5)) (tRet (tAndV (tCB (rIsi K) (tCons (tVar 5) (tCons (tC (V.ty "str")) tNil))) (tOp rEqS (tVar 5) (tVar 7))))))))))))))))
theorem sc_law : FnScope ["_law_script", "_law_box_here", "_law_way", "_law_given", "_law_named", "_law_actual", "_law_sign_here", "_law_due", "_law_k"] ["_law_script"] (defScope s_law) := ⟨rfl, rfl, rfl, by decide +kernel, rfl, by decide +kernel, by decide +kernel⟩
theorem rd_law {K : PySem.W.Frag} {G : GA} (F : Fa K G) (vs : List V) (H : Hp) (Q : VK) (E : XK) (h : sp_law K G vs H Q E) : t_law K G { nx := fun _ H1 => Q .non H1, rt := Q } (L2.start ["_law_script", "_law_box_here", "_law_way", "_law_given", "_law_named", "_law_actual", "_law_sign_here", "_law_due", "_law_k"] vs) H := by
  obtain ⟨P, cs0, ascr, ns0, rfl, w, hl0, hlen0, q⟩ := h
  generalize eR : (m_law (absL ns0)) = R0 at q
  unfold m_law at eR
  try dsimp only at eR
  refine ⟨_, rfl, P, (cs0), ascr, ns0, rfl, w, hl0, hlen0, fun H1 P1 p1 l1 e1 w1 hl => ?_⟩
  generalize absL ns0 = ns at hl eR q
  replace hl0 := Ext.sql e1 hl0
  refine ⟨_, rfl, P1, (cs0), p1, l1, ns, box0, 8, rfl, w1, hl, (by decide), (by decide), fun H2 P2 e2 w2 => ?_⟩
  replace hl := Ext.sql e2 hl
  have hp1 := take_rng ns box0 (n := 8) (by decide)
  generalize et1 : (m_take ns box0 8) = t1 at w2 hp1 eR ⊢
  refine ⟨⟨_, rfl⟩, _, rfl, P2, (cs0), p1, l1, ns, t1.2, 41, rfl, w2, hl, (by decide), (by decide), fun H3 P3 e3 w3 => ?_⟩
  replace hl := Ext.sql e3 hl
  have hp2 := take_rng ns t1.2 (n := 41) (by decide)
  generalize et2 : (m_take ns t1.2 41) = t2 at w3 hp2 eR ⊢
  refine ⟨_, rfl, (by omega), (by omega), fun D1 nD1 => ?_⟩
  refine lc_it walk_range0 (fun i Hz => ∃ (Pz : Hp) (vsz : List V) (accz : List (List Nat)) (bz : Box), Ext P3 Pz ∧ Wd Pz Hz ((D1, (HO.lst vsz)) :: (p1, (boxO l1 bz)) :: cs0) ∧ DpAll K Pz vsz (accz.map eS) ∧ accz.length ≤ i ∧ (∀ t ∈ accz, t.length ≤ 1) ∧ (lp_law_1 ns) (fun (acc2 : List (List Nat)) (b2 : Box) => (if (decide (t1.1 = 0)) then (if (decide (t1.1 = 1)) then (if ((!true) || (!(decide ((m_sample_signs (((cutT m_signs (some 32) (some 58)) ++ (cutT m_signs (some 64) (some 90))) ++ ((cs "9876543210") ++ (TL.joinL (cs "") acc2)))) = (m_samples (TL.joinL (cs "") ((m_signs.filter (fun it2 => (decide (it2 ∈ (((cutT m_signs (some 32) (some 58)) ++ (cutT m_signs (some 64) (some 90))) ++ ((cs "9876543210") ++ (TL.joinL (cs "") acc2))))))).map (fun it2 => ([it2] : List Nat))))))))) then false else (let t4 := (m_sign ns b2); (if (!(decide (t4.1 ∈ (TL.joinL (cs "") ((m_signs.filter (fun it2 => (decide (it2 ∈ (((cutT m_signs (some 32) (some 58)) ++ (cutT m_signs (some 64) (some 90))) ++ ((cs "9876543210") ++ (TL.joinL (cs "") acc2))))))).map (fun it2 => ([it2] : List Nat))))))) then (true && (decide ((m_sample_of (t4.1) (TL.joinL (cs "") ((m_signs.filter (fun it2 => (decide (it2 ∈ (((cutT m_signs (some 32) (some 58)) ++ (cutT m_signs (some 64) (some 90))) ++ ((cs "9876543210") ++ (TL.joinL (cs "") acc2))))))).map (fun it2 => ([it2] : List Nat))))) = (m_least (m_lkind (t4.1)) (TL.joinL (cs "") ((m_signs.filter (fun it2 => (decide (it2 ∈ (((cutT m_signs (some 32) (some 58)) ++ (cutT m_signs (some 64) (some 90))) ++ ((cs "9876543210") ++ (TL.joinL (cs "") acc2))))))).map (fun it2 => ([it2] : List Nat)))))))) else (true && (decide ((m_sample_of (t4.1) (TL.joinL (cs "") ((m_signs.filter (fun it2 => (decide (it2 ∈ (((cutT m_signs (some 32) (some 58)) ++ (cutT m_signs (some 64) (some 90))) ++ ((cs "9876543210") ++ (TL.joinL (cs "") acc2))))))).map (fun it2 => ([it2] : List Nat))))) = ([t4.1] : List Nat))))))) else (if ((!true) || (!(decide ((m_sample_signs ((cs "9876543210") ++ (TL.joinL (cs "") acc2))) = (m_samples (TL.joinL (cs "") ((m_signs.filter (fun it3 => (decide (it3 ∈ ((cs "9876543210") ++ (TL.joinL (cs "") acc2)))))).map (fun it3 => ([it3] : List Nat))))))))) then false else (let t5 := (m_sign ns b2); (if (!(decide (t5.1 ∈ (TL.joinL (cs "") ((m_signs.filter (fun it3 => (decide (it3 ∈ ((cs "9876543210") ++ (TL.joinL (cs "") acc2)))))).map (fun it3 => ([it3] : List Nat))))))) then (true && (decide ((m_sample_of (t5.1) (TL.joinL (cs "") ((m_signs.filter (fun it3 => (decide (it3 ∈ ((cs "9876543210") ++ (TL.joinL (cs "") acc2)))))).map (fun it3 => ([it3] : List Nat))))) = (m_least (m_lkind (t5.1)) (TL.joinL (cs "") ((m_signs.filter (fun it3 => (decide (it3 ∈ ((cs "9876543210") ++ (TL.joinL (cs "") acc2)))))).map (fun it3 => ([it3] : List Nat)))))))) else (true && (decide ((m_sample_of (t5.1) (TL.joinL (cs "") ((m_signs.filter (fun it3 => (decide (it3 ∈ ((cs "9876543210") ++ (TL.joinL (cs "") acc2)))))).map (fun it3 => ([it3] : List Nat))))) = ([t5.1] : List Nat)))))))) else (if (decide (t1.1 = 1)) then (if ((!true) || (!(decide ((m_sample_signs (((cutT m_signs (some 32) (some 58)) ++ (cutT m_signs (some 64) (some 90))) ++ (TL.joinL (cs "") acc2))) = (m_samples (TL.joinL (cs "") ((m_signs.filter (fun it4 => (decide (it4 ∈ (((cutT m_signs (some 32) (some 58)) ++ (cutT m_signs (some 64) (some 90))) ++ (TL.joinL (cs "") acc2)))))).map (fun it4 => ([it4] : List Nat))))))))) then false else (let t6 := (m_sign ns b2); (if (!(decide (t6.1 ∈ (TL.joinL (cs "") ((m_signs.filter (fun it4 => (decide (it4 ∈ (((cutT m_signs (some 32) (some 58)) ++ (cutT m_signs (some 64) (some 90))) ++ (TL.joinL (cs "") acc2)))))).map (fun it4 => ([it4] : List Nat))))))) then (true && (decide ((m_sample_of (t6.1) (TL.joinL (cs "") ((m_signs.filter (fun it4 => (decide (it4 ∈ (((cutT m_signs (some 32) (some 58)) ++ (cutT m_signs (some 64) (some 90))) ++ (TL.joinL (cs "") acc2)))))).map (fun it4 => ([it4] : List Nat))))) = (m_least (m_lkind (t6.1)) (TL.joinL (cs "") ((m_signs.filter (fun it4 => (decide (it4 ∈ (((cutT m_signs (some 32) (some 58)) ++ (cutT m_signs (some 64) (some 90))) ++ (TL.joinL (cs "") acc2)))))).map (fun it4 => ([it4] : List Nat)))))))) else (true && (decide ((m_sample_of (t6.1) (TL.joinL (cs "") ((m_signs.filter (fun it4 => (decide (it4 ∈ (((cutT m_signs (some 32) (some 58)) ++ (cutT m_signs (some 64) (some 90))) ++ (TL.joinL (cs "") acc2)))))).map (fun it4 => ([it4] : List Nat))))) = ([t6.1] : List Nat))))))) else (if ((!true) || (!(decide ((m_sample_signs (TL.joinL (cs "") acc2)) = (m_samples (TL.joinL (cs "") ((m_signs.filter (fun it5 => (decide (it5 ∈ (TL.joinL (cs "") acc2))))).map (fun it5 => ([it5] : List Nat))))))))) then false else (let t7 := (m_sign ns b2); (if (!(decide (t7.1 ∈ (TL.joinL (cs "") ((m_signs.filter (fun it5 => (decide (it5 ∈ (TL.joinL (cs "") acc2))))).map (fun it5 => ([it5] : List Nat))))))) then (true && (decide ((m_sample_of (t7.1) (TL.joinL (cs "") ((m_signs.filter (fun it5 => (decide (it5 ∈ (TL.joinL (cs "") acc2))))).map (fun it5 => ([it5] : List Nat))))) = (m_least (m_lkind (t7.1)) (TL.joinL (cs "") ((m_signs.filter (fun it5 => (decide (it5 ∈ (TL.joinL (cs "") acc2))))).map (fun it5 => ([it5] : List Nat)))))))) else (true && (decide ((m_sample_of (t7.1) (TL.joinL (cs "") ((m_signs.filter (fun it5 => (decide (it5 ∈ (TL.joinL (cs "") acc2))))).map (fun it5 => ([it5] : List Nat))))) = ([t7.1] : List Nat)))))))))) ((List.range (t2.1).toNat).drop i) accz bz = R0) ?_ ?_ ?_ ?_
  · exact ⟨P3, [], [], t2.2, Ext.refl _, w3.new nD1 _, DpAll.nil, Nat.le_refl _, (fun _ h => by cases h), eR⟩
  · rintro i Hz _ ⟨Pz, vsz, accz, bz, ee, ww, _⟩
    trivial
  · rintro i1 x1 H4 H5 hi1 ⟨P4, vs1, acc1, b1, e4, w4, al1, hlen1, hinv, eR⟩ y1
    replace hl := Ext.sql e4 hl
    obtain ⟨eH1, hx1⟩ := y1
    rw [eH1]
    subst hx1
    have eD1 := range_drop (n := (t2.1).toNat) (i := i1) (by assumption)
    rw [eD1] at eR
    rw [lp_law_1] at eR
    try dsimp only at eR
    refine ⟨rfl, ?_⟩
    refine ⟨_, rfl, P4, ((D1, (HO.lst vs1)) :: cs0), p1, l1, ns, b1, rfl, (w4.pull 1 rfl), hl, fun H6 P5 e5 w5 => ?_⟩
    replace hl := Ext.sql e5 hl
    replace al1 := DpAll.mono al1 e5
    generalize et3 : (m_sign ns b1) = t3 at w5 eR ⊢
    refine ⟨vs1, (w5.get 1 rfl), (szl (by rw [dpa_len al1, List.length_map]; omega)), ?_⟩
    exact ⟨P5, _, _, _, (e4.trans e5), ((w5.put 1 (HO.lst (vs1 ++ [(S ([t3.1] : List Nat))])) rfl).pull 1 rfl), dpa_snoc al1 (pd_str _), (by rw [List.length_append]; simp only [List.length_cons, List.length_nil]; omega), (snoc_all (by assumption) (Nat.le_refl _)), eR⟩
  rintro H7 ⟨P6, vs2, acc2, b2, e6, w6, al2, hlen2, hinv, eR⟩
  rw [drop_range_all, lp_law_1] at eR
  try dsimp only at eR
  have hjacc2 : (TL.joinL (cs "") acc2).length ≤ 41 := Nat.le_trans (joinL_len hinv) (by omega)
  replace hl := Ext.sql e6 hl
  have e7 : Ext P6 (upd P6 D1 (HO.lst vs2)) := w6.kext
  have w7 : Wd (upd P6 D1 (HO.lst vs2)) H7 ((p1, (boxO l1 b2)) :: cs0) := w6.keep
  have fq1 : upd P6 D1 (HO.lst vs2) D1 = some (HO.lst vs2) := upd_same
  generalize upd P6 D1 (HO.lst vs2) = P7 at w7 e7 fq1
  replace hl := Ext.sql e7 hl
  replace al2 := DpAll.mono al2 e7
  have sq1 : SqL K P7 D1 vs2 := .inl (.inl fq1)
  refine ⟨_, D1, acc2, rfl, rfl, (.inl (dpa_strs al2 ▸ (w7.sql sq1))), (join_ok 100 1 (by first | exact one_map | assumption) (by first | omega | (rw [List.length_map]; refine Nat.le_trans (List.length_filter_le _ _) (by decide))) (by decide)), _, rfl, _, _, rfl, rfl, _, rfl, ?_⟩
  refine iteB (fun hb1 => ?_) (fun hb1 => ?_)
  · rw [ite_t hb1] at eR
    have hb1p := of_decide_eq_true hb1
    refine ⟨_, rfl, _, _, rfl, rfl, (sz (by have hc0 : (cs "9876543210").length = 10 := (by decide); have hc1 : (cs "").length = 0 := (by decide); (try simp only [List.length_append, List.length_cons, List.length_nil, List.length_map]); omega)), _, rfl, _, _, rfl, rfl, _, rfl, ?_⟩
    refine iteB (fun hb2 => ?_) (fun hb2 => ?_)
    · rw [ite_t hb2] at eR
      have hb2p := of_decide_eq_true hb2
      refine ⟨P7, ((p1, (boxO l1 b2)) :: cs0), rfl, w7, fun H8 P8 e8 w8 => ?_⟩
      replace hl := Ext.sql e8 hl
      replace al2 := DpAll.mono al2 e8
      replace sq1 := Ext.sql e8 sq1
      have hp3 := signs_len
      have hcl1 := cutT_len m_signs (some 32) (some 58)
      refine ⟨_, rfl, _, rfl, _, rfl, (sz (by (try simp only [List.length_append, List.length_cons, List.length_nil, List.length_map]); omega)), P8, ((p1, (boxO l1 b2)) :: cs0), rfl, w8, fun H9 P9 e9 w9 => ?_⟩
      replace hl := Ext.sql e9 hl
      replace al2 := DpAll.mono al2 e9
      replace sq1 := Ext.sql e9 sq1
      have hp4 := signs_len
      have hcl2 := cutT_len m_signs (some 64) (some 90)
      refine ⟨_, rfl, _, rfl, _, rfl, (sz (by (try simp only [List.length_append, List.length_cons, List.length_nil, List.length_map]); omega)), _, _, rfl, rfl, (sz (by (try simp only [List.length_append, List.length_cons, List.length_nil, List.length_map]); omega)), _, rfl, _, _, rfl, rfl, (sz (by have hc0 : (cs "9876543210").length = 10 := (by decide); have hc1 : (cs "").length = 0 := (by decide); (try simp only [List.length_append, List.length_cons, List.length_nil, List.length_map]); omega)), ⟨_, rfl⟩, P9, ((p1, (boxO l1 b2)) :: cs0), rfl, w9, fun H10 P10 e10 w10 => ?_⟩
      replace hl := Ext.sql e10 hl
      replace al2 := DpAll.mono al2 e10
      replace sq1 := Ext.sql e10 sq1
      have hp5 := signs_len
      refine ⟨_, rfl, fun D2 nD2 => ?_⟩
      refine lc_it (walk_str (z := ⟨⟨m_signs⟩⟩)) (fun i Hz => ∃ (Pz : Hp) (vsz : List V), Ext P10 Pz ∧ Wd Pz Hz ((D2, (HO.lst vsz)) :: (p1, (boxO l1 b2)) :: cs0) ∧ DpAll K Pz vsz ((((m_signs.take i).filter (fun it2 => (decide (it2 ∈ (((cutT m_signs (some 32) (some 58)) ++ (cutT m_signs (some 64) (some 90))) ++ ((cs "9876543210") ++ (TL.joinL (cs "") acc2))))))).map (fun it2 => ([it2] : List Nat))).map eS)) ?_ ?_ ?_ ?_
      · exact ⟨P10, [], Ext.refl _, w10.new nD2 _, DpAll.nil⟩
      · rintro i Hz _ ⟨Pz, vsz, ee, ww, _⟩
        trivial
      · rintro i2 x2 H11 H12 hi2 ⟨P11, vs3, e11, w11, al3⟩ y2
        replace hl := Ext.sql e11 hl
        replace al2 := DpAll.mono al2 e11
        replace sq1 := Ext.sql e11 sq1
        obtain ⟨eH2, hx2⟩ := y2
        rw [eH2]
        obtain ⟨it2, hitit2, rfl⟩ := hx2
        have eD2 := str_drop hitit2
        have memit2 := str_mem hitit2
        refine ⟨rfl, ?_⟩
        refine ⟨_, rfl, _, rfl, it2, _, rfl, rfl, _, rfl, ?_⟩
        refine iteB (fun hb3 => ?_) (fun hb3 => ?_)
        · refine ⟨_, rfl, vs3, (w11.get 0 rfl), (szl (by rw [dpa_len al3, List.length_map]; exact Nat.lt_of_le_of_lt len_tf (Nat.lt_of_lt_of_le hi2 (str_bnd (by omega))))), ?_⟩
          exact ⟨P11, _, e11, (w11.put 0 (HO.lst (vs3 ++ [(S ([it2] : List Nat))])) rfl), (by rw [take_snoc_filter eD2 (p := fun it2 => (decide (it2 ∈ (((cutT m_signs (some 32) (some 58)) ++ (cutT m_signs (some 64) (some 90))) ++ ((cs "9876543210") ++ (TL.joinL (cs "") acc2)))))) hb3]; exact dpa_snoc al3 (pd_str _))⟩
        · exact ⟨P11, _, e11, w11, (by rw [take_snoc_filter_no eD2 (p := fun it2 => (decide (it2 ∈ (((cutT m_signs (some 32) (some 58)) ++ (cutT m_signs (some 64) (some 90))) ++ ((cs "9876543210") ++ (TL.joinL (cs "") acc2)))))) hb3]; exact al3)⟩
      rintro H13 ⟨P12, vs4, e12, w12, al4⟩
      rw [take_str_all] at al4
      replace hl := Ext.sql e12 hl
      replace al2 := DpAll.mono al2 e12
      replace sq1 := Ext.sql e12 sq1
      have e13 : Ext P12 (upd P12 D2 (HO.lst vs4)) := w12.kext
      have w13 : Wd (upd P12 D2 (HO.lst vs4)) H13 ((p1, (boxO l1 b2)) :: cs0) := w12.keep
      have fq2 : upd P12 D2 (HO.lst vs4) D2 = some (HO.lst vs4) := upd_same
      generalize upd P12 D2 (HO.lst vs4) = P13 at w13 e13 fq2
      replace hl := Ext.sql e13 hl
      replace al2 := DpAll.mono al2 e13
      replace sq1 := Ext.sql e13 sq1
      replace al4 := DpAll.mono al4 e13
      have sq2 : SqL K P13 D2 vs4 := .inl (.inl fq2)
      refine ⟨_, D2, ((m_signs.filter (fun it2 => (decide (it2 ∈ (((cutT m_signs (some 32) (some 58)) ++ (cutT m_signs (some 64) (some 90))) ++ ((cs "9876543210") ++ (TL.joinL (cs "") acc2))))))).map (fun it2 => ([it2] : List Nat))), rfl, rfl, (.inl (dpa_strs al4 ▸ (w13.sql sq2))), (join_ok 100 1 (by first | exact one_map | assumption) (by first | omega | (rw [List.length_map]; refine Nat.le_trans (List.length_filter_le _ _) (by decide))) (by decide)), _, rfl, P13, ((p1, (boxO l1 b2)) :: cs0), (((cutT m_signs (some 32) (some 58)) ++ (cutT m_signs (some 64) (some 90))) ++ ((cs "9876543210") ++ (TL.joinL (cs "") acc2))), rfl, w13, fun H14 P14 e14 w14 => ?_⟩
      replace hl := Ext.sql e14 hl
      replace al2 := DpAll.mono al2 e14
      replace sq1 := Ext.sql e14 sq1
      replace al4 := DpAll.mono al4 e14
      replace sq2 := Ext.sql e14 sq2
      have hB1 : ∀ Q : (Bool → Hp → Prop), (∀ Hz Pz, Ext P14 Pz → Wd Pz Hz ((p1, (boxO l1 b2)) :: cs0) → Q ((!true) || (!(decide ((m_sample_signs (((cutT m_signs (some 32) (some 58)) ++ (cutT m_signs (some 64) (some 90))) ++ ((cs "9876543210") ++ (TL.joinL (cs "") acc2)))) = (m_samples (TL.joinL (cs "") ((m_signs.filter (fun it2 => (decide (it2 ∈ (((cutT m_signs (some 32) (some 58)) ++ (cutT m_signs (some 64) (some 90))) ++ ((cs "9876543210") ++ (TL.joinL (cs "") acc2))))))).map (fun it2 => ([it2] : List Nat))))))))) Hz) → (tOr (tNot (tB (tCB (rIsi K) (tCons (tVar 5) (tCons (tC (V.ty "str")) tNil))))) (tTest (tOp rNeS (tVar 5) (tCall (sp_samples K G) [] E0 (tCons (tVar 4) tNil))))) [some (V.ref ascr), some (V.ref p1), some (V.int t1.1), some (S (((cutT m_signs (some 32) (some 58)) ++ (cutT m_signs (some 64) (some 90))) ++ ((cs "9876543210") ++ (TL.joinL (cs "") acc2)))), some (S (TL.joinL (cs "") ((m_signs.filter (fun it2 => (decide (it2 ∈ (((cutT m_signs (some 32) (some 58)) ++ (cutT m_signs (some 64) (some 90))) ++ ((cs "9876543210") ++ (TL.joinL (cs "") acc2))))))).map (fun it2 => ([it2] : List Nat))))), some (S (m_sample_signs (((cutT m_signs (some 32) (some 58)) ++ (cutT m_signs (some 64) (some 90))) ++ ((cs "9876543210") ++ (TL.joinL (cs "") acc2))))), none, none, none] H14 Q := by
        intro Q hQ
        refine ⟨_, rfl, _, _, (.type "str"), (.type "str"), true, rfl, (.ty _), (.base (.str _)), (kit_ty (by decide +kernel)), _, rfl, ?_⟩
        refine iteB (fun hb4 => ?_) (fun hb4 => ?_)
        · have hq1 := hQ H14 P14 (Ext.refl _) w14
          rw [hb4, Bool.true_or] at hq1
          exact hq1
        · refine ⟨_, rfl, _, rfl, P14, ((p1, (boxO l1 b2)) :: cs0), (TL.joinL (cs "") ((m_signs.filter (fun it2 => (decide (it2 ∈ (((cutT m_signs (some 32) (some 58)) ++ (cutT m_signs (some 64) (some 90))) ++ ((cs "9876543210") ++ (TL.joinL (cs "") acc2))))))).map (fun it2 => ([it2] : List Nat)))), rfl, w14, fun H15 P15 e15 w15 => ?_⟩
          replace hl := Ext.sql e15 hl
          replace al2 := DpAll.mono al2 e15
          replace sq1 := Ext.sql e15 sq1
          replace al4 := DpAll.mono al4 e15
          replace sq2 := Ext.sql e15 sq2
          refine ⟨_, _, rfl, rfl, _, rfl, ?_⟩
          have hq2 := hQ H15 P15 e15 w15
          rw [hb4, Bool.false_or] at hq2
          exact hq2
      refine hB1 _ fun H16 P16 e16 w16 => ?_
      replace hl := Ext.sql e16 hl
      replace al2 := DpAll.mono al2 e16
      replace sq1 := Ext.sql e16 sq1
      replace al4 := DpAll.mono al4 e16
      replace sq2 := Ext.sql e16 sq2
      refine iteB (fun hb5 => ?_) (fun hb5 => ?_)
      · rw [ite_t hb5] at eR
        subst eR
        exact q H16 P16 (((((((((((e1.trans e2).trans e3).trans e6).trans e7).trans e8).trans e9).trans e10).trans e12).trans e13).trans e14).trans e16) (w16.pull 0 rfl).tl
      · rw [ite_f hb5] at eR
        refine ⟨_, rfl, P16, (cs0), p1, l1, ns, b2, rfl, w16, hl, fun H17 P17 e17 w17 => ?_⟩
        replace hl := Ext.sql e17 hl
        replace al2 := DpAll.mono al2 e17
        replace sq1 := Ext.sql e17 sq1
        replace al4 := DpAll.mono al4 e17
        replace sq2 := Ext.sql e17 sq2
        generalize et4 : (m_sign ns b2) = t4 at w17 eR ⊢
        refine ⟨_, rfl, _, rfl, _, rfl, t4.1, _, rfl, rfl, _, rfl, ?_⟩
        refine iteB (fun hb6 => ?_) (fun hb6 => ?_)
        · rw [ite_t hb6] at eR
          have hb6p : ¬ (t4.1 ∈ (TL.joinL (cs "") ((m_signs.filter (fun it2 => (decide (it2 ∈ (((cutT m_signs (some 32) (some 58)) ++ (cutT m_signs (some 64) (some 90))) ++ ((cs "9876543210") ++ (TL.joinL (cs "") acc2))))))).map (fun it2 => ([it2] : List Nat))))) := by simpa using hb6
          refine ⟨_, rfl, P17, ((p1, (boxO l1 t4.2)) :: cs0), (t4.1), rfl, w17, fun H18 P18 e18 w18 => ?_⟩
          replace hl := Ext.sql e18 hl
          replace al2 := DpAll.mono al2 e18
          replace sq1 := Ext.sql e18 sq1
          replace al4 := DpAll.mono al4 e18
          replace sq2 := Ext.sql e18 sq2
          refine ⟨_, rfl, P18, ((p1, (boxO l1 t4.2)) :: cs0), (m_lkind (t4.1)), (TL.joinL (cs "") ((m_signs.filter (fun it2 => (decide (it2 ∈ (((cutT m_signs (some 32) (some 58)) ++ (cutT m_signs (some 64) (some 90))) ++ ((cs "9876543210") ++ (TL.joinL (cs "") acc2))))))).map (fun it2 => ([it2] : List Nat)))), rfl, w18, fun H19 P19 e19 w19 => ?_⟩
          replace hl := Ext.sql e19 hl
          replace al2 := DpAll.mono al2 e19
          replace sq1 := Ext.sql e19 sq1
          replace al4 := DpAll.mono al4 e19
          replace sq2 := Ext.sql e19 sq2
          refine ⟨_, rfl, _, rfl, P19, ((p1, (boxO l1 t4.2)) :: cs0), (t4.1), (TL.joinL (cs "") ((m_signs.filter (fun it2 => (decide (it2 ∈ (((cutT m_signs (some 32) (some 58)) ++ (cutT m_signs (some 64) (some 90))) ++ ((cs "9876543210") ++ (TL.joinL (cs "") acc2))))))).map (fun it2 => ([it2] : List Nat)))), rfl, w19, fun H20 P20 e20 w20 => ?_⟩
          replace hl := Ext.sql e20 hl
          replace al2 := DpAll.mono al2 e20
          replace sq1 := Ext.sql e20 sq1
          replace al4 := DpAll.mono al4 e20
          replace sq2 := Ext.sql e20 sq2
          have hB2 : ∀ Q : VK, (∀ Hz Pz, Ext P20 Pz → Wd Pz Hz ((p1, (boxO l1 t4.2)) :: cs0) → Q (V.bl (true && (decide ((m_sample_of (t4.1) (TL.joinL (cs "") ((m_signs.filter (fun it2 => (decide (it2 ∈ (((cutT m_signs (some 32) (some 58)) ++ (cutT m_signs (some 64) (some 90))) ++ ((cs "9876543210") ++ (TL.joinL (cs "") acc2))))))).map (fun it2 => ([it2] : List Nat))))) = (m_least (m_lkind (t4.1)) (TL.joinL (cs "") ((m_signs.filter (fun it2 => (decide (it2 ∈ (((cutT m_signs (some 32) (some 58)) ++ (cutT m_signs (some 64) (some 90))) ++ ((cs "9876543210") ++ (TL.joinL (cs "") acc2))))))).map (fun it2 => ([it2] : List Nat))))))))) Hz) → (tAndV (tCB (rIsi K) (tCons (tVar 5) (tCons (tC (V.ty "str")) tNil))) (tOp rEqS (tVar 5) (tVar 7))) [some (V.ref ascr), some (V.ref p1), some (V.int t1.1), some (S (((cutT m_signs (some 32) (some 58)) ++ (cutT m_signs (some 64) (some 90))) ++ ((cs "9876543210") ++ (TL.joinL (cs "") acc2)))), some (S (TL.joinL (cs "") ((m_signs.filter (fun it2 => (decide (it2 ∈ (((cutT m_signs (some 32) (some 58)) ++ (cutT m_signs (some 64) (some 90))) ++ ((cs "9876543210") ++ (TL.joinL (cs "") acc2))))))).map (fun it2 => ([it2] : List Nat))))), some (S (m_sample_of (t4.1) (TL.joinL (cs "") ((m_signs.filter (fun it2 => (decide (it2 ∈ (((cutT m_signs (some 32) (some 58)) ++ (cutT m_signs (some 64) (some 90))) ++ ((cs "9876543210") ++ (TL.joinL (cs "") acc2))))))).map (fun it2 => ([it2] : List Nat)))))), some (S ([t4.1] : List Nat)), some (S (m_least (m_lkind (t4.1)) (TL.joinL (cs "") ((m_signs.filter (fun it2 => (decide (it2 ∈ (((cutT m_signs (some 32) (some 58)) ++ (cutT m_signs (some 64) (some 90))) ++ ((cs "9876543210") ++ (TL.joinL (cs "") acc2))))))).map (fun it2 => ([it2] : List Nat)))))), none] H20 Q := by
            intro Q hQ
            refine ⟨_, rfl, _, _, (.type "str"), (.type "str"), true, rfl, (.ty _), (.base (.str _)), (kit_ty (by decide +kernel)), _, rfl, ?_⟩
            refine iteB (fun hb7 => ?_) (fun hb7 => ?_)
            · refine ⟨_, rfl, _, rfl, _, _, rfl, rfl, ?_⟩
              have hq3 := hQ H20 P20 (Ext.refl _) w20
              rw [hb7, Bool.true_and] at hq3
              exact hq3
            · have hq4 := hQ H20 P20 (Ext.refl _) w20
              rw [hb7, Bool.false_and] at hq4
              exact hq4
          refine hB2 _ fun H21 P21 e21 w21 => ?_
          replace hl := Ext.sql e21 hl
          replace al2 := DpAll.mono al2 e21
          replace sq1 := Ext.sql e21 sq1
          replace al4 := DpAll.mono al4 e21
          replace sq2 := Ext.sql e21 sq2
          subst eR
          exact q H21 P21 ((((((((((((((((e1.trans e2).trans e3).trans e6).trans e7).trans e8).trans e9).trans e10).trans e12).trans e13).trans e14).trans e16).trans e17).trans e18).trans e19).trans e20).trans e21) (w21.pull 0 rfl).tl
        · rw [ite_f hb6] at eR
          have hb6p : t4.1 ∈ (TL.joinL (cs "") ((m_signs.filter (fun it2 => (decide (it2 ∈ (((cutT m_signs (some 32) (some 58)) ++ (cutT m_signs (some 64) (some 90))) ++ ((cs "9876543210") ++ (TL.joinL (cs "") acc2))))))).map (fun it2 => ([it2] : List Nat)))) := by simpa using hb6
          refine ⟨_, rfl, _, rfl, P17, ((p1, (boxO l1 t4.2)) :: cs0), (t4.1), (TL.joinL (cs "") ((m_signs.filter (fun it2 => (decide (it2 ∈ (((cutT m_signs (some 32) (some 58)) ++ (cutT m_signs (some 64) (some 90))) ++ ((cs "9876543210") ++ (TL.joinL (cs "") acc2))))))).map (fun it2 => ([it2] : List Nat)))), rfl, w17, fun H22 P22 e22 w22 => ?_⟩
          replace hl := Ext.sql e22 hl
          replace al2 := DpAll.mono al2 e22
          replace sq1 := Ext.sql e22 sq1
          replace al4 := DpAll.mono al4 e22
          replace sq2 := Ext.sql e22 sq2
          have hB3 : ∀ Q : VK, (∀ Hz Pz, Ext P22 Pz → Wd Pz Hz ((p1, (boxO l1 t4.2)) :: cs0) → Q (V.bl (true && (decide ((m_sample_of (t4.1) (TL.joinL (cs "") ((m_signs.filter (fun it2 => (decide (it2 ∈ (((cutT m_signs (some 32) (some 58)) ++ (cutT m_signs (some 64) (some 90))) ++ ((cs "9876543210") ++ (TL.joinL (cs "") acc2))))))).map (fun it2 => ([it2] : List Nat))))) = ([t4.1] : List Nat))))) Hz) → (tAndV (tCB (rIsi K) (tCons (tVar 5) (tCons (tC (V.ty "str")) tNil))) (tOp rEqS (tVar 5) (tVar 7))) [some (V.ref ascr), some (V.ref p1), some (V.int t1.1), some (S (((cutT m_signs (some 32) (some 58)) ++ (cutT m_signs (some 64) (some 90))) ++ ((cs "9876543210") ++ (TL.joinL (cs "") acc2)))), some (S (TL.joinL (cs "") ((m_signs.filter (fun it2 => (decide (it2 ∈ (((cutT m_signs (some 32) (some 58)) ++ (cutT m_signs (some 64) (some 90))) ++ ((cs "9876543210") ++ (TL.joinL (cs "") acc2))))))).map (fun it2 => ([it2] : List Nat))))), some (S (m_sample_of (t4.1) (TL.joinL (cs "") ((m_signs.filter (fun it2 => (decide (it2 ∈ (((cutT m_signs (some 32) (some 58)) ++ (cutT m_signs (some 64) (some 90))) ++ ((cs "9876543210") ++ (TL.joinL (cs "") acc2))))))).map (fun it2 => ([it2] : List Nat)))))), some (S ([t4.1] : List Nat)), some (S ([t4.1] : List Nat)), none] H22 Q := by
            intro Q hQ
            refine ⟨_, rfl, _, _, (.type "str"), (.type "str"), true, rfl, (.ty _), (.base (.str _)), (kit_ty (by decide +kernel)), _, rfl, ?_⟩
            refine iteB (fun hb8 => ?_) (fun hb8 => ?_)
            · refine ⟨_, rfl, _, rfl, _, _, rfl, rfl, ?_⟩
              have hq5 := hQ H22 P22 (Ext.refl _) w22
              rw [hb8, Bool.true_and] at hq5
              exact hq5
            · have hq6 := hQ H22 P22 (Ext.refl _) w22
              rw [hb8, Bool.false_and] at hq6
              exact hq6
          refine hB3 _ fun H23 P23 e23 w23 => ?_
          replace hl := Ext.sql e23 hl
          replace al2 := DpAll.mono al2 e23
          replace sq1 := Ext.sql e23 sq1
          replace al4 := DpAll.mono al4 e23
          replace sq2 := Ext.sql e23 sq2
          subst eR
          exact q H23 P23 ((((((((((((((e1.trans e2).trans e3).trans e6).trans e7).trans e8).trans e9).trans e10).trans e12).trans e13).trans e14).trans e16).trans e17).trans e22).trans e23) (w23.pull 0 rfl).tl
    · rw [ite_f hb2] at eR
      have hb2p := of_decide_eq_false hb2
      refine ⟨⟨_, rfl⟩, P7, ((p1, (boxO l1 b2)) :: cs0), rfl, w7, fun H24 P24 e24 w24 => ?_⟩
      replace hl := Ext.sql e24 hl
      replace al2 := DpAll.mono al2 e24
      replace sq1 := Ext.sql e24 sq1
      have hp6 := signs_len
      refine ⟨_, rfl, fun D3 nD3 => ?_⟩
      refine lc_it (walk_str (z := ⟨⟨m_signs⟩⟩)) (fun i Hz => ∃ (Pz : Hp) (vsz : List V), Ext P24 Pz ∧ Wd Pz Hz ((D3, (HO.lst vsz)) :: (p1, (boxO l1 b2)) :: cs0) ∧ DpAll K Pz vsz ((((m_signs.take i).filter (fun it3 => (decide (it3 ∈ ((cs "9876543210") ++ (TL.joinL (cs "") acc2)))))).map (fun it3 => ([it3] : List Nat))).map eS)) ?_ ?_ ?_ ?_
      · exact ⟨P24, [], Ext.refl _, w24.new nD3 _, DpAll.nil⟩
      · rintro i Hz _ ⟨Pz, vsz, ee, ww, _⟩
        trivial
      · rintro i3 x3 H25 H26 hi3 ⟨P25, vs5, e25, w25, al5⟩ y3
        replace hl := Ext.sql e25 hl
        replace al2 := DpAll.mono al2 e25
        replace sq1 := Ext.sql e25 sq1
        obtain ⟨eH3, hx3⟩ := y3
        rw [eH3]
        obtain ⟨it3, hitit3, rfl⟩ := hx3
        have eD3 := str_drop hitit3
        have memit3 := str_mem hitit3
        refine ⟨rfl, ?_⟩
        refine ⟨_, rfl, _, rfl, it3, _, rfl, rfl, _, rfl, ?_⟩
        refine iteB (fun hb9 => ?_) (fun hb9 => ?_)
        · refine ⟨_, rfl, vs5, (w25.get 0 rfl), (szl (by rw [dpa_len al5, List.length_map]; exact Nat.lt_of_le_of_lt len_tf (Nat.lt_of_lt_of_le hi3 (str_bnd (by omega))))), ?_⟩
          exact ⟨P25, _, e25, (w25.put 0 (HO.lst (vs5 ++ [(S ([it3] : List Nat))])) rfl), (by rw [take_snoc_filter eD3 (p := fun it3 => (decide (it3 ∈ ((cs "9876543210") ++ (TL.joinL (cs "") acc2))))) hb9]; exact dpa_snoc al5 (pd_str _))⟩
        · exact ⟨P25, _, e25, w25, (by rw [take_snoc_filter_no eD3 (p := fun it3 => (decide (it3 ∈ ((cs "9876543210") ++ (TL.joinL (cs "") acc2))))) hb9]; exact al5)⟩
      rintro H27 ⟨P26, vs6, e26, w26, al6⟩
      rw [take_str_all] at al6
      replace hl := Ext.sql e26 hl
      replace al2 := DpAll.mono al2 e26
      replace sq1 := Ext.sql e26 sq1
      have e27 : Ext P26 (upd P26 D3 (HO.lst vs6)) := w26.kext
      have w27 : Wd (upd P26 D3 (HO.lst vs6)) H27 ((p1, (boxO l1 b2)) :: cs0) := w26.keep
      have fq3 : upd P26 D3 (HO.lst vs6) D3 = some (HO.lst vs6) := upd_same
      generalize upd P26 D3 (HO.lst vs6) = P27 at w27 e27 fq3
      replace hl := Ext.sql e27 hl
      replace al2 := DpAll.mono al2 e27
      replace sq1 := Ext.sql e27 sq1
      replace al6 := DpAll.mono al6 e27
      have sq3 : SqL K P27 D3 vs6 := .inl (.inl fq3)
      refine ⟨_, D3, ((m_signs.filter (fun it3 => (decide (it3 ∈ ((cs "9876543210") ++ (TL.joinL (cs "") acc2)))))).map (fun it3 => ([it3] : List Nat))), rfl, rfl, (.inl (dpa_strs al6 ▸ (w27.sql sq3))), (join_ok 100 1 (by first | exact one_map | assumption) (by first | omega | (rw [List.length_map]; refine Nat.le_trans (List.length_filter_le _ _) (by decide))) (by decide)), _, rfl, P27, ((p1, (boxO l1 b2)) :: cs0), ((cs "9876543210") ++ (TL.joinL (cs "") acc2)), rfl, w27, fun H28 P28 e28 w28 => ?_⟩
      replace hl := Ext.sql e28 hl
      replace al2 := DpAll.mono al2 e28
      replace sq1 := Ext.sql e28 sq1
      replace al6 := DpAll.mono al6 e28
      replace sq3 := Ext.sql e28 sq3
      have hB4 : ∀ Q : (Bool → Hp → Prop), (∀ Hz Pz, Ext P28 Pz → Wd Pz Hz ((p1, (boxO l1 b2)) :: cs0) → Q ((!true) || (!(decide ((m_sample_signs ((cs "9876543210") ++ (TL.joinL (cs "") acc2))) = (m_samples (TL.joinL (cs "") ((m_signs.filter (fun it3 => (decide (it3 ∈ ((cs "9876543210") ++ (TL.joinL (cs "") acc2)))))).map (fun it3 => ([it3] : List Nat))))))))) Hz) → (tOr (tNot (tB (tCB (rIsi K) (tCons (tVar 5) (tCons (tC (V.ty "str")) tNil))))) (tTest (tOp rNeS (tVar 5) (tCall (sp_samples K G) [] E0 (tCons (tVar 4) tNil))))) [some (V.ref ascr), some (V.ref p1), some (V.int t1.1), some (S ((cs "9876543210") ++ (TL.joinL (cs "") acc2))), some (S (TL.joinL (cs "") ((m_signs.filter (fun it3 => (decide (it3 ∈ ((cs "9876543210") ++ (TL.joinL (cs "") acc2)))))).map (fun it3 => ([it3] : List Nat))))), some (S (m_sample_signs ((cs "9876543210") ++ (TL.joinL (cs "") acc2)))), none, none, none] H28 Q := by
        intro Q hQ
        refine ⟨_, rfl, _, _, (.type "str"), (.type "str"), true, rfl, (.ty _), (.base (.str _)), (kit_ty (by decide +kernel)), _, rfl, ?_⟩
        refine iteB (fun hb10 => ?_) (fun hb10 => ?_)
        · have hq7 := hQ H28 P28 (Ext.refl _) w28
          rw [hb10, Bool.true_or] at hq7
          exact hq7
        · refine ⟨_, rfl, _, rfl, P28, ((p1, (boxO l1 b2)) :: cs0), (TL.joinL (cs "") ((m_signs.filter (fun it3 => (decide (it3 ∈ ((cs "9876543210") ++ (TL.joinL (cs "") acc2)))))).map (fun it3 => ([it3] : List Nat)))), rfl, w28, fun H29 P29 e29 w29 => ?_⟩
          replace hl := Ext.sql e29 hl
          replace al2 := DpAll.mono al2 e29
          replace sq1 := Ext.sql e29 sq1
          replace al6 := DpAll.mono al6 e29
          replace sq3 := Ext.sql e29 sq3
          refine ⟨_, _, rfl, rfl, _, rfl, ?_⟩
          have hq8 := hQ H29 P29 e29 w29
          rw [hb10, Bool.false_or] at hq8
          exact hq8
      refine hB4 _ fun H30 P30 e30 w30 => ?_
      replace hl := Ext.sql e30 hl
      replace al2 := DpAll.mono al2 e30
      replace sq1 := Ext.sql e30 sq1
      replace al6 := DpAll.mono al6 e30
      replace sq3 := Ext.sql e30 sq3
      refine iteB (fun hb11 => ?_) (fun hb11 => ?_)
      · rw [ite_t hb11] at eR
        subst eR
        exact q H30 P30 (((((((((e1.trans e2).trans e3).trans e6).trans e7).trans e24).trans e26).trans e27).trans e28).trans e30) (w30.pull 0 rfl).tl
      · rw [ite_f hb11] at eR
        refine ⟨_, rfl, P30, (cs0), p1, l1, ns, b2, rfl, w30, hl, fun H31 P31 e31 w31 => ?_⟩
        replace hl := Ext.sql e31 hl
        replace al2 := DpAll.mono al2 e31
        replace sq1 := Ext.sql e31 sq1
        replace al6 := DpAll.mono al6 e31
        replace sq3 := Ext.sql e31 sq3
        generalize et5 : (m_sign ns b2) = t5 at w31 eR ⊢
        refine ⟨_, rfl, _, rfl, _, rfl, t5.1, _, rfl, rfl, _, rfl, ?_⟩
        refine iteB (fun hb12 => ?_) (fun hb12 => ?_)
        · rw [ite_t hb12] at eR
          have hb12p : ¬ (t5.1 ∈ (TL.joinL (cs "") ((m_signs.filter (fun it3 => (decide (it3 ∈ ((cs "9876543210") ++ (TL.joinL (cs "") acc2)))))).map (fun it3 => ([it3] : List Nat))))) := by simpa using hb12
          refine ⟨_, rfl, P31, ((p1, (boxO l1 t5.2)) :: cs0), (t5.1), rfl, w31, fun H32 P32 e32 w32 => ?_⟩
          replace hl := Ext.sql e32 hl
          replace al2 := DpAll.mono al2 e32
          replace sq1 := Ext.sql e32 sq1
          replace al6 := DpAll.mono al6 e32
          replace sq3 := Ext.sql e32 sq3
          refine ⟨_, rfl, P32, ((p1, (boxO l1 t5.2)) :: cs0), (m_lkind (t5.1)), (TL.joinL (cs "") ((m_signs.filter (fun it3 => (decide (it3 ∈ ((cs "9876543210") ++ (TL.joinL (cs "") acc2)))))).map (fun it3 => ([it3] : List Nat)))), rfl, w32, fun H33 P33 e33 w33 => ?_⟩
          replace hl := Ext.sql e33 hl
          replace al2 := DpAll.mono al2 e33
          replace sq1 := Ext.sql e33 sq1
          replace al6 := DpAll.mono al6 e33
          replace sq3 := Ext.sql e33 sq3
          refine ⟨_, rfl, _, rfl, P33, ((p1, (boxO l1 t5.2)) :: cs0), (t5.1), (TL.joinL (cs "") ((m_signs.filter (fun it3 => (decide (it3 ∈ ((cs "9876543210") ++ (TL.joinL (cs "") acc2)))))).map (fun it3 => ([it3] : List Nat)))), rfl, w33, fun H34 P34 e34 w34 => ?_⟩
          replace hl := Ext.sql e34 hl
          replace al2 := DpAll.mono al2 e34
          replace sq1 := Ext.sql e34 sq1
          replace al6 := DpAll.mono al6 e34
          replace sq3 := Ext.sql e34 sq3
          have hB5 : ∀ Q : VK, (∀ Hz Pz, Ext P34 Pz → Wd Pz Hz ((p1, (boxO l1 t5.2)) :: cs0) → Q (V.bl (true && (decide ((m_sample_of (t5.1) (TL.joinL (cs "") ((m_signs.filter (fun it3 => (decide (it3 ∈ ((cs "9876543210") ++ (TL.joinL (cs "") acc2)))))).map (fun it3 => ([it3] : List Nat))))) = (m_least (m_lkind (t5.1)) (TL.joinL (cs "") ((m_signs.filter (fun it3 => (decide (it3 ∈ ((cs "9876543210") ++ (TL.joinL (cs "") acc2)))))).map (fun it3 => ([it3] : List Nat))))))))) Hz) → (tAndV (tCB (rIsi K) (tCons (tVar 5) (tCons (tC (V.ty "str")) tNil))) (tOp rEqS (tVar 5) (tVar 7))) [some (V.ref ascr), some (V.ref p1), some (V.int t1.1), some (S ((cs "9876543210") ++ (TL.joinL (cs "") acc2))), some (S (TL.joinL (cs "") ((m_signs.filter (fun it3 => (decide (it3 ∈ ((cs "9876543210") ++ (TL.joinL (cs "") acc2)))))).map (fun it3 => ([it3] : List Nat))))), some (S (m_sample_of (t5.1) (TL.joinL (cs "") ((m_signs.filter (fun it3 => (decide (it3 ∈ ((cs "9876543210") ++ (TL.joinL (cs "") acc2)))))).map (fun it3 => ([it3] : List Nat)))))), some (S ([t5.1] : List Nat)), some (S (m_least (m_lkind (t5.1)) (TL.joinL (cs "") ((m_signs.filter (fun it3 => (decide (it3 ∈ ((cs "9876543210") ++ (TL.joinL (cs "") acc2)))))).map (fun it3 => ([it3] : List Nat)))))), none] H34 Q := by
            intro Q hQ
            refine ⟨_, rfl, _, _, (.type "str"), (.type "str"), true, rfl, (.ty _), (.base (.str _)), (kit_ty (by decide +kernel)), _, rfl, ?_⟩
            refine iteB (fun hb13 => ?_) (fun hb13 => ?_)
            · refine ⟨_, rfl, _, rfl, _, _, rfl, rfl, ?_⟩
              have hq9 := hQ H34 P34 (Ext.refl _) w34
              rw [hb13, Bool.true_and] at hq9
              exact hq9
            · have hq10 := hQ H34 P34 (Ext.refl _) w34
              rw [hb13, Bool.false_and] at hq10
              exact hq10
          refine hB5 _ fun H35 P35 e35 w35 => ?_
          replace hl := Ext.sql e35 hl
          replace al2 := DpAll.mono al2 e35
          replace sq1 := Ext.sql e35 sq1
          replace al6 := DpAll.mono al6 e35
          replace sq3 := Ext.sql e35 sq3
          subst eR
          exact q H35 P35 ((((((((((((((e1.trans e2).trans e3).trans e6).trans e7).trans e24).trans e26).trans e27).trans e28).trans e30).trans e31).trans e32).trans e33).trans e34).trans e35) (w35.pull 0 rfl).tl
        · rw [ite_f hb12] at eR
          have hb12p : t5.1 ∈ (TL.joinL (cs "") ((m_signs.filter (fun it3 => (decide (it3 ∈ ((cs "9876543210") ++ (TL.joinL (cs "") acc2)))))).map (fun it3 => ([it3] : List Nat)))) := by simpa using hb12
          refine ⟨_, rfl, _, rfl, P31, ((p1, (boxO l1 t5.2)) :: cs0), (t5.1), (TL.joinL (cs "") ((m_signs.filter (fun it3 => (decide (it3 ∈ ((cs "9876543210") ++ (TL.joinL (cs "") acc2)))))).map (fun it3 => ([it3] : List Nat)))), rfl, w31, fun H36 P36 e36 w36 => ?_⟩
          replace hl := Ext.sql e36 hl
          replace al2 := DpAll.mono al2 e36
          replace sq1 := Ext.sql e36 sq1
          replace al6 := DpAll.mono al6 e36
          replace sq3 := Ext.sql e36 sq3
          have hB6 : ∀ Q : VK, (∀ Hz Pz, Ext P36 Pz → Wd Pz Hz ((p1, (boxO l1 t5.2)) :: cs0) → Q (V.bl (true && (decide ((m_sample_of (t5.1) (TL.joinL (cs "") ((m_signs.filter (fun it3 => (decide (it3 ∈ ((cs "9876543210") ++ (TL.joinL (cs "") acc2)))))).map (fun it3 => ([it3] : List Nat))))) = ([t5.1] : List Nat))))) Hz) → (tAndV (tCB (rIsi K) (tCons (tVar 5) (tCons (tC (V.ty "str")) tNil))) (tOp rEqS (tVar 5) (tVar 7))) [some (V.ref ascr), some (V.ref p1), some (V.int t1.1), some (S ((cs "9876543210") ++ (TL.joinL (cs "") acc2))), some (S (TL.joinL (cs "") ((m_signs.filter (fun it3 => (decide (it3 ∈ ((cs "9876543210") ++ (TL.joinL (cs "") acc2)))))).map (fun it3 => ([it3] : List Nat))))), some (S (m_sample_of (t5.1) (TL.joinL (cs "") ((m_signs.filter (fun it3 => (decide (it3 ∈ ((cs "9876543210") ++ (TL.joinL (cs "") acc2)))))).map (fun it3 => ([it3] : List Nat)))))), some (S ([t5.1] : List Nat)), some (S ([t5.1] : List Nat)), none] H36 Q := by
            intro Q hQ
            refine ⟨_, rfl, _, _, (.type "str"), (.type "str"), true, rfl, (.ty _), (.base (.str _)), (kit_ty (by decide +kernel)), _, rfl, ?_⟩
            refine iteB (fun hb14 => ?_) (fun hb14 => ?_)
            · refine ⟨_, rfl, _, rfl, _, _, rfl, rfl, ?_⟩
              have hq11 := hQ H36 P36 (Ext.refl _) w36
              rw [hb14, Bool.true_and] at hq11
              exact hq11
            · have hq12 := hQ H36 P36 (Ext.refl _) w36
              rw [hb14, Bool.false_and] at hq12
              exact hq12
          refine hB6 _ fun H37 P37 e37 w37 => ?_
          replace hl := Ext.sql e37 hl
          replace al2 := DpAll.mono al2 e37
          replace sq1 := Ext.sql e37 sq1
          replace al6 := DpAll.mono al6 e37
          replace sq3 := Ext.sql e37 sq3
          subst eR
          exact q H37 P37 ((((((((((((e1.trans e2).trans e3).trans e6).trans e7).trans e24).trans e26).trans e27).trans e28).trans e30).trans e31).trans e36).trans e37) (w37.pull 0 rfl).tl
  · rw [ite_f hb1] at eR
    have hb1p := of_decide_eq_false hb1
    refine ⟨_, rfl, _, _, rfl, rfl, _, rfl, ?_⟩
    refine iteB (fun hb15 => ?_) (fun hb15 => ?_)
    · rw [ite_t hb15] at eR
      have hb15p := of_decide_eq_true hb15
      refine ⟨P7, ((p1, (boxO l1 b2)) :: cs0), rfl, w7, fun H38 P38 e38 w38 => ?_⟩
      replace hl := Ext.sql e38 hl
      replace al2 := DpAll.mono al2 e38
      replace sq1 := Ext.sql e38 sq1
      have hp7 := signs_len
      have hcl3 := cutT_len m_signs (some 32) (some 58)
      refine ⟨_, rfl, _, rfl, _, rfl, (sz (by (try simp only [List.length_append, List.length_cons, List.length_nil, List.length_map]); omega)), P38, ((p1, (boxO l1 b2)) :: cs0), rfl, w38, fun H39 P39 e39 w39 => ?_⟩
      replace hl := Ext.sql e39 hl
      replace al2 := DpAll.mono al2 e39
      replace sq1 := Ext.sql e39 sq1
      have hp8 := signs_len
      have hcl4 := cutT_len m_signs (some 64) (some 90)
      refine ⟨_, rfl, _, rfl, _, rfl, (sz (by (try simp only [List.length_append, List.length_cons, List.length_nil, List.length_map]); omega)), _, _, rfl, rfl, (sz (by (try simp only [List.length_append, List.length_cons, List.length_nil, List.length_map]); omega)), _, rfl, _, _, rfl, rfl, (sz (by have hc0 : (cs "").length = 0 := (by decide); (try simp only [List.length_append, List.length_cons, List.length_nil, List.length_map]); omega)), ⟨_, rfl⟩, P39, ((p1, (boxO l1 b2)) :: cs0), rfl, w39, fun H40 P40 e40 w40 => ?_⟩
      replace hl := Ext.sql e40 hl
      replace al2 := DpAll.mono al2 e40
      replace sq1 := Ext.sql e40 sq1
      have hp9 := signs_len
      refine ⟨_, rfl, fun D4 nD4 => ?_⟩
      refine lc_it (walk_str (z := ⟨⟨m_signs⟩⟩)) (fun i Hz => ∃ (Pz : Hp) (vsz : List V), Ext P40 Pz ∧ Wd Pz Hz ((D4, (HO.lst vsz)) :: (p1, (boxO l1 b2)) :: cs0) ∧ DpAll K Pz vsz ((((m_signs.take i).filter (fun it4 => (decide (it4 ∈ (((cutT m_signs (some 32) (some 58)) ++ (cutT m_signs (some 64) (some 90))) ++ (TL.joinL (cs "") acc2)))))).map (fun it4 => ([it4] : List Nat))).map eS)) ?_ ?_ ?_ ?_
      · exact ⟨P40, [], Ext.refl _, w40.new nD4 _, DpAll.nil⟩
      · rintro i Hz _ ⟨Pz, vsz, ee, ww, _⟩
        trivial
      · rintro i4 x4 H41 H42 hi4 ⟨P41, vs7, e41, w41, al7⟩ y4
        replace hl := Ext.sql e41 hl
        replace al2 := DpAll.mono al2 e41
        replace sq1 := Ext.sql e41 sq1
        obtain ⟨eH4, hx4⟩ := y4
        rw [eH4]
        obtain ⟨it4, hitit4, rfl⟩ := hx4
        have eD4 := str_drop hitit4
        have memit4 := str_mem hitit4
        refine ⟨rfl, ?_⟩
        refine ⟨_, rfl, _, rfl, it4, _, rfl, rfl, _, rfl, ?_⟩
        refine iteB (fun hb16 => ?_) (fun hb16 => ?_)
        · refine ⟨_, rfl, vs7, (w41.get 0 rfl), (szl (by rw [dpa_len al7, List.length_map]; exact Nat.lt_of_le_of_lt len_tf (Nat.lt_of_lt_of_le hi4 (str_bnd (by omega))))), ?_⟩
          exact ⟨P41, _, e41, (w41.put 0 (HO.lst (vs7 ++ [(S ([it4] : List Nat))])) rfl), (by rw [take_snoc_filter eD4 (p := fun it4 => (decide (it4 ∈ (((cutT m_signs (some 32) (some 58)) ++ (cutT m_signs (some 64) (some 90))) ++ (TL.joinL (cs "") acc2))))) hb16]; exact dpa_snoc al7 (pd_str _))⟩
        · exact ⟨P41, _, e41, w41, (by rw [take_snoc_filter_no eD4 (p := fun it4 => (decide (it4 ∈ (((cutT m_signs (some 32) (some 58)) ++ (cutT m_signs (some 64) (some 90))) ++ (TL.joinL (cs "") acc2))))) hb16]; exact al7)⟩
      rintro H43 ⟨P42, vs8, e42, w42, al8⟩
      rw [take_str_all] at al8
      replace hl := Ext.sql e42 hl
      replace al2 := DpAll.mono al2 e42
      replace sq1 := Ext.sql e42 sq1
      have e43 : Ext P42 (upd P42 D4 (HO.lst vs8)) := w42.kext
      have w43 : Wd (upd P42 D4 (HO.lst vs8)) H43 ((p1, (boxO l1 b2)) :: cs0) := w42.keep
      have fq4 : upd P42 D4 (HO.lst vs8) D4 = some (HO.lst vs8) := upd_same
      generalize upd P42 D4 (HO.lst vs8) = P43 at w43 e43 fq4
      replace hl := Ext.sql e43 hl
      replace al2 := DpAll.mono al2 e43
      replace sq1 := Ext.sql e43 sq1
      replace al8 := DpAll.mono al8 e43
      have sq4 : SqL K P43 D4 vs8 := .inl (.inl fq4)
      refine ⟨_, D4, ((m_signs.filter (fun it4 => (decide (it4 ∈ (((cutT m_signs (some 32) (some 58)) ++ (cutT m_signs (some 64) (some 90))) ++ (TL.joinL (cs "") acc2)))))).map (fun it4 => ([it4] : List Nat))), rfl, rfl, (.inl (dpa_strs al8 ▸ (w43.sql sq4))), (join_ok 100 1 (by first | exact one_map | assumption) (by first | omega | (rw [List.length_map]; refine Nat.le_trans (List.length_filter_le _ _) (by decide))) (by decide)), _, rfl, P43, ((p1, (boxO l1 b2)) :: cs0), (((cutT m_signs (some 32) (some 58)) ++ (cutT m_signs (some 64) (some 90))) ++ (TL.joinL (cs "") acc2)), rfl, w43, fun H44 P44 e44 w44 => ?_⟩
      replace hl := Ext.sql e44 hl
      replace al2 := DpAll.mono al2 e44
      replace sq1 := Ext.sql e44 sq1
      replace al8 := DpAll.mono al8 e44
      replace sq4 := Ext.sql e44 sq4
      have hB7 : ∀ Q : (Bool → Hp → Prop), (∀ Hz Pz, Ext P44 Pz → Wd Pz Hz ((p1, (boxO l1 b2)) :: cs0) → Q ((!true) || (!(decide ((m_sample_signs (((cutT m_signs (some 32) (some 58)) ++ (cutT m_signs (some 64) (some 90))) ++ (TL.joinL (cs "") acc2))) = (m_samples (TL.joinL (cs "") ((m_signs.filter (fun it4 => (decide (it4 ∈ (((cutT m_signs (some 32) (some 58)) ++ (cutT m_signs (some 64) (some 90))) ++ (TL.joinL (cs "") acc2)))))).map (fun it4 => ([it4] : List Nat))))))))) Hz) → (tOr (tNot (tB (tCB (rIsi K) (tCons (tVar 5) (tCons (tC (V.ty "str")) tNil))))) (tTest (tOp rNeS (tVar 5) (tCall (sp_samples K G) [] E0 (tCons (tVar 4) tNil))))) [some (V.ref ascr), some (V.ref p1), some (V.int t1.1), some (S (((cutT m_signs (some 32) (some 58)) ++ (cutT m_signs (some 64) (some 90))) ++ (TL.joinL (cs "") acc2))), some (S (TL.joinL (cs "") ((m_signs.filter (fun it4 => (decide (it4 ∈ (((cutT m_signs (some 32) (some 58)) ++ (cutT m_signs (some 64) (some 90))) ++ (TL.joinL (cs "") acc2)))))).map (fun it4 => ([it4] : List Nat))))), some (S (m_sample_signs (((cutT m_signs (some 32) (some 58)) ++ (cutT m_signs (some 64) (some 90))) ++ (TL.joinL (cs "") acc2)))), none, none, none] H44 Q := by
        intro Q hQ
        refine ⟨_, rfl, _, _, (.type "str"), (.type "str"), true, rfl, (.ty _), (.base (.str _)), (kit_ty (by decide +kernel)), _, rfl, ?_⟩
        refine iteB (fun hb17 => ?_) (fun hb17 => ?_)
        · have hq13 := hQ H44 P44 (Ext.refl _) w44
          rw [hb17, Bool.true_or] at hq13
          exact hq13
        · refine ⟨_, rfl, _, rfl, P44, ((p1, (boxO l1 b2)) :: cs0), (TL.joinL (cs "") ((m_signs.filter (fun it4 => (decide (it4 ∈ (((cutT m_signs (some 32) (some 58)) ++ (cutT m_signs (some 64) (some 90))) ++ (TL.joinL (cs "") acc2)))))).map (fun it4 => ([it4] : List Nat)))), rfl, w44, fun H45 P45 e45 w45 => ?_⟩
          replace hl := Ext.sql e45 hl
          replace al2 := DpAll.mono al2 e45
          replace sq1 := Ext.sql e45 sq1
          replace al8 := DpAll.mono al8 e45
          replace sq4 := Ext.sql e45 sq4
          refine ⟨_, _, rfl, rfl, _, rfl, ?_⟩
          have hq14 := hQ H45 P45 e45 w45
          rw [hb17, Bool.false_or] at hq14
          exact hq14
      refine hB7 _ fun H46 P46 e46 w46 => ?_
      replace hl := Ext.sql e46 hl
      replace al2 := DpAll.mono al2 e46
      replace sq1 := Ext.sql e46 sq1
      replace al8 := DpAll.mono al8 e46
      replace sq4 := Ext.sql e46 sq4
      refine iteB (fun hb18 => ?_) (fun hb18 => ?_)
      · rw [ite_t hb18] at eR
        subst eR
        exact q H46 P46 (((((((((((e1.trans e2).trans e3).trans e6).trans e7).trans e38).trans e39).trans e40).trans e42).trans e43).trans e44).trans e46) (w46.pull 0 rfl).tl
      · rw [ite_f hb18] at eR
        refine ⟨_, rfl, P46, (cs0), p1, l1, ns, b2, rfl, w46, hl, fun H47 P47 e47 w47 => ?_⟩
        replace hl := Ext.sql e47 hl
        replace al2 := DpAll.mono al2 e47
        replace sq1 := Ext.sql e47 sq1
        replace al8 := DpAll.mono al8 e47
        replace sq4 := Ext.sql e47 sq4
        generalize et6 : (m_sign ns b2) = t6 at w47 eR ⊢
        refine ⟨_, rfl, _, rfl, _, rfl, t6.1, _, rfl, rfl, _, rfl, ?_⟩
        refine iteB (fun hb19 => ?_) (fun hb19 => ?_)
        · rw [ite_t hb19] at eR
          have hb19p : ¬ (t6.1 ∈ (TL.joinL (cs "") ((m_signs.filter (fun it4 => (decide (it4 ∈ (((cutT m_signs (some 32) (some 58)) ++ (cutT m_signs (some 64) (some 90))) ++ (TL.joinL (cs "") acc2)))))).map (fun it4 => ([it4] : List Nat))))) := by simpa using hb19
          refine ⟨_, rfl, P47, ((p1, (boxO l1 t6.2)) :: cs0), (t6.1), rfl, w47, fun H48 P48 e48 w48 => ?_⟩
          replace hl := Ext.sql e48 hl
          replace al2 := DpAll.mono al2 e48
          replace sq1 := Ext.sql e48 sq1
          replace al8 := DpAll.mono al8 e48
          replace sq4 := Ext.sql e48 sq4
          refine ⟨_, rfl, P48, ((p1, (boxO l1 t6.2)) :: cs0), (m_lkind (t6.1)), (TL.joinL (cs "") ((m_signs.filter (fun it4 => (decide (it4 ∈ (((cutT m_signs (some 32) (some 58)) ++ (cutT m_signs (some 64) (some 90))) ++ (TL.joinL (cs "") acc2)))))).map (fun it4 => ([it4] : List Nat)))), rfl, w48, fun H49 P49 e49 w49 => ?_⟩
          replace hl := Ext.sql e49 hl
          replace al2 := DpAll.mono al2 e49
          replace sq1 := Ext.sql e49 sq1
          replace al8 := DpAll.mono al8 e49
          replace sq4 := Ext.sql e49 sq4
          refine ⟨_, rfl, _, rfl, P49, ((p1, (boxO l1 t6.2)) :: cs0), (t6.1), (TL.joinL (cs "") ((m_signs.filter (fun it4 => (decide (it4 ∈ (((cutT m_signs (some 32) (some 58)) ++ (cutT m_signs (some 64) (some 90))) ++ (TL.joinL (cs "") acc2)))))).map (fun it4 => ([it4] : List Nat)))), rfl, w49, fun H50 P50 e50 w50 => ?_⟩
          replace hl := Ext.sql e50 hl
          replace al2 := DpAll.mono al2 e50
          replace sq1 := Ext.sql e50 sq1
          replace al8 := DpAll.mono al8 e50
          replace sq4 := Ext.sql e50 sq4
          have hB8 : ∀ Q : VK, (∀ Hz Pz, Ext P50 Pz → Wd Pz Hz ((p1, (boxO l1 t6.2)) :: cs0) → Q (V.bl (true && (decide ((m_sample_of (t6.1) (TL.joinL (cs "") ((m_signs.filter (fun it4 => (decide (it4 ∈ (((cutT m_signs (some 32) (some 58)) ++ (cutT m_signs (some 64) (some 90))) ++ (TL.joinL (cs "") acc2)))))).map (fun it4 => ([it4] : List Nat))))) = (m_least (m_lkind (t6.1)) (TL.joinL (cs "") ((m_signs.filter (fun it4 => (decide (it4 ∈ (((cutT m_signs (some 32) (some 58)) ++ (cutT m_signs (some 64) (some 90))) ++ (TL.joinL (cs "") acc2)))))).map (fun it4 => ([it4] : List Nat))))))))) Hz) → (tAndV (tCB (rIsi K) (tCons (tVar 5) (tCons (tC (V.ty "str")) tNil))) (tOp rEqS (tVar 5) (tVar 7))) [some (V.ref ascr), some (V.ref p1), some (V.int t1.1), some (S (((cutT m_signs (some 32) (some 58)) ++ (cutT m_signs (some 64) (some 90))) ++ (TL.joinL (cs "") acc2))), some (S (TL.joinL (cs "") ((m_signs.filter (fun it4 => (decide (it4 ∈ (((cutT m_signs (some 32) (some 58)) ++ (cutT m_signs (some 64) (some 90))) ++ (TL.joinL (cs "") acc2)))))).map (fun it4 => ([it4] : List Nat))))), some (S (m_sample_of (t6.1) (TL.joinL (cs "") ((m_signs.filter (fun it4 => (decide (it4 ∈ (((cutT m_signs (some 32) (some 58)) ++ (cutT m_signs (some 64) (some 90))) ++ (TL.joinL (cs "") acc2)))))).map (fun it4 => ([it4] : List Nat)))))), some (S ([t6.1] : List Nat)), some (S (m_least (m_lkind (t6.1)) (TL.joinL (cs "") ((m_signs.filter (fun it4 => (decide (it4 ∈ (((cutT m_signs (some 32) (some 58)) ++ (cutT m_signs (some 64) (some 90))) ++ (TL.joinL (cs "") acc2)))))).map (fun it4 => ([it4] : List Nat)))))), none] H50 Q := by
            intro Q hQ
            refine ⟨_, rfl, _, _, (.type "str"), (.type "str"), true, rfl, (.ty _), (.base (.str _)), (kit_ty (by decide +kernel)), _, rfl, ?_⟩
            refine iteB (fun hb20 => ?_) (fun hb20 => ?_)
            · refine ⟨_, rfl, _, rfl, _, _, rfl, rfl, ?_⟩
              have hq15 := hQ H50 P50 (Ext.refl _) w50
              rw [hb20, Bool.true_and] at hq15
              exact hq15
            · have hq16 := hQ H50 P50 (Ext.refl _) w50
              rw [hb20, Bool.false_and] at hq16
              exact hq16
          refine hB8 _ fun H51 P51 e51 w51 => ?_
          replace hl := Ext.sql e51 hl
          replace al2 := DpAll.mono al2 e51
          replace sq1 := Ext.sql e51 sq1
          replace al8 := DpAll.mono al8 e51
          replace sq4 := Ext.sql e51 sq4
          subst eR
          exact q H51 P51 ((((((((((((((((e1.trans e2).trans e3).trans e6).trans e7).trans e38).trans e39).trans e40).trans e42).trans e43).trans e44).trans e46).trans e47).trans e48).trans e49).trans e50).trans e51) (w51.pull 0 rfl).tl
        · rw [ite_f hb19] at eR
          have hb19p : t6.1 ∈ (TL.joinL (cs "") ((m_signs.filter (fun it4 => (decide (it4 ∈ (((cutT m_signs (some 32) (some 58)) ++ (cutT m_signs (some 64) (some 90))) ++ (TL.joinL (cs "") acc2)))))).map (fun it4 => ([it4] : List Nat)))) := by simpa using hb19
          refine ⟨_, rfl, _, rfl, P47, ((p1, (boxO l1 t6.2)) :: cs0), (t6.1), (TL.joinL (cs "") ((m_signs.filter (fun it4 => (decide (it4 ∈ (((cutT m_signs (some 32) (some 58)) ++ (cutT m_signs (some 64) (some 90))) ++ (TL.joinL (cs "") acc2)))))).map (fun it4 => ([it4] : List Nat)))), rfl, w47, fun H52 P52 e52 w52 => ?_⟩
          replace hl := Ext.sql e52 hl
          replace al2 := DpAll.mono al2 e52
          replace sq1 := Ext.sql e52 sq1
          replace al8 := DpAll.mono al8 e52
          replace sq4 := Ext.sql e52 sq4
          have hB9 : ∀ Q : VK, (∀ Hz Pz, Ext P52 Pz → Wd Pz Hz ((p1, (boxO l1 t6.2)) :: cs0) → Q (V.bl (true && (decide ((m_sample_of (t6.1) (TL.joinL (cs "") ((m_signs.filter (fun it4 => (decide (it4 ∈ (((cutT m_signs (some 32) (some 58)) ++ (cutT m_signs (some 64) (some 90))) ++ (TL.joinL (cs "") acc2)))))).map (fun it4 => ([it4] : List Nat))))) = ([t6.1] : List Nat))))) Hz) → (tAndV (tCB (rIsi K) (tCons (tVar 5) (tCons (tC (V.ty "str")) tNil))) (tOp rEqS (tVar 5) (tVar 7))) [some (V.ref ascr), some (V.ref p1), some (V.int t1.1), some (S (((cutT m_signs (some 32) (some 58)) ++ (cutT m_signs (some 64) (some 90))) ++ (TL.joinL (cs "") acc2))), some (S (TL.joinL (cs "") ((m_signs.filter (fun it4 => (decide (it4 ∈ (((cutT m_signs (some 32) (some 58)) ++ (cutT m_signs (some 64) (some 90))) ++ (TL.joinL (cs "") acc2)))))).map (fun it4 => ([it4] : List Nat))))), some (S (m_sample_of (t6.1) (TL.joinL (cs "") ((m_signs.filter (fun it4 => (decide (it4 ∈ (((cutT m_signs (some 32) (some 58)) ++ (cutT m_signs (some 64) (some 90))) ++ (TL.joinL (cs "") acc2)))))).map (fun it4 => ([it4] : List Nat)))))), some (S ([t6.1] : List Nat)), some (S ([t6.1] : List Nat)), none] H52 Q := by
            intro Q hQ
            refine ⟨_, rfl, _, _, (.type "str"), (.type "str"), true, rfl, (.ty _), (.base (.str _)), (kit_ty (by decide +kernel)), _, rfl, ?_⟩
            refine iteB (fun hb21 => ?_) (fun hb21 => ?_)
            · refine ⟨_, rfl, _, rfl, _, _, rfl, rfl, ?_⟩
              have hq17 := hQ H52 P52 (Ext.refl _) w52
              rw [hb21, Bool.true_and] at hq17
              exact hq17
            · have hq18 := hQ H52 P52 (Ext.refl _) w52
              rw [hb21, Bool.false_and] at hq18
              exact hq18
          refine hB9 _ fun H53 P53 e53 w53 => ?_
          replace hl := Ext.sql e53 hl
          replace al2 := DpAll.mono al2 e53
          replace sq1 := Ext.sql e53 sq1
          replace al8 := DpAll.mono al8 e53
          replace sq4 := Ext.sql e53 sq4
          subst eR
          exact q H53 P53 ((((((((((((((e1.trans e2).trans e3).trans e6).trans e7).trans e38).trans e39).trans e40).trans e42).trans e43).trans e44).trans e46).trans e47).trans e52).trans e53) (w53.pull 0 rfl).tl
    · rw [ite_f hb15] at eR
      have hb15p := of_decide_eq_false hb15
      refine ⟨⟨_, rfl⟩, P7, ((p1, (boxO l1 b2)) :: cs0), rfl, w7, fun H54 P54 e54 w54 => ?_⟩
      replace hl := Ext.sql e54 hl
      replace al2 := DpAll.mono al2 e54
      replace sq1 := Ext.sql e54 sq1
      have hp10 := signs_len
      refine ⟨_, rfl, fun D5 nD5 => ?_⟩
      refine lc_it (walk_str (z := ⟨⟨m_signs⟩⟩)) (fun i Hz => ∃ (Pz : Hp) (vsz : List V), Ext P54 Pz ∧ Wd Pz Hz ((D5, (HO.lst vsz)) :: (p1, (boxO l1 b2)) :: cs0) ∧ DpAll K Pz vsz ((((m_signs.take i).filter (fun it5 => (decide (it5 ∈ (TL.joinL (cs "") acc2))))).map (fun it5 => ([it5] : List Nat))).map eS)) ?_ ?_ ?_ ?_
      · exact ⟨P54, [], Ext.refl _, w54.new nD5 _, DpAll.nil⟩
      · rintro i Hz _ ⟨Pz, vsz, ee, ww, _⟩
        trivial
      · rintro i5 x5 H55 H56 hi5 ⟨P55, vs9, e55, w55, al9⟩ y5
        replace hl := Ext.sql e55 hl
        replace al2 := DpAll.mono al2 e55
        replace sq1 := Ext.sql e55 sq1
        obtain ⟨eH5, hx5⟩ := y5
        rw [eH5]
        obtain ⟨it5, hitit5, rfl⟩ := hx5
        have eD5 := str_drop hitit5
        have memit5 := str_mem hitit5
        refine ⟨rfl, ?_⟩
        refine ⟨_, rfl, _, rfl, it5, _, rfl, rfl, _, rfl, ?_⟩
        refine iteB (fun hb22 => ?_) (fun hb22 => ?_)
        · refine ⟨_, rfl, vs9, (w55.get 0 rfl), (szl (by rw [dpa_len al9, List.length_map]; exact Nat.lt_of_le_of_lt len_tf (Nat.lt_of_lt_of_le hi5 (str_bnd (by omega))))), ?_⟩
          exact ⟨P55, _, e55, (w55.put 0 (HO.lst (vs9 ++ [(S ([it5] : List Nat))])) rfl), (by rw [take_snoc_filter eD5 (p := fun it5 => (decide (it5 ∈ (TL.joinL (cs "") acc2)))) hb22]; exact dpa_snoc al9 (pd_str _))⟩
        · exact ⟨P55, _, e55, w55, (by rw [take_snoc_filter_no eD5 (p := fun it5 => (decide (it5 ∈ (TL.joinL (cs "") acc2)))) hb22]; exact al9)⟩
      rintro H57 ⟨P56, vs10, e56, w56, al10⟩
      rw [take_str_all] at al10
      replace hl := Ext.sql e56 hl
      replace al2 := DpAll.mono al2 e56
      replace sq1 := Ext.sql e56 sq1
      have e57 : Ext P56 (upd P56 D5 (HO.lst vs10)) := w56.kext
      have w57 : Wd (upd P56 D5 (HO.lst vs10)) H57 ((p1, (boxO l1 b2)) :: cs0) := w56.keep
      have fq5 : upd P56 D5 (HO.lst vs10) D5 = some (HO.lst vs10) := upd_same
      generalize upd P56 D5 (HO.lst vs10) = P57 at w57 e57 fq5
      replace hl := Ext.sql e57 hl
      replace al2 := DpAll.mono al2 e57
      replace sq1 := Ext.sql e57 sq1
      replace al10 := DpAll.mono al10 e57
      have sq5 : SqL K P57 D5 vs10 := .inl (.inl fq5)
      refine ⟨_, D5, ((m_signs.filter (fun it5 => (decide (it5 ∈ (TL.joinL (cs "") acc2))))).map (fun it5 => ([it5] : List Nat))), rfl, rfl, (.inl (dpa_strs al10 ▸ (w57.sql sq5))), (join_ok 100 1 (by first | exact one_map | assumption) (by first | omega | (rw [List.length_map]; refine Nat.le_trans (List.length_filter_le _ _) (by decide))) (by decide)), _, rfl, P57, ((p1, (boxO l1 b2)) :: cs0), (TL.joinL (cs "") acc2), rfl, w57, fun H58 P58 e58 w58 => ?_⟩
      replace hl := Ext.sql e58 hl
      replace al2 := DpAll.mono al2 e58
      replace sq1 := Ext.sql e58 sq1
      replace al10 := DpAll.mono al10 e58
      replace sq5 := Ext.sql e58 sq5
      have hB10 : ∀ Q : (Bool → Hp → Prop), (∀ Hz Pz, Ext P58 Pz → Wd Pz Hz ((p1, (boxO l1 b2)) :: cs0) → Q ((!true) || (!(decide ((m_sample_signs (TL.joinL (cs "") acc2)) = (m_samples (TL.joinL (cs "") ((m_signs.filter (fun it5 => (decide (it5 ∈ (TL.joinL (cs "") acc2))))).map (fun it5 => ([it5] : List Nat))))))))) Hz) → (tOr (tNot (tB (tCB (rIsi K) (tCons (tVar 5) (tCons (tC (V.ty "str")) tNil))))) (tTest (tOp rNeS (tVar 5) (tCall (sp_samples K G) [] E0 (tCons (tVar 4) tNil))))) [some (V.ref ascr), some (V.ref p1), some (V.int t1.1), some (S (TL.joinL (cs "") acc2)), some (S (TL.joinL (cs "") ((m_signs.filter (fun it5 => (decide (it5 ∈ (TL.joinL (cs "") acc2))))).map (fun it5 => ([it5] : List Nat))))), some (S (m_sample_signs (TL.joinL (cs "") acc2))), none, none, none] H58 Q := by
        intro Q hQ
        refine ⟨_, rfl, _, _, (.type "str"), (.type "str"), true, rfl, (.ty _), (.base (.str _)), (kit_ty (by decide +kernel)), _, rfl, ?_⟩
        refine iteB (fun hb23 => ?_) (fun hb23 => ?_)
        · have hq19 := hQ H58 P58 (Ext.refl _) w58
          rw [hb23, Bool.true_or] at hq19
          exact hq19
        · refine ⟨_, rfl, _, rfl, P58, ((p1, (boxO l1 b2)) :: cs0), (TL.joinL (cs "") ((m_signs.filter (fun it5 => (decide (it5 ∈ (TL.joinL (cs "") acc2))))).map (fun it5 => ([it5] : List Nat)))), rfl, w58, fun H59 P59 e59 w59 => ?_⟩
          replace hl := Ext.sql e59 hl
          replace al2 := DpAll.mono al2 e59
          replace sq1 := Ext.sql e59 sq1
          replace al10 := DpAll.mono al10 e59
          replace sq5 := Ext.sql e59 sq5
          refine ⟨_, _, rfl, rfl, _, rfl, ?_⟩
          have hq20 := hQ H59 P59 e59 w59
          rw [hb23, Bool.false_or] at hq20
          exact hq20
      refine hB10 _ fun H60 P60 e60 w60 => ?_
      replace hl := Ext.sql e60 hl
      replace al2 := DpAll.mono al2 e60
      replace sq1 := Ext.sql e60 sq1
      replace al10 := DpAll.mono al10 e60
      replace sq5 := Ext.sql e60 sq5
      refine iteB (fun hb24 => ?_) (fun hb24 => ?_)
      · rw [ite_t hb24] at eR
        subst eR
        exact q H60 P60 (((((((((e1.trans e2).trans e3).trans e6).trans e7).trans e54).trans e56).trans e57).trans e58).trans e60) (w60.pull 0 rfl).tl
      · rw [ite_f hb24] at eR
        refine ⟨_, rfl, P60, (cs0), p1, l1, ns, b2, rfl, w60, hl, fun H61 P61 e61 w61 => ?_⟩
        replace hl := Ext.sql e61 hl
        replace al2 := DpAll.mono al2 e61
        replace sq1 := Ext.sql e61 sq1
        replace al10 := DpAll.mono al10 e61
        replace sq5 := Ext.sql e61 sq5
        generalize et7 : (m_sign ns b2) = t7 at w61 eR ⊢
        refine ⟨_, rfl, _, rfl, _, rfl, t7.1, _, rfl, rfl, _, rfl, ?_⟩
        refine iteB (fun hb25 => ?_) (fun hb25 => ?_)
        · rw [ite_t hb25] at eR
          have hb25p : ¬ (t7.1 ∈ (TL.joinL (cs "") ((m_signs.filter (fun it5 => (decide (it5 ∈ (TL.joinL (cs "") acc2))))).map (fun it5 => ([it5] : List Nat))))) := by simpa using hb25
          refine ⟨_, rfl, P61, ((p1, (boxO l1 t7.2)) :: cs0), (t7.1), rfl, w61, fun H62 P62 e62 w62 => ?_⟩
          replace hl := Ext.sql e62 hl
          replace al2 := DpAll.mono al2 e62
          replace sq1 := Ext.sql e62 sq1
          replace al10 := DpAll.mono al10 e62
          replace sq5 := Ext.sql e62 sq5
          refine ⟨_, rfl, P62, ((p1, (boxO l1 t7.2)) :: cs0), (m_lkind (t7.1)), (TL.joinL (cs "") ((m_signs.filter (fun it5 => (decide (it5 ∈ (TL.joinL (cs "") acc2))))).map (fun it5 => ([it5] : List Nat)))), rfl, w62, fun H63 P63 e63 w63 => ?_⟩
          replace hl := Ext.sql e63 hl
          replace al2 := DpAll.mono al2 e63
          replace sq1 := Ext.sql e63 sq1
          replace al10 := DpAll.mono al10 e63
          replace sq5 := Ext.sql e63 sq5
          refine ⟨_, rfl, _, rfl, P63, ((p1, (boxO l1 t7.2)) :: cs0), (t7.1), (TL.joinL (cs "") ((m_signs.filter (fun it5 => (decide (it5 ∈ (TL.joinL (cs "") acc2))))).map (fun it5 => ([it5] : List Nat)))), rfl, w63, fun H64 P64 e64 w64 => ?_⟩
          replace hl := Ext.sql e64 hl
          replace al2 := DpAll.mono al2 e64
          replace sq1 := Ext.sql e64 sq1
          replace al10 := DpAll.mono al10 e64
          replace sq5 := Ext.sql e64 sq5
          have hB11 : ∀ Q : VK, (∀ Hz Pz, Ext P64 Pz → Wd Pz Hz ((p1, (boxO l1 t7.2)) :: cs0) → Q (V.bl (true && (decide ((m_sample_of (t7.1) (TL.joinL (cs "") ((m_signs.filter (fun it5 => (decide (it5 ∈ (TL.joinL (cs "") acc2))))).map (fun it5 => ([it5] : List Nat))))) = (m_least (m_lkind (t7.1)) (TL.joinL (cs "") ((m_signs.filter (fun it5 => (decide (it5 ∈ (TL.joinL (cs "") acc2))))).map (fun it5 => ([it5] : List Nat))))))))) Hz) → (tAndV (tCB (rIsi K) (tCons (tVar 5) (tCons (tC (V.ty "str")) tNil))) (tOp rEqS (tVar 5) (tVar 7))) [some (V.ref ascr), some (V.ref p1), some (V.int t1.1), some (S (TL.joinL (cs "") acc2)), some (S (TL.joinL (cs "") ((m_signs.filter (fun it5 => (decide (it5 ∈ (TL.joinL (cs "") acc2))))).map (fun it5 => ([it5] : List Nat))))), some (S (m_sample_of (t7.1) (TL.joinL (cs "") ((m_signs.filter (fun it5 => (decide (it5 ∈ (TL.joinL (cs "") acc2))))).map (fun it5 => ([it5] : List Nat)))))), some (S ([t7.1] : List Nat)), some (S (m_least (m_lkind (t7.1)) (TL.joinL (cs "") ((m_signs.filter (fun it5 => (decide (it5 ∈ (TL.joinL (cs "") acc2))))).map (fun it5 => ([it5] : List Nat)))))), none] H64 Q := by
            intro Q hQ
            refine ⟨_, rfl, _, _, (.type "str"), (.type "str"), true, rfl, (.ty _), (.base (.str _)), (kit_ty (by decide +kernel)), _, rfl, ?_⟩
            refine iteB (fun hb26 => ?_) (fun hb26 => ?_)
            · refine ⟨_, rfl, _, rfl, _, _, rfl, rfl, ?_⟩
              have hq21 := hQ H64 P64 (Ext.refl _) w64
              rw [hb26, Bool.true_and] at hq21
              exact hq21
            · have hq22 := hQ H64 P64 (Ext.refl _) w64
              rw [hb26, Bool.false_and] at hq22
              exact hq22
          refine hB11 _ fun H65 P65 e65 w65 => ?_
          replace hl := Ext.sql e65 hl
          replace al2 := DpAll.mono al2 e65
          replace sq1 := Ext.sql e65 sq1
          replace al10 := DpAll.mono al10 e65
          replace sq5 := Ext.sql e65 sq5
          subst eR
          exact q H65 P65 ((((((((((((((e1.trans e2).trans e3).trans e6).trans e7).trans e54).trans e56).trans e57).trans e58).trans e60).trans e61).trans e62).trans e63).trans e64).trans e65) (w65.pull 0 rfl).tl
        · rw [ite_f hb25] at eR
          have hb25p : t7.1 ∈ (TL.joinL (cs "") ((m_signs.filter (fun it5 => (decide (it5 ∈ (TL.joinL (cs "") acc2))))).map (fun it5 => ([it5] : List Nat)))) := by simpa using hb25
          refine ⟨_, rfl, _, rfl, P61, ((p1, (boxO l1 t7.2)) :: cs0), (t7.1), (TL.joinL (cs "") ((m_signs.filter (fun it5 => (decide (it5 ∈ (TL.joinL (cs "") acc2))))).map (fun it5 => ([it5] : List Nat)))), rfl, w61, fun H66 P66 e66 w66 => ?_⟩
          replace hl := Ext.sql e66 hl
          replace al2 := DpAll.mono al2 e66
          replace sq1 := Ext.sql e66 sq1
          replace al10 := DpAll.mono al10 e66
          replace sq5 := Ext.sql e66 sq5
          have hB12 : ∀ Q : VK, (∀ Hz Pz, Ext P66 Pz → Wd Pz Hz ((p1, (boxO l1 t7.2)) :: cs0) → Q (V.bl (true && (decide ((m_sample_of (t7.1) (TL.joinL (cs "") ((m_signs.filter (fun it5 => (decide (it5 ∈ (TL.joinL (cs "") acc2))))).map (fun it5 => ([it5] : List Nat))))) = ([t7.1] : List Nat))))) Hz) → (tAndV (tCB (rIsi K) (tCons (tVar 5) (tCons (tC (V.ty "str")) tNil))) (tOp rEqS (tVar 5) (tVar 7))) [some (V.ref ascr), some (V.ref p1), some (V.int t1.1), some (S (TL.joinL (cs "") acc2)), some (S (TL.joinL (cs "") ((m_signs.filter (fun it5 => (decide (it5 ∈ (TL.joinL (cs "") acc2))))).map (fun it5 => ([it5] : List Nat))))), some (S (m_sample_of (t7.1) (TL.joinL (cs "") ((m_signs.filter (fun it5 => (decide (it5 ∈ (TL.joinL (cs "") acc2))))).map (fun it5 => ([it5] : List Nat)))))), some (S ([t7.1] : List Nat)), some (S ([t7.1] : List Nat)), none] H66 Q := by
            intro Q hQ
            refine ⟨_, rfl, _, _, (.type "str"), (.type "str"), true, rfl, (.ty _), (.base (.str _)), (kit_ty (by decide +kernel)), _, rfl, ?_⟩
            refine iteB (fun hb27 => ?_) (fun hb27 => ?_)
            · refine ⟨_, rfl, _, rfl, _, _, rfl, rfl, ?_⟩
              have hq23 := hQ H66 P66 (Ext.refl _) w66
              rw [hb27, Bool.true_and] at hq23
              exact hq23
            · have hq24 := hQ H66 P66 (Ext.refl _) w66
              rw [hb27, Bool.false_and] at hq24
              exact hq24
          refine hB12 _ fun H67 P67 e67 w67 => ?_
          replace hl := Ext.sql e67 hl
          replace al2 := DpAll.mono al2 e67
          replace sq1 := Ext.sql e67 sq1
          replace al10 := DpAll.mono al10 e67
          replace sq5 := Ext.sql e67 sq5
          subst eR
          exact q H67 P67 ((((((((((((e1.trans e2).trans e3).trans e6).trans e7).trans e54).trans e56).trans e57).trans e58).trans e60).trans e61).trans e66).trans e67) (w67.pull 0 rfl).tl
theorem fn_law {P : Program} {w : World} {K : PySem.W.Frag} {mg : Str → Option Value} {base : Heap} {G : GA} {f : Addr} {fd : FuncData} (T : Tx K G mg) (F : Fun K "law" "law" s_law f fd) : FnOk P w K mg base CX0 4 f fd ["_law_script"] (sp_law K G) := by
  refine F.ok sc_law (fun vs H Q E h => ?_) (fun cdv A outer s H vs Q E hr h => ⟨t_law K G, ?_, rd_law T.fa vs H Q E h⟩)
  · obtain ⟨_, _, _, _, rfl, _⟩ := h
    rfl
  · exact (pss_cons (ps_set (i := 1) sc_law.nd rfl (.inr rfl) (pe_c (c_box T) hr (by decide) (by rfl) (pa_cons (pv 0) pa_nil))) (pss_cons (ps_set (i := 2) sc_law.nd rfl (.inl rfl) (pe_c (c_take T) hr (by decide) (by rfl) (pa_cons (pv 1) (pa_cons pe_int pa_nil)))) (pss_cons (ps_set (i := 3) sc_law.nd rfl (.inr rfl) (pe_m1 PySem.F.slot_str_join PySem.F.type_str_join m_join pe_strS (pe_lc (own := [("_law_k", 8)]) rfl sc_law.nd (pi_range1 (by rfl) T.z_range (pa_cons (pe_c (c_take T) hr (by decide) (by rfl) (pa_cons (pv 1) (pa_cons pe_int pa_nil))) pa_nil)) (blkOk_by (N := ["_law_script", "_law_box_here", "_law_way", "_law_given", "_law_named", "_law_actual", "_law_sign_here", "_law_due", "_law_k"]) (sc := defScope s_law) (by decide +kernel)) (fun _ _ _ _ _ => (pg_name (i := 8) sc_law.nd rfl (Or.inl rfl))) (fun _ _ _ _ _ => pts_nil) (fun _ _ _ _ _ => (pe_c (c_sign T) hr (by decide) (by rfl) (pa_cons (pv 1) pa_nil)))))) (pss_cons (ps_if (pt_cmpR o_eqI (pv 2) pe_int (nomark _)) (pss_one (ps_set (i := 3) sc_law.nd rfl (.inr rfl) (pe_op o_addS pe_strS (pv 3)))) pss_nil) (pss_cons (ps_if (pt_cmpR o_eqI (pv 2) pe_int (nomark _)) (pss_one (ps_set (i := 3) sc_law.nd rfl (.inr rfl) (pe_op o_addS (pe_op o_addS (pe_slice s_strT (pe_c0 (c_signs T) hr (by decide) (by rfl)) (po_some pe_int) (po_some pe_int)) (pe_slice s_strT (pe_c0 (c_signs T) hr (by decide) (by rfl)) (po_some pe_int) (po_some pe_int))) (pv 3)))) pss_nil) (pss_cons (ps_set (i := 4) sc_law.nd rfl (.inl rfl) (pe_m1 PySem.F.slot_str_join PySem.F.type_str_join m_join pe_strS (pe_lc (own := [("_law_sign_here", 6)]) rfl sc_law.nd (pi_str (pe_c0 (c_signs T) hr (by decide) (by rfl))) (blkOk_by (N := ["_law_script", "_law_box_here", "_law_way", "_law_given", "_law_named", "_law_actual", "_law_sign_here", "_law_due", "_law_k"]) (sc := defScope s_law) (by decide +kernel)) (fun _ _ _ _ _ => (pg_name (i := 6) sc_law.nd rfl (Or.inl rfl))) (fun _ _ _ _ _ => pts_one (pt_cmpR o_inS (pv 6) (pv 3) (by rfl))) (fun _ _ _ _ _ => (pv 6))))) (pss_cons (ps_set (i := 5) sc_law.nd rfl (.inl rfl) (pe_c (c_sample_signs T) hr (by decide) (by rfl) (pa_cons (pv 3) pa_nil))) (pss_cons (ps_if (PW.pt (pw_or (pt_not (pt_val (pe_callB call_isi (by rfl) T.z_isinstance (by decide +kernel) (pa_cons (pv 5) (pa_cons (pe_bltn (v := V.ty "str") (by rfl) T.z_str (by decide +kernel) rfl) pa_nil))))) (pw_or1 (pt_cmpR o_neS (pv 5) (pe_c (c_samples T) hr (by decide) (by rfl) (pa_cons (pv 4) pa_nil)) (nomark _))))) (pss_one (ps_ret pe_bl)) pss_nil) (pss_cons (ps_set (i := 6) sc_law.nd rfl (.inl rfl) (pe_c (c_sign T) hr (by decide) (by rfl) (pa_cons (pv 1) pa_nil))) (pss_cons (ps_set (i := 7) sc_law.nd rfl (.inl rfl) (pv 6)) (pss_cons (ps_if (pt_cmpR o_niS (pv 6) (pv 4) (by rfl)) (pss_one (ps_set (i := 7) sc_law.nd rfl (.inl rfl) (pe_c (c_least T) hr (by decide) (by rfl) (pa_cons (pe_c (c_lkind T) hr (by decide) (by rfl) (pa_cons (pv 6) pa_nil)) (pa_cons (pv 4) pa_nil))))) pss_nil) (pss_cons (ps_set (i := 5) sc_law.nd rfl (.inl rfl) (pe_c (c_sample_of T) hr (by decide) (by rfl) (pa_cons (pv 6) (pa_cons (pv 4) pa_nil)))) (pss_one (ps_ret (pe_and (pe_callB call_isi (by rfl) T.z_isinstance (by decide +kernel) (pa_cons (pv 5) (pa_cons (pe_bltn (v := V.ty "str") (by rfl) T.z_str (by decide +kernel) rfl) pa_nil))) (pe_one (pe_cmpR o_eqS (pv 5) (pv 7) (nomark _))))))))))))))))))
theorem c_law {P : Program} {w : World} {K : PySem.W.Frag} {mg : Str → Option Value} {base : Heap} {G : GA} (T : Tx K G mg) : Cal P w K mg base 4 "law" (sp_law K G) := by
  obtain ⟨f, fd, F, b, g⟩ := T.d_law
  exact ⟨f, fd, _, fn_law T F, g, F.kp, b⟩

/-! ### the plain law -/
theorem signs_eq : m_signs = cSIGNS := by decide
theorem kind_eq : ∀ c ∈ cSIGNS, m_lkind c = m_kind_of c := by decide +kernel
abbrev nm (s : List Nat) : List Nat := TL.joinL (cs "") ((m_signs.filter (fun it => decide (it ∈ s))).map (fun it => ([it] : List Nat)))
theorem flat_one : ∀ xs : List Nat, (xs.map (fun it => ([it] : List Nat))).flatten = xs
  | [] => rfl
  | x :: r => by
    rw [List.map_cons, List.flatten_cons, flat_one r]
    rfl
theorem nm_eq (s : List Nat) : nm s = cSIGNS.filter (fun it => decide (it ∈ s)) := by
  show TL.joinL (cs "") _ = _
  rw [show cs "" = [] from by decide, joinL_nil, flat_one, signs_eq]
theorem mem_nm {s : List Nat} {c : Nat} (hc : c ∈ cSIGNS) : decide (c ∈ nm s) = decide (c ∈ s) := by
  rw [nm_eq]
  rw [decide_eq_decide, List.mem_filter, decide_eq_true_eq]
  exact ⟨fun h => h.2, fun h => ⟨hc, h⟩⟩
theorem lp_eq {kind s t d : List Nat} (hst : ∀ c ∈ cSIGNS, decide (c ∈ s) = decide (c ∈ t)) : ∀ l : List Nat, (∀ c ∈ l, c ∈ cSIGNS) → lp_least_unnamed_1 kind s d l = lp_least_1 kind t d l
  | [], _ => rfl
  | c :: r, h => by
    have hc := h c List.mem_cons_self
    have ih := lp_eq (kind := kind) (d := d) hst r fun x hx => h x (List.mem_cons_of_mem _ hx)
    rw [lp_least_unnamed_1, lp_least_1, hst c hc, kind_eq c hc, ih]
theorem least_eq {kind s t : List Nat} (hst : ∀ c ∈ cSIGNS, decide (c ∈ s) = decide (c ∈ t)) : m_least_unnamed kind s = m_least kind t := by
  unfold m_least_unnamed m_least
  rw [signs_eq]
  exact lp_eq hst cSIGNS fun _ h => h
theorem samples_eq (s : List Nat) : m_sample_signs s = m_samples (nm s) := by
  unfold m_sample_signs m_samples
  have e : ∀ kind, m_least_unnamed kind s = m_least kind (nm s) := fun kind => least_eq fun c hc => (mem_nm hc).symm
  simp only [e]
  rw [signs_eq]
  congr 2
  refine List.filter_congr fun c hc => ?_
  rw [mem_nm hc]
theorem sample_of_eq {s : List Nat} {c : Nat} (hc : c ∈ cSIGNS) : m_sample_of c (nm s) = if (!decide (c ∈ nm s)) = true then m_least (m_lkind c) (nm s) else [c] := by
  unfold m_sample_of
  rw [kind_eq c hc, least_eq (t := nm s) fun _ _ => rfl]
  cases decide (c ∈ nm s) <;> rfl
theorem sign_mem (ns : List Int) (b : Box) : (m_sign ns b).1 ∈ cSIGNS := by
  unfold m_sign
  have h := take_rng ns b (n := 94) (by decide)
  dsimp only
  rw [signs_eq]
  have hl : (m_take ns b 94).1.toNat < cSIGNS.length := by
    rw [show cSIGNS.length = 94 from by decide]
    omega
  rw [List.getD, List.getElem?_eq_getElem hl]
  exact List.getElem_mem hl
theorem tail {s : List Nat} {c : Nat} (hc : c ∈ cSIGNS) :
    (if ((!true) || (!(decide (m_sample_signs s = m_samples (nm s))))) = true then false else (if (!(decide (c ∈ nm s))) = true then (true && decide (m_sample_of c (nm s) = m_least (m_lkind c) (nm s))) else (true && decide (m_sample_of c (nm s) = [c])))) = true := by
  rw [decide_eq_true (samples_eq s), sample_of_eq hc]
  rw [if_neg (by decide)]
  split
  · exact decide_eq_true rfl
  · exact decide_eq_true rfl
theorem lp_true {ns : List Int} {k : List (List Nat) → Box → Bool} (hk : ∀ acc b, k acc b = true) : ∀ (l : List Nat) (acc : List (List Nat)) (b : Box), lp_law_1 ns k l acc b = true
  | [], acc, b => by rw [lp_law_1]; exact hk acc b
  | i :: r, acc, b => by
    rw [lp_law_1]
    exact lp_true hk r _ _
theorem law_true (ns : List Int) (h : ns.length ≤ 63) : m_law (absL ns) = true := by
  unfold m_law
  dsimp only
  refine lp_true (fun acc b => ?_) _ _ _
  split
  · split
    · exact tail (sign_mem _ _)
    · exact tail (sign_mem _ _)
  · split
    · exact tail (sign_mem _ _)
    · exact tail (sign_mem _ _)

theorem all_mk {l : PySem.W.OpenLaw} {w : World} {K : PySem.W.Frag} {h : Heap} {mg : Str → Option Value} {fa : Addr} (X : K.In h) (Gh : h.Ns mainGlobals mg) (hfa : mg "law" = some (.ref fa))
    {f_take f_box f_kind_of f_least_unnamed f_sample_signs f_sample_of f_signs f_sign f_lkind f_least f_samples f_law : Addr} {od_take an_take od_box an_box od_kind_of an_kind_of od_least_unnamed an_least_unnamed od_sample_signs an_sample_signs od_sample_of an_sample_of od_signs an_signs od_sign an_sign od_lkind an_lkind od_least an_least od_samples an_samples od_law an_law : Option Addr} {sl_take sl_box sl_kind_of sl_least_unnamed sl_sample_signs sl_sample_of sl_signs sl_sign sl_lkind sl_least sl_samples sl_law : Array (Option Value)} {oc_take kV_take dc_take pm_take cd_take ct_take oc_box kV_box dc_box pm_box cd_box ct_box oc_kind_of kV_kind_of dc_kind_of pm_kind_of cd_kind_of ct_kind_of oc_least_unnamed kV_least_unnamed dc_least_unnamed pm_least_unnamed cd_least_unnamed ct_least_unnamed oc_sample_signs kV_sample_signs dc_sample_signs pm_sample_signs cd_sample_signs ct_sample_signs oc_sample_of kV_sample_of dc_sample_of pm_sample_of cd_sample_of ct_sample_of oc_signs kV_signs dc_signs pm_signs cd_signs ct_signs oc_sign kV_sign dc_sign pm_sign cd_sign ct_sign oc_lkind kV_lkind dc_lkind pm_lkind cd_lkind ct_lkind oc_least kV_least dc_least pm_least cd_least ct_least oc_samples kV_samples dc_samples pm_samples cd_samples ct_samples oc_law kV_law dc_law pm_law cd_law ct_law : Value}
    (a_take : PySem.W.nsIn K mainGlobals "_law_take" = some (some (.ref f_take))) (l_take : K.lookup f_take = some ⟨oc_take, od_take, .func (PySem.W.fnOf "_law_take" "_law_take" (defArgs s_take) (defBody s_take) (defScope s_take) .none kV_take dc_take pm_take an_take cd_take ct_take), sl_take⟩) (c_take : PySem.W.codeIn K cd_take "_law_take" = true) (k_take : PySem.W.keepIn K (.ref f_take) = true)
    (a_box : PySem.W.nsIn K mainGlobals "_law_box" = some (some (.ref f_box))) (l_box : K.lookup f_box = some ⟨oc_box, od_box, .func (PySem.W.fnOf "_law_box" "_law_box" (defArgs s_box) (defBody s_box) (defScope s_box) .none kV_box dc_box pm_box an_box cd_box ct_box), sl_box⟩) (c_box : PySem.W.codeIn K cd_box "_law_box" = true) (k_box : PySem.W.keepIn K (.ref f_box) = true)
    (a_kind_of : PySem.W.nsIn K mainGlobals "kind_of" = some (some (.ref f_kind_of))) (l_kind_of : K.lookup f_kind_of = some ⟨oc_kind_of, od_kind_of, .func (PySem.W.fnOf "kind_of" "kind_of" (defArgs s_kind_of) (defBody s_kind_of) (defScope s_kind_of) .none kV_kind_of dc_kind_of pm_kind_of an_kind_of cd_kind_of ct_kind_of), sl_kind_of⟩) (c_kind_of : PySem.W.codeIn K cd_kind_of "kind_of" = true) (k_kind_of : PySem.W.keepIn K (.ref f_kind_of) = true)
    (a_least_unnamed : PySem.W.nsIn K mainGlobals "least_unnamed" = some (some (.ref f_least_unnamed))) (l_least_unnamed : K.lookup f_least_unnamed = some ⟨oc_least_unnamed, od_least_unnamed, .func (PySem.W.fnOf "least_unnamed" "least_unnamed" (defArgs s_least_unnamed) (defBody s_least_unnamed) (defScope s_least_unnamed) .none kV_least_unnamed dc_least_unnamed pm_least_unnamed an_least_unnamed cd_least_unnamed ct_least_unnamed), sl_least_unnamed⟩) (c_least_unnamed : PySem.W.codeIn K cd_least_unnamed "least_unnamed" = true) (k_least_unnamed : PySem.W.keepIn K (.ref f_least_unnamed) = true)
    (a_sample_signs : PySem.W.nsIn K mainGlobals "sample_signs" = some (some (.ref f_sample_signs))) (l_sample_signs : K.lookup f_sample_signs = some ⟨oc_sample_signs, od_sample_signs, .func (PySem.W.fnOf "sample_signs" "sample_signs" (defArgs s_sample_signs) (defBody s_sample_signs) (defScope s_sample_signs) .none kV_sample_signs dc_sample_signs pm_sample_signs an_sample_signs cd_sample_signs ct_sample_signs), sl_sample_signs⟩) (c_sample_signs : PySem.W.codeIn K cd_sample_signs "sample_signs" = true) (k_sample_signs : PySem.W.keepIn K (.ref f_sample_signs) = true)
    (a_sample_of : PySem.W.nsIn K mainGlobals "sample_of" = some (some (.ref f_sample_of))) (l_sample_of : K.lookup f_sample_of = some ⟨oc_sample_of, od_sample_of, .func (PySem.W.fnOf "sample_of" "sample_of" (defArgs s_sample_of) (defBody s_sample_of) (defScope s_sample_of) .none kV_sample_of dc_sample_of pm_sample_of an_sample_of cd_sample_of ct_sample_of), sl_sample_of⟩) (c_sample_of : PySem.W.codeIn K cd_sample_of "sample_of" = true) (k_sample_of : PySem.W.keepIn K (.ref f_sample_of) = true)
    (a_signs : PySem.W.nsIn K mainGlobals "_law_signs" = some (some (.ref f_signs))) (l_signs : K.lookup f_signs = some ⟨oc_signs, od_signs, .func (PySem.W.fnOf "_law_signs" "_law_signs" (defArgs s_signs) (defBody s_signs) (defScope s_signs) .none kV_signs dc_signs pm_signs an_signs cd_signs ct_signs), sl_signs⟩) (c_signs : PySem.W.codeIn K cd_signs "_law_signs" = true) (k_signs : PySem.W.keepIn K (.ref f_signs) = true)
    (a_sign : PySem.W.nsIn K mainGlobals "_law_sign" = some (some (.ref f_sign))) (l_sign : K.lookup f_sign = some ⟨oc_sign, od_sign, .func (PySem.W.fnOf "_law_sign" "_law_sign" (defArgs s_sign) (defBody s_sign) (defScope s_sign) .none kV_sign dc_sign pm_sign an_sign cd_sign ct_sign), sl_sign⟩) (c_sign : PySem.W.codeIn K cd_sign "_law_sign" = true) (k_sign : PySem.W.keepIn K (.ref f_sign) = true)
    (a_lkind : PySem.W.nsIn K mainGlobals "_law_kind" = some (some (.ref f_lkind))) (l_lkind : K.lookup f_lkind = some ⟨oc_lkind, od_lkind, .func (PySem.W.fnOf "_law_kind" "_law_kind" (defArgs s_lkind) (defBody s_lkind) (defScope s_lkind) .none kV_lkind dc_lkind pm_lkind an_lkind cd_lkind ct_lkind), sl_lkind⟩) (c_lkind : PySem.W.codeIn K cd_lkind "_law_kind" = true) (k_lkind : PySem.W.keepIn K (.ref f_lkind) = true)
    (a_least : PySem.W.nsIn K mainGlobals "_law_least" = some (some (.ref f_least))) (l_least : K.lookup f_least = some ⟨oc_least, od_least, .func (PySem.W.fnOf "_law_least" "_law_least" (defArgs s_least) (defBody s_least) (defScope s_least) .none kV_least dc_least pm_least an_least cd_least ct_least), sl_least⟩) (c_least : PySem.W.codeIn K cd_least "_law_least" = true) (k_least : PySem.W.keepIn K (.ref f_least) = true)
    (a_samples : PySem.W.nsIn K mainGlobals "_law_samples" = some (some (.ref f_samples))) (l_samples : K.lookup f_samples = some ⟨oc_samples, od_samples, .func (PySem.W.fnOf "_law_samples" "_law_samples" (defArgs s_samples) (defBody s_samples) (defScope s_samples) .none kV_samples dc_samples pm_samples an_samples cd_samples ct_samples), sl_samples⟩) (c_samples : PySem.W.codeIn K cd_samples "_law_samples" = true) (k_samples : PySem.W.keepIn K (.ref f_samples) = true)
    (a_law : PySem.W.nsIn K mainGlobals "law" = some (some (.ref f_law))) (l_law : K.lookup f_law = some ⟨oc_law, od_law, .func (PySem.W.fnOf "law" "law" (defArgs s_law) (defBody s_law) (defScope s_law) .none kV_law dc_law pm_law an_law cd_law ct_law), sl_law⟩) (c_law : PySem.W.codeIn K cd_law "law" = true) (k_law : PySem.W.keepIn K (.ref f_law) = true)
    (z_abs : PySem.W.nsIn K mainGlobals "abs" = some none)
    (z_int : PySem.W.nsIn K mainGlobals "int" = some none)
    (z_isinstance : PySem.W.nsIn K mainGlobals "isinstance" = some none)
    (z_len : PySem.W.nsIn K mainGlobals "len" = some none)
    (z_range : PySem.W.nsIn K mainGlobals "range" = some none)
    (z_str : PySem.W.nsIn K mainGlobals "str" = some none)
    {x_CAPITALS : Str} {t_CAPITALS : Tok} (g_CAPITALS : PySem.W.nsIn K mainGlobals "CAPITALS" = some (some (.str x_CAPITALS t_CAPITALS))) (e_CAPITALS : x_CAPITALS = ⟨⟨cCAPITALS⟩⟩)
    {x_SMALLS : Str} {t_SMALLS : Tok} (g_SMALLS : PySem.W.nsIn K mainGlobals "SMALLS" = some (some (.str x_SMALLS t_SMALLS))) (e_SMALLS : x_SMALLS = ⟨⟨cSMALLS⟩⟩)
    {x_FIGURES : Str} {t_FIGURES : Tok} (g_FIGURES : PySem.W.nsIn K mainGlobals "FIGURES" = some (some (.str x_FIGURES t_FIGURES))) (e_FIGURES : x_FIGURES = ⟨⟨cFIGURES⟩⟩)
    {x_SIGNS : Str} {t_SIGNS : Tok} (g_SIGNS : PySem.W.nsIn K mainGlobals "SIGNS" = some (some (.str x_SIGNS t_SIGNS))) (e_SIGNS : x_SIGNS = ⟨⟨cSIGNS⟩⟩)
    {aK : Addr} {dK : Option Addr} {nK : Nat} {slK : Array (Option Value)} {xK1 xK2 xK3 : Str} {tK1 tK2 tK3 : Tok} (gK : PySem.W.nsIn K mainGlobals "KINDS" = some (some (.ref aK))) (lK : K.lookup aK = some ⟨.type "tuple", dK, .seq #[.str xK1 tK1, .str xK2 tK2, .str xK3 tK3] nK, slK⟩) (e_K1 : xK1 = ⟨⟨cs "letter"⟩⟩) (e_K2 : xK2 = ⟨⟨cs "figure"⟩⟩) (e_K3 : xK3 = ⟨⟨cs "mark"⟩⟩)
    : ∃ fd : FuncData, (∀ (s : Shared) (v : Value), BindsTo s fd ⟨[v], []⟩ [("_law_script", v)]) ∧ ∀ base : Heap, K.In base → base.Ns mainGlobals mg → FnOk l.prog w K mg base CX0 4 fa fd ["_law_script"] (spL K) := by
  have e := hfa.symm.trans (PySem.W.mg_of X Gh a_law)
  cases e
  have F_take := fun_mk (st := s_take) l_take c_take k_take
  have b_take := F_take.binds (ps := ["_law_box_here", "_law_size"]) fun _ _ _ _ _ _ us hl => match us, hl with | [_, _], _ => rfl
  have F_box := fun_mk (st := s_box) l_box c_box k_box
  have b_box := F_box.binds (ps := ["_law_script"]) fun _ _ _ _ _ _ us hl => match us, hl with | [_], _ => rfl
  have F_kind_of := fun_mk (st := s_kind_of) l_kind_of c_kind_of k_kind_of
  have b_kind_of := F_kind_of.binds (ps := ["sign"]) fun _ _ _ _ _ _ us hl => match us, hl with | [_], _ => rfl
  have F_least_unnamed := fun_mk (st := s_least_unnamed) l_least_unnamed c_least_unnamed k_least_unnamed
  have b_least_unnamed := F_least_unnamed.binds (ps := ["kind", "signs"]) fun _ _ _ _ _ _ us hl => match us, hl with | [_, _], _ => rfl
  have F_sample_signs := fun_mk (st := s_sample_signs) l_sample_signs c_sample_signs k_sample_signs
  have b_sample_signs := F_sample_signs.binds (ps := ["signs"]) fun _ _ _ _ _ _ us hl => match us, hl with | [_], _ => rfl
  have F_sample_of := fun_mk (st := s_sample_of) l_sample_of c_sample_of k_sample_of
  have b_sample_of := F_sample_of.binds (ps := ["sign", "signs"]) fun _ _ _ _ _ _ us hl => match us, hl with | [_, _], _ => rfl
  have F_signs := fun_mk (st := s_signs) l_signs c_signs k_signs
  have b_signs := F_signs.binds (ps := []) fun _ _ _ _ _ _ us hl => match us, hl with | [], _ => rfl
  have F_sign := fun_mk (st := s_sign) l_sign c_sign k_sign
  have b_sign := F_sign.binds (ps := ["_law_box_here"]) fun _ _ _ _ _ _ us hl => match us, hl with | [_], _ => rfl
  have F_lkind := fun_mk (st := s_lkind) l_lkind c_lkind k_lkind
  have b_lkind := F_lkind.binds (ps := ["_law_sign_here"]) fun _ _ _ _ _ _ us hl => match us, hl with | [_], _ => rfl
  have F_least := fun_mk (st := s_least) l_least c_least k_least
  have b_least := F_least.binds (ps := ["_law_kind_here", "_law_named"]) fun _ _ _ _ _ _ us hl => match us, hl with | [_, _], _ => rfl
  have F_samples := fun_mk (st := s_samples) l_samples c_samples k_samples
  have b_samples := F_samples.binds (ps := ["_law_named"]) fun _ _ _ _ _ _ us hl => match us, hl with | [_], _ => rfl
  have F_law := fun_mk (st := s_law) l_law c_law k_law
  have b_law := F_law.binds (ps := ["_law_script"]) fun _ _ _ _ _ _ us hl => match us, hl with | [_], _ => rfl
  have T : Tx K ⟨0, aK⟩ mg := {
    fa := ⟨trivial, sqt_strs lK rfl rfl (by show 3 ≤ sizeLine; decide) (.cons ⟨_, by rw [e_K1]⟩ (.cons ⟨_, by rw [e_K2]⟩ (.cons ⟨_, by rw [e_K3]⟩ .nil)))⟩
    d_take := ⟨_, _, F_take, b_take, PySem.W.mg_of X Gh a_take⟩
    d_box := ⟨_, _, F_box, b_box, PySem.W.mg_of X Gh a_box⟩
    d_kind_of := ⟨_, _, F_kind_of, b_kind_of, PySem.W.mg_of X Gh a_kind_of⟩
    d_least_unnamed := ⟨_, _, F_least_unnamed, b_least_unnamed, PySem.W.mg_of X Gh a_least_unnamed⟩
    d_sample_signs := ⟨_, _, F_sample_signs, b_sample_signs, PySem.W.mg_of X Gh a_sample_signs⟩
    d_sample_of := ⟨_, _, F_sample_of, b_sample_of, PySem.W.mg_of X Gh a_sample_of⟩
    d_signs := ⟨_, _, F_signs, b_signs, PySem.W.mg_of X Gh a_signs⟩
    d_sign := ⟨_, _, F_sign, b_sign, PySem.W.mg_of X Gh a_sign⟩
    d_lkind := ⟨_, _, F_lkind, b_lkind, PySem.W.mg_of X Gh a_lkind⟩
    d_least := ⟨_, _, F_least, b_least, PySem.W.mg_of X Gh a_least⟩
    d_samples := ⟨_, _, F_samples, b_samples, PySem.W.mg_of X Gh a_samples⟩
    d_law := ⟨_, _, F_law, b_law, PySem.W.mg_of X Gh a_law⟩
    z_abs := PySem.W.mg_none_of X Gh z_abs
    z_int := PySem.W.mg_none_of X Gh z_int
    z_isinstance := PySem.W.mg_none_of X Gh z_isinstance
    z_len := PySem.W.mg_none_of X Gh z_len
    z_range := PySem.W.mg_none_of X Gh z_range
    z_str := PySem.W.mg_none_of X Gh z_str
    g_CAPITALS := ⟨_, PySem.W.mg_of X Gh g_CAPITALS, ⟨t_CAPITALS, by rw [e_CAPITALS]⟩⟩
    g_SMALLS := ⟨_, PySem.W.mg_of X Gh g_SMALLS, ⟨t_SMALLS, by rw [e_SMALLS]⟩⟩
    g_FIGURES := ⟨_, PySem.W.mg_of X Gh g_FIGURES, ⟨t_FIGURES, by rw [e_FIGURES]⟩⟩
    g_SIGNS := ⟨_, PySem.W.mg_of X Gh g_SIGNS, ⟨t_SIGNS, by rw [e_SIGNS]⟩⟩
    g_KINDS := ⟨_, PySem.W.mg_of X Gh gK, rfl⟩
  }
  refine ⟨_, fun s v => .of_eq rfl, fun base _ _ => (fn_law T F_law).imp (fun vs H Q E h => ?_)⟩
  obtain ⟨a, ns, rfl, hS, hl, q⟩ := h
  exact ⟨H, [], a, ns, rfl, Wd.all H, hS, hl, fun H1 P1 _ _ => by rw [law_true ns hl]; exact q H1⟩
end G
open PySem PySem.W PyProof.Rows
set_option maxHeartbeats 0 in
theorem PySem.Challenge.cw_regrow_k03_sample_signs_holds : PySem.Challenge.rw_regrow_k03_sample_signs.Holds := by
  w_on; o_law; k_head; (case hw => w_witness2)
  k_fill
  refine L2.walk_of (l := PySem.Challenge.rw_regrow_k03_sample_signs) (n := 63) (k := 4) (x := "_law_script") (CX := fun _ => L2.CX0) (sp := fun w => G.spL _) rfl (by decide) rfl ⟨rfl, by decide, by decide⟩ (fun w h Y => PySem.W.kIn_of Y) ?F (fun _ _ a ns hl _ hS => ⟨a, ns, rfl, hS, hl, fun _ => rfl⟩) (fun _ _ _ _ _ h => h)
  case F =>
    intro w mg fa h KX Gh hmg
    refine' G.all_mk KX Gh hmg ?a_take ?l_take ?c_take ?k_take ?a_box ?l_box ?c_box ?k_box ?a_kind_of ?l_kind_of ?c_kind_of ?k_kind_of ?a_least_unnamed ?l_least_unnamed ?c_least_unnamed ?k_least_unnamed ?a_sample_signs ?l_sample_signs ?c_sample_signs ?k_sample_signs ?a_sample_of ?l_sample_of ?c_sample_of ?k_sample_of ?a_signs ?l_signs ?c_signs ?k_signs ?a_sign ?l_sign ?c_sign ?k_sign ?a_lkind ?l_lkind ?c_lkind ?k_lkind ?a_least ?l_least ?c_least ?k_least ?a_samples ?l_samples ?c_samples ?k_samples ?a_law ?l_law ?c_law ?k_law ?z_abs ?z_int ?z_isinstance ?z_len ?z_range ?z_str ?g_CAPITALS ?e_CAPITALS ?g_SMALLS ?e_SMALLS ?g_FIGURES ?e_FIGURES ?g_SIGNS ?e_SIGNS ?gK ?lK ?e_K1 ?e_K2 ?e_K3
    (case a_take => k_is)
    (case l_take => k_is)
    (case c_take => k_is)
    (case k_take => k_is)
    (case a_box => k_is)
    (case l_box => k_is)
    (case c_box => k_is)
    (case k_box => k_is)
    (case a_kind_of => k_is)
    (case l_kind_of => k_is)
    (case c_kind_of => k_is)
    (case k_kind_of => k_is)
    (case a_least_unnamed => k_is)
    (case l_least_unnamed => k_is)
    (case c_least_unnamed => k_is)
    (case k_least_unnamed => k_is)
    (case a_sample_signs => k_is)
    (case l_sample_signs => k_is)
    (case c_sample_signs => k_is)
    (case k_sample_signs => k_is)
    (case a_sample_of => k_is)
    (case l_sample_of => k_is)
    (case c_sample_of => k_is)
    (case k_sample_of => k_is)
    (case a_signs => k_is)
    (case l_signs => k_is)
    (case c_signs => k_is)
    (case k_signs => k_is)
    (case a_sign => k_is)
    (case l_sign => k_is)
    (case c_sign => k_is)
    (case k_sign => k_is)
    (case a_lkind => k_is)
    (case l_lkind => k_is)
    (case c_lkind => k_is)
    (case k_lkind => k_is)
    (case a_least => k_is)
    (case l_least => k_is)
    (case c_least => k_is)
    (case k_least => k_is)
    (case a_samples => k_is)
    (case l_samples => k_is)
    (case c_samples => k_is)
    (case k_samples => k_is)
    (case a_law => k_is)
    (case l_law => k_is)
    (case c_law => k_is)
    (case k_law => k_is)
    (case z_abs => k_is)
    (case z_int => k_is)
    (case z_isinstance => k_is)
    (case z_len => k_is)
    (case z_range => k_is)
    (case z_str => k_is)
    (case g_CAPITALS => k_is)
    (case e_CAPITALS => first | rfl | decide +kernel)
    (case g_SMALLS => k_is)
    (case e_SMALLS => first | rfl | decide +kernel)
    (case g_FIGURES => k_is)
    (case e_FIGURES => first | rfl | decide +kernel)
    (case g_SIGNS => k_is)
    (case e_SIGNS => first | rfl | decide +kernel)
    (case gK => k_is)
    (case lK => k_is)
    (case e_K1 => first | rfl | decide +kernel)
    (case e_K2 => first | rfl | decide +kernel)
    (case e_K3 => first | rfl | decide +kernel)
