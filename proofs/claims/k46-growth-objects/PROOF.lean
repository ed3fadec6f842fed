import PyProof.Rows.All
import Wide.All
import OpenK.AllK
import Wide.FinOn
import HandS.ForMost
import HandS.IsInst
import HandS.Codes
import HandS.Walk
import HandS.Defaults
import HandS.Evl
import HandS.More
import HandS.Style
import HandS.Property
import PySem.Challenge.RW_regrow_k46_growth_objects
set_option Elab.async false
set_option linter.all false
set_option maxRecDepth 100000
set_option maxHeartbeats 4000000
namespace G
open PySem PySem.Spec PyProof.Rows L2
/-! ### texts by their codes -/
def S (t : List Nat) : V := .str ⟨⟨t⟩⟩
theorem S_inj {a b : List Nat} (h : S a = S b) : a = b := by
  unfold S at h
  injection h with h
  injection h with h
  injection h
theorem S_eq {a b : List Nat} : (S a = S b) = (a = b) := propext ⟨S_inj, fun h => by rw [h]⟩
theorem str_S (x : Str) : V.str x = S x.cps.toList := rfl
/-! ### what stays -/
def Ext (P P' : Hp) : Prop := ∀ a o, P a = some o → P' a = some o
theorem Ext.refl (P : Hp) : Ext P P := fun _ _ h => h
theorem Ext.trans {P P1 P2 : Hp} (a : Ext P P1) (b : Ext P1 P2) : Ext P P2 := fun x o h => b x o (a x o h)
theorem Ext.new {P : Hp} {p : Addr} {o : HO} (h : P p = none) : Ext P (upd P p o) := fun a u e => by
  rw [upd_ne (ne_of_none e h)]
  exact e
theorem Ext.rd {P P' : Hp} {a : Addr} {u : HO} (e : Ext P P') (h : Rd P a u) : Rd P' a u := by
  rcases h with h | ⟨o, h⟩
  · exact Or.inl (e a _ h)
  · exact Or.inr ⟨o, e a _ h⟩
theorem Ext.sql {K : PySem.W.Frag} {P P' : Hp} {a : Addr} {xs : List V} (e : Ext P P') (h : SqL K P a xs) : SqL K P' a xs := by
  rcases h with h | h
  · exact Or.inl (e.rd h)
  · exact Or.inr h
theorem Ext.sqt {K : PySem.W.Frag} {P P' : Hp} {a : Addr} {xs : List V} (e : Ext P P') (h : SqT K P a xs) : SqT K P' a xs := by
  rcases h with h | h
  · exact Or.inl (e.rd h)
  · exact Or.inr h
/-! ### the world: what is frozen (P), the cells that may change (cs) -/
abbrev Cs := List (Addr × HO)
structure Wd (P H : Hp) (cs : Cs) : Prop where
  sub : Ext P H
  nd : (cs.map (·.1)).Nodup
  ok : ∀ p ∈ cs, H p.1 = some p.2 ∧ P p.1 = none
section
variable {P H : Hp} {cs : Cs} {a p : Addr} {o o' : HO} {i : Nat}
theorem Wd.mem (w : Wd P H cs) (h : (a, o) ∈ cs) : H a = some o := (w.ok _ h).1
theorem Wd.get (w : Wd P H cs) (i : Nat) (h : cs[i]? = some (a, o)) : H a = some o := (w.ok _ (List.mem_of_getElem? h)).1
theorem Wd.hd (w : Wd P H ((a, o) :: cs)) : H a = some o := (w.ok _ List.mem_cons_self).1
theorem Wd.pnone (w : Wd P H cs) (hp : H p = none) : P p = none := by
  cases q : P p with
  | none => rfl
  | some u =>
    rw [w.sub p u q] at hp
    cases hp
theorem map_set1 : ∀ (cs : Cs) (i : Nat) (a : Addr) (o o' : HO), cs[i]? = some (a, o) → (cs.set i (a, o')).map (·.1) = cs.map (·.1)
  | [], _, _, _, _, h => by simp at h
  | c :: r, 0, a, o, o', h => by
    have e : c = (a, o) := Option.some.inj h
    subst e
    rfl
  | c :: r, i + 1, a, o, o', h => by
    have ih := map_set1 r i a o o' h
    show c.1 :: (r.set i (a, o')).map (·.1) = c.1 :: r.map (·.1)
    rw [ih]
theorem mem_set1 : ∀ (cs : Cs) (i : Nat) (a : Addr) (o o' : HO), (cs.map (·.1)).Nodup → cs[i]? = some (a, o) → ∀ q ∈ cs.set i (a, o'), q = (a, o') ∨ (q ∈ cs ∧ q.1 ≠ a)
  | [], _, _, _, _, _, h => by simp at h
  | c :: r, 0, a, o, o', nd, h => by
    have e : c = (a, o) := Option.some.inj h
    subst e
    intro q hq
    rcases List.mem_cons.mp hq with z | z
    · exact Or.inl z
    · refine Or.inr ⟨List.mem_cons_of_mem _ z, fun e => ?_⟩
      have nd' : a ∉ r.map (·.1) := (List.nodup_cons.mp nd).1
      exact nd' (e ▸ List.mem_map_of_mem z)
  | c :: r, i + 1, a, o, o', nd, h => by
    intro q hq
    have nd' := List.nodup_cons.mp nd
    rcases List.mem_cons.mp hq with z | z
    · refine Or.inr ⟨z ▸ List.mem_cons_self, fun e => ?_⟩
      have hm : (a, o) ∈ r := List.mem_of_getElem? h
      have : a ∈ r.map (·.1) := List.mem_map_of_mem (f := (·.1)) hm
      rw [← e, z] at this
      exact nd'.1 this
    · rcases mem_set1 r i a o o' nd'.2 h q z with y | ⟨y1, y2⟩
      · exact Or.inl y
      · exact Or.inr ⟨List.mem_cons_of_mem _ y1, y2⟩
theorem Wd.put (w : Wd P H cs) (i : Nat) (o' : HO) (h : cs[i]? = some (a, o)) : Wd P (upd H a o') (cs.set i (a, o')) where
  sub := fun b u e => by
    have hb : b ≠ a := fun z => by
      subst z
      rw [(w.ok _ (List.mem_of_getElem? h)).2] at e
      cases e
    rw [upd_ne hb]
    exact w.sub b u e
  nd := by rw [map_set1 cs i a o o' h]; exact w.nd
  ok := fun q hq => by
    rcases mem_set1 cs i a o o' w.nd h q hq with z | ⟨z1, z2⟩
    · subst z
      exact ⟨upd_same, (w.ok _ (List.mem_of_getElem? h)).2⟩
    · rw [upd_ne z2]
      exact w.ok q z1
/-- a new cell that may change -/
theorem Wd.new (w : Wd P H cs) (hp : H p = none) (o : HO) : Wd P (upd H p o) ((p, o) :: cs) where
  sub := fun b u e => by
    rw [upd_ne (ne_of_none (w.sub b u e) hp)]
    exact w.sub b u e
  nd := by
    refine List.nodup_cons.mpr ⟨fun hm => ?_, w.nd⟩
    obtain ⟨q, hq, e⟩ := List.mem_map.mp hm
    have := (w.ok q hq).1
    rw [show q.1 = p from e, hp] at this
    cases this
  ok := fun q hq => by
    rcases List.mem_cons.mp hq with z | z
    · subst z
      exact ⟨upd_same, w.pnone hp⟩
    · rw [upd_ne (ne_of_none (w.ok q z).1 hp)]
      exact w.ok q z
/-- a cell is frozen -/
theorem Wd.keep (w : Wd P H ((a, o) :: cs)) : Wd (upd P a o) H cs where
  sub := fun b u e => by
    by_cases hb : b = a
    · subst hb
      rw [upd_same] at e
      cases e
      exact w.hd
    · rw [upd_ne hb] at e
      exact w.sub b u e
  nd := (List.nodup_cons.mp w.nd).2
  ok := fun q hq => by
    have n : q.1 ≠ a := fun e => (List.nodup_cons.mp w.nd).1 (show a ∈ cs.map (·.1) from e ▸ List.mem_map_of_mem hq)
    rw [upd_ne n]
    exact w.ok q (List.mem_cons_of_mem _ hq)
theorem Wd.kext (w : Wd P H ((a, o) :: cs)) : Ext P (upd P a o) := Ext.new (w.ok _ List.mem_cons_self).2
/-- a new thing that never changes -/
theorem Wd.frz (w : Wd P H cs) (hp : H p = none) (o : HO) : Wd (upd P p o) (upd H p o) cs := (w.new hp o).keep
theorem Wd.fext (w : Wd P H cs) (hp : H p = none) (o : HO) : Ext P (upd P p o) := Ext.new (w.pnone hp)
theorem Wd.sublist {cs' : Cs} (w : Wd P H cs) (h : cs'.Sublist cs) : Wd P H cs' := ⟨w.sub, w.nd.sublist (h.map _), fun q hq => w.ok q (h.subset hq)⟩
theorem Wd.tl {c : Addr × HO} (w : Wd P H (c :: cs)) : Wd P H cs := w.sublist (List.sublist_cons_self _ _)
theorem Wd.perm {cs' : Cs} (w : Wd P H cs) (h : cs.Perm cs') : Wd P H cs' := ⟨w.sub, (h.map _).nodup_iff.mp w.nd, fun q hq => w.ok q (h.mem_iff.mpr hq)⟩
theorem perm_pull {α : Type} : ∀ (l : List α) (i : Nat) (x : α), l[i]? = some x → l.Perm (x :: l.eraseIdx i)
  | [], _, _, h => by simp at h
  | c :: r, 0, x, h => by
    have e : c = x := Option.some.inj h
    subst e
    exact List.Perm.refl _
  | c :: r, i + 1, x, h => ((perm_pull r i x h).cons c).trans (List.Perm.swap x c _)
theorem Wd.pull (w : Wd P H cs) (i : Nat) (h : cs[i]? = some (a, o)) : Wd P H ((a, o) :: cs.eraseIdx i) := w.perm (perm_pull cs i _ h)
/-- all is frozen that is there -/
theorem Wd.all (H : Hp) : Wd H H [] := ⟨Ext.refl H, List.nodup_nil, fun _ h => by cases h⟩
theorem Wd.sql {K : PySem.W.Frag} {xs : List V} (w : Wd P H cs) (h : SqL K P a xs) : SqL K H a xs := w.sub.sql h
theorem Wd.sqt {K : PySem.W.Frag} {xs : List V} (w : Wd P H cs) (h : SqT K P a xs) : SqT K H a xs := w.sub.sqt h
theorem Wd.lst {K : PySem.W.Frag} {xs : List V} (w : Wd P H cs) (h : P a = some (.lst xs)) : SqL K H a xs := .inl (.inl (w.sub _ _ h))
theorem Wd.tup {K : PySem.W.Frag} {xs : List V} (w : Wd P H cs) (h : P a = some (.tup xs)) : SqT K H a xs := .inl (.inl (w.sub _ _ h))
/-- a cell is lent: frozen for a while -/
def hid (P : Hp) (a : Addr) : Hp := fun b => if b = a then none else P b
theorem hid_same {P : Hp} {a : Addr} : hid P a a = none := by unfold hid; rw [if_pos rfl]
theorem hid_ne {P : Hp} {a b : Addr} (h : b ≠ a) : hid P a b = P b := by unfold hid; rw [if_neg h]
theorem Wd.unlend {P' : Hp} (w : Wd P' H cs) (h : P' a = some o) : Wd (hid P' a) H ((a, o) :: cs) where
  sub := fun b u e => by
    by_cases hb : b = a
    · subst hb
      rw [hid_same] at e
      cases e
    · rw [hid_ne hb] at e
      exact w.sub b u e
  nd := by
    refine List.nodup_cons.mpr ⟨fun hm => ?_, w.nd⟩
    obtain ⟨q, hq, e⟩ := List.mem_map.mp hm
    have := (w.ok q hq).2
    rw [show q.1 = a from e, h] at this
    cases this
  ok := fun q hq => by
    rcases List.mem_cons.mp hq with z | z
    · subst z
      exact ⟨w.sub _ _ h, hid_same⟩
    · refine ⟨(w.ok q z).1, ?_⟩
      have n : q.1 ≠ a := fun e => by
        have := (w.ok q z).2
        rw [e, h] at this
        cases this
      rw [hid_ne n]
      exact (w.ok q z).2
theorem Ext.unlend {P P' : Hp} (h : P a = none) (e : Ext (upd P a o) P') : Ext P (hid P' a) := fun b u q => by
  have hb : b ≠ a := ne_of_none q h
  rw [hid_ne hb]
  exact e b u (by rw [upd_ne hb]; exact q)
end
/-! ### data -/
section
variable {K : PySem.W.Frag} {P P' : Hp}
mutual
theorem dpm (e : Ext P P') : ∀ (d : PyData) (v : V), Dp K P v d → Dp K P' v d
  | .none, _, h => by cases h; exact .non
  | .bool b, _, h => by cases h; exact .bl b
  | .int i, _, h => by cases h; exact .int i
  | .str x, _, h => by cases h; exact .str x
  | .list ds, _, h => by
    cases h with
    | lst hs ha => exact .lst (e.sql hs) (dpmAll e ds _ ha)
  | .tuple ds, _, h => by
    cases h with
    | tup hs ha => exact .tup (e.sqt hs) (dpmAll e ds _ ha)
  | .dict _, _, h => by cases h
theorem dpmAll (e : Ext P P') : ∀ (ds : List PyData) (vs : List V), DpAll K P vs ds → DpAll K P' vs ds
  | [], _, h => by cases h; exact .nil
  | d :: ds, _, h => by
    cases h with
    | cons h1 h2 => exact .cons (dpm e d _ h1) (dpmAll e ds _ h2)
end
end
theorem Dp.mono {K : PySem.W.Frag} {P P' : Hp} {v : V} {d : PyData} (h : Dp K P v d) (e : Ext P P') : Dp K P' v d := dpm e d v h
theorem DpAll.mono {K : PySem.W.Frag} {P P' : Hp} {vs : List V} {ds : List PyData} (h : DpAll K P vs ds) (e : Ext P P') : DpAll K P' vs ds := dpmAll e ds vs h
end G
namespace G
open PySem PySem.Spec PyProof.Rows L2
abbrev cs (s : String) : List Nat := (Str.ofString s).cps.toList
def eS (t : List Nat) : PyData := .str ⟨⟨t⟩⟩
/-! ### tests -/
theorem iteB {b : Bool} {A B : Prop} (h1 : b = true → A) (h2 : b = false → B) : if b = true then A else B := by
  cases b with
  | true => rw [if_pos rfl]; exact h1 rfl
  | false => rw [if_neg Bool.false_ne_true]; exact h2 rfl
theorem ite_t {α : Type} {b : Bool} {x y : α} (h : b = true) : (if b = true then x else y) = x := if_pos h
theorem ite_f {α : Type} {b : Bool} {x y : α} (h : b = false) : (if b = true then x else y) = y := if_neg (by rw [h]; exact Bool.false_ne_true)
/-! ### operators over texts by their codes -/
section
variable {X : Cx}
theorem pe_strS {x : Str} {j : Nat} {pos : Pos} : PE X (.Constant (.str x) j pos) (tC (S x.cps.toList)) := pe_str
def rAdd : R2 := rI0 fun i j => .int (i + j)
def rSub : R2 := rI0 fun i j => .int (i - j)
def rMul : R2 := rI CMul fun i j => .int (i * j)
def rMod : R2 := rI (fun _ j => 0 < j) fun i j => .int (i % j)
def rDiv : R2 := rI CDiv fun i j => .int (i / j)
def rPow : R2 := rI CPow fun i j => .int (i ^ j.toNat)
def rLt : R2 := rI0 fun i j => .bl (decide (i < j))
def rLe : R2 := rI0 fun i j => .bl (decide (i ≤ j))
def rGt : R2 := rI0 fun i j => .bl (decide (j < i))
def rGe : R2 := rI0 fun i j => .bl (decide (j ≤ i))
theorem o_add : OpR X (binaryOp .Add) rAdd := op_add
theorem o_sub : OpR X (binaryOp .Sub) rSub := op_sub
theorem o_mul : OpR X (binaryOp .Mult) rMul := op_mul
theorem o_mod : OpR X (binaryOp .Mod) rMod := op_mod
theorem o_div : OpR X (binaryOp .FloorDiv) rDiv := op_fdiv
theorem o_pow : OpR X (binaryOp .Pow) rPow := op_pow
theorem o_lt : OpR X (compareOp .Lt) rLt := op_lt
theorem o_le : OpR X (compareOp .LtE) rLe := op_le
theorem o_gt : OpR X (compareOp .Gt) rGt := op_gt
theorem o_ge : OpR X (compareOp .GtE) rGe := op_ge
def rAddS : R2 := fun x y H Q => ∃ a b : List Nat, x = S a ∧ y = S b ∧ a.length + b.length ≤ sizeLine ∧ Q (S (a ++ b)) H
theorem S_app (a b : List Nat) : V.str ((⟨⟨a⟩⟩ : Str) ++ (⟨⟨b⟩⟩ : Str)) = S (a ++ b) := by
  show V.str ⟨(⟨a⟩ : Array Nat) ++ (⟨b⟩ : Array Nat)⟩ = V.str ⟨⟨a ++ b⟩⟩
  congr 2
  simp
theorem o_addS : OpR X (binaryOp .Add) rAddS := fun pins s σ H x y v u Q I rx ry h => by
  obtain ⟨a, b, rfl, rfl, hz, q⟩ := h
  exact op_add_str pins s σ H _ _ v u Q I rx ry ⟨_, _, rfl, rfl, hz, by rw [S_app]; exact q⟩
def rEqI : R2 := fun x y H Q => ∃ i j : Int, x = .int i ∧ y = .int j ∧ Q (.bl (decide (i = j))) H
def rNeI : R2 := fun x y H Q => ∃ i j : Int, x = .int i ∧ y = .int j ∧ Q (.bl (!decide (i = j))) H
def rEqB : R2 := fun x y H Q => ∃ i j : Bool, x = .bl i ∧ y = .bl j ∧ Q (.bl (decide (i = j))) H
def rNeB : R2 := fun x y H Q => ∃ i j : Bool, x = .bl i ∧ y = .bl j ∧ Q (.bl (!decide (i = j))) H
def rEqS : R2 := fun x y H Q => ∃ a b : List Nat, x = S a ∧ y = S b ∧ Q (.bl (decide (a = b))) H
def rNeS : R2 := fun x y H Q => ∃ a b : List Nat, x = S a ∧ y = S b ∧ Q (.bl (!decide (a = b))) H
theorem dI (i j : Int) : decide (V.int i = V.int j) = decide (i = j) := decide_eq_decide.mpr ⟨fun h => V.int.inj h, fun h => by rw [h]⟩
theorem dB (i j : Bool) : decide (V.bl i = V.bl j) = decide (i = j) := decide_eq_decide.mpr ⟨fun h => V.bl.inj h, fun h => by rw [h]⟩
theorem dS (i j : List Nat) : decide (S i = S j) = decide (i = j) := decide_eq_decide.mpr ⟨S_inj, fun h => by rw [h]⟩
theorem o_eqI : OpR X (compareOp .Eq) rEqI := fun pins s σ H x y v u Q I rx ry h => by
  obtain ⟨i, j, rfl, rfl, q⟩ := h
  exact op_eq pins s σ H _ _ v u Q I rx ry ⟨rfl, by rw [dI]; exact q⟩
theorem o_neI : OpR X (compareOp .NotEq) rNeI := fun pins s σ H x y v u Q I rx ry h => by
  obtain ⟨i, j, rfl, rfl, q⟩ := h
  exact op_ne pins s σ H _ _ v u Q I rx ry ⟨rfl, by rw [dI]; exact q⟩
theorem o_eqB : OpR X (compareOp .Eq) rEqB := fun pins s σ H x y v u Q I rx ry h => by
  obtain ⟨i, j, rfl, rfl, q⟩ := h
  exact op_eq pins s σ H _ _ v u Q I rx ry ⟨rfl, by rw [dB]; exact q⟩
theorem o_neB : OpR X (compareOp .NotEq) rNeB := fun pins s σ H x y v u Q I rx ry h => by
  obtain ⟨i, j, rfl, rfl, q⟩ := h
  exact op_ne pins s σ H _ _ v u Q I rx ry ⟨rfl, by rw [dB]; exact q⟩
theorem o_eqS : OpR X (compareOp .Eq) rEqS := fun pins s σ H x y v u Q I rx ry h => by
  obtain ⟨i, j, rfl, rfl, q⟩ := h
  exact op_eq pins s σ H _ _ v u Q I rx ry ⟨rfl, by rw [dS]; exact q⟩
theorem o_neS : OpR X (compareOp .NotEq) rNeS := fun pins s σ H x y v u Q I rx ry h => by
  obtain ⟨i, j, rfl, rfl, q⟩ := h
  exact op_ne pins s σ H _ _ v u Q I rx ry ⟨rfl, by rw [dS]; exact q⟩
/-- one sign in a text -/
def rInS : R2 := fun x y H Q => ∃ (c : Nat) (t : List Nat), x = S [c] ∧ y = S t ∧ Q (.bl (decide (c ∈ t))) H
def rNiS : R2 := fun x y H Q => ∃ (c : Nat) (t : List Nat), x = S [c] ∧ y = S t ∧ Q (.bl (!decide (c ∈ t))) H
theorem o_inS : OpR X (compareOp .In) rInS := fun pins s σ H x y v u Q I rx ry h => by
  obtain ⟨c, t, rfl, rfl, q⟩ := h
  exact op_in_sign pins s σ H _ _ v u Q I rx ry ⟨c, _, rfl, rfl, q⟩
theorem o_niS : OpR X (compareOp .NotIn) rNiS := fun pins s σ H x y v u Q I rx ry h => by
  obtain ⟨c, t, rfl, rfl, q⟩ := h
  exact op_notIn_sign pins s σ H _ _ v u Q I rx ry ⟨c, _, rfl, rfl, q⟩
/-- a text in a list or tuple of texts -/
theorem inV_S (t : List Nat) : ∀ ts : List (List Nat), inV (S t) (ts.map S) = decide (t ∈ ts)
  | [] => by simp [inV]
  | a :: r => by
    have ih := inV_S t r
    unfold inV at ih ⊢
    simp only [List.map_cons, List.any_cons, ih]
    rw [Bool.eq_iff_iff]
    have e : eqV (S a) (S t) = true ↔ a = t := by
      constructor
      · intro h
        simp [eqV, S] at h
        first | exact h | simpa using h
      · intro h
        subst h
        simp [eqV, S]
    have e2 : eqV (S t) (S a) = true ↔ a = t := by
      constructor
      · intro h
        simp [eqV, S] at h
        first | exact h.symm | (have := h; simp_all)
      · intro h
        subst h
        simp [eqV, S]
    simp only [Bool.or_eq_true, decide_eq_true_eq, List.mem_cons]
    constructor
    · rintro (h | h)
      · left; first | exact (e.mp h).symm | exact (e2.mp h).symm
      · right; exact h
    · rintro (h | h)
      · left; first | exact e.mpr h.symm | exact e2.mpr h.symm
      · right; exact h
theorem flat_S (ts : List (List Nat)) : (ts.map S).all flatV = true := by
  rw [List.all_eq_true]
  intro x hx
  obtain ⟨t, _, rfl⟩ := List.mem_map.mp hx
  rfl
def rInTS (K : PySem.W.Frag) : R2 := fun x y H Q => ∃ (t : List Nat) (a : Addr) (ts : List (List Nat)), x = S t ∧ y = .ref a ∧ (SqL K H a (ts.map S) ∨ SqT K H a (ts.map S)) ∧ Q (.bl (decide (t ∈ ts))) H
def rNiTS (K : PySem.W.Frag) : R2 := fun x y H Q => ∃ (t : List Nat) (a : Addr) (ts : List (List Nat)), x = S t ∧ y = .ref a ∧ (SqL K H a (ts.map S) ∨ SqT K H a (ts.map S)) ∧ Q (.bl (!decide (t ∈ ts))) H
theorem o_inTS : OpR X (compareOp .In) (rInTS X.K) := fun pins s σ H x y v u Q I rx ry h => by
  obtain ⟨t, a, ts, rfl, rfl, hs, q⟩ := h
  exact op_in_seq pins s σ H _ _ v u Q I rx ry ⟨a, _, rfl, hs, rfl, flat_S ts, by rw [inV_S]; exact q⟩
theorem o_niTS : OpR X (compareOp .NotIn) (rNiTS X.K) := fun pins s σ H x y v u Q I rx ry h => by
  obtain ⟨t, a, ts, rfl, rfl, hs, q⟩ := h
  exact op_notIn_seq pins s σ H _ _ v u Q I rx ry ⟨a, _, rfl, hs, rfl, flat_S ts, by rw [inV_S]; exact q⟩
/-! ### len, items, slices -/
def rLenS : List V → Hp → VK → Prop := fun xs H Q => ∃ t : List Nat, xs = [S t] ∧ t.length ≤ sizeLine ∧ Q (.int t.length) H
theorem c_lenS : CallR X (.builtin "len") rLenS := fun pins s σ H xs us Q I r h => by
  obtain ⟨t, rfl, hz, q⟩ := h
  exact call_len_str pins s σ H _ us Q I r ⟨_, rfl, hz, q⟩
def rLenL (K : PySem.W.Frag) : List V → Hp → VK → Prop := fun xs H Q => ∃ (p : Addr) (ys : List V), xs = [.ref p] ∧ (SqL K H p ys ∨ SqT K H p ys) ∧ Q (.int ys.length) H
theorem c_lenL : CallR X (.builtin "len") (rLenL X.K) := call_len_seq
def rIxT : R2 := fun x y H Q => ∃ (t : List Nat) (i : Int) (c : Nat), x = S t ∧ y = .int i ∧ t.length ≤ sizeLine ∧ atI t i = some c ∧ Q (S [c]) H
theorem i_str : IxR X rIxT := fun value slice pins s σ H x y v u Q I rx ry h hs => by
  obtain ⟨t, i, c, rfl, rfl, hz, ha, q⟩ := h
  exact ix_str value slice pins s σ H _ _ v u Q I rx ry ⟨_, i, c, rfl, rfl, hz, ha, q⟩ hs
theorem atI_getD {α : Type} {t : List α} {i : Int} {d : α} (h : 0 ≤ i ∧ i < t.length) : atI t i = some (t.getD i.toNat d) := by
  obtain ⟨n, rfl⟩ := Int.eq_ofNat_of_zero_le h.1
  have hl : n < t.length := by omega
  refine atI_nat ?_
  rw [Int.toNat_natCast, List.getElem?_eq_getElem hl]
  simp [List.getD, List.getElem?_eq_getElem hl]
theorem atI_mapD {α β : Type} {t : List α} {i : Int} {d : α} {f : α → β} (h : 0 ≤ i ∧ i < t.length) : atI (t.map f) i = some (f (t.getD i.toNat d)) := by
  obtain ⟨n, rfl⟩ := Int.eq_ofNat_of_zero_le h.1
  have hl : n < t.length := by omega
  refine atI_nat ?_
  rw [Int.toNat_natCast, List.getElem?_map, List.getElem?_eq_getElem hl]
  simp [List.getD, List.getElem?_eq_getElem hl]
theorem atI_lastD {t : List Nat} {d : Nat} (h : t ≠ []) : atI t (-1) = some (t.getLastD d) := by
  obtain ⟨r, x, rfl⟩ : ∃ r x, t = r ++ [x] := ⟨t.dropLast, t.getLast h, (List.dropLast_concat_getLast h).symm⟩
  rw [atI_last]
  simp
/-! ### isalpha, isdigit -/
def rAlpha : V → List V → Hp → VK → Prop := fun x xs H Q => ∃ t : List Nat, x = S t ∧ xs = [] ∧ Q (.bl (Txt.isalpha ⟨⟨t⟩⟩)) H
def rDigit : V → List V → Hp → VK → Prop := fun x xs H Q => ∃ t : List Nat, x = S t ∧ xs = [] ∧ Q (.bl (Txt.isdigit ⟨⟨t⟩⟩)) H
theorem m_alpha : MtR X "str.isalpha" rAlpha := fun pins s σ H x xs v us Q I rx rs h => by
  obtain ⟨t, rfl, rfl, q⟩ := h
  exact mt_isalpha pins s σ H _ _ v us Q I rx rs ⟨_, rfl, rfl, trivial, q⟩
theorem m_digit : MtR X "str.isdigit" rDigit := fun pins s σ H x xs v us Q I rx rs h => by
  obtain ⟨t, rfl, rfl, q⟩ := h
  exact mt_isdigit pins s σ H _ _ v us Q I rx rs ⟨_, rfl, rfl, trivial, q⟩
/-! ### join -/
def rJoin (K : PySem.W.Frag) : V → List V → Hp → VK → Prop := fun x xs H Q => ∃ (sep : List Nat) (p : Addr) (ts : List (List Nat)), x = S sep ∧ xs = [.ref p] ∧ (SqL K H p (ts.map S) ∨ SqT K H p (ts.map S)) ∧
  (ts.map List.length).sum + ts.length * sep.length ≤ 16777216 ∧ Q (S (TL.joinL sep ts)) H
theorem map_tl (ts : List (List Nat)) : (ts.map fun t => (⟨⟨t⟩⟩ : Str)).map TL.tl = ts := by
  rw [List.map_map]
  conv => rhs; rw [← List.map_id ts]
  rfl
theorem m_join : MtR X "str.join" (rJoin X.K) := fun pins s σ H x xs v us Q I rx rs h => by
  obtain ⟨sep, p, ts, rfl, rfl, hs, hz, q⟩ := h
  have e1 : ts.map S = (ts.map fun t => (⟨⟨t⟩⟩ : Str)).map V.str := by rw [List.map_map]; rfl
  have e2 : (ts.map fun t => (⟨⟨t⟩⟩ : Str)).map (·.length) = ts.map List.length := by rw [List.map_map]; rfl
  rw [e1] at hs
  refine mt_join pins s σ H _ _ v us Q I rx rs ⟨⟨⟨sep⟩⟩, p, ts.map fun t => (⟨⟨t⟩⟩ : Str), rfl, rfl, hs, ?_, ?_⟩
  · rw [e2, List.length_map]
    exact hz
  · have e3 : V.str (Txt.join ⟨⟨sep⟩⟩ (ts.map fun t => (⟨⟨t⟩⟩ : Str))) = S (TL.joinL sep ts) := by
      have := TL.tl_join ⟨⟨sep⟩⟩ (ts.map fun t => (⟨⟨t⟩⟩ : Str))
      rw [map_tl] at this
      rw [TL.join_eq]
      show S (TL.tl (Str.join ⟨⟨sep⟩⟩ (ts.map fun t => (⟨⟨t⟩⟩ : Str)))) = S (TL.joinL sep ts)
      rw [this]
    rw [e3]
    exact q
end
/-! ### data: opened -/
section
variable {K : PySem.W.Frag} {P : Hp} {v : V}
theorem dp_str {t : List Nat} (h : Dp K P v (eS t)) : v = S t := by cases h; rfl
theorem dp_int {i : Int} (h : Dp K P v (.int i)) : v = .int i := by cases h; rfl
theorem dp_bl {i : Bool} (h : Dp K P v (.bool i)) : v = .bl i := by cases h; rfl
theorem dp_non (h : Dp K P v .none) : v = .non := by cases h; rfl
theorem pd_str (t : List Nat) : Dp K P (S t) (eS t) := .str _
theorem pd_int (i : Int) : Dp K P (.int i) (.int i) := .int _
theorem pd_bl (i : Bool) : Dp K P (.bl i) (.bool i) := .bl _
theorem pd_non : Dp K P .non .none := .non
theorem dp_list {ds : List PyData} (h : Dp K P v (.list ds)) : ∃ a vs, v = .ref a ∧ SqL K P a vs ∧ DpAll K P vs ds := by
  cases h with
  | lst hs ha => exact ⟨_, _, rfl, hs, ha⟩
theorem dp_tup {ds : List PyData} (h : Dp K P v (.tuple ds)) : ∃ a vs, v = .ref a ∧ SqT K P a vs ∧ DpAll K P vs ds := by
  cases h with
  | tup hs ha => exact ⟨_, _, rfl, hs, ha⟩
theorem dpa_nil {vs : List V} (h : DpAll K P vs []) : vs = [] := by cases h; rfl
theorem dpa_cons {vs : List V} {d : PyData} {ds : List PyData} (h : DpAll K P vs (d :: ds)) : ∃ u us, vs = u :: us ∧ Dp K P u d ∧ DpAll K P us ds := by
  cases h with
  | cons h1 h2 => exact ⟨_, _, rfl, h1, h2⟩
theorem dp_tup2 {d1 d2 : PyData} (h : Dp K P v (.tuple [d1, d2])) : ∃ a v1 v2, v = .ref a ∧ SqT K P a [v1, v2] ∧ Dp K P v1 d1 ∧ Dp K P v2 d2 := by
  obtain ⟨a, vs, rfl, hs, ha⟩ := dp_tup h
  obtain ⟨v1, vs, rfl, h1, ha⟩ := dpa_cons ha
  obtain ⟨v2, vs, rfl, h2, ha⟩ := dpa_cons ha
  obtain rfl := dpa_nil ha
  exact ⟨a, v1, v2, rfl, hs, h1, h2⟩
theorem dp_tup3 {d1 d2 d3 : PyData} (h : Dp K P v (.tuple [d1, d2, d3])) : ∃ a v1 v2 v3, v = .ref a ∧ SqT K P a [v1, v2, v3] ∧ Dp K P v1 d1 ∧ Dp K P v2 d2 ∧ Dp K P v3 d3 := by
  obtain ⟨a, vs, rfl, hs, ha⟩ := dp_tup h
  obtain ⟨v1, vs, rfl, h1, ha⟩ := dpa_cons ha
  obtain ⟨v2, vs, rfl, h2, ha⟩ := dpa_cons ha
  obtain ⟨v3, vs, rfl, h3, ha⟩ := dpa_cons ha
  obtain rfl := dpa_nil ha
  exact ⟨a, v1, v2, v3, rfl, hs, h1, h2, h3⟩
theorem dp_tup4 {d1 d2 d3 d4 : PyData} (h : Dp K P v (.tuple [d1, d2, d3, d4])) : ∃ a v1 v2 v3 v4, v = .ref a ∧ SqT K P a [v1, v2, v3, v4] ∧ Dp K P v1 d1 ∧ Dp K P v2 d2 ∧ Dp K P v3 d3 ∧ Dp K P v4 d4 := by
  obtain ⟨a, vs, rfl, hs, ha⟩ := dp_tup h
  obtain ⟨v1, vs, rfl, h1, ha⟩ := dpa_cons ha
  obtain ⟨v2, vs, rfl, h2, ha⟩ := dpa_cons ha
  obtain ⟨v3, vs, rfl, h3, ha⟩ := dpa_cons ha
  obtain ⟨v4, vs, rfl, h4, ha⟩ := dpa_cons ha
  obtain rfl := dpa_nil ha
  exact ⟨a, v1, v2, v3, v4, rfl, hs, h1, h2, h3, h4⟩
/-- a list of scalars is known by its values -/
theorem dpa_map {α : Type} {f : α → V} {e : α → PyData} (hf : ∀ (v : V) (x : α), Dp K P v (e x) → v = f x) : ∀ {xs : List α} {vs : List V}, DpAll K P vs (xs.map e) → vs = xs.map f
  | [], _, h => dpa_nil h
  | x :: r, _, h => by
    obtain ⟨u, us, rfl, h1, h2⟩ := dpa_cons h
    rw [hf u x h1, dpa_map hf h2]
    rfl
theorem dpa_strs {ts : List (List Nat)} {vs : List V} (h : DpAll K P vs (ts.map eS)) : vs = ts.map S := dpa_map (fun _ _ h => dp_str h) h
theorem pda_map {α : Type} {f : α → V} {e : α → PyData} (hf : ∀ x : α, Dp K P (f x) (e x)) : ∀ xs : List α, DpAll K P (xs.map f) (xs.map e)
  | [] => .nil
  | x :: r => .cons (hf x) (pda_map hf r)
theorem pda_strs (ts : List (List Nat)) : DpAll K P (ts.map S) (ts.map eS) := pda_map (fun t => pd_str t) ts
theorem dpa_len : ∀ {ds : List PyData} {vs : List V}, DpAll K P vs ds → vs.length = ds.length
  | [], _, h => by rw [dpa_nil h]; rfl
  | d :: ds, _, h => by
    obtain ⟨u, us, rfl, h1, h2⟩ := dpa_cons h
    rw [List.length_cons, List.length_cons, dpa_len h2]
theorem dpa_app : ∀ {ds es : List PyData} {vs us : List V}, DpAll K P vs ds → DpAll K P us es → DpAll K P (vs ++ us) (ds ++ es)
  | [], _, _, _, h, h' => by
    rw [dpa_nil h]
    exact h'
  | d :: ds, _, _, _, h, h' => by
    obtain ⟨u, us, rfl, h1, h2⟩ := dpa_cons h
    exact .cons h1 (dpa_app h2 h')
theorem dpa_one {d : PyData} (h : Dp K P v d) : DpAll K P [v] [d] := .cons h .nil
theorem dpa_get {α : Type} {e : α → PyData} : ∀ {xs : List α} {vs : List V} {i : Nat} {v : V}, DpAll K P vs (xs.map e) → vs[i]? = some v → ∃ x, xs[i]? = some x ∧ Dp K P v (e x) ∧ xs.drop i = x :: xs.drop (i + 1)
  | [], _, i, v, h, hi => by
    rw [dpa_nil h] at hi
    simp at hi
  | x :: r, _, 0, v, h, hi => by
    obtain ⟨u, us, rfl, h1, h2⟩ := dpa_cons h
    cases hi
    exact ⟨x, rfl, h1, rfl⟩
  | x :: r, _, i + 1, v, h, hi => by
    obtain ⟨u, us, rfl, h1, h2⟩ := dpa_cons h
    exact dpa_get (xs := r) (vs := us) (i := i) (v := v) h2 hi
theorem dpa_at {α : Type} {e : α → PyData} {xs : List α} {vs : List V} {i : Int} {d : α} (h : DpAll K P vs (xs.map e)) (hi : 0 ≤ i ∧ i < xs.length) : ∃ v, atI vs i = some v ∧ Dp K P v (e (xs.getD i.toNat d)) := by
  obtain ⟨n, rfl⟩ := Int.eq_ofNat_of_zero_le hi.1
  have hl : n < xs.length := by omega
  have hl2 : n < vs.length := by rw [dpa_len h, List.length_map]; exact hl
  obtain ⟨x, hx, hd, _⟩ := dpa_get (i := n) h (List.getElem?_eq_getElem hl2)
  refine ⟨_, atI_nat (List.getElem?_eq_getElem hl2), ?_⟩
  rw [Int.toNat_natCast]
  have : xs.getD n d = x := by
    rw [List.getD, hx]
    rfl
  rw [this]
  exact hd
end
theorem get_map {α : Type} {f : α → V} : ∀ {xs : List α} {i : Nat} {v : V}, (xs.map f)[i]? = some v → ∃ x, xs[i]? = some x ∧ v = f x ∧ xs.drop i = x :: xs.drop (i + 1)
  | [], _, _, h => by simp at h
  | x :: r, 0, v, h => ⟨x, rfl, (Option.some.inj h).symm, rfl⟩
  | x :: r, i + 1, v, h => get_map (xs := r) (i := i) (v := v) h
theorem get_drop {α : Type} : ∀ {xs : List α} {i : Nat} {v : α}, xs[i]? = some v → xs.drop i = v :: xs.drop (i + 1)
  | [], _, _, h => by simp at h
  | x :: r, 0, v, h => by
    have e : x = v := Option.some.inj h
    subst e
    rfl
  | x :: r, i + 1, v, h => get_drop (xs := r) (i := i) (v := v) h
theorem sz {n : Nat} (h : n ≤ 1000000) : n ≤ sizeLine := Nat.le_trans h (by decide)
theorem szl {n : Nat} (h : n < 1000000) : n < sizeLine := Nat.lt_of_lt_of_le h (by decide)
end G
namespace G
open PySem PySem.Spec PyProof.Rows L2
section
variable {X : Cx}
abbrev rIxT1 : R2 := rIxT
def rLenM (K : PySem.W.Frag) : List V → Hp → VK → Prop := fun xs H Q => ∃ (p : Addr) (ys : List V) (n : Nat), xs = [.ref p] ∧ SqL K H p ys ∧ ys.length = n ∧ Q (.int n) H
theorem c_lenM : CallR X (.builtin "len") (rLenM X.K) := fun pins s σ H xs us Q I r h => by
  obtain ⟨p, ys, n, rfl, hs, rfl, q⟩ := h
  exact call_len_seq pins s σ H _ us Q I r ⟨p, ys, rfl, .inl hs, q⟩
def rInt : List V → Hp → VK → Prop := fun xs H Q => (∃ i, xs = [.int i] ∧ Q (.int i) H) ∨ ∃ k, xs = [.bl k] ∧ Q (.int (if k then 1 else 0)) H
theorem c_int : CallR X (.type "int") rInt := call_int1
end
/-- a def of the module, by its promise -/
structure Cal (P : Program) (w : World) (K : PySem.W.Frag) (mg : Str → Option Value) (base : Heap) (k : Nat) (x : Str) (sp : Sp) : Prop where
  ex : ∃ (f : Addr) (fd : FuncData) (ps : List Str), FnOk P w K mg base CX0 k f fd ps sp ∧ mg x = some (.ref f) ∧ PySem.W.keepIn K (.ref f) = true ∧ Binds K fd ps []
section
variable {X : Cx}
theorem pe_c {k j : Nat} {x : Str} {sp : Sp} {p pos : Pos} {e : Expr} {es : List Expr} {t : TA} (c : Cal X.prog X.w X.K X.mg X.base k x sp) (hr : Room j X.A) (hk : k ≤ j) (hg : Gl X x) (ha : PA X (e :: es) t)
    (hdb : (x == ("__debug__" : Str)) = false := by decide) (he : starEach (e :: es) X.env = (false, eval e X.env) :: starEach es X.env := by rfl) (hpl : (backTo pos (starEach es X.env)).any (·.1) = false := by rfl) :
    PE X (.Call (.Name x p) (e :: es) [] pos) (tCall sp [] E0 t) := by
  obtain ⟨f, fd, ps, F, hm, kp, b⟩ := c.ex
  exact pe_call F (hr.mono hk) hg hm kp b .nil pass0 ha hdb he hpl
theorem pe_c0 {k j : Nat} {x : Str} {sp : Sp} {p pos : Pos} (c : Cal X.prog X.w X.K X.mg X.base k x sp) (hr : Room j X.A) (hk : k ≤ j) (hg : Gl X x) (hdb : (x == ("__debug__" : Str)) = false := by decide) : PE X (.Call (.Name x p) [] [] pos) (tCall sp [] E0 tNil) := by
  obtain ⟨f, fd, ps, F, hm, kp, b⟩ := c.ex
  exact pe_call0 F (hr.mono hk) hg hm kp b .nil pass0 hdb
def rMulS : R2 := fun x y H Q => ∃ (a : List Nat) (n : Int), x = S a ∧ y = .int n ∧ (0 ≤ n ∧ n ≤ 1000) ∧ a.length * n.toNat ≤ sizeLine ∧ Q (S (List.replicate n.toNat a).flatten) H
end
theorem q_cutM {D : Ends} {σ : L2.St} {H : Hp} {tu tz : TS} (M : L2.St → Hp → Prop) (h : tu { D with nx := M } σ H) (k : ∀ σ' H', M σ' H' → tz D σ' H') : Evl.tCut tu tz D σ H := ⟨M, h, k⟩
/-! ### turns -/
theorem range_drop {n i : Nat} (h : i < n) : (List.range n).drop i = i :: (List.range n).drop (i + 1) := get_drop (by
  rw [List.getElem?_eq_getElem (by rw [List.length_range]; exact h)]
  simp)
theorem drop_range_all {n : Nat} : (List.range n).drop n = [] := List.drop_of_length_le (by rw [List.length_range]; exact Nat.le_refl _)
theorem take_range_all {n : Nat} : (List.range n).take n = List.range n := List.take_of_length_le (by rw [List.length_range]; exact Nat.le_refl _)
theorem str_drop {t : List Nat} {i c : Nat} (h : ((⟨⟨t⟩⟩ : Str).cps)[i]? = some c) : t.drop i = c :: t.drop (i + 1) := get_drop (by simpa using h)
theorem str_mem {t : List Nat} {i c : Nat} (h : ((⟨⟨t⟩⟩ : Str).cps)[i]? = some c) : c ∈ t := List.mem_of_getElem? (l := t) (i := i) (by simpa using h)
theorem drop_str_all {t : List Nat} : t.drop (⟨⟨t⟩⟩ : Str).cps.size = [] := List.drop_of_length_le (Nat.le_refl _)
theorem take_str_all {t : List Nat} : t.take (⟨⟨t⟩⟩ : Str).cps.size = t := List.take_of_length_le (Nat.le_refl _)
theorem str_bnd {t : List Nat} {n : Nat} (h : t.length ≤ n) : (⟨⟨t⟩⟩ : Str).cps.size ≤ n := h
section
variable {K : PySem.W.Frag} {P : Hp} {vs : List V} {α : Type} {e : α → PyData} {xs : List α}
theorem drop_dpa_all (h : DpAll K P vs (xs.map e)) : xs.drop vs.length = [] := List.drop_of_length_le (by rw [dpa_len h, List.length_map]; exact Nat.le_refl _)
theorem take_dpa_all (h : DpAll K P vs (xs.map e)) : xs.take vs.length = xs := List.take_of_length_le (by rw [dpa_len h, List.length_map]; exact Nat.le_refl _)
theorem dpa_bnd {n : Nat} (h : DpAll K P vs (xs.map e)) (hn : xs.length ≤ n) : vs.length ≤ n := by
  rw [dpa_len h, List.length_map]
  exact hn
theorem dpa_snoc {v : V} {x : α} (h : DpAll K P vs (xs.map e)) (hx : Dp K P v (e x)) : DpAll K P (vs ++ [v]) ((xs ++ [x]).map e) := by
  rw [List.map_append]
  exact dpa_app h (dpa_one hx)
end
section
variable {α β : Type} {xs : List α} {i : Nat} {x : α} {f : α → β} {p : α → Bool}
theorem take_snoc (h : xs.drop i = x :: xs.drop (i + 1)) : xs.take (i + 1) = xs.take i ++ [x] := by
  have hl : i < xs.length := by
    have := congrArg List.length h
    simp only [List.length_drop, List.length_cons] at this
    omega
  have hx : xs[i]? = some x := by
    have := congrArg List.head? h
    rw [List.head?_drop] at this
    exact this
  rw [List.take_add_one, hx]
  rfl
theorem take_snoc_map (h : xs.drop i = x :: xs.drop (i + 1)) : (xs.take (i + 1)).map f = (xs.take i).map f ++ [f x] := by
  rw [take_snoc h, List.map_append]
  rfl
theorem take_snoc_filter (h : xs.drop i = x :: xs.drop (i + 1)) (hp : p x = true) : ((xs.take (i + 1)).filter p).map f = ((xs.take i).filter p).map f ++ [f x] := by
  rw [take_snoc h, List.filter_append, List.map_append, List.filter_cons, if_pos hp]
  rfl
theorem take_snoc_filter_no (h : xs.drop i = x :: xs.drop (i + 1)) (hp : p x = false) : ((xs.take (i + 1)).filter p).map f = ((xs.take i).filter p).map f := by
  rw [take_snoc h, List.filter_append, List.map_append, List.filter_cons, if_neg (by rw [hp]; exact Bool.false_ne_true)]
  simp
theorem len_tm : ((xs.take i).map f).length ≤ i := by
  rw [List.length_map, List.length_take]
  exact Nat.min_le_left _ _
theorem len_tf : (((xs.take i).filter p).map f).length ≤ i := by
  rw [List.length_map]
  refine Nat.le_trans (List.length_filter_le _ _) ?_
  rw [List.length_take]
  exact Nat.min_le_left _ _
end
theorem sum_le {ts : List (List Nat)} {c : Nat} (h : ∀ t ∈ ts, t.length ≤ c) : (ts.map List.length).sum ≤ ts.length * c := by
  induction ts with
  | nil => simp
  | cons t r ih =>
    rw [List.map_cons, List.sum_cons, List.length_cons, Nat.succ_mul]
    have h1 := h t List.mem_cons_self
    have h2 := ih fun u hu => h u (List.mem_cons_of_mem _ hu)
    omega
theorem join_ok {ts : List (List Nat)} {sep : List Nat} (n c : Nat) (h : ∀ t ∈ ts, t.length ≤ c) (hn : ts.length ≤ n) (hb : n * (c + sep.length) ≤ 16777216) : (ts.map List.length).sum + ts.length * sep.length ≤ 16777216 := by
  have h1 := sum_le h
  have h2 : ts.length * c + ts.length * sep.length ≤ n * (c + sep.length) := by
    rw [← Nat.mul_add]
    exact Nat.mul_le_mul_right _ hn
  omega
theorem one_map {xs : List Nat} : ∀ t ∈ xs.map (fun c => ([c] : List Nat)), t.length ≤ 1 := fun t ht => by
  obtain ⟨c, _, rfl⟩ := List.mem_map.mp ht
  exact Nat.le_refl _
theorem joinL_nil : ∀ ts : List (List Nat), TL.joinL [] ts = ts.flatten
  | [] => rfl
  | [t] => by simp [TL.joinL]
  | t :: u :: r => by
    have ih := joinL_nil (u :: r)
    show t ++ ([] ++ TL.joinL [] (u :: r)) = (t :: u :: r).flatten
    rw [ih]
    rfl
/-! ### the draws -/
structure Box where
  i : Nat
  acc : Int
  seed : Int
def boxO (l : Addr) (b : Box) : HO := .lst [.ref l, .int b.i, .int b.acc, .int b.seed]
def take1 (ns : List Int) (b : Box) : Box :=
  if (decide (b.acc < 2) && decide ((b.i : Int) < ns.length)) = true then
    { i := b.i + 1, seed := (b.seed * 48271 + ns.getD b.i 0 % 2147483629 * 69621 + 11) % 2147483647, acc := if decide (10 ^ 18 ≤ ns.getD b.i 0) = true then ns.getD b.i 0 - 10 ^ 18 else b.acc }
  else b
def m_take (ns : List Int) (b : Box) (n : Int) : Int × Box :=
  if decide (1 < (take1 ns b).acc) = true then ((take1 ns b).acc % n, { take1 ns b with acc := (take1 ns b).acc / n })
  else (((take1 ns b).seed * 48271 + 12345) % 2147483647 / 2048 % n, { take1 ns b with seed := ((take1 ns b).seed * 48271 + 12345) % 2147483647 })
theorem take_rng (ns : List Int) (b : Box) {n : Int} (h : 0 < n) : 0 ≤ (m_take ns b n).1 ∧ (m_take ns b n).1 < n := by
  unfold m_take
  split
  · exact ⟨Int.emod_nonneg _ (by omega), Int.emod_lt_of_pos _ h⟩
  · exact ⟨Int.emod_nonneg _ (by omega), Int.emod_lt_of_pos _ h⟩
end G
namespace G
open PySem PySem.Spec PyProof.Rows L2
/-! ### _law_take: its reading -/
abbrev ixB (K : PySem.W.Frag) (i : Int) : TE := tOp (rIxL K) (tVar 0) (tC (V.int i))
def tTakeR (K : PySem.W.Frag) : TS :=
  tSeq (tIfS (tAnd (tTest (tOp rLt (ixB K 2) (tC (V.int 2)))) (tTest (tOp rLt (ixB K 1) (tCB (rLenL K) (tCons (ixB K 0) tNil)))))
    (tSeq (tAsg (tOp (rIxL K) (ixB K 0) (ixB K 1)) (gName 2))
    (tSeq (tAsg (tOp rAdd (ixB K 1) (tC (V.int 1))) (gSub (tVar 0) (tC (V.int 1)) rSetL))
    (tSeq (tAsg (tOp rMod (tCB rInt (tCons (tOp rAdd (tOp rAdd (tOp rMul (ixB K 3) (tC (V.int 48271))) (tOp rMul (tOp rMod (tCB rInt (tCons (tVar 2) tNil)) (tC (V.int 2147483629))) (tC (V.int 69621)))) (tC (V.int 11))) tNil)) (tC (V.int 2147483647))) (gSub (tVar 0) (tC (V.int 3)) rSetL))
    (tIfS (tTest (tOp rGe (tVar 2) (tOp rPow (tC (V.int 10)) (tC (V.int 18))))) (tAsg (tOp rSub (tVar 2) (tOp rPow (tC (V.int 10)) (tC (V.int 18)))) (gSub (tVar 0) (tC (V.int 2)) rSetL)) tNext)))) tNext)
  (tSeq (tIfS (tTest (tOp rGt (ixB K 2) (tC (V.int 1))))
    (tSeq (tAsg (tOp rMod (tCB rInt (tCons (ixB K 2) tNil)) (tVar 1)) (gName 3))
    (tSeq (tAsg (tOp rDiv (ixB K 2) (tVar 1)) (gSub (tVar 0) (tC (V.int 2)) rSetL)) (tRet (tVar 3)))) tNext)
  (tSeq (tAsg (tOp rMod (tCB rInt (tCons (tOp rAdd (tOp rMul (ixB K 3) (tC (V.int 48271))) (tC (V.int 12345))) tNil)) (tC (V.int 2147483647))) (gSub (tVar 0) (tC (V.int 3)) rSetL))
  (tRet (tOp rMod (tCB rInt (tCons (tOp rDiv (ixB K 3) (tC (V.int 2048))) tNil)) (tVar 1)))))
def takeE (b : Box) (n : Int) : Int × Box := if decide (1 < b.acc) = true then (b.acc % n, { b with acc := b.acc / n }) else ((b.seed * 48271 + 12345) % 2147483647 / 2048 % n, { b with seed := (b.seed * 48271 + 12345) % 2147483647 })
section
variable {K : PySem.W.Frag}
/-- the rest of _law_take, once the first if is behind -/
theorem take_rest {P H : Hp} {cs0 : Cs} {a l : Addr} {b : Box} {n : Int} {Q : VK} {x : Option V} (w : Wd P H ((a, boxO l b) :: cs0)) (n0 : 0 < n) (n1 : n < 1000000)
    (q : ∀ H1, Wd P H1 ((a, boxO l (takeE b n).2) :: cs0) →
      Q (.int (takeE b n).1) H1) :
    (tSeq (tIfS (tTest (tOp rGt (ixB K 2) (tC (V.int 1))))
    (tSeq (tAsg (tOp rMod (tCB rInt (tCons (ixB K 2) tNil)) (tVar 1)) (gName 3))
    (tSeq (tAsg (tOp rDiv (ixB K 2) (tVar 1)) (gSub (tVar 0) (tC (V.int 2)) rSetL)) (tRet (tVar 3)))) tNext)
  (tSeq (tAsg (tOp rMod (tCB rInt (tCons (tOp rAdd (tOp rMul (ixB K 3) (tC (V.int 48271))) (tC (V.int 12345))) tNil)) (tC (V.int 2147483647))) (gSub (tVar 0) (tC (V.int 3)) rSetL))
  (tRet (tOp rMod (tCB rInt (tCons (tOp rDiv (ixB K 3) (tC (V.int 2048))) tNil)) (tVar 1))))) { nx := fun _ H1 => Q .non H1, rt := Q } [some (.ref a), some (.int n), x, none] H := by
  refine ⟨_, rfl, a, _, 2, _, rfl, rfl, .inl (.inl w.hd), rfl, _, _, rfl, rfl, _, rfl, ?_⟩
  refine iteB (fun hb => ?_) (fun hb => ?_)
  · have eE : takeE b n = (b.acc % n, { b with acc := b.acc / n }) := by unfold takeE; rw [if_pos hb]
    rw [eE] at q
    refine ⟨_, rfl, a, _, 2, _, rfl, rfl, .inl (.inl w.hd), rfl, ?_⟩
    refine Or.inl ⟨_, rfl, _, rfl, _, _, rfl, rfl, n0, ?_⟩
    refine ⟨_, rfl, a, _, 2, _, rfl, rfl, .inl (.inl w.hd), rfl, _, rfl, _, _, rfl, rfl, ⟨n0, by omega⟩, _, rfl, a, _, 2, 2, rfl, rfl, w.hd, rfl, _, rfl, ?_⟩
    exact q _ (w.put 0 _ rfl)
  · have eE : takeE b n = ((b.seed * 48271 + 12345) % 2147483647 / 2048 % n, { b with seed := (b.seed * 48271 + 12345) % 2147483647 }) := by unfold takeE; rw [if_neg (by rw [show decide (1 < b.acc) = false from hb]; exact Bool.false_ne_true)]
    rw [eE] at q
    refine ⟨_, rfl, a, _, 3, _, rfl, rfl, .inl (.inl w.hd), rfl, _, _, rfl, rfl, .inr ⟨by decide, by decide⟩, _, _, rfl, rfl, ?_⟩
    refine Or.inl ⟨_, rfl, _, _, rfl, rfl, (by decide : (0 : Int) < 2147483647), _, rfl, a, _, 3, 3, rfl, rfl, w.hd, rfl, ?_⟩
    have w2 := w.put 0 (boxO l { b with seed := (b.seed * 48271 + 12345) % 2147483647 }) rfl
    refine ⟨_, rfl, a, _, 3, _, rfl, rfl, .inl (.inl w2.hd), rfl, _, _, rfl, rfl, ⟨by decide, by decide⟩, ?_⟩
    refine Or.inl ⟨_, rfl, _, rfl, _, _, rfl, rfl, n0, ?_⟩
    exact q _ w2
theorem rd_takeR {P H : Hp} {cs0 : Cs} {a l : Addr} {ns : List Int} {b : Box} {n : Int} {Q : VK} (w : Wd P H ((a, boxO l b) :: cs0)) (hl : SqL K P l (ns.map V.int)) (n0 : 0 < n) (n1 : n < 1000000)
    (q : ∀ H1, Wd P H1 ((a, boxO l (m_take ns b n).2) :: cs0) → Q (.int (m_take ns b n).1) H1) : tTakeR K { nx := fun _ H1 => Q .non H1, rt := Q } [some (.ref a), some (.int n), none, none] H := by
  have em : m_take ns b n = takeE (take1 ns b) n := rfl
  rw [em] at q
  have hB : ∀ Q' : Bool → Hp → Prop, Q' (decide (b.acc < 2) && decide ((b.i : Int) < ns.length)) H → (tAnd (tTest (tOp rLt (ixB K 2) (tC (V.int 2)))) (tTest (tOp rLt (ixB K 1) (tCB (rLenL K) (tCons (ixB K 0) tNil))))) [some (.ref a), some (.int n), none, none] H Q' := by
    intro Q' hQ
    refine ⟨_, rfl, a, _, 2, _, rfl, rfl, .inl (.inl w.hd), rfl, _, _, rfl, rfl, _, rfl, ?_⟩
    refine iteB (fun h1 => ?_) (fun h1 => ?_)
    · rw [h1, Bool.true_and] at hQ
      refine ⟨_, rfl, a, _, 1, _, rfl, rfl, .inl (.inl w.hd), rfl, _, rfl, a, _, 0, _, rfl, rfl, .inl (.inl w.hd), rfl, l, _, rfl, .inl (w.sql hl), _, _, rfl, rfl, _, rfl, ?_⟩
      rw [List.length_map]
      exact hQ
    · rw [h1, Bool.false_and] at hQ
      exact hQ
  refine hB _ ?_
  refine iteB (fun h1 => ?_) (fun h1 => ?_)
  · have e1 : take1 ns b = { i := b.i + 1, seed := (b.seed * 48271 + ns.getD b.i 0 % 2147483629 * 69621 + 11) % 2147483647, acc := if decide (10 ^ 18 ≤ ns.getD b.i 0) = true then ns.getD b.i 0 - 10 ^ 18 else b.acc } := by
      unfold take1
      rw [if_pos h1]
    rw [e1] at q
    rw [Bool.and_eq_true, decide_eq_true_eq, decide_eq_true_eq] at h1
    have hat : atI (ns.map V.int) (b.i : Int) = some (V.int (ns.getD b.i 0)) := by
      have := atI_mapD (t := ns) (i := (b.i : Int)) (d := 0) (f := V.int) ⟨by omega, h1.2⟩
      rw [Int.toNat_natCast] at this
      exact this
    refine ⟨_, rfl, a, _, 0, _, rfl, rfl, .inl (.inl w.hd), rfl, _, rfl, a, _, 1, _, rfl, rfl, .inl (.inl w.hd), rfl, l, _, _, _, rfl, rfl, w.sql hl, hat, ?_⟩
    refine ⟨_, rfl, a, _, 1, _, rfl, rfl, .inl (.inl w.hd), rfl, _, _, rfl, rfl, _, rfl, a, _, 1, 1, rfl, rfl, w.hd, rfl, ?_⟩
    have w2 := w.put 0 (boxO l { b with i := b.i + 1 }) rfl
    have w2' : Wd P (upd H a (HO.lst [.ref l, .int ((b.i : Int) + 1), .int b.acc, .int b.seed])) ((a, boxO l { b with i := b.i + 1 }) :: cs0) := w2
    refine ⟨_, rfl, a, _, 3, _, rfl, rfl, .inl (.inl w2'.hd), rfl, _, _, rfl, rfl, .inr ⟨by decide, by decide⟩, _, rfl, ?_⟩
    refine Or.inl ⟨_, rfl, _, _, rfl, rfl, (by decide : (0 : Int) < 2147483629), _, _, rfl, rfl, .inr ⟨by decide, by decide⟩, _, _, rfl, rfl, _, _, rfl, rfl, ?_⟩
    refine Or.inl ⟨_, rfl, _, _, rfl, rfl, (by decide : (0 : Int) < 2147483647), _, rfl, a, _, 3, 3, rfl, rfl, w2'.hd, rfl, ?_⟩
    have w3 := w2'.put 0 (boxO l { i := b.i + 1, acc := b.acc, seed := (b.seed * 48271 + ns.getD b.i 0 % 2147483629 * 69621 + 11) % 2147483647 }) rfl
    refine ⟨_, rfl, _, _, rfl, rfl, ⟨by decide, by decide, by decide⟩, _, _, rfl, rfl, _, rfl, ?_⟩
    refine iteB (fun h2 => ?_) (fun h2 => ?_)
    · have h2' : decide ((10 : Int) ^ 18 ≤ ns.getD b.i 0) = true := h2
      rw [h2', if_pos rfl] at q
      refine ⟨_, rfl, _, _, rfl, rfl, ⟨by decide, by decide, by decide⟩, _, _, rfl, rfl, _, rfl, a, _, 2, 2, rfl, rfl, w3.hd, rfl, ?_⟩
      have w4 := w3.put 0 (boxO l { i := b.i + 1, acc := ns.getD b.i 0 - 10 ^ 18, seed := (b.seed * 48271 + ns.getD b.i 0 % 2147483629 * 69621 + 11) % 2147483647 }) rfl
      exact take_rest w4 n0 n1 q
    · have h2' : decide ((10 : Int) ^ 18 ≤ ns.getD b.i 0) = false := h2
      rw [h2', if_neg Bool.false_ne_true] at q
      exact take_rest w3 n0 n1 q
  · have e1 : take1 ns b = b := by
      unfold take1
      rw [if_neg (by rw [h1]; exact Bool.false_ne_true)]
    rw [e1] at q
    exact take_rest w n0 n1 q
end
/-! ### _law_box: its reading -/
def absL (ns : List Int) : List Int := (cutT0 ns).map fun i => if i < 0 then -i else i
where cutT0 (ns : List Int) : List Int := ns.take 63
def box0 : Box := ⟨0, 1, 7⟩
def tBoxR (K : PySem.W.Frag) : TS :=
  tRet (tLst (tCons (tLc (iList K (tSl (rSlL K) (tVar 0) tNoPart (tPart (tC (V.int 63))))) (gName 1) tYes (tCB (fun xs H Q => ∃ i, xs = [.int i] ∧ Q (.int (if i < 0 then -i else i)) H) (tCons (tVar 1) tNil)) [1]) (tCons (tC (V.int 0)) (tCons (tC (V.int 1)) (tCons (tC (V.int 7)) tNil)))))
theorem cut63 (ns : List Int) (h : ns.length ≤ 63) : cutV (ns.map V.int) none (some 63) = ns.map V.int := by
  unfold cutV
  rw [HT.sIx_none, List.drop_zero]
  refine List.take_of_length_le ?_
  rw [Nat.sub_zero, List.length_map]
  rw [show HT.sIx ns.length ns.length (some 63) = min 63 ns.length from HT.sIx_nat ns.length ns.length 63]
  omega
theorem rd_boxR {K : PySem.W.Frag} {P H : Hp} {cs0 : Cs} {a : Addr} {ns : List Int} {Q : VK} (w : Wd P H cs0) (hl : SqL K P a (ns.map V.int)) (hlen : ns.length ≤ 63)
    (q : ∀ (H1 P1 : Hp) (p l : Addr), Ext P P1 → Wd P1 H1 ((p, boxO l box0) :: cs0) → SqL K P1 l ((absL ns).map V.int) → Q (.ref p) H1) : tBoxR K { nx := fun _ H1 => Q .non H1, rt := Q } [some (.ref a), none] H := by
  refine ⟨_, rfl, 63, rfl, a, _, rfl, w.sql hl, fun c nc => ?_⟩
  rw [cut63 ns hlen]
  have w1 := w.frz nc (HO.lst (ns.map V.int))
  have e1 := w.fext nc (HO.lst (ns.map V.int))
  have hc : (upd P c (HO.lst (ns.map V.int))) c = some (HO.lst (ns.map V.int)) := upd_same
  generalize upd H c (HO.lst (ns.map V.int)) = H2 at w1 ⊢
  generalize upd P c (HO.lst (ns.map V.int)) = P2 at w1 e1 hc
  refine ⟨c, rfl, ⟨_, w1.lst hc⟩, fun D nD => ?_⟩
  refine lc_it (walk_list (K := K) (a := c) (xs := ns.map V.int)) (fun i H1 => Wd P2 H1 ((D, HO.lst (((ns.take i).map fun i => if i < 0 then -i else i).map V.int)) :: cs0)) (w1.new nD _) (fun i H1 _ w2 => w2.lst hc) ?_ ?_
  · rintro i x H1 H3 hi w2 y
    obtain ⟨eH, hx⟩ := y
    rw [eH]
    obtain ⟨z, hz, rfl, eD⟩ := get_map hx
    refine ⟨rfl, ?_⟩
    refine ⟨_, rfl, _, rfl, _, w2.hd, ?_, ?_⟩
    · rw [List.length_map, List.length_map, List.length_take]
      exact szl (by omega)
    · have w3 := w2.put 0 (HO.lst (((ns.take i).map fun i => if i < 0 then -i else i).map V.int ++ [V.int (if z < 0 then -z else z)])) rfl
      have e2 : ((ns.take (i + 1)).map fun i => if i < 0 then -i else i).map V.int = ((ns.take i).map fun i => if i < 0 then -i else i).map V.int ++ [V.int (if z < 0 then -z else z)] := by
        rw [take_snoc_map eD, List.map_append]
        rfl
      show Wd P2 _ ((D, HO.lst (((ns.take (i + 1)).map fun i => if i < 0 then -i else i).map V.int)) :: cs0)
      rw [e2]
      exact w3
  · rintro H3 w2
    rw [List.length_map, List.take_of_length_le (Nat.le_refl _)] at w2
    have w3 := w2.keep
    have e3 := w2.kext
    have hD : (upd P2 D (HO.lst ((ns.map fun i => if i < 0 then -i else i).map V.int))) D = some (HO.lst ((ns.map fun i => if i < 0 then -i else i).map V.int)) := upd_same
    generalize upd P2 D (HO.lst ((ns.map fun i => if i < 0 then -i else i).map V.int)) = P3 at w3 e3 hD
    refine ⟨(by show 4 ≤ sizeLine; decide), fun p np => ?_⟩
    refine q _ P3 p D (e1.trans e3) (w3.new np _) (.inl (.inl ?_))
    unfold absL absL.cutT0
    rw [List.take_of_length_le hlen]
    exact hD
theorem snoc_all {α : Type} {p : α → Prop} {l : List α} {x : α} (h : ∀ t ∈ l, p t) (hx : p x) : ∀ t ∈ l ++ [x], p t := fun t ht => by
  rcases List.mem_append.mp ht with z | z
  · exact h t z
  · rw [List.mem_singleton.mp z]; exact hx
section
variable {X : Cx}
theorem pe_gc {x : Str} {v : V} {pos : Pos} (hg : Gl X x) (h : ∃ u, X.mg x = some u ∧ RelV v u) (hd : (x == ("__debug__" : Str)) = false := by decide) : PE X (.Name x pos) (tC v) := by
  obtain ⟨u, h1, h2⟩ := h
  exact pe_glob hg h1 h2 hd
end
theorem walk_range0 {n : Nat} : Walk (Itr 0 n) n (fun _ => True) (fun i H x H' => H' = H ∧ x = V.int (i : Int)) := walk_range.mono (fun _ h => h) fun i H x H' _ _ y => ⟨y.1, by rw [y.2]; show V.int (0 + (i : Int)) = _; rw [Int.zero_add]⟩
/-! ### cuts -/
def cutT {α : Type} (t : List α) (lo hi : Option Int) : List α := (t.drop (HT.sIx t.length 0 lo)).take (HT.sIx t.length t.length hi - HT.sIx t.length 0 lo)
theorem cutT_len {α : Type} (t : List α) (lo hi : Option Int) : (cutT t lo hi).length ≤ t.length := by
  unfold cutT
  rw [List.length_take, List.length_drop]
  omega
def rSlT1 : V → Option Int → Option Int → Hp → VK → Prop := fun x lo hi H Q => ∃ t : List Nat, x = S t ∧ t.length ≤ sizeLine ∧ Q (S (cutT t lo hi)) H
theorem s_strT {X : Cx} : SlR X rSlT1 := fun pins s σ H x v vl vu lo hi sl Q I rx hs pl pu h => by
  obtain ⟨t, rfl, hz, q⟩ := h
  exact sl_str pins s σ H _ v vl vu lo hi sl Q I rx hs pl pu ⟨_, rfl, hz, q⟩
theorem joinL_len {ts : List (List Nat)} {c : Nat} (h : ∀ t ∈ ts, t.length ≤ c) : (TL.joinL (cs "") ts).length ≤ ts.length * c := by
  rw [show cs "" = [] from by decide, joinL_nil]
  induction ts with
  | nil => simp
  | cons t r ih =>
    rw [List.flatten_cons, List.length_append, List.length_cons, Nat.succ_mul]
    have h1 := h t List.mem_cons_self
    have h2 := ih fun u hu => h u (List.mem_cons_of_mem _ hu)
    omega
end G
namespace G
open PySem PySem.Spec PyProof.Rows L2
/-- what the row asks of law -/
def spL (K : PySem.W.Frag) : Sp := fun vs H Q _ => ∃ (a : Addr) (ns : List Int), vs = [.ref a] ∧ SqL K H a (ns.map V.int) ∧ ns.length ≤ 63 ∧ ∀ H1, Q (.bl true) H1
theorem sqt_strs {K : PySem.W.Frag} {a : Addr} {o : Obj} {its : Array Value} {n : Nat} {xs : List V} (h1 : K.lookup a = some o) (h2 : o.cls = .type "tuple") (h3 : o.data = .seq its n) (h4 : its.size ≤ sizeLine) (h5 : Vals xs its.toList) (H : Hp) : SqT K H a xs :=
  .inr ⟨o, its, n, h1, h2, h3, h4, h5⟩
end G
namespace G
open PySem PySem.Spec PyProof.Rows L2
/-- a def whose last parameter is keyword-only: called with it, called without it (dv its default) -/
structure CalK (P : Program) (w : World) (K : PySem.W.Frag) (mg : Str → Option Value) (base : Heap) (k : Nat) (x : Str) (sp : Sp) (n : Nat) (kw : Str) (dv : V) : Prop where
  ex : ∃ (f : Addr) (fd : FuncData) (ps : List Str), FnOk P w K mg base CX0 k f fd ps sp ∧ mg x = some (.ref f) ∧ PySem.W.keepIn K (.ref f) = true ∧ KBn K fd ps n [kw] (fun us ws => us ++ ws) (fun vs zs => vs ++ zs) ∧ ∃ ds, Vals [dv] ds ∧ Binds K fd ps ds
section
variable {X : Cx} {k j n : Nat} {x kw : Str} {dv : V} {sp : Sp} {p pos : Pos} {e : Expr} {es : List Expr} {t tk : TA} {kws : List Keyword}
theorem pe_ck (c : CalK X.prog X.w X.K X.mg X.base k x sp n kw dv) (hr : Room j X.A) (hk : k ≤ j) (hg : Gl X x) (ha : PA X (e :: es) t) (hkw : PK X kws tk)
    (hall : (backToKw pos (keywordEach kws X.env)).all (·.1.isSome) = true := by rfl) (hks : (backToKw pos (keywordEach kws X.env)).filterMap (·.1) = [kw] := by rfl)
    (hdb : (x == ("__debug__" : Str)) = false := by decide) (he : starEach (e :: es) X.env = (false, eval e X.env) :: starEach es X.env := by rfl)
    (hpl : ((backTo pos (starEach (e :: es) X.env)).any (·.1) || (backToKw pos (keywordEach kws X.env)).any (·.1.isNone)) = false := by rfl) :
    PE X (.Call (.Name x p) (e :: es) kws pos) (tCallN n 1 sp (fun vs zs => vs ++ zs) E0 t tk) := by
  obtain ⟨f, fd, ps, F, hm, kp, b, _⟩ := c.ex
  exact pe_callN F (hr.mono hk) hg hm kp b pass0 ha hkw hall hks hdb he hpl
theorem pe_cd (c : CalK X.prog X.w X.K X.mg X.base k x sp n kw dv) (hr : Room j X.A) (hk : k ≤ j) (hg : Gl X x) (ha : PA X (e :: es) t)
    (hdb : (x == ("__debug__" : Str)) = false := by decide) (he : starEach (e :: es) X.env = (false, eval e X.env) :: starEach es X.env := by rfl) (hpl : (backTo pos (starEach es X.env)).any (·.1) = false := by rfl) :
    PE X (.Call (.Name x p) (e :: es) [] pos) (tCall sp [dv] E0 t) := by
  obtain ⟨f, fd, ps, F, hm, kp, _, ds, d, b⟩ := c.ex
  exact pe_call F (hr.mono hk) hg hm kp b d pass0 ha hdb he hpl
end
/-- two ways meet -/
theorem q_join {D : Ends} {σ : L2.St} {H : Hp} {tu tz : TS} (M : L2.St → Hp → Prop) (h : tu { D with nx := M } σ H) (k : ∀ σ' H', M σ' H' → tz D σ' H') : Evl.tCut tu tz D σ H := ⟨M, h, k⟩
end G
/-- a join of ways: k is what follows -/
def G.jn {α β : Type} (k : α) (f : α → β) : β := f k
namespace G
open PySem PySem.Spec PyProof.Rows L2
section
variable {K : PySem.W.Frag} {x qual kw : Str} {st : Stmt} {f : Addr} {fd : FuncData} {ps : List Str} {n : Nat} {dv : V}
theorem kbn_of (F : Fun K x qual st f fd)
    (h : ∀ (kV doc pm : Value) (an : Option Addr) (cdv ct : Value) (us ws : List Value), us.length = n → ws.length = 1 → bindArgs (PySem.W.fnOf x qual (defArgs st) (defBody st) (defScope st) .none kV doc pm an cdv ct) ⟨us, [kw].zip ws⟩ = pure (ps.zip (us ++ ws))) :
    KBn K fd ps n [kw] (fun us ws => us ++ ws) (fun vs zs => vs ++ zs) := by
  obtain ⟨oc, od, kV, doc, pm, an, cdv, ct, osl, rfl, lk, hcd⟩ := F.ex
  exact ⟨fun s us ws _ h1 h2 => .of_eq (h kV doc pm an cdv ct us ws h1 h2), fun r1 r2 => r1.append r2⟩
theorem kwd_of {oc doc pm cdv ct : Value} {od an : Option Addr} {D : Addr} {osl : Array (Option Value)} (l : K.lookup f = some ⟨oc, od, .func (PySem.W.fnOf x qual (defArgs st) (defBody st) (defScope st) .none (.ref D) doc pm an cdv ct), osl⟩)
    (c : PySem.W.codeIn K cdv qual = true) (k : PySem.W.keepIn K (.ref f) = true) (hq : ∃ u, PySem.W.nsIn K D kw = some (some u) ∧ RelV dv u) (hn : n + 1 = ps.length)
    (h : ∀ (D : Addr) (doc pm : Value) (an : Option Addr) (cdv ct : Value) (us ks : List Value), us.length = n → ks.length = 1 →
      KwChain D ([kw].zip ks) (bindArgs (PySem.W.fnOf x qual (defArgs st) (defBody st) (defScope st) .none (.ref D) doc pm an cdv ct) ⟨us, []⟩) (ps.zip (us ++ ks))) :
    ∃ ds, Vals [dv] ds ∧ Binds K (PySem.W.fnOf x qual (defArgs st) (defBody st) (defScope st) .none (.ref D) doc pm an cdv ct) ps ds := by
  refine FunD.binds0 (kws := [(kw, dv)]) (x := x) (qual := qual) (params := defArgs st) (body := defBody st) (scope := defScope st) (f := f) ⟨⟨oc, od, .none, .ref D, doc, pm, an, cdv, ct, osl, rfl, l, c, .inl ⟨rfl, rfl⟩, .inr ⟨D, rfl, fun q hm => ?_⟩⟩, k⟩ n (by intro z; cases z) hn h
  rw [List.mem_singleton.mp hm]
  exact hq
end
theorem getD_len {l : List (List Nat)} {c : Nat} (h : ∀ t ∈ l, t.length ≤ c) (i : Nat) : (l.getD i []).length ≤ c := by
  rw [List.getD]
  cases e : l[i]? with
  | none => exact Nat.zero_le _
  | some t => exact h t (List.mem_of_getElem? e)
end G
namespace G
open PySem PyProof.Rows L2
/-! ### the order of tuples of ints and texts -/
inductive Sc where
  | i (n : Int)
  | t (x : List Nat)
  deriving DecidableEq
def Sc.v : Sc → V
  | .i n => .int n
  | .t x => S x
def Sc.lt : Sc → Sc → Bool
  | .i a, .i b => decide (a < b)
  | .t a, .t b => decide (a < b)
  | _, _ => false
def Sc.like : Sc → Sc → Bool
  | .i _, .i _ => true
  | .t _, .t _ => true
  | _, _ => false
def lexSc : List Sc → List Sc → Bool
  | [], [] => false
  | [], _ :: _ => true
  | _ :: _, [] => false
  | x :: xs, y :: ys => if x = y then lexSc xs ys else x.lt y
def likeSc : List Sc → List Sc → Bool
  | x :: xs, y :: ys => x.like y && likeSc xs ys
  | _, _ => true
abbrev ScAre : List Sc → List Value → Prop := Paired fun k u => RelV k.v u
theorem eqAt_sc (A : Around) (s : Shared) {x y : Sc} {u v : Value} (hx : RelV x.v u) (hy : RelV y.v v) (hl : x.like y = true) : ∃ e, SeqAt.EqAt A s u v e ∧ (e = true ↔ x = y) := by
  cases x with
  | i a =>
    cases y with
    | i c =>
      obtain ⟨t, rfl⟩ := hx
      obtain ⟨t', rfl⟩ := hy
      exact ⟨(a == c), SeqAt.EqAt.int_int a t c t', by simp⟩
    | t c => cases hl
  | t a =>
    cases y with
    | i c => cases hl
    | t c =>
      obtain ⟨t, rfl⟩ := hx
      obtain ⟨t', rfl⟩ := hy
      refine ⟨_, SeqAt.EqAt.str_str _ t _ t', ?_⟩
      simp
theorem rcLt_sc (A : Around) (s : Shared) {x y : Sc} {u v : Value} (hx : RelV x.v u) (hy : RelV y.v v) (hl : x.like y = true) (prog : Program) (w : World) (E : Value → Shared → Prop) (Q : Value → Shared → Prop) (h : Q (.bool (x.lt y)) s) :
    wpAny (model prog w) A (richCompare .Lt u v) Q E s := by
  cases x with
  | i a =>
    cases y with
    | i c =>
      obtain ⟨t, rfl⟩ := hx
      obtain ⟨t', rfl⟩ := hy
      exact (PyProof.Rows.lt_int h : wpAny (model prog w) A (compareOp .Lt (.int a t) (.int c t')) Q E s)
    | t c => cases hl
  | t a =>
    cases y with
    | i c => cases hl
    | t c =>
      obtain ⟨t, rfl⟩ := hx
      obtain ⟨t', rfl⟩ := hy
      exact (lt_str h : wpAny (model prog w) A (compareOp .Lt (.str ⟨⟨a⟩⟩ t) (.str ⟨⟨c⟩⟩ t')) Q E s)
section
open PySem.SeqAt
open PySem.AutoSeq1 (wpAny_loadPart')
open PySem.MeetsSeq PySem.MeetsSeq2 PySem.MeetsSeq3
theorem tuple_lt_sc (l b : Addr) (items items2 : Array Value) (n n2 : Nat) (dd dd2 : Option Addr) (sl sl2 : Array (Option Value)) (ns ms : List Sc) (hi : ScAre ns items.toList) (hj : ScAre ms items2.toList) (hk : likeSc ns ms = true) :
    Meets (Builtin.«tuple.__lt__» ⟨[.ref l, .ref b], []⟩)
      (fun _ R s => s.heap.get? l = some { cls := .type "tuple", dict := dd, data := .seq items n, slots := sl } ∧ s.heap.get? b = some { cls := .type "tuple", dict := dd2, data := .seq items2 n2, slots := sl2 } ∧
        R (.ok (.ret (.bool (lexSc ns ms)))) s) :=
  .of_wp fun prog w A R s h => by
    obtain ⟨hp, g, d, tk, os⟩ := s; obtain ⟨hl, hb, h⟩ := h
    have f2 := AutoSeq1.sub_tuple_tuple
    have z1 : items.size = ns.length := by rw [hi.length]; simp
    have z2 : items2.size = ms.length := by rw [hj.length]; simp
    wp_walk using wpAny_loadPart' hl, wpAny_loadPart' hb, wpAny_forIn_list _ (fun rest b s' => b.1 = none ∧ s' = ⟨hp, g, d, tk, os⟩ ∧ ∃ (vs ws : List Value) (ns' ms' : List Sc), rest = vs.zip ws ∧
      ScAre ns' vs ∧ ScAre ms' ws ∧ likeSc ns' ms' = true ∧ ns'.length + items2.size = ms'.length + items.size ∧ R (.ok (.ret (.bool (lexSc ns' ms')))) ⟨hp, g, d, tk, os⟩) _
    case turn =>
      rintro ⟨y, x⟩ rest b s' ⟨hb', rfl, vs, ws, ns', ms', hz, hvi, hwi, hlk, hlen, hR⟩
      cases hvi with
      | nil => rw [List.zip_nil_left] at hz; cases hz
      | cons ra hvi' =>
        cases hwi with
        | nil => rw [List.zip_nil_right] at hz; cases hz
        | cons rc hwi' =>
          rw [List.zip_cons_cons] at hz
          injection hz with hyx hrest
          injection hyx with hy hx
          subst hy hx
          rw [lexSc] at hR
          rw [likeSc, Bool.and_eq_true] at hlk
          simp only [List.length_cons] at hlen
          obtain ⟨e, he, hiff⟩ := eqAt_sc A.in1 ⟨hp, g, d, tk, os⟩ ra rc hlk.1
          refine wpAny_bind (he prog w _ _ ?_)
          cases e with
          | true =>
            rw [if_pos (hiff.mp rfl)] at hR
            wp_walk
            exact ⟨rfl, rfl, _, _, _, _, hrest, hvi', hwi', hlk.2, by omega, hR⟩
          | false =>
            rw [if_neg (fun q => absurd (hiff.mpr q) Bool.false_ne_true)] at hR
            have hri := rcLt_sc A.in1 ⟨hp, g, d, tk, os⟩ ra rc hlk.1 prog w
            wp_walk using hri
            exact ⟨_, rfl, by simpa using hR⟩
    case fin =>
      rintro ⟨b1, b2⟩ s' ⟨hb', rfl, vs, ws, ns', ms', hz, hvi, hwi, hlk, hlen, hR⟩
      simp only at hb'
      subst hb'
      have hv : lexSc ns' ms' = decide (items.size < items2.size) := by
        cases hvi with
        | nil =>
          cases hwi with
          | nil =>
            simp only [List.length_nil] at hlen
            rw [lexSc]
            exact (decide_eq_false (by omega)).symm
          | cons rc hw =>
            simp only [List.length_nil, List.length_cons] at hlen
            rw [lexSc]
            exact (decide_eq_true (by omega)).symm
        | cons ra hv =>
          cases hwi with
          | nil =>
            simp only [List.length_nil, List.length_cons] at hlen
            rw [lexSc]
            exact (decide_eq_false (by omega)).symm
          | cons rc hw =>
            rw [List.zip_cons_cons] at hz
            cases hz
      rw [hv] at hR
      wp_walk
      exact ⟨_, rfl, by simpa [Builtin.Tuple.tupleCompareSizes] using hR⟩
    case h =>
      exact ⟨rfl, rfl, items.toList, items2.toList, ns, ms, rfl, hi, hj, hk, by omega, h⟩
end
section
variable {prog : Program} {w : World} {A : Around} {E : Value → Shared → Prop} {s : Shared}
theorem lt_tupSc {l b : Addr} {items items2 : Array Value} {ns ms : List Sc} {Q : Value → Shared → Prop} (hl : IsTup s.heap l items) (hb : IsTup s.heap b items2) (hi : ScAre ns items.toList) (hj : ScAre ms items2.toList) (hk : likeSc ns ms = true)
    (hu : A.units < cLine) (h : Q (.bool (lexSc ns ms)) s) : wpAny (model prog w) A (compareOp .Lt (.ref l) (.ref b)) Q E s := by
  obtain ⟨⟨cls, dd, data, sl⟩, ho, hc, n, hd⟩ := id hl
  obtain ⟨⟨cls2, dd2, data2, sl2⟩, ho2, hc2, n2, hd2⟩ := id hb
  simp only at hc hd hc2 hd2
  subst hc hd hc2 hd2
  exact richCompare_meets_room (op := .Lt) ⟨_, ho, rfl⟩ ⟨_, ho2, rfl⟩ PySem.F.slot_tuple_lt PySem.F.entry_tuple_lt (PySem.F.args_tuple_lt_2 _ _) (tuple_lt_sc l b items items2 n n2 dd dd2 sl sl2 ns ms hi hj hk)
    ⟨ho, ho2, show Value.bool (lexSc ns ms) ≠ Value.notImplemented ∧ Q (.bool (lexSc ns ms)) s from ⟨(fun x => nomatch x), h⟩⟩ hu
end
section
variable {X : Cx}
def rLtSc (K : PySem.W.Frag) : R2 := fun x y H Q => ∃ (a b : Addr) (ns ms : List Sc), x = .ref a ∧ y = .ref b ∧ SqT K H a (ns.map Sc.v) ∧ SqT K H b (ms.map Sc.v) ∧ likeSc ns ms = true ∧ Q (.bl (lexSc ns ms)) H
theorem scAre_of : ∀ {ns : List Sc} {us : List Value}, Vals (ns.map Sc.v) us → ScAre ns us
  | [], _, h => by cases h; exact .nil
  | n :: r, _, h => by
    cases h with
    | cons h1 h2 => exact .cons h1 (scAre_of h2)
theorem o_ltSc (hu : X.A.units < cLine) : OpR X (compareOp .Lt) (rLtSc X.K) := by
  intro pins s σ H x y v u Q I rx ry h
  obtain ⟨a, b, ns, ms, rfl, rfl, h1, h2, hk, q⟩ := h
  cases rx
  cases ry
  obtain ⟨its1, r1, p1, _⟩ := I.tuple h1
  obtain ⟨its2, r2, p2, _⟩ := I.tuple h2
  exact lt_tupSc p1 p2 (scAre_of (by simpa using r1)) (scAre_of (by simpa using r2)) hk hu ⟨.bl (lexSc ns ms), H, I, rfl, q⟩
def rLtS : R2 := fun x y H Q => ∃ a b : List Nat, x = S a ∧ y = S b ∧ Q (.bl (decide (a < b))) H
theorem o_ltS : OpR X (compareOp .Lt) rLtS := fun pins s σ H x y v u Q I rx ry h => by
  obtain ⟨a, b, rfl, rfl, q⟩ := h
  exact op_lt_str pins s σ H _ _ v u Q I rx ry ⟨_, _, rfl, rfl, q⟩
end
end G
namespace G
open PySem L2
def eT1 {A : Type} (f : A → PyData) (p : A) : PyData := .tuple [f p]
def eT2 {A B : Type} (f : A → PyData) (g : B → PyData) (p : A × B) : PyData := .tuple [f p.1, g p.2]
def eT3 {A B C : Type} (f : A → PyData) (g : B → PyData) (h : C → PyData) (p : A × B × C) : PyData := .tuple [f p.1, g p.2.1, h p.2.2]
def eT4 {A B C D : Type} (f : A → PyData) (g : B → PyData) (h : C → PyData) (k : D → PyData) (p : A × B × C × D) : PyData := .tuple [f p.1, g p.2.1, h p.2.2.1, k p.2.2.2]
def eT5 {A B C D E : Type} (f : A → PyData) (g : B → PyData) (h : C → PyData) (k : D → PyData) (l : E → PyData) (p : A × B × C × D × E) : PyData := .tuple [f p.1, g p.2.1, h p.2.2.1, k p.2.2.2.1, l p.2.2.2.2]
end G
namespace G
open PySem L2
theorem dpa_atN {K : PySem.W.Frag} {P : Hp} {A : Type} {e : A → PyData} {xs : List A} {vs : List V} {n : Nat} {d : A} (h : DpAll K P vs (xs.map e)) (hi : n < xs.length) : ∃ v, atI vs (n : Int) = some v ∧ Dp K P v (e (xs.getD n d)) := by
  obtain ⟨v, h1, h2⟩ := dpa_at (i := (n : Int)) (d := d) h ⟨by omega, by omega⟩
  rw [Int.toNat_natCast] at h2
  exact ⟨v, h1, h2⟩
theorem len_pos {t : List Nat} (h : ¬ t = cs "") : 0 < t.length := by
  cases t with
  | nil => exact absurd (by decide) h
  | cons a r => exact Nat.zero_lt_succ _
theorem len_zero {t : List Nat} (h : t = cs "") : t.length = 0 := by
  rw [h]
  decide
end G
namespace G
open PySem PySem.Spec PyProof.Rows L2
/-! ### mirrors that may fail -/
def chk (c : Prop) [Decidable c] {A : Type} (k : Option A) : Option A := if c then k else none
def ob {A B : Type} (m : Option A) (k : A → Option B) : Option B := match m with
  | none => none
  | some a => k a
section
variable {A B S R : Type}
theorem chk_some {c : Prop} [Decidable c] {k : Option A} {r : A} (h : chk c k = some r) : c ∧ k = some r := by
  unfold chk at h
  by_cases q : c
  · rw [if_pos q] at h
    exact ⟨q, h⟩
  · rw [if_neg q] at h
    cases h
theorem chk_eq {c : Prop} [Decidable c] {k : Option A} (h : c) : chk c k = k := if_pos h
theorem ob_some {m : Option A} {k : A → Option B} {r : B} (h : ob m k = some r) : ∃ a, m = some a ∧ k a = some r := by
  cases m with
  | none => cases h
  | some a => exact ⟨a, rfl, h⟩
@[simp] theorem ob_eq {a : A} {k : A → Option B} : ob (some a) k = k a := rfl
theorem ob_of {m : Option A} {k : A → Option B} {a : A} (h : m = some a) : ob m k = k a := by rw [h]; rfl
/-! loops -/
def itf (f : A → S → Option S) : List A → S → Option S
  | [], s => some s
  | x :: xs, s => ob (f x s) (itf f xs)
inductive Lr (S R : Type) where
  | nx (s : S)
  | bk (s : S)
  | rt (r : R)
def Lr.el {T : Type} (o : Lr S R) (r : R → T) (k : S → T) : T := match o with
  | .nx s => k s
  | .bk s => k s
  | .rt x => r x
def itr (f : A → S → Option (Lr S R)) : List A → S → Option (Lr S R)
  | [], s => some (.nx s)
  | x :: xs, s => ob (f x s) fun o => match o with
    | .nx s' => itr f xs s'
    | .bk s' => some (.bk s')
    | .rt r => some (.rt r)
/-- while: the body tells .bk where the test fails -/
def whN (f : S → Option (Lr S R)) : Nat → S → Option (Lr S R)
  | 0, _ => none
  | n + 1, s => ob (f s) fun o => match o with
    | .nx s' => whN f n s'
    | .bk s' => some (.bk s')
    | .rt r => some (.rt r)
open Classical in
noncomputable def whl (f : S → Option (Lr S R)) (s : S) : Option (Lr S R) := if h : ∃ n r, whN f n s = some r then whN f h.choose s else none
theorem whl_some {f : S → Option (Lr S R)} {s : S} {t : Lr S R} (h : whl f s = some t) : ∃ n, whN f n s = some t := by
  unfold whl at h
  split at h
  · exact ⟨_, h⟩
  · cases h
theorem whN_more {f : S → Option (Lr S R)} : ∀ {n m : Nat} {s : S} {t : Lr S R}, whN f n s = some t → n ≤ m → whN f m s = some t
  | 0, _, _, _, h, _ => by cases h
  | n + 1, 0, _, _, _, l => by omega
  | n + 1, m + 1, s, t, h, l => by
    rw [whN] at h ⊢
    obtain ⟨o, h1, h2⟩ := ob_some h
    rw [ob_of h1]
    cases o with
    | nx s' => exact whN_more h2 (by omega)
    | bk s' => exact h2
    | rt r => exact h2
theorem whl_of {f : S → Option (Lr S R)} {s : S} {t : Lr S R} (n : Nat) (h : whN f n s = some t) : whl f s = some t := by
  unfold whl
  have e : ∃ n r, whN f n s = some r := ⟨n, t, h⟩
  rw [dif_pos e]
  obtain ⟨r, hr⟩ := e.choose_spec
  rcases Nat.le_total n e.choose with l | l
  · exact whN_more h l
  · have := whN_more hr l
    rw [h] at this
    rw [hr, this]
/-- maps -/
def mpo (f : A → Option B) : List A → Option (List B)
  | [] => some []
  | x :: xs => ob (f x) fun y => ob (mpo f xs) fun ys => some (y :: ys)
def fpo (f : A → Option (Option B)) : List A → Option (List B)
  | [] => some []
  | x :: xs => ob (f x) fun y => ob (fpo f xs) fun ys => some (y.toList ++ ys)
def mps (f : A → S → Option (B × S)) : List A → S → Option (List B × S)
  | [], s => some ([], s)
  | x :: xs, s => ob (f x s) fun y => ob (mps f xs y.2) fun ys => some (y.1 :: ys.1, ys.2)
theorem nm_itf {f : A → S → Option S} {xs : List A} {s : S} {r : Option S} (h : itf f xs s = r) : ∃ F, F = f ∧ itf F xs s = r := ⟨_, rfl, h⟩
theorem nm_itr {f : A → S → Option (Lr S R)} {xs : List A} {s : S} {r : Option (Lr S R)} (h : itr f xs s = r) : ∃ F, F = f ∧ itr F xs s = r := ⟨_, rfl, h⟩
theorem nm_mpo {f : A → Option B} {xs : List A} {r : Option (List B)} (h : mpo f xs = r) : ∃ F, F = f ∧ mpo F xs = r := ⟨_, rfl, h⟩
theorem nm_fpo {f : A → Option (Option B)} {xs : List A} {r : Option (List B)} (h : fpo f xs = r) : ∃ F, F = f ∧ fpo F xs = r := ⟨_, rfl, h⟩
theorem nm_mps {f : A → S → Option (B × S)} {xs : List A} {s : S} {r : Option (List B × S)} (h : mps f xs s = r) : ∃ F, F = f ∧ mps F xs s = r := ⟨_, rfl, h⟩
theorem nm_whl {f : S → Option (Lr S R)} {s : S} {t : Lr S R} (h : whl f s = some t) : ∃ F, F = f ∧ ∃ n, whN F n s = some t := ⟨_, rfl, whl_some h⟩
end
/-! ### values and what they stand for -/
abbrev Rel (A : Type) := Hp → V → A → Prop
class Mo {A : Type} (R : Rel A) : Prop where
  mo : ∀ {P P' : Hp} {v : V} {x : A}, Ext P P' → R P v x → R P' v x
inductive AR {A : Type} (R : Rel A) (P : Hp) : List V → List A → Prop where
  | nil : AR R P [] []
  | cons {v : V} {x : A} {vs : List V} {xs : List A} : R P v x → AR R P vs xs → AR R P (v :: vs) (x :: xs)
section
variable {A B C D E : Type} {R : Rel A} {P P' : Hp}
theorem AR.up [Mo R] (e : Ext P P') : ∀ {vs : List V} {xs : List A}, AR R P vs xs → AR R P' vs xs
  | _, _, .nil => .nil
  | _, _, .cons h t => .cons (Mo.mo e h) (AR.up e t)
theorem AR.len : ∀ {vs : List V} {xs : List A}, AR R P vs xs → vs.length = xs.length
  | _, _, .nil => rfl
  | _, _, .cons h t => by rw [List.length_cons, List.length_cons, AR.len t]
theorem AR.app : ∀ {vs us : List V} {xs ys : List A}, AR R P vs xs → AR R P us ys → AR R P (vs ++ us) (xs ++ ys)
  | _, _, _, _, .nil, h => h
  | _, _, _, _, .cons h t, h' => .cons h (AR.app t h')
theorem AR.one {v : V} {x : A} (h : R P v x) : AR R P [v] [x] := .cons h .nil
theorem AR.snoc {vs : List V} {xs : List A} {v : V} {x : A} (h : AR R P vs xs) (hx : R P v x) : AR R P (vs ++ [v]) (xs ++ [x]) := h.app (.one hx)
theorem AR.rev {vs : List V} {xs : List A} (h : AR R P vs xs) : AR R P vs.reverse xs.reverse := by
  induction h with
  | nil => exact .nil
  | cons h t ih =>
    rw [List.reverse_cons, List.reverse_cons]
    exact ih.snoc h
theorem AR.drop : ∀ {vs : List V} {xs : List A} (n : Nat), AR R P vs xs → AR R P (vs.drop n) (xs.drop n)
  | _, _, 0, h => h
  | _, _, n + 1, .nil => .nil
  | _, _, n + 1, .cons h t => AR.drop n t
theorem AR.take : ∀ {vs : List V} {xs : List A} (n : Nat), AR R P vs xs → AR R P (vs.take n) (xs.take n)
  | _, _, 0, h => .nil
  | _, _, n + 1, .nil => .nil
  | _, _, n + 1, .cons h t => .cons h (AR.take n t)
theorem AR.get : ∀ {vs : List V} {xs : List A} {i : Nat} {v : V}, AR R P vs xs → vs[i]? = some v → ∃ x, xs[i]? = some x ∧ R P v x ∧ xs.drop i = x :: xs.drop (i + 1)
  | _, _, _, _, .nil, h => by simp at h
  | _, _, 0, v, .cons (x := x) h t, hi => by
    cases hi
    exact ⟨x, rfl, h, rfl⟩
  | _, _, i + 1, v, .cons h t, hi => AR.get (i := i) t hi
theorem AR.getN {vs : List V} {xs : List A} {n : Nat} {d : A} (h : AR R P vs xs) (hi : n < xs.length) : ∃ v, vs[n]? = some v ∧ R P v (xs.getD n d) := by
  have hl : n < vs.length := by rw [h.len]; exact hi
  obtain ⟨x, hx, hr, _⟩ := h.get (i := n) (List.getElem?_eq_getElem hl)
  refine ⟨_, List.getElem?_eq_getElem hl, ?_⟩
  have : xs.getD n d = x := by
    rw [List.getD, hx]
    rfl
  rw [this]
  exact hr
/-- the place of an index, as Python counts -/
def ixP (n : Nat) (i : Int) : Nat := (if i < 0 then i + n else i).toNat
def inR (n : Nat) (i : Int) : Prop := -(n : Int) ≤ i ∧ i < n
instance (n : Nat) (i : Int) : Decidable (inR n i) := inferInstanceAs (Decidable (_ ∧ _))
theorem ixN_ixP {n : Nat} {i : Int} (h : inR n i) : ixN n i = some (ixP n i) := by
  unfold inR at h
  unfold ixN ixP
  by_cases h0 : 0 ≤ i
  · rw [if_pos h0, if_pos h.2, if_neg (by omega)]
  · rw [if_neg h0]
    rw [if_pos (show i < 0 by omega)]
    first
      | (rw [if_pos (by omega)]; congr 1; omega)
      | (rw [if_pos (by omega)])
      | omega
theorem ixP_lt {n : Nat} {i : Int} (h : inR n i) : ixP n i < n := by
  unfold inR at h
  unfold ixP
  split <;> omega
theorem atI_ixP {t : List A} {i : Int} {x : A} (h : inR t.length i) (hx : t[ixP t.length i]? = some x) : atI t i = some x := by
  unfold atI
  rw [ixN_ixP h]
  exact hx
end
end G
namespace G
open PySem PySem.Spec PyProof.Rows L2
section
variable {A B C D E F : Type}
def yI : Rel Int := fun _ v x => v = .int x
def yB : Rel Bool := fun _ v x => v = .bl x
def yS : Rel (List Nat) := fun _ v x => v = S x
def yN : Rel Unit := fun _ v _ => v = .non
def yO (R : Rel A) : Rel (Option A) := fun P v x => match x with
  | none => v = .non
  | some y => R P v y
def yL (R : Rel A) : Rel (List A) := fun P v x => ∃ (a : Addr) (vs : List V), v = .ref a ∧ P a = some (.lst vs) ∧ AR R P vs x
def yU (K : PySem.W.Frag) (R : Rel A) : Rel (List A) := fun P v x => ∃ (a : Addr) (vs : List V), v = .ref a ∧ SqT K P a vs ∧ AR R P vs x
def y1 (K : PySem.W.Frag) (R1 : Rel A) : Rel A := fun P v x => ∃ (a : Addr) (v1 : V), v = .ref a ∧ SqT K P a [v1] ∧ R1 P v1 x
def y2 (K : PySem.W.Frag) (R1 : Rel A) (R2 : Rel B) : Rel (A × B) := fun P v x => ∃ (a : Addr) (v1 v2 : V), v = .ref a ∧ SqT K P a [v1, v2] ∧ R1 P v1 x.1 ∧ R2 P v2 x.2
def y3 (K : PySem.W.Frag) (R1 : Rel A) (R2 : Rel B) (R3 : Rel C) : Rel (A × B × C) := fun P v x => ∃ (a : Addr) (v1 v2 v3 : V), v = .ref a ∧ SqT K P a [v1, v2, v3] ∧ R1 P v1 x.1 ∧ R2 P v2 x.2.1 ∧ R3 P v3 x.2.2
def y4 (K : PySem.W.Frag) (R1 : Rel A) (R2 : Rel B) (R3 : Rel C) (R4 : Rel D) : Rel (A × B × C × D) := fun P v x => ∃ (a : Addr) (v1 v2 v3 v4 : V), v = .ref a ∧ SqT K P a [v1, v2, v3, v4] ∧ R1 P v1 x.1 ∧ R2 P v2 x.2.1 ∧ R3 P v3 x.2.2.1 ∧ R4 P v4 x.2.2.2
def y5 (K : PySem.W.Frag) (R1 : Rel A) (R2 : Rel B) (R3 : Rel C) (R4 : Rel D) (R5 : Rel E) : Rel (A × B × C × D × E) := fun P v x => ∃ (a : Addr) (v1 v2 v3 v4 v5 : V), v = .ref a ∧ SqT K P a [v1, v2, v3, v4, v5] ∧ R1 P v1 x.1 ∧ R2 P v2 x.2.1 ∧ R3 P v3 x.2.2.1 ∧ R4 P v4 x.2.2.2.1 ∧ R5 P v5 x.2.2.2.2
instance : Mo yI := ⟨fun _ h => h⟩
instance : Mo yB := ⟨fun _ h => h⟩
instance : Mo yS := ⟨fun _ h => h⟩
instance : Mo yN := ⟨fun _ h => h⟩
instance {R : Rel A} [Mo R] : Mo (yO R) := ⟨fun {P P' v x} e h => by
  cases x with
  | none => exact h
  | some y => exact Mo.mo (R := R) e h⟩
variable {K : PySem.W.Frag} {R1 : Rel A} {R2 : Rel B} {R3 : Rel C} {R4 : Rel D} {R5 : Rel E}
instance [Mo R1] : Mo (yL R1) := ⟨fun e ⟨a, vs, h, s, r⟩ => ⟨a, vs, h, e _ _ s, r.up e⟩⟩
instance [Mo R1] : Mo (yU K R1) := ⟨fun e ⟨a, vs, h, s, r⟩ => ⟨a, vs, h, e.sqt s, r.up e⟩⟩
instance [Mo R1] : Mo (y1 K R1) := ⟨fun e ⟨a, v1, h, s, r1⟩ => ⟨a, v1, h, e.sqt s, Mo.mo e r1⟩⟩
instance [Mo R1] [Mo R2] : Mo (y2 K R1 R2) := ⟨fun e ⟨a, v1, v2, h, s, r1, r2⟩ => ⟨a, v1, v2, h, e.sqt s, Mo.mo e r1, Mo.mo e r2⟩⟩
instance [Mo R1] [Mo R2] [Mo R3] : Mo (y3 K R1 R2 R3) := ⟨fun e ⟨a, v1, v2, v3, h, s, r1, r2, r3⟩ => ⟨a, v1, v2, v3, h, e.sqt s, Mo.mo e r1, Mo.mo e r2, Mo.mo e r3⟩⟩
instance [Mo R1] [Mo R2] [Mo R3] [Mo R4] : Mo (y4 K R1 R2 R3 R4) := ⟨fun e ⟨a, v1, v2, v3, v4, h, s, r1, r2, r3, r4⟩ => ⟨a, v1, v2, v3, v4, h, e.sqt s, Mo.mo e r1, Mo.mo e r2, Mo.mo e r3, Mo.mo e r4⟩⟩
instance [Mo R1] [Mo R2] [Mo R3] [Mo R4] [Mo R5] : Mo (y5 K R1 R2 R3 R4 R5) := ⟨fun e ⟨a, v1, v2, v3, v4, v5, h, s, r1, r2, r3, r4, r5⟩ => ⟨a, v1, v2, v3, v4, v5, h, e.sqt s, Mo.mo e r1, Mo.mo e r2, Mo.mo e r3, Mo.mo e r4, Mo.mo e r5⟩⟩
/-- never None -/
class NN (R : Rel A) : Prop where
  nn : ∀ {P : Hp} {v : V} {x : A}, R P v x → v ≠ .non
instance : NN yI := ⟨fun h e => by rw [show _ = _ from h] at e; cases e⟩
instance : NN yB := ⟨fun h e => by rw [show _ = _ from h] at e; cases e⟩
instance : NN yS := ⟨fun h e => by rw [show _ = _ from h] at e; cases e⟩
instance : NN (yL R1) := ⟨fun ⟨a, vs, h, _⟩ e => by rw [h] at e; cases e⟩
instance : NN (yU K R1) := ⟨fun ⟨a, vs, h, _⟩ e => by rw [h] at e; cases e⟩
instance : NN (y1 K R1) := ⟨fun ⟨a, v1, h, _⟩ e => by rw [h] at e; cases e⟩
instance : NN (y2 K R1 R2) := ⟨fun ⟨a, v1, v2, h, _⟩ e => by rw [h] at e; cases e⟩
instance : NN (y3 K R1 R2 R3) := ⟨fun ⟨a, v1, v2, v3, h, _⟩ e => by rw [h] at e; cases e⟩
instance : NN (y4 K R1 R2 R3 R4) := ⟨fun ⟨a, v1, v2, v3, v4, h, _⟩ e => by rw [h] at e; cases e⟩
instance : NN (y5 K R1 R2 R3 R4 R5) := ⟨fun ⟨a, v1, v2, v3, v4, v5, h, _⟩ e => by rw [h] at e; cases e⟩
theorem yO_is {R : Rel A} [NN R] {P : Hp} {v : V} {x : Option A} (h : yO R P v x) : decide (v = .non) = x.isNone := by
  cases x with
  | none =>
    have e : v = .non := h
    rw [e]
    rfl
  | some y => exact decide_eq_false (NN.nn (R := R) (show R P v y from h))
theorem yO_get {R : Rel A} {P : Hp} {v : V} {x : Option A} (d : A) (h : yO R P v x) (hs : x.isSome = true) : R P v (x.getD d) := by
  cases x with
  | none => cases hs
  | some y => exact h
theorem yO_none {R : Rel A} {P : Hp} : yO R P .non none := rfl
theorem yO_some {R : Rel A} {P : Hp} {v : V} {x : A} (h : R P v x) : yO R P v (some x) := h
/-! ### texts, ints of a list by their values -/
theorem ar_strs {P : Hp} : ∀ {vs : List V} {ts : List (List Nat)}, AR yS P vs ts → vs = ts.map S
  | _, _, .nil => rfl
  | _, _, .cons h t => by
    rw [show _ = _ from h, ar_strs t]
    rfl
theorem ar_ints {P : Hp} : ∀ {vs : List V} {ts : List Int}, AR yI P vs ts → vs = ts.map V.int
  | _, _, .nil => rfl
  | _, _, .cons h t => by
    rw [show _ = _ from h, ar_ints t]
    rfl
theorem ar_bools {P : Hp} : ∀ {vs : List V} {ts : List Bool}, AR yB P vs ts → vs = ts.map V.bl
  | _, _, .nil => rfl
  | _, _, .cons h t => by
    rw [show _ = _ from h, ar_bools t]
    rfl
theorem strs_ar {P : Hp} : ∀ ts : List (List Nat), AR yS P (ts.map S) ts
  | [] => .nil
  | t :: r => .cons rfl (strs_ar r)
/-! ### deep equality -/
def okS (t : List Nat) : Bool := t.all (· < 1114112)
class En (K : PySem.W.Frag) (R : Rel A) (ok : outParam (A → Bool)) (n : outParam Nat) where
  enc : A → PyData
  dp : ∀ {P : Hp} {v : V} {x : A}, R P v x → Dp K P v (enc x)
  inj : ∀ {x y : A}, PyData.eqv (enc x) (enc y) = true ↔ x = y
  lay : ∀ {x : A}, ok x = true → (enc x).canLay0 = true
  dep : ∀ {x : A}, (enc x).depth ≤ n
def okA {A : Type} (_ : A) : Bool := true
instance : En K yI okA 0 where
  enc := .int
  dp h := by cases h; exact .int _
  inj := by intro x y; simp [PyData.eqv]
  lay _ := by simp [PyData.canLay0]
  dep := by intro x; simp [PyData.depth]
instance : En K yB okA 0 where
  enc := .bool
  dp h := by cases h; exact .bl _
  inj := by intro x y; simp [PyData.eqv]
  lay _ := by simp [PyData.canLay0]
  dep := by intro x; simp [PyData.depth]
instance : En K yS okS 0 where
  enc := eS
  dp h := by cases h; exact pd_str _
  inj := by
    intro x y
    unfold eS
    simp [PyData.eqv]
  lay {x} h := by
    unfold eS
    simp only [PyData.canLay0, PyData.strOk]
    unfold okS at h
    simpa using h
  dep := by intro x; simp [PyData.depth, eS]
theorem dpa_of [e : En K R1 ok n] {P : Hp} : ∀ {vs : List V} {xs : List A}, AR R1 P vs xs → DpAll K P vs (xs.map e.enc)
  | _, _, .nil => .nil
  | _, _, .cons h t => .cons (e.dp h) (dpa_of t)
theorem eqvAll_map [e : En K R1 ok n] : ∀ {xs ys : List A}, PyData.eqvAll (xs.map e.enc) (ys.map e.enc) = true ↔ xs = ys
  | [], [] => by simp [PyData.eqvAll]
  | [], y :: ys => by simp [PyData.eqvAll]
  | x :: xs, [] => by simp [PyData.eqvAll]
  | x :: xs, y :: ys => by
    rw [List.map_cons, List.map_cons, PyData.eqvAll, Bool.and_eq_true, e.inj, eqvAll_map, List.cons.injEq]
theorem lay_map [e : En K R1 ok n] : ∀ {xs : List A}, xs.all ok = true → PyData.canLayAll0 (xs.map e.enc) = true
  | [], _ => by simp [PyData.canLayAll0]
  | x :: xs, h => by
    rw [List.all_cons, Bool.and_eq_true] at h
    rw [List.map_cons, PyData.canLayAll0, Bool.and_eq_true]
    exact ⟨e.lay h.1, lay_map h.2⟩
theorem dep_map [e : En K R1 ok n] : ∀ {xs : List A}, PyData.depthAll (xs.map e.enc) ≤ n
  | [] => by simp [PyData.depthAll]
  | x :: xs => by
    rw [List.map_cons, PyData.depthAll]
    exact Nat.max_le.mpr ⟨e.dep, dep_map⟩
def okL {A : Type} (ok : A → Bool) (xs : List A) : Bool := xs.all ok
instance [e : En K R1 ok n] : En K (yL R1) (okL ok) (n + 1) where
  enc := fun xs => .list (xs.map e.enc)
  dp := fun ⟨a, vs, h, s, r⟩ => by subst h; exact .lst (.inl (.inl s)) (dpa_of r)
  inj := by
    intro x y
    rw [PyData.eqv]
    exact eqvAll_map
  lay h := by
    rw [PyData.canLay0]
    exact lay_map h
  dep := by
    intro x
    rw [PyData.depth]
    exact Nat.succ_le_succ dep_map
instance [e : En K R1 ok n] : En K (yU K R1) (okL ok) (n + 1) where
  enc := fun xs => .tuple (xs.map e.enc)
  dp := fun ⟨a, vs, h, s, r⟩ => by subst h; exact .tup s (dpa_of r)
  inj := by
    intro x y
    rw [PyData.eqv]
    exact eqvAll_map
  lay h := by
    rw [PyData.canLay0]
    exact lay_map h
  dep := by
    intro x
    rw [PyData.depth]
    exact Nat.succ_le_succ dep_map
variable {ok1 : A → Bool} {ok2 : B → Bool} {ok3 : C → Bool} {ok4 : D → Bool} {ok5 : E → Bool} {n n1 n2 n3 n4 n5 : Nat}
def ok_2 (o1 : A → Bool) (o2 : B → Bool) (x : A × B) : Bool := o1 x.1 && o2 x.2
def ok_3 (o1 : A → Bool) (o2 : B → Bool) (o3 : C → Bool) (x : A × B × C) : Bool := o1 x.1 && (o2 x.2.1 && o3 x.2.2)
def ok_4 (o1 : A → Bool) (o2 : B → Bool) (o3 : C → Bool) (o4 : D → Bool) (x : A × B × C × D) : Bool := o1 x.1 && (o2 x.2.1 && (o3 x.2.2.1 && o4 x.2.2.2))
def ok_5 (o1 : A → Bool) (o2 : B → Bool) (o3 : C → Bool) (o4 : D → Bool) (o5 : E → Bool) (x : A × B × C × D × E) : Bool := o1 x.1 && (o2 x.2.1 && (o3 x.2.2.1 && (o4 x.2.2.2.1 && o5 x.2.2.2.2)))
instance [e1 : En K R1 ok1 n1] : En K (y1 K R1) ok1 (n1 + 1) where
  enc := fun x => .tuple [e1.enc x]
  dp := fun ⟨a, v1, h, s, r1⟩ => by subst h; exact .tup s (.cons (e1.dp r1) .nil)
  inj := by
    intro x y
    simp only [PyData.eqv, PyData.eqvAll, Bool.and_true, e1.inj]
  lay h := by
    simp only [PyData.canLay0, PyData.canLayAll0, Bool.and_true]
    exact e1.lay h
  dep := by
    intro x
    simp only [PyData.depth, PyData.depthAll]
    have := e1.dep (x := x)
    omega
instance [e1 : En K R1 ok1 n1] [e2 : En K R2 ok2 n2] : En K (y2 K R1 R2) (ok_2 ok1 ok2) (max n1 n2 + 1) where
  enc := fun x => .tuple [e1.enc x.1, e2.enc x.2]
  dp := fun ⟨a, v1, v2, h, s, r1, r2⟩ => by subst h; exact .tup s (.cons (e1.dp r1) (.cons (e2.dp r2) .nil))
  inj := by
    rintro ⟨x1, x2⟩ ⟨z1, z2⟩
    simp only [PyData.eqv, PyData.eqvAll, Bool.and_true, Bool.and_eq_true, e1.inj, e2.inj, Prod.mk.injEq]
  lay h := by
    unfold ok_2 at h
    simp only [Bool.and_eq_true] at h
    simp only [PyData.canLay0, PyData.canLayAll0, Bool.and_true, Bool.and_eq_true]
    exact ⟨e1.lay h.1, e2.lay h.2⟩
  dep := by
    intro x
    simp only [PyData.depth, PyData.depthAll]
    have := e1.dep (x := x.1)
    have := e2.dep (x := x.2)
    omega
instance [e1 : En K R1 ok1 n1] [e2 : En K R2 ok2 n2] [e3 : En K R3 ok3 n3] : En K (y3 K R1 R2 R3) (ok_3 ok1 ok2 ok3) (max n1 (max n2 n3) + 1) where
  enc := fun x => .tuple [e1.enc x.1, e2.enc x.2.1, e3.enc x.2.2]
  dp := fun ⟨a, v1, v2, v3, h, s, r1, r2, r3⟩ => by subst h; exact .tup s (.cons (e1.dp r1) (.cons (e2.dp r2) (.cons (e3.dp r3) .nil)))
  inj := by
    rintro ⟨x1, x2, x3⟩ ⟨z1, z2, z3⟩
    simp only [PyData.eqv, PyData.eqvAll, Bool.and_true, Bool.and_eq_true, e1.inj, e2.inj, e3.inj, Prod.mk.injEq]
  lay h := by
    unfold ok_3 at h
    simp only [Bool.and_eq_true] at h
    simp only [PyData.canLay0, PyData.canLayAll0, Bool.and_true, Bool.and_eq_true]
    exact ⟨e1.lay h.1, e2.lay h.2.1, e3.lay h.2.2⟩
  dep := by
    intro x
    simp only [PyData.depth, PyData.depthAll]
    have := e1.dep (x := x.1)
    have := e2.dep (x := x.2.1)
    have := e3.dep (x := x.2.2)
    omega
instance [e1 : En K R1 ok1 n1] [e2 : En K R2 ok2 n2] [e3 : En K R3 ok3 n3] [e4 : En K R4 ok4 n4] : En K (y4 K R1 R2 R3 R4) (ok_4 ok1 ok2 ok3 ok4) (max n1 (max n2 (max n3 n4)) + 1) where
  enc := fun x => .tuple [e1.enc x.1, e2.enc x.2.1, e3.enc x.2.2.1, e4.enc x.2.2.2]
  dp := fun ⟨a, v1, v2, v3, v4, h, s, r1, r2, r3, r4⟩ => by subst h; exact .tup s (.cons (e1.dp r1) (.cons (e2.dp r2) (.cons (e3.dp r3) (.cons (e4.dp r4) .nil))))
  inj := by
    rintro ⟨x1, x2, x3, x4⟩ ⟨z1, z2, z3, z4⟩
    simp only [PyData.eqv, PyData.eqvAll, Bool.and_true, Bool.and_eq_true, e1.inj, e2.inj, e3.inj, e4.inj, Prod.mk.injEq]
  lay h := by
    unfold ok_4 at h
    simp only [Bool.and_eq_true] at h
    simp only [PyData.canLay0, PyData.canLayAll0, Bool.and_true, Bool.and_eq_true]
    exact ⟨e1.lay h.1, e2.lay h.2.1, e3.lay h.2.2.1, e4.lay h.2.2.2⟩
  dep := by
    intro x
    simp only [PyData.depth, PyData.depthAll]
    have := e1.dep (x := x.1)
    have := e2.dep (x := x.2.1)
    have := e3.dep (x := x.2.2.1)
    have := e4.dep (x := x.2.2.2)
    omega
def rEqR {A : Type} [DecidableEq A] (R : Rel A) (ok : A → Bool) : L2.R2 := fun x y H Q => ∃ i j : A, R H x i ∧ R H y j ∧ (ok i = true ∧ ok j = true) ∧ Q (.bl (decide (i = j))) H
def rNeR {A : Type} [DecidableEq A] (R : Rel A) (ok : A → Bool) : L2.R2 := fun x y H Q => ∃ i j : A, R H x i ∧ R H y j ∧ (ok i = true ∧ ok j = true) ∧ Q (.bl (!decide (i = j))) H
variable {X : Cx}
theorem eqv_dec [DecidableEq A] [e : En K R1 ok1 n] {i j : A} : PyData.eqv (e.enc i) (e.enc j) = decide (i = j) := by
  by_cases h : i = j
  · rw [decide_eq_true h, e.inj.mpr h]
  · rw [decide_eq_false h]
    cases q : PyData.eqv (e.enc i) (e.enc j) with
    | false => rfl
    | true => exact absurd (e.inj.mp q) h
theorem shp [e : En K R1 ok1 n] {i : A} (h : ok1 i = true) (hn : n ≤ 64) : SeqAt.shaped (e.enc i) = true := by
  unfold SeqAt.shaped
  rw [Bool.and_eq_true, decide_eq_true_eq]
  exact ⟨e.lay h, Nat.le_trans e.dep hn⟩
theorem o_eqR [DecidableEq A] [e : En X.K R1 ok1 n] (hu : X.A.units + 64 < cLine) (hn : n ≤ 64 := by decide) : OpR X (compareOp .Eq) (rEqR R1 ok1) := fun pins s σ H x y v u Q I rx ry h => by
  obtain ⟨i, j, r1, r2, o, q⟩ := h
  exact op_eqD hu pins s σ H _ _ v u Q I rx ry ⟨_, _, e.dp r1, e.dp r2, shp o.1 hn, shp o.2 hn, by rw [eqv_dec]; exact q⟩
theorem o_neR [DecidableEq A] [e : En X.K R1 ok1 n] (hu : X.A.units + 64 < cLine) (hn : n ≤ 64 := by decide) : OpR X (compareOp .NotEq) (rNeR R1 ok1) := fun pins s σ H x y v u Q I rx ry h => by
  obtain ⟨i, j, r1, r2, o, q⟩ := h
  exact op_neD hu pins s σ H _ _ v u Q I rx ry ⟨_, _, e.dp r1, e.dp r2, shp o.1 hn, shp o.2 hn, by rw [eqv_dec]; exact q⟩
end
end G
namespace G
open PySem PySem.Spec PyProof.Rows L2
section
variable {A B Z R : Type}
theorem snoc_sum {acc rs r2 T : List A} {x : A} (h : acc ++ rs = T) (e : some (x :: r2) = some rs) : (acc ++ [x]) ++ r2 = T := by
  cases e
  rw [List.append_assoc]
  exact h
theorem snoc_sumB {acc rs r2 T : List A} {x : A} {b t2 : Z} (h : acc ++ rs = T) (e : some (x :: r2, b) = some (rs, t2)) : (acc ++ [x]) ++ r2 = T := by
  cases e
  rw [List.append_assoc]
  exact h
theorem skip_sum {acc rs r2 T : List A} (h : acc ++ rs = T) (e : some r2 = some rs) : acc ++ r2 = T := by
  cases e
  exact h
theorem snoc_len {acc : List A} {x : A} {i : Nat} (h : acc.length ≤ i) : (acc ++ [x]).length ≤ i + 1 := by
  rw [List.length_append, List.length_singleton]
  exact Nat.succ_le_succ h
theorem mps_eq {F : A → Z → Option (B × Z)} {xs : List A} {b t2 : Z} {r2 : List B × Z} {l rs : List B} (er : mps F xs b = some r2) (e : some (l, r2.2) = some (rs, t2)) : mps F xs b = some (r2.1, t2) := by
  have q := congrArg Prod.snd (Option.some.inj e)
  rw [er]
  show some r2 = some (r2.1, t2)
  rw [← (show r2.2 = t2 from q)]
theorem mpo_acc {acc rs T : List A} (h : acc ++ rs = T) (e : some ([] : List A) = some rs) : acc = T := by
  cases e
  rw [List.append_nil] at h
  exact h
theorem mps_acc {acc rs T : List A} {b t2 : Z} (h : acc ++ rs = T) (e : some (([] : List A), b) = some (rs, t2)) : acc = T := by
  cases e
  rw [List.append_nil] at h
  exact h
theorem mps_box {rs : List A} {b t2 : Z} (e : some (([] : List A), b) = some (rs, t2)) : b = t2 := congrArg Prod.snd (Option.some.inj e)
theorem nm_el {T : Type} {o : Lr Z R} {r : R → T} {k : Z → T} {x : T} (h : o.el r k = x) : ∃ kk, kk = k ∧ o.el r kk = x := ⟨_, rfl, h⟩
variable {Rr : Rel A} {P : Hp}
theorem AR.getI {vs : List V} {xs : List A} {i : Int} {d : A} (h : AR Rr P vs xs) (hi : inR xs.length i) : ∃ v, atI vs i = some v ∧ Rr P v (xs.getD (ixP xs.length i) d) := by
  obtain ⟨v, h1, h2⟩ := h.getN (d := d) (ixP_lt hi)
  rw [← h.len] at hi h1
  exact ⟨v, atI_ixP hi h1, h2⟩
theorem AR.takeall {vs : List V} {xs : List A} (h : AR Rr P vs xs) : xs.take vs.length = xs := List.take_of_length_le (by rw [h.len]; exact Nat.le_refl _)
theorem AR.dropall {vs : List V} {xs : List A} (h : AR Rr P vs xs) : xs.drop vs.length = [] := List.drop_of_length_le (by rw [h.len]; exact Nat.le_refl _)
theorem AR.bnd {vs : List V} {xs : List A} {n : Nat} (h : AR Rr P vs xs) (hn : xs.length ≤ n) : vs.length ≤ n := by
  rw [h.len]
  exact hn
theorem atI_str0 {t : List Nat} {n : Nat} (h : n < t.length) : atI t (n : Int) = some (t.getD n 0) := atI_nat (by
  rw [List.getElem?_eq_getElem h]
  simp [List.getD, List.getElem?_eq_getElem h])
theorem atI_str {t : List Nat} {i : Int} (h : inR t.length i) : atI t i = some (t.getD (ixP t.length i) 0) := atI_ixP h (by
  have := ixP_lt h
  rw [List.getElem?_eq_getElem this]
  simp [List.getD, List.getElem?_eq_getElem this])
variable {X : Cx}
/-- the one text within the other -/
def subT (a b : List Nat) : Bool := !(Builtin.Str.occurrences ⟨⟨b⟩⟩ ⟨⟨a⟩⟩ 0 (⟨⟨b⟩⟩ : Str).length 1).isEmpty
def rInU : R2 := fun x y H Q => ∃ a b : List Nat, x = G.S a ∧ y = G.S b ∧ Q (.bl (subT a b)) H
def rNiU : R2 := fun x y H Q => ∃ a b : List Nat, x = G.S a ∧ y = G.S b ∧ Q (.bl (!subT a b)) H
theorem o_inU : OpR X (compareOp .In) rInU := fun pins s σ H x y v u Q I rx ry h => by
  obtain ⟨a, b, rfl, rfl, q⟩ := h
  exact op_in_str pins s σ H _ _ v u Q I rx ry ⟨_, _, rfl, rfl, q⟩
theorem o_niU : OpR X (compareOp .NotIn) rNiU := fun pins s σ H x y v u Q I rx ry h => by
  obtain ⟨a, b, rfl, rfl, q⟩ := h
  exact op_notIn_str pins s σ H _ _ v u Q I rx ry ⟨_, _, rfl, rfl, q⟩
/-- a text some times -/
def repT (a : List Nat) (n : Int) : List Nat := (List.replicate n.toNat a).flatten
theorem foldl_arr : ∀ (n : Nat) (x b : Array Nat), ((List.replicate n x).foldl (· ++ ·) b).toList = b.toList ++ (List.replicate n x.toList).flatten
  | 0, x, b => by simp
  | n + 1, x, b => by
    rw [List.replicate_succ, List.foldl_cons, foldl_arr n x (b ++ x), List.replicate_succ, List.flatten_cons, Array.toList_append, List.append_assoc]
theorem mul_repT (a : List Nat) (n : Int) : V.str (Txt.mul ⟨⟨a⟩⟩ n) = G.S (repT a n) := by
  unfold Txt.mul repT
  by_cases h1 : n < 1
  · rw [if_pos h1, show n.toNat = 0 by omega]
    rfl
  · rw [if_neg h1]
    by_cases h2 : (n == 1 || (⟨⟨a⟩⟩ : Str).length == 0) = true
    · rw [if_pos h2]
      rw [Bool.or_eq_true, beq_iff_eq, beq_iff_eq] at h2
      rcases h2 with h2 | h2
      · subst h2
        show G.S a = G.S _
        congr 1
        simp
      · have : a = [] := List.length_eq_zero_iff.mp h2
        subst this
        simp [G.S]
    · rw [if_neg h2]
      have := foldl_arr n.toNat ⟨a⟩ #[]
      unfold G.S
      congr 2
      apply Array.toList_inj.mp
      simpa using this
def rMulT : R2 := fun x y H Q => ∃ (a : List Nat) (n : Int), x = G.S a ∧ y = .int n ∧ ((0 ≤ n ∧ n ≤ 1000000) ∧ a.length * n.toNat ≤ 1000000) ∧ Q (G.S (repT a n)) H
theorem mulOk {a : List Nat} {n : Int} (h : (0 ≤ n ∧ n ≤ 1000000) ∧ a.length * n.toNat ≤ 1000000) : MulOk ⟨⟨a⟩⟩ n := by
  obtain ⟨⟨h0, h1⟩, h2⟩ := h
  refine ⟨by rw [decide_eq_false (by omega), decide_eq_false (by omega)]; rfl, fun h3 _ => ?_, fun _ _ => ?_⟩
  · have hn : (1 : Int) ≤ n := by omega
    have hl : a.length ≤ 1000000 := Nat.le_trans (Nat.le_mul_of_pos_right _ (by omega)) h2
    have hd : (1000000 : Int) ≤ (2 ^ 63 - 1) / n := by
      rw [Int.le_ediv_iff_mul_le (by omega)]
      omega
    show ¬ ((a.length : Int) > _)
    omega
  · show Builtin.Str.tooLong (a.length * n.toNat) = false
    unfold Builtin.Str.tooLong
    first
      | exact decide_eq_false (by have := sizeLine_eq; omega)
      | (simp only [decide_eq_false_iff_not]; have := sizeLine_eq; omega)
      | (have := sizeLine_eq; simp; omega)
theorem o_mulS : OpR X (binaryOp .Mult) G.rMulT := fun pins s σ H x y v u Q I rx ry h => by
  obtain ⟨a, n, rfl, rfl, hz, q⟩ := h
  obtain ⟨t, rfl⟩ := rx
  obtain ⟨t', rfl⟩ := ry
  exact SB.mul (mulOk hz) fun t' k => ⟨.str (Txt.mul ⟨⟨a⟩⟩ n), H, I.tok _, ⟨_, rfl⟩, by rw [mul_repT]; exact q⟩
theorem AR.cut {vs : List V} {xs : List A} {lo hi : Option Int} (h : AR Rr P vs xs) : AR Rr P (cutT vs lo hi) (cutT xs lo hi) := by
  unfold cutT
  rw [h.len]
  exact (h.drop _).take _
def rSlL1 (K : PySem.W.Frag) : V → Option Int → Option Int → Hp → VK → Prop := fun x lo hi H Q => ∃ (a : Addr) (xs : List V), x = .ref a ∧ SqL K H a xs ∧ ∀ p, H p = none → Q (.ref p) (upd H p (.lst (cutT xs lo hi)))
theorem s_lstT : SlR X (rSlL1 X.K) := sl_list
def rListL (K : PySem.W.Frag) : List V → Hp → VK → Prop := fun xs H Q => ∃ (p : Addr) (ys : List V), xs = [.ref p] ∧ SqL K H p ys ∧ ∀ l, H l = none → Q (.ref l) (upd H l (.lst ys))
theorem c_listL : CallR X (.type "list") (rListL X.K) := fun pins s σ H xs us Q I r h => by
  obtain ⟨p, ys, rfl, hs, q⟩ := h
  exact call_list_of pins s σ H _ us Q I r ⟨p, ys, rfl, .inl hs, q⟩
def rIsO {A : Type} (R : Rel A) : R2 := fun x y H Q => ∃ o : Option A, yO R H x o ∧ y = .non ∧ Q (.bl o.isNone) H
def rNsO {A : Type} (R : Rel A) : R2 := fun x y H Q => ∃ o : Option A, yO R H x o ∧ y = .non ∧ Q (.bl (!o.isNone)) H
theorem o_isO [NN Rr] : OpR X (compareOp .Is) (rIsO Rr) := fun pins s σ H x y v u Q I rx ry h => by
  obtain ⟨o, ho, rfl, q⟩ := h
  exact op_isN pins s σ H _ _ v u Q I rx ry ⟨rfl, by rw [yO_is ho]; exact q⟩
theorem o_nsO [NN Rr] : OpR X (compareOp .IsNot) (rNsO Rr) := fun pins s σ H x y v u Q I rx ry h => by
  obtain ⟨o, ho, rfl, q⟩ := h
  exact op_notN pins s σ H _ _ v u Q I rx ry ⟨rfl, by rw [yO_is ho]; exact q⟩
def rStarts : V → List V → Hp → VK → Prop := fun x xs H Q => ∃ a b : List Nat, x = G.S a ∧ xs = [G.S b] ∧ Q (.bl (b.isPrefixOf a)) H
theorem m_starts : MtR X "str.startswith" rStarts := fun pins s σ H x xs v us Q I rx rs h => by
  obtain ⟨a, b, rfl, rfl, q⟩ := h
  refine mt_startswith pins s σ H _ _ v us Q I rx rs ⟨_, _, rfl, rfl, ?_⟩
  have e : Txt.startswith ⟨⟨a⟩⟩ ⟨⟨b⟩⟩ = b.isPrefixOf a := by
    unfold Txt.startswith
    rw [PySem.StrLaws.subAt_eq]
    show (decide (0 + b.length ≤ a.length) && ((a.drop 0).take b.length == b)) = b.isPrefixOf a
    rw [Bool.eq_iff_iff, Bool.and_eq_true, decide_eq_true_eq, beq_iff_eq, List.drop_zero, List.isPrefixOf_iff_prefix, List.prefix_iff_eq_take]
    constructor
    · intro h
      exact h.2.symm
    · intro h
      refine ⟨?_, h.symm⟩
      have := congrArg List.length h
      rw [List.length_take] at this
      omega
  rw [e]
  exact q
/-- the draws, checked -/
def takeO (ns : List Int) (b : Box) (n : Int) : Option (Int × Box) := chk (0 < n ∧ n < 1000000) (some (m_take ns b n))
theorem takeO_eq {ns : List Int} {b : Box} {n : Int} (h : 0 < n ∧ n < 1000000) : takeO ns b n = some (m_take ns b n) := chk_eq h
theorem takeO_some {ns : List Int} {b : Box} {n : Int} {t : Int × Box} (h : takeO ns b n = some t) : (0 < n ∧ n < 1000000) ∧ m_take ns b n = t := by
  obtain ⟨h1, h2⟩ := chk_some h
  exact ⟨h1, Option.some.inj h2⟩
end
end G
namespace G
open PySem PySem.Spec PyProof.Rows L2
/-! ### a written dict: texts to tuples of texts -/
structure WDf (K : PySem.W.Frag) (d : Addr) (f : List Nat → Option Addr) (c : List Nat → List (List Nat)) (k : List Nat → Bool) : Prop where
  ns : ∀ t, PySem.W.nsIn K d ⟨⟨t⟩⟩ = some ((f t).map Value.ref)
  has : ∀ t, (f t).isSome = k t
  sq : ∀ t a, f t = some a → ∀ H : Hp, SqT K H a ((c t).map S)
  no : ∀ t, f t = none → c t = []
def KD (K : PySem.W.Frag) (w : World) (d : Addr) : Prop := ∃ es n, KDict K w d es n
def rInW (K : PySem.W.Frag) (d : Addr) : R2 := fun x y H Q => ∃ (t : List Nat) (r : Option Value), x = S t ∧ y = .ref d ∧ PySem.W.nsIn K d ⟨⟨t⟩⟩ = some r ∧ Q (.bl r.isSome) H
def rNiW (K : PySem.W.Frag) (d : Addr) : R2 := fun x y H Q => ∃ (t : List Nat) (r : Option Value), x = S t ∧ y = .ref d ∧ PySem.W.nsIn K d ⟨⟨t⟩⟩ = some r ∧ Q (.bl (!r.isSome)) H
def kq (Q : VK) (z : V) (H : Hp) : Option Value → Prop
  | none => Q z H
  | some u => ∃ v, RelV v u ∧ Q v H
def tKGet (K : PySem.W.Frag) (d : Addr) (td ty tx : TE) : TE := fun σ H Q => td σ H fun x H1 => x = .ref d ∧ ty σ H1 fun y H2 => tx σ H2 fun z H3 =>
  ∃ (t : List Nat) (r : Option Value), y = S t ∧ PySem.W.nsIn K d ⟨⟨t⟩⟩ = some r ∧ kq Q z H3 r
section
variable {X : Cx} {d : Addr}
theorem o_inW (D : KD X.K X.w d) : OpR X (compareOp .In) (rInW X.K d) := fun pins s σ H x y v u Q I rx ry h => by
  obtain ⟨es, n, D⟩ := D
  obtain ⟨t, r, rfl, rfl, e, q⟩ := h
  exact op_in_kd D pins s σ H _ _ v u Q I rx ry ⟨_, r, rfl, rfl, e, q⟩
theorem o_niW (D : KD X.K X.w d) : OpR X (compareOp .NotIn) (rNiW X.K d) := fun pins s σ H x y v u Q I rx ry h => by
  obtain ⟨es, n, D⟩ := D
  obtain ⟨t, r, rfl, rfl, e, q⟩ := h
  exact op_notIn_kd D pins s σ H _ _ v u Q I rx ry ⟨_, r, rfl, rfl, e, q⟩
theorem pe_kget {o e f : Expr} {apos cpos : Pos} {td ty tx : TE} (D : KD X.K X.w d) (ho : PE X o td) (he : PE X e ty) (hf : PE X f tx) (m : M2 X o "get" apos e f cpos) : PE X (.Call (.Attribute o "get" apos) [e, f] [] cpos) (tKGet X.K d td ty tx) := by
  obtain ⟨es, n, D⟩ := D
  refine ⟨fun pins s σ H Q I h => ?_⟩
  refine wpAny_Call_method m.base m.few m.line PySem.F.plainAttrs_dict PySem.F.slot_dict_get PySem.F.type_dict_get (thn (ho.run pins s σ H _ I h) fun u s1 ⟨x, H1, I1, rx, ex, q1⟩ => ?_)
  subst ex
  obtain rfl : u = Value.ref d := rx
  have t1 := kd_type D I1
  refine ⟨t1, fun b q => ?_, ?_⟩
  · cases q
    exact ⟨_, I1.kIn _ _ D.at_, rfl⟩
  rw [m.trees]
  refine Calls.callWith_builtin rfl (Calls.evalArgs_plain (Calls.spliced_cons (thn (he.run pins s1 σ H1 _ I1 q1) fun iv s2 ⟨y, H2, I2, ry, q2⟩ =>
    Calls.spliced_cons (thn (hf.run pins s2 σ H2 _ I2 q2) fun fv s3 ⟨z, H3, I3, rz, t, r, ey, en, q3⟩ => Calls.spliced_nil ?_))))
  subst ey
  obtain ⟨tk, rfl⟩ := ry
  refine call_meetsIn PySem.F.slot_dict_get (kd_type D I3) PySem.F.entry_dict_get (PySem.F.args_dict_get_3 _ _ _) (meets_dict_get_default (PySem.strKind X.prog X.w) d (PySem.strKind_is X.prog X.w ⟨⟨t⟩⟩ tk) D.low fv) ⟨_, PySem.W.mapOf_K (prog := X.prog) I3.kIn D.at_ D.lit, ?_⟩
  rw [PySem.W.find_K D.at_ en]
  cases r with
  | none => exact ⟨z, H3, I3.tok _, rz, q3⟩
  | some u =>
    obtain ⟨v, rv, qv⟩ := q3
    exact ⟨v, H3, I3.tok _, rv, qv⟩
end
section
variable {K : PySem.W.Frag} {d : Addr} {f : List Nat → Option Addr} {c : List Nat → List (List Nat)} {k : List Nat → Bool}
theorem WDf.get (W : WDf K d f c k) {t : List Nat} {P H : Hp} {p : Addr} {Q : VK} (hp : SqT K P p []) (h : ∀ v, yU K yS P v (c t) → Q v H) :
    ∃ (t' : List Nat) (r : Option Value), S t = S t' ∧ PySem.W.nsIn K d ⟨⟨t'⟩⟩ = some r ∧ kq Q (.ref p) H r := by
  refine ⟨t, _, rfl, W.ns t, ?_⟩
  cases e : f t with
  | none =>
    show Q (.ref p) H
    refine h _ ⟨p, [], rfl, hp, ?_⟩
    rw [W.no t e]
    exact .nil
  | some a =>
    show ∃ v, RelV v (Value.ref a) ∧ Q v H
    exact ⟨.ref a, rfl, h _ ⟨a, _, rfl, W.sq t a e P, strs_ar _⟩⟩
theorem WDf.isin (W : WDf K d f c k) (t : List Nat) : ((f t).map Value.ref).isSome = k t := by
  rw [Option.isSome_map]
  exact W.has t
end

section
variable {K : PySem.W.Frag} {d : Addr} {n : Nat}
def fA : List (List Nat × Addr) → List Nat → Option Addr
  | [], _ => none
  | (c, a) :: r, t => if t = c then some a else fA r t
def entOk : List DictEntry → List (List Nat × Addr) → Prop
  | [], [] => True
  | e :: es, (c, a) :: r => (∃ (x : Str) (k : Tok), e.key = .str x k ∧ x = ⟨⟨c⟩⟩ ∧ e.val = .ref a) ∧ entOk es r
  | _, _ => False
theorem find_ent : ∀ {es : List DictEntry} {cs : List (List Nat × Addr)} (t : List Nat), entOk es cs → (es.find? (·.key.isStr ⟨⟨t⟩⟩)).map (·.val) = (fA cs t).map Value.ref
  | [], [], _, _ => rfl
  | e :: es, (c, a) :: r, t, h => by
    obtain ⟨⟨x, k, h1, h2, h3⟩, h4⟩ := h
    subst h2
    have ih := find_ent t h4
    rw [List.find?_cons, fA, h1]
    by_cases q : t = c
    · subst q
      have e1 : Value.isStr (.str ⟨⟨t⟩⟩ k) ⟨⟨t⟩⟩ = true := by simp [Value.isStr]
      rw [e1, if_pos rfl]
      show some e.val = some (Value.ref a)
      rw [h3]
    · have e1 : Value.isStr (.str ⟨⟨c⟩⟩ k) ⟨⟨t⟩⟩ = false := by
        simp only [Value.isStr]
        rw [beq_eq_false_iff_ne]
        intro z
        apply q
        injection z with z
        injection z with z
        first
          | exact z
          | exact z.symm
      rw [e1, if_neg q]
      exact ih
theorem ref_ent : ∀ {es : List DictEntry} {cs : List (List Nat × Addr)}, entOk es cs → es.any (·.refKey) = false
  | [], [], _ => rfl
  | e :: es, (c, a) :: r, h => by
    obtain ⟨⟨x, k, h1, h2, h3⟩, h4⟩ := h
    rw [List.any_cons, ref_ent h4]
    have : e.refKey = false := by
      unfold DictEntry.refKey
      rw [h1]
    rw [this]
    rfl
theorem ns_ent {es : Array DictEntry} {cs : List (List Nat × Addr)} (l : K.lookup d = some ⟨.type "dict", none, .dict es n, #[]⟩) (h : entOk es.toList cs) (t : List Nat) : PySem.W.nsIn K d ⟨⟨t⟩⟩ = some ((fA cs t).map Value.ref) := by
  unfold PySem.W.nsIn
  rw [l]
  have e := find_ent t h
  show (match es.toList.find? (·.key.isStr ⟨⟨t⟩⟩) with | some e => some (some e.val) | none => if es.toList.any (·.refKey) then none else some none) = _
  cases q : es.toList.find? (·.key.isStr ⟨⟨t⟩⟩) with
  | none =>
    rw [q] at e
    show (if es.toList.any (·.refKey) then none else some none) = _
    rw [ref_ent h, ← e]
    rfl
  | some z =>
    rw [q] at e
    show some (some z.val) = _
    rw [← e]
    rfl
end
end G
namespace G
open PySem PySem.Spec PyProof.Rows L2
/-! ### own classes -/
theorem Wd.made {P H : Hp} {cs : Cs} {x dx C : Addr} (w : Wd P H cs) (hx : H x = none) (hd : H dx = none) (n : dx ≠ x) : Wd P (upd (upd H dx (.own x)) x (.ins C dx [])) ((x, .ins C dx []) :: (dx, .own x) :: cs) :=
  (w.new hd (.own x)).new (by rw [upd_ne (Ne.symm n)]; exact hx) (.ins C dx [])
theorem putF_new {f : Str} {v : V} : ∀ {fs : List (Str × V)} (ns : List Str), fs.map (·.1) = ns → ns.all (fun g => decide (g ≠ f)) = true → putF f v fs = fs ++ [(f, v)]
  | [], _, _, _ => rfl
  | (g, x) :: r, _, e, h => by
    subst e
    rw [List.map_cons, List.all_cons, Bool.and_eq_true, decide_eq_true_eq] at h
    rw [putF, if_neg h.1, putF_new _ rfl h.2]
    rfl
theorem drop_range_of {n m : Nat} (h : n = m) : (List.range m).drop n = [] := by
  rw [h]
  exact drop_range_all
theorem take_range_of {n m : Nat} (h : n = m) : (List.range m).take n = List.range m := by
  rw [h]
  exact take_range_all
/-- __init__ of an own class, by its promise -/
structure CalI (P : Program) (w : World) (K : PySem.W.Frag) (mg : Str → Option Value) (base : Heap) (k : Nat) (x : Str) (C : Addr) (sp : Sp) : Prop where
  ex : ∃ (f : Addr) (fd : FuncData) (ps : List Str), FnOk P w K mg base CX0 k f fd ps sp ∧ mg x = some (.ref C) ∧ Mk K C f ∧ Binds K fd ps []
/-- a method -/
structure CalM (P : Program) (w : World) (K : PySem.W.Frag) (mg : Str → Option Value) (base : Heap) (k : Nat) (C : Addr) (m : Str) (sp : Sp) : Prop where
  ex : ∃ (f : Addr) (fd : FuncData) (ps : List Str), FnOk P w K mg base CX0 k f fd ps sp ∧ Meth K C m f ∧ Binds K fd ps [] ∧ Cls K C
/-- a property -/
structure CalP (P : Program) (w : World) (K : PySem.W.Frag) (mg : Str → Option Value) (base : Heap) (k : Nat) (C : Addr) (m : Str) (sp : Sp) : Prop where
  ex : ∃ (p f : Addr) (fd : FuncData) (ps : List Str), FnOk P w K mg base CX0 k f fd ps sp ∧ PropOf K C m p f ∧ Binds K fd ps [] ∧ Cls K C
section
variable {X : Cx} {k j : Nat} {x m : Str} {sp : Sp} {C : Addr} {p pos apos : Pos} {e o : Expr} {es : List Expr} {t : TA} {ta : TE}
theorem pe_ci (c : CalI X.prog X.w X.K X.mg X.base k x C sp) (hr : Room j X.A) (hk : k + 1 ≤ j) (hg : Gl X x) (ha : PA X (e :: es) t)
    (hdb : (x == ("__debug__" : Str)) = false := by decide) (he : starEach (e :: es) X.env = (false, eval e X.env) :: starEach es X.env := by rfl) (hpl : (backTo pos (starEach es X.env)).any (·.1) = false := by rfl) :
    PE X (.Call (.Name x p) (e :: es) [] pos) (tMake C sp [] E0 t) := by
  obtain ⟨f, fd, ps, F, hm, M, b⟩ := c.ex
  exact pe_make M F (hr.mono hk) hg hm b .nil pass0 ha hdb he hpl
theorem pe_ci0 (c : CalI X.prog X.w X.K X.mg X.base k x C sp) (hr : Room j X.A) (hk : k + 1 ≤ j) (hg : Gl X x) (hdb : (x == ("__debug__" : Str)) = false := by decide) : PE X (.Call (.Name x p) [] [] pos) (tMake C sp [] E0 tNil) := by
  obtain ⟨f, fd, ps, F, hm, M, b⟩ := c.ex
  exact pe_make0 M F (hr.mono hk) hg hm b .nil pass0 hdb
theorem pe_cm {pl : Sem Bool} (c : CalM X.prog X.w X.K X.mg X.base k C m sp) (hr : Room j X.A) (hk : k ≤ j) (ho : PE X o ta) (ha : PA X (e :: es) t)
    (hst : starEach (e :: es) X.env = (false, eval e X.env) :: starEach es X.env := by rfl) (hpl : (backTo pos (starEach es X.env)).any (·.1) = false := by rfl)
    (ht : eval (.Call (.Attribute o m apos) (e :: es) [] pos) X.env = (do
      let ov ← eval o X.env
      standAt apos.atName
      let (f, first) ← holding [ov] (getMethod ov m pl)
      callWith pos f first (backTo pos (starEach (e :: es) X.env)) (backToKw pos (keywordEach [] X.env))) := by rfl) :
    PE X (.Call (.Attribute o m apos) (e :: es) [] pos) (tMeth C m sp [] E0 ta t) := by
  obtain ⟨f, fd, ps, F, hm, b, cl⟩ := c.ex
  exact pe_meth ho cl hm F (hr.mono hk) b .nil pass0 ha hst hpl ht
theorem pe_cm0 {pl : Sem Bool} (c : CalM X.prog X.w X.K X.mg X.base k C m sp) (hr : Room j X.A) (hk : k ≤ j) (ho : PE X o ta)
    (ht : eval (.Call (.Attribute o m apos) [] [] pos) X.env = (do
      let ov ← eval o X.env
      standAt apos.atName
      let (f, first) ← holding [ov] (getMethod ov m pl)
      callWith pos f first (backTo pos (starEach [] X.env)) (backToKw pos (keywordEach [] X.env))) := by rfl) :
    PE X (.Call (.Attribute o m apos) [] [] pos) (tMeth C m sp [] E0 ta tNil) := by
  obtain ⟨f, fd, ps, F, hm, b, cl⟩ := c.ex
  exact pe_meth0 ho cl hm F (hr.mono hk) b .nil pass0 ht
theorem pe_cp (c : CalP X.prog X.w X.K X.mg X.base k C m sp) (hr : Room j X.A) (hk : k + 1 ≤ j) (ho : PE X o ta) (hab : attributeBase o m X.env (eval o X.env) = eval o X.env := by rfl) :
    PE X (.Attribute o m pos) (tProp C sp [] E0 ta) := by
  obtain ⟨q, f, fd, ps, F, hm, b, cl⟩ := c.ex
  exact pe_prop ho cl hm F (hr.mono hk) b .nil pass0 hab
end
end G
namespace G
open PySem L2
section
variable {A B Z R : Type}
theorem itf_ok {f : A → Z → Option Z} (I : List A → Z → Prop) (hs : ∀ x r s, I (x :: r) s → ∃ s', f x s = some s' ∧ I r s') : ∀ (xs : List A) (s : Z), I xs s → ∃ s', itf f xs s = some s' ∧ I [] s'
  | [], s, h => ⟨s, rfl, h⟩
  | x :: r, s, h => by
    obtain ⟨s', e, h'⟩ := hs x r s h
    obtain ⟨s2, e2, h2⟩ := itf_ok I hs r s' h'
    exact ⟨s2, by rw [itf, ob_of e, e2], h2⟩
theorem itr_ok {f : A → Z → Option (Lr Z R)} (I : List A → Z → Prop) (hs : ∀ x r s, I (x :: r) s → ∃ s', f x s = some (.nx s') ∧ I r s') : ∀ (xs : List A) (s : Z), I xs s → ∃ s', itr f xs s = some (.nx s') ∧ I [] s'
  | [], s, h => ⟨s, rfl, h⟩
  | x :: r, s, h => by
    obtain ⟨s', e, h'⟩ := hs x r s h
    obtain ⟨s2, e2, h2⟩ := itr_ok I hs r s' h'
    exact ⟨s2, by rw [itr, ob_of e]; exact e2, h2⟩
theorem itr_all {f : A → Unit → Option (Lr Unit R)} {xs : List A} (hs : ∀ x ∈ xs, f x () = some (.nx ())) : itr f xs () = some (.nx ()) := by
  obtain ⟨s, e, _⟩ := itr_ok (f := f) (fun l _ => ∀ x ∈ l, f x () = some (.nx ())) (fun x r s h => ⟨(), h x List.mem_cons_self, fun y hy => h y (List.mem_cons_of_mem _ hy)⟩) xs () hs
  exact e
theorem mps_ok {f : A → Z → Option (B × Z)} {Q : B → Prop} : ∀ (xs : List A) (b : Z), (∀ x ∈ xs, ∀ b, ∃ y, f x b = some y ∧ Q y.1) → ∃ ys, mps f xs b = some ys ∧ ys.1.length = xs.length ∧ ∀ y ∈ ys.1, Q y
  | [], b, _ => ⟨([], b), rfl, rfl, fun y h => by cases h⟩
  | x :: r, b, h => by
    obtain ⟨y, e, q⟩ := h x List.mem_cons_self b
    obtain ⟨ys, e2, l, q2⟩ := mps_ok r y.2 (fun z hz => h z (List.mem_cons_of_mem _ hz))
    refine ⟨(y.1 :: ys.1, ys.2), by rw [mps, ob_of e, ob_of e2], by simp [l], fun z hz => ?_⟩
    rcases List.mem_cons.mp hz with rfl | hz
    · exact q
    · exact q2 z hz
theorem mpo_map {f : A → Option B} {g : A → B} : ∀ {xs : List A}, (∀ x ∈ xs, f x = some (g x)) → mpo f xs = some (xs.map g)
  | [], _ => rfl
  | x :: r, h => by rw [mpo, ob_of (h x List.mem_cons_self), ob_of (mpo_map fun y hy => h y (List.mem_cons_of_mem _ hy))]; rfl
theorem fpo_map {f : A → Option (Option B)} {p : A → Bool} {g : A → B} : ∀ {xs : List A}, (∀ x ∈ xs, f x = some (if p x then some (g x) else none)) → fpo f xs = some ((xs.filter p).map g)
  | [], _ => rfl
  | x :: r, h => by
    rw [fpo, ob_of (h x List.mem_cons_self), ob_of (fpo_map fun y hy => h y (List.mem_cons_of_mem _ hy)), List.filter_cons]
    cases p x <;> rfl
end
theorem inR_nat {n : Nat} {i : Int} (h : 0 ≤ i ∧ i < n) : inR n i := by
  unfold inR
  omega
theorem ixP_nat {n : Nat} {i : Int} (h : 0 ≤ i) : ixP n i = i.toNat := by
  unfold ixP
  rw [if_neg (by omega)]
theorem getD_mem {A : Type} {l : List A} {n : Nat} {d : A} (h : n < l.length) : l.getD n d ∈ l := by
  rw [List.getD, List.getElem?_eq_getElem h]
  exact List.getElem_mem h
theorem okS_app {a b : List Nat} (ha : okS a = true) (hb : okS b = true) : okS (a ++ b) = true := by
  unfold okS at *
  rw [List.all_append, ha, hb]
  rfl
theorem okS_one {c : Nat} (h : c < 1114112) : okS [c] = true := by
  unfold okS
  simp [h]
theorem okS_mem {t : List Nat} (h : okS t = true) {c : Nat} (hc : c ∈ t) : c < 1114112 := by
  unfold okS at h
  rw [List.all_eq_true] at h
  simpa using h c hc
end G
namespace G
open PySem PySem.Spec PyProof.Rows L2
def topS (i : Nat) : Stmt := PySem.Challenge.pw_regrow_k46_growth_objects.main.body.getD i (.Pass ⟨0, 0, 0, 0⟩)
abbrev s_take : Stmt := topS 4
abbrev s_box : Stmt := topS 3
abbrev s_signs : Stmt := topS 5
abbrev s_sign : Stmt := topS 6
abbrev s_text : Stmt := topS 7
abbrev s_number : Stmt := topS 8
abbrev s_law : Stmt := topS 9
abbrev O_Growth := Int × Int × Int × (List Nat) × (List Nat) × (List Nat)
abbrev s_Growth_init : Stmt := inClass (topS 1) 0
abbrev s_Growth_swells : Stmt := inClass (topS 1) 1
abbrev s_Growth_bound : Stmt := inClass (topS 1) 2
structure GA where
  z0 : Addr
  C_Growth : Addr
def y_Growth (K : PySem.W.Frag) (G : GA) : Rel O_Growth := fun P v x => ∃ (a dx : Addr) (v0 v1 v2 v3 v4 v5 : V), v = .ref a ∧ P a = some (.ins G.C_Growth dx [("out", v0), ("per", v1), ("slack", v2), ("peak", v3), ("lead", v4), ("loop", v5)]) ∧ yI P v0 x.1 ∧ yI P v1 x.2.1 ∧ yI P v2 x.2.2.1 ∧ yS P v3 x.2.2.2.1 ∧ yS P v4 x.2.2.2.2.1 ∧ yS P v5 x.2.2.2.2.2
instance {K : PySem.W.Frag} {G : GA} : Mo (y_Growth K G) := ⟨fun e ⟨a, dx, v0, v1, v2, v3, v4, v5, h, s, h0, h1, h2, h3, h4, h5⟩ => ⟨a, dx, v0, v1, v2, v3, v4, v5, h, e _ _ s, Mo.mo e h0, Mo.mo e h1, Mo.mo e h2, Mo.mo e h3, Mo.mo e h4, Mo.mo e h5⟩⟩
instance {K : PySem.W.Frag} {G : GA} : NN (y_Growth K G) := ⟨fun ⟨a, dx, v0, v1, v2, v3, v4, v5, h, _⟩ e => by rw [h] at e; cases e⟩
structure Fa (K : PySem.W.Frag) (G : GA) : Prop where
  tr : True
  cl_Growth : Cls K G.C_Growth
  n_Growth_lead : NoAttr K G.C_Growth "lead"
  n_Growth_loop : NoAttr K G.C_Growth "loop"
  n_Growth_out : NoAttr K G.C_Growth "out"
  n_Growth_peak : NoAttr K G.C_Growth "peak"
  n_Growth_per : NoAttr K G.C_Growth "per"
  n_Growth_slack : NoAttr K G.C_Growth "slack"
structure Tx (w : World) (K : PySem.W.Frag) (G : GA) (mg : Str → Option Value) : Prop where
  fa : Fa K G
  d_take : ∃ f fd, Fun K "_law_take" "_law_take" s_take f fd ∧ Binds K fd ["_law_box_here", "_law_size"] [] ∧ mg "_law_take" = some (.ref f)
  d_box : ∃ f fd, Fun K "_law_box" "_law_box" s_box f fd ∧ Binds K fd ["_law_script"] [] ∧ mg "_law_box" = some (.ref f)
  d_signs : ∃ f fd, Fun K "_law_signs" "_law_signs" s_signs f fd ∧ Binds K fd [] [] ∧ mg "_law_signs" = some (.ref f)
  d_sign : ∃ f fd, Fun K "_law_sign" "_law_sign" s_sign f fd ∧ Binds K fd ["_law_box_here"] [] ∧ mg "_law_sign" = some (.ref f)
  d_text : ∃ f fd, Fun K "_law_text" "_law_text" s_text f fd ∧ Binds K fd ["_law_box_here", "_law_pieces", "_law_limit"] [] ∧ mg "_law_text" = some (.ref f)
  d_number : ∃ f fd, Fun K "_law_number" "_law_number" s_number f fd ∧ Binds K fd ["_law_worth"] [] ∧ mg "_law_number" = some (.ref f)
  d_law : ∃ f fd, Fun K "law" "law" s_law f fd ∧ Binds K fd ["_law_script"] [] ∧ mg "law" = some (.ref f)
  z_abs : mg "abs" = none
  z_bool : mg "bool" = none
  z_int : mg "int" = none
  z_isinstance : mg "isinstance" = none
  z_len : mg "len" = none
  z_range : mg "range" = none
  d_Growth_init : ∃ f fd, Fun K "__init__" "Growth.__init__" s_Growth_init f fd ∧ Binds K fd ["self", "out", "per", "slack", "peak", "lead", "loop"] [] ∧ mg "Growth" = some (.ref G.C_Growth) ∧ Mk K G.C_Growth f
  d_Growth_swells : ∃ p f fd, Fun K "swells" "Growth.swells" s_Growth_swells f fd ∧ Binds K fd ["self"] [] ∧ PropOf K G.C_Growth "swells" p f
  d_Growth_bound : ∃ f fd, Fun K "bound" "Growth.bound" s_Growth_bound f fd ∧ Binds K fd ["self", "length"] [] ∧ Meth K G.C_Growth "bound" f

def sp_take (K : PySem.W.Frag) (G : GA) : Sp := fun vs H Q _ => ∃ (P : Hp) (cs0 : Cs) (a l : Addr) (ns : List Int) (b : Box) (n : Int) (R0 : Int × Box), vs = [.ref a, .int n] ∧ Wd P H ((a, boxO l b) :: cs0) ∧ SqL K P l (ns.map V.int) ∧ takeO ns b n = some R0 ∧
  ∀ (H1 P1 : Hp), Ext P P1 → Wd P1 H1 ((a, boxO l R0.2) :: cs0) → Q (.int R0.1) H1
theorem sc_take : FnScope ["_law_box_here", "_law_size", "_law_cell", "_law_digit"] ["_law_box_here", "_law_size"] (defScope s_take) := ⟨rfl, rfl, rfl, by decide +kernel, rfl, by decide +kernel, by decide +kernel⟩
theorem c_take {P : Program} {w : World} {K : PySem.W.Frag} {mg : Str → Option Value} {base : Heap} {G : GA} (T : Tx w K G mg) : Cal P w K mg base 1 "_law_take" (sp_take K G) := by
  obtain ⟨f, fd, F, b, g⟩ := T.d_take
  refine ⟨f, fd, _, F.ok sc_take (fun vs H Q E h => ?_) (fun cdv A outer s H vs Q E hr h => ⟨tTakeR K, ?_, ?_⟩), g, F.kp, b⟩
  · obtain ⟨_, _, _, _, _, _, _, _, rfl, _⟩ := h
    rfl
  · exact pss_cons (ps_if (PW.pt (pw_and (pt_cmpR o_lt (pe_ix ix_list (pv 0) pe_int (fun _ _ => rfl)) pe_int (nomark _)) (pw_and1 (pt_cmpR o_lt (pe_ix ix_list (pv 0) pe_int (fun _ _ => rfl)) (pe_callB c_lenL (by rfl) T.z_len PySem.boot_len (pa_cons (pe_ix ix_list (pv 0) pe_int (fun _ _ => rfl)) pa_nil)) (nomark _)))))
        (pss_cons (ps_set (i := 2) sc_take.nd rfl (.inl rfl) (pe_ix ix_list (pe_ix ix_list (pv 0) pe_int (fun _ _ => rfl)) (pe_ix ix_list (pv 0) pe_int (fun _ _ => rfl)) (fun _ _ => rfl)))
        (pss_cons (ps_asg (pe_op o_add (pe_ix ix_list (pv 0) pe_int (fun _ _ => rfl)) pe_int) (pg_sub (pv 0) pe_int set_list))
        (pss_cons (ps_asg (pe_op o_mod (pe_callTy c_int (by rfl) T.z_int (by decide +kernel) (pa_cons (pe_op o_add (pe_op o_add (pe_op o_mul (pe_ix ix_list (pv 0) pe_int (fun _ _ => rfl)) pe_int) (pe_op o_mul (pe_op o_mod (pe_callTy c_int (by rfl) T.z_int (by decide +kernel) (pa_cons (pv 2) pa_nil)) pe_int) pe_int)) pe_int) pa_nil)) pe_int) (pg_sub (pv 0) pe_int set_list))
        (pss_one (ps_if (pt_cmpR o_ge (pv 2) (pe_op o_pow pe_int pe_int) (nomark _)) (pss_one (ps_asg (pe_op o_sub (pv 2) (pe_op o_pow pe_int pe_int)) (pg_sub (pv 0) pe_int set_list))) pss_nil)))))
        pss_nil)
      (pss_cons (ps_if (pt_cmpR o_gt (pe_ix ix_list (pv 0) pe_int (fun _ _ => rfl)) pe_int (nomark _))
        (pss_cons (ps_set (i := 3) sc_take.nd rfl (.inl rfl) (pe_op o_mod (pe_callTy c_int (by rfl) T.z_int (by decide +kernel) (pa_cons (pe_ix ix_list (pv 0) pe_int (fun _ _ => rfl)) pa_nil)) (pv 1)))
        (pss_cons (ps_asg (pe_op o_div (pe_ix ix_list (pv 0) pe_int (fun _ _ => rfl)) (pv 1)) (pg_sub (pv 0) pe_int set_list))
        (pss_one (ps_ret (pv 3))))) pss_nil)
      (pss_cons (ps_asg (pe_op o_mod (pe_callTy c_int (by rfl) T.z_int (by decide +kernel) (pa_cons (pe_op o_add (pe_op o_mul (pe_ix ix_list (pv 0) pe_int (fun _ _ => rfl)) pe_int) pe_int) pa_nil)) pe_int) (pg_sub (pv 0) pe_int set_list))
      (pss_one (ps_ret (pe_op o_mod (pe_callTy c_int (by rfl) T.z_int (by decide +kernel) (pa_cons (pe_op o_div (pe_ix ix_list (pv 0) pe_int (fun _ _ => rfl)) pe_int) pa_nil)) (pv 1))))))
  · obtain ⟨P, cs0, a, l, ns, b, n, R0, rfl, w, hl, e, q⟩ := h
    obtain ⟨⟨n0, n1⟩, rfl⟩ := takeO_some e
    exact rd_takeR w hl n0 n1 (fun H1 w1 => q H1 P (Ext.refl _) w1)
def sp_box (K : PySem.W.Frag) (G : GA) : Sp := fun vs H Q _ => ∃ (P : Hp) (cs0 : Cs) (a : Addr) (ns : List Int), vs = [.ref a] ∧ Wd P H cs0 ∧ SqL K P a (ns.map V.int) ∧ ns.length ≤ 63 ∧
  ∀ (H1 P1 : Hp) (p l : Addr), Ext P P1 → Wd P1 H1 ((p, boxO l box0) :: cs0) → SqL K P1 l ((absL ns).map V.int) → Q (.ref p) H1
theorem sc_box : FnScope ["_law_script", "_law_cell"] ["_law_script"] (defScope s_box) := ⟨rfl, rfl, rfl, by decide +kernel, rfl, by decide +kernel, by decide +kernel⟩
theorem c_box {P : Program} {w : World} {K : PySem.W.Frag} {mg : Str → Option Value} {base : Heap} {G : GA} (T : Tx w K G mg) : Cal P w K mg base 1 "_law_box" (sp_box K G) := by
  obtain ⟨f, fd, F, b, g⟩ := T.d_box
  refine ⟨f, fd, _, F.ok sc_box (fun vs H Q E h => ?_) (fun cdv A outer s H vs Q E hr h => ⟨tBoxR K, ?_, ?_⟩), g, F.kp, b⟩
  · obtain ⟨_, _, _, _, rfl, _⟩ := h
    rfl
  · exact pss_one (ps_ret (pe_lst (pa_cons (pe_lc (own := [("_law_cell", 1)]) rfl sc_box.nd (pi_list (pe_slice sl_list (pv 0) po_none (po_some pe_int))) (blkOk_by (N := ["_law_script", "_law_cell"]) (sc := defScope s_box) (by decide +kernel)) (fun _ _ _ _ _ => pg_name (i := 1) sc_box.nd rfl (Or.inl rfl)) (fun _ _ _ _ _ => pts_nil) (fun _ _ _ _ _ => pe_callB call_abs (by rfl) T.z_abs (by decide +kernel) (pa_cons (pv 1) pa_nil))) (pa_cons pe_int (pa_cons pe_int (pa_cons pe_int pa_nil))))))
  · obtain ⟨P, cs0, a, ns, rfl, w, hl, hlen, q⟩ := h
    exact rd_boxR w hl hlen q

def m_signs  : Option (List Nat) :=
  (some ((cs " !\"#$&'()*+,-./0123456789:;<=>?@ABCDEFGHIJKLMNOPQRSTUVWXYZ") ++ (cs "[\\]^_`abcdefghijklmnopqrstuvwxyz{|}~")))
def sp_signs (K : PySem.W.Frag) (G : GA) : Sp := fun vs H Q _ => ∃ (P : Hp) (cs0 : Cs)  (R0 : (List Nat)), vs = [] ∧ Wd P H (cs0) ∧ m_signs = some R0 ∧ ∀ (H1 P1 : Hp), Ext P P1 → Wd P1 H1 (cs0) → Q (S R0) H1
def t_signs (K : PySem.W.Frag) (G : GA) : TS := (tSeq (tAsg (tC (S (cs " !\"#$&'()*+,-./0123456789:;<=>?@ABCDEFGHIJKLMNOPQRSTUVWXYZ"))) (gName 0)) (tRet (tOp rAddS (tVar 0) (tC (S (cs "[\\]^_`abcdefghijklmnopqrstuvwxyz{|}~"))))))
theorem sc_signs : FnScope ["_law_every"] [] (defScope s_signs) := ⟨rfl, rfl, rfl, by decide +kernel, rfl, by decide +kernel, by decide +kernel⟩
theorem rd_signs {K : PySem.W.Frag} {G : GA} (F : Fa K G) (vs : List V) (H : Hp) (Q : VK) (E : XK) (h : sp_signs K G vs H Q E) : t_signs K G { nx := fun _ H1 => Q .non H1, rt := Q } (L2.start ["_law_every"] vs) H := by
  obtain ⟨P, cs0, R0, rfl, w, eR, q⟩ := h
  unfold m_signs at eR
  refine ⟨_, rfl, _, _, rfl, rfl, (sz (by decide)), ?_⟩
  obtain rfl := Option.some.inj eR
  exact q H P (Ext.refl _) w
theorem fn_signs {P : Program} {w : World} {K : PySem.W.Frag} {mg : Str → Option Value} {base : Heap} {G : GA} {f : Addr} {fd : FuncData} (T : Tx w K G mg) (F : Fun K "_law_signs" "_law_signs" s_signs f fd) : FnOk P w K mg base CX0 1 f fd [] (sp_signs K G) := by
  refine F.ok sc_signs (fun vs H Q E h => ?_) (fun cdv A outer s H vs Q E hr h => ⟨t_signs K G, ?_, rd_signs T.fa vs H Q E h⟩)
  · obtain ⟨_, _, _, rfl, _⟩ := h
    rfl
  · exact (pss_cons (ps_set (i := 0) sc_signs.nd rfl (.inl rfl) pe_strS) (pss_one (ps_ret (pe_op o_addS (pv 0) pe_strS))))
theorem c_signs {P : Program} {w : World} {K : PySem.W.Frag} {mg : Str → Option Value} {base : Heap} {G : GA} (T : Tx w K G mg) : Cal P w K mg base 1 "_law_signs" (sp_signs K G) := by
  obtain ⟨f, fd, F, b, g⟩ := T.d_signs
  exact ⟨f, fd, _, fn_signs T F, g, F.kp, b⟩

def m_sign (ns : List Int) (boxhere1 : Box) : Option (Nat × Box) :=
  (ob m_signs (fun (t1 : (List Nat)) => (ob (takeO ns boxhere1 94) (fun (t2 : (Int × Box)) => (chk (inR t1.length t2.1 ∧ t1.length ≤ 1000000) (some (t1.getD (ixP t1.length t2.1) 0, t2.2)))))))
def sp_sign (K : PySem.W.Frag) (G : GA) : Sp := fun vs H Q _ => ∃ (P : Hp) (cs0 : Cs) (aboxhere1 lboxhere1 : Addr) (ns : List Int) (boxhere1 : Box) (R0 : (Nat × Box)), vs = [V.ref aboxhere1] ∧ Wd P H ((aboxhere1, (boxO lboxhere1 boxhere1)) :: cs0) ∧ SqL K P lboxhere1 (ns.map V.int) ∧ m_sign ns boxhere1 = some R0 ∧ ∀ (H1 P1 : Hp), Ext P P1 → Wd P1 H1 ((aboxhere1, (boxO lboxhere1 R0.2)) :: cs0) → Q (S [R0.1]) H1
def t_sign (K : PySem.W.Frag) (G : GA) : TS := (tRet (tOp rIxT1 (tCall (sp_signs K G) [] E0 tNil) (tCall (sp_take K G) [] E0 (tCons (tVar 0) (tCons (tC (V.int 94)) tNil)))))
theorem sc_sign : FnScope ["_law_box_here"] ["_law_box_here"] (defScope s_sign) := ⟨rfl, rfl, rfl, by decide +kernel, rfl, by decide +kernel, by decide +kernel⟩
theorem rd_sign {K : PySem.W.Frag} {G : GA} (F : Fa K G) (vs : List V) (H : Hp) (Q : VK) (E : XK) (h : sp_sign K G vs H Q E) : t_sign K G { nx := fun _ H1 => Q .non H1, rt := Q } (L2.start ["_law_box_here"] vs) H := by
  obtain ⟨P, cs0, aboxhere1, lboxhere1, ns, boxhere1, R0, rfl, w, hl, eR, q⟩ := h
  unfold m_sign at eR
  obtain ⟨t1, et1, eR⟩ := ob_some eR
  refine ⟨P, ((aboxhere1, (boxO lboxhere1 boxhere1)) :: cs0), t1, rfl, w, et1, fun H1 P1 e1 w1 => ?_⟩
  obtain ⟨t2, et2, eR⟩ := ob_some eR
  refine ⟨_, rfl, P1, (cs0), aboxhere1, lboxhere1, ns, boxhere1, 94, t2, rfl, w1, (Ext.sql e1 hl), et2, fun H2 P2 e2 w2 => ?_⟩
  obtain ⟨hc1, eR⟩ := chk_some eR
  refine ⟨_, _, _, rfl, rfl, (sz hc1.2), (atI_str hc1.1), ?_⟩
  obtain rfl := Option.some.inj eR
  exact q H2 P2 (e1.trans e2) w2
theorem fn_sign {P : Program} {w : World} {K : PySem.W.Frag} {mg : Str → Option Value} {base : Heap} {G : GA} {f : Addr} {fd : FuncData} (T : Tx w K G mg) (F : Fun K "_law_sign" "_law_sign" s_sign f fd) : FnOk P w K mg base CX0 2 f fd ["_law_box_here"] (sp_sign K G) := by
  refine F.ok sc_sign (fun vs H Q E h => ?_) (fun cdv A outer s H vs Q E hr h => ⟨t_sign K G, ?_, rd_sign T.fa vs H Q E h⟩)
  · obtain ⟨_, _, _, _, _, _, _, rfl, _⟩ := h
    rfl
  · exact (pss_one (ps_ret (pe_ix i_str (pe_c0 (c_signs T) hr (by decide) (by rfl)) (pe_c (c_take T) hr (by decide) (by rfl) (pa_cons (pv 0) (pa_cons pe_int pa_nil))) (fun _ _ => rfl))))
theorem c_sign {P : Program} {w : World} {K : PySem.W.Frag} {mg : Str → Option Value} {base : Heap} {G : GA} (T : Tx w K G mg) : Cal P w K mg base 2 "_law_sign" (sp_sign K G) := by
  obtain ⟨f, fd, F, b, g⟩ := T.d_sign
  exact ⟨f, fd, _, fn_sign T F, g, F.kp, b⟩

def bd_text_1 (ns : List Int) (pieces1 : (List (List Nat))) (i1 : Nat) (s1 : ((List Nat) × Box)) : Option ((List Nat) × Box) :=
  (ob (takeO ns s1.2 5) (fun (t3 : (Int × Box)) => (if (decide (t3.1 = 0)) then (ob (m_sign ns t3.2) (fun (t4 : (Nat × Box)) => (chk (s1.1.length + ([t4.1] : List Nat).length ≤ 1000000) (some ((s1.1 ++ ([t4.1] : List Nat)), t4.2))))) else (ob (takeO ns t3.2 (pieces1.length : Int)) (fun (t5 : (Int × Box)) => (chk (inR pieces1.length t5.1) (chk (s1.1.length + (pieces1.getD (ixP pieces1.length t5.1) ([] : List Nat)).length ≤ 1000000) (some ((s1.1 ++ (pieces1.getD (ixP pieces1.length t5.1) ([] : List Nat))), t5.2)))))))))
def m_text (ns : List Int) (boxhere1 : Box) (pieces1 : (List (List Nat))) (limit1 : Int) : Option ((List Nat) × Box) :=
  (ob (takeO ns boxhere1 (limit1 + 1)) (fun (t1 : (Int × Box)) => (chk (-(2 ^ 62) ≤ t1.1 ∧ t1.1 < 2 ^ 62) (ob (itf (bd_text_1 ns pieces1) (List.range (t1.1).toNat) ((cs ""), t1.2)) (fun (s2 : ((List Nat) × Box)) => (some (s2.1, s2.2)))))))
def sp_text (K : PySem.W.Frag) (G : GA) : Sp := fun vs H Q _ => ∃ (P : Hp) (cs0 : Cs) (aboxhere1 lboxhere1 : Addr) (ns : List Int) (boxhere1 : Box) (vpieces1 : V) (pieces1 : (List (List Nat))) (limit1 : Int) (R0 : ((List Nat) × Box)), vs = [V.ref aboxhere1, vpieces1, (V.int limit1)] ∧ Wd P H ((aboxhere1, (boxO lboxhere1 boxhere1)) :: cs0) ∧ SqL K P lboxhere1 (ns.map V.int) ∧ (yL yS) P vpieces1 pieces1 ∧ m_text ns boxhere1 pieces1 limit1 = some R0 ∧ ∀ (H1 P1 : Hp), Ext P P1 → Wd P1 H1 ((aboxhere1, (boxO lboxhere1 R0.2)) :: cs0) → Q (S R0.1) H1
def t_text (K : PySem.W.Frag) (G : GA) : TS := (tSeq (tAsg (tC (S (cs ""))) (gName 3)) (tSeq (tFor (iRng1 (tCons (tCall (sp_take K G) [] E0 (tCons (tVar 0) (tCons (tOp rAdd (tVar 2) (tC (V.int 1))) tNil))) tNil)) (gName 4) (tIfS (tTest (tOp rEqI (tCall (sp_take K G) [] E0 (tCons (tVar 0) (tCons (tC (V.int 5)) tNil))) (tC (V.int 0)))) (tAsg (tOp rAddS (tVar 3) (tCall (sp_sign K G) [] E0 (tCons (tVar 0) tNil))) (gName 3)) (tAsg (tOp rAddS (tVar 3) (tOp (rIxL K) (tVar 1) (tCall (sp_take K G) [] E0 (tCons (tVar 0) (tCons (tCB (rLenM K) (tCons (tVar 1) tNil)) tNil))))) (gName 3)))) (tRet (tVar 3))))
theorem sc_text : FnScope ["_law_box_here", "_law_pieces", "_law_limit", "_law_text_here", "_law_k"] ["_law_box_here", "_law_pieces", "_law_limit"] (defScope s_text) := ⟨rfl, rfl, rfl, by decide +kernel, rfl, by decide +kernel, by decide +kernel⟩
theorem rd_text {K : PySem.W.Frag} {G : GA} (F : Fa K G) (vs : List V) (H : Hp) (Q : VK) (E : XK) (h : sp_text K G vs H Q E) : t_text K G { nx := fun _ H1 => Q .non H1, rt := Q } (L2.start ["_law_box_here", "_law_pieces", "_law_limit", "_law_text_here", "_law_k"] vs) H := by
  obtain ⟨P, cs0, aboxhere1, lboxhere1, ns, boxhere1, vpieces1, pieces1, limit1, R0, rfl, w, hl, hdpieces1, eR, q⟩ := h
  unfold m_text at eR
  obtain ⟨a1, vs1, rfl, fq1, al1⟩ := hdpieces1
  obtain ⟨t1, et1, eR⟩ := ob_some eR
  refine ⟨_, rfl, _, rfl, _, _, rfl, rfl, P, (cs0), aboxhere1, lboxhere1, ns, boxhere1, (limit1 + 1), t1, rfl, w, hl, et1, fun H1 P1 e1 w1 => ?_⟩
  obtain ⟨hc1, eR⟩ := chk_some eR
  obtain ⟨t2, et2, eR⟩ := ob_some eR
  obtain ⟨F1, hF1, et2⟩ := nm_itf et2
  refine ⟨_, rfl, hc1.1, hc1.2, for_it walk_range0 (fun i σz Hz => ∃ (Pz : Hp) (zs : ((List Nat) × Box)) (yz0 : Option V), Ext P1 Pz ∧ σz = [some (V.ref aboxhere1), some (.ref a1), some (V.int limit1), some (S zs.1), yz0] ∧ Wd Pz Hz ((aboxhere1, (boxO lboxhere1 zs.2)) :: cs0) ∧ itf F1 ((List.range (t1.1).toNat).drop i) zs = some t2) ?_ ?_ ?_ ?_⟩
  · exact ⟨P1, ((cs ""), t1.2), none, Ext.refl _, rfl, w1, et2⟩
  · rintro i σz Hz _ ⟨Pz, zs, yz0, ee, rfl, ww, _⟩
    trivial
  · rintro i1 x1 _ H2 H3 hi1 ⟨P2, s1, od1, e2, rfl, w2, et3⟩ hy1
    obtain ⟨eH1, hx1⟩ := hy1
    rw [eH1]
    subst hx1
    have eD1 := range_drop (n := (t1.1).toNat) (i := i1) (by assumption)
    rw [eD1, itf] at et3
    obtain ⟨o1, eo1, et3⟩ := ob_some et3
    rw [hF1] at eo1
    unfold bd_text_1 at eo1
    obtain ⟨t3, et4, eo1⟩ := ob_some eo1
    refine ⟨_, rfl, P2, (cs0), aboxhere1, lboxhere1, ns, s1.2, 5, t3, rfl, w2, (Ext.sql (e1.trans e2) hl), et4, fun H4 P3 e3 w3 => ?_⟩
    refine ⟨_, _, rfl, rfl, _, rfl, ?_⟩
    refine iteB (fun hb1 => ?_) (fun hb1 => ?_)
    · rw [ite_t hb1] at eo1
      obtain ⟨t4, et5, eo1⟩ := ob_some eo1
      refine ⟨_, rfl, _, rfl, P3, (cs0), aboxhere1, lboxhere1, ns, t3.2, t4, rfl, w3, (Ext.sql ((e1.trans e2).trans e3) hl), et5, fun H5 P4 e4 w4 => ?_⟩
      obtain ⟨hc2, eo1⟩ := chk_some eo1
      refine ⟨_, _, rfl, rfl, (sz hc2), ?_⟩
      obtain rfl := Option.some.inj eo1
      exact ⟨P4, ((s1.1 ++ ([t4.1] : List Nat)), t4.2), (some (V.int ((i1 : Nat) : Int))), ((e2.trans e3).trans e4), rfl, w4, et3⟩
    · rw [ite_f hb1] at eo1
      obtain ⟨t5, et6, eo1⟩ := ob_some eo1
      refine ⟨_, rfl, _, rfl, _, rfl, _, rfl, a1, vs1, (pieces1.length), rfl, (.inl (.inl (w3.sub _ _ (((e1.trans e2).trans e3) _ _ fq1)))), (AR.len (AR.up ((e1.trans e2).trans e3) al1)), P3, (cs0), aboxhere1, lboxhere1, ns, t3.2, (pieces1.length : Int), t5, rfl, w3, (Ext.sql ((e1.trans e2).trans e3) hl), et6, fun H6 P5 e5 w5 => ?_⟩
      obtain ⟨hc3, eo1⟩ := chk_some eo1
      obtain ⟨v1, hat1, hd1⟩ := AR.getI (i := t5.1) (d := ([] : List Nat)) (AR.up (((e1.trans e2).trans e3).trans e5) al1) hc3
      obtain rfl : v1 = (S (pieces1.getD (ixP pieces1.length t5.1) ([] : List Nat))) := hd1
      obtain ⟨hc4, eo1⟩ := chk_some eo1
      refine ⟨a1, _, _, _, rfl, rfl, (.inl (.inl (w5.sub _ _ ((((e1.trans e2).trans e3).trans e5) _ _ fq1)))), hat1, _, _, rfl, rfl, (sz hc4), ?_⟩
      obtain rfl := Option.some.inj eo1
      exact ⟨P5, ((s1.1 ++ (pieces1.getD (ixP pieces1.length t5.1) ([] : List Nat))), t5.2), (some (V.int ((i1 : Nat) : Int))), ((e2.trans e3).trans e5), rfl, w5, et3⟩
  rintro _ H7 ⟨P6, s2, od2, e6, rfl, w6, et7⟩
  rw [drop_range_all, itf] at et7
  obtain rfl := Option.some.inj et7
  refine ⟨_, rfl, ?_⟩
  obtain rfl := Option.some.inj eR
  exact q H7 P6 (e1.trans e6) w6
theorem fn_text {P : Program} {w : World} {K : PySem.W.Frag} {mg : Str → Option Value} {base : Heap} {G : GA} {f : Addr} {fd : FuncData} (T : Tx w K G mg) (F : Fun K "_law_text" "_law_text" s_text f fd) : FnOk P w K mg base CX0 3 f fd ["_law_box_here", "_law_pieces", "_law_limit"] (sp_text K G) := by
  refine F.ok sc_text (fun vs H Q E h => ?_) (fun cdv A outer s H vs Q E hr h => ⟨t_text K G, ?_, rd_text T.fa vs H Q E h⟩)
  · obtain ⟨_, _, _, _, _, _, _, _, _, _, rfl, _⟩ := h
    rfl
  · exact (pss_cons (ps_set (i := 3) sc_text.nd rfl (.inl rfl) pe_strS) (pss_cons (ps_for PassesOwn.never rfl (pi_range1 (by rfl) T.z_range (pa_cons (pe_c (c_take T) hr (by decide) (by rfl) (pa_cons (pv 0) (pa_cons (pe_op o_add (pv 2) pe_int) pa_nil))) pa_nil)) (pg_name (i := 4) sc_text.nd rfl (Or.inl rfl)) (pss_one (ps_if (pt_cmpR o_eqI (pe_c (c_take T) hr (by decide) (by rfl) (pa_cons (pv 0) (pa_cons pe_int pa_nil))) pe_int (nomark _)) (pss_one (ps_set (i := 3) sc_text.nd rfl (.inl rfl) (pe_op o_addS (pv 3) (pe_c (c_sign T) hr (by decide) (by rfl) (pa_cons (pv 0) pa_nil))))) (pss_one (ps_set (i := 3) sc_text.nd rfl (.inl rfl) (pe_op o_addS (pv 3) (pe_ix ix_list (pv 1) (pe_c (c_take T) hr (by decide) (by rfl) (pa_cons (pv 0) (pa_cons (pe_callB c_lenM (by rfl) T.z_len PySem.boot_len (pa_cons (pv 1) pa_nil)) pa_nil))) (fun _ _ => rfl)))))))) (pss_one (ps_ret (pv 3)))))
theorem c_text {P : Program} {w : World} {K : PySem.W.Frag} {mg : Str → Option Value} {base : Heap} {G : GA} (T : Tx w K G mg) : Cal P w K mg base 3 "_law_text" (sp_text K G) := by
  obtain ⟨f, fd, F, b, g⟩ := T.d_text
  exact ⟨f, fd, _, fn_text T F, g, F.kp, b⟩

def m_Growth_init (out1 : Int) (per1 : Int) (slack1 : Int) (peak1 : (List Nat)) (lead1 : (List Nat)) (loop1 : (List Nat)) : Option O_Growth :=
  (some (out1, per1, slack1, peak1, lead1, loop1))
def sp_Growth_init (K : PySem.W.Frag) (G : GA) : Sp := fun vs H Q _ => ∃ (P : Hp) (cs0 : Cs) (aself1 dself1 : Addr) (out1 : Int) (per1 : Int) (slack1 : Int) (peak1 : (List Nat)) (lead1 : (List Nat)) (loop1 : (List Nat)) (R0 : O_Growth), vs = [V.ref aself1, (V.int out1), (V.int per1), (V.int slack1), (S peak1), (S lead1), (S loop1)] ∧ Wd P H ((aself1, (HO.ins G.C_Growth dself1 [])) :: (dself1, (HO.own aself1)) :: cs0) ∧ m_Growth_init out1 per1 slack1 peak1 lead1 loop1 = some R0 ∧ ∀ (H1 P1 : Hp), Ext P P1 → Wd P1 H1 (cs0) → (y_Growth K G) P1 (V.ref aself1) R0 → Q .non H1
def t_Growth_init (K : PySem.W.Frag) (G : GA) : TS := (tSeq (sFld K (tVar 0) (tVar 1) "out") (tSeq (sFld K (tVar 0) (tVar 2) "per") (tSeq (sFld K (tVar 0) (tVar 3) "slack") (tSeq (sFld K (tVar 0) (tVar 4) "peak") (tSeq (sFld K (tVar 0) (tVar 5) "lead") (sFld K (tVar 0) (tVar 6) "loop"))))))
theorem sc_Growth_init : FnScope ["self", "out", "per", "slack", "peak", "lead", "loop"] ["self", "out", "per", "slack", "peak", "lead", "loop"] (defScope s_Growth_init) := ⟨rfl, rfl, rfl, by decide +kernel, rfl, by decide +kernel, by decide +kernel⟩
theorem rd_Growth_init {K : PySem.W.Frag} {G : GA} (F : Fa K G) (vs : List V) (H : Hp) (Q : VK) (E : XK) (h : sp_Growth_init K G vs H Q E) : t_Growth_init K G { nx := fun _ H1 => Q .non H1, rt := Q } (L2.start ["self", "out", "per", "slack", "peak", "lead", "loop"] vs) H := by
  obtain ⟨P, cs0, aself1, dself1, out1, per1, slack1, peak1, lead1, loop1, R0, rfl, w, eR, q⟩ := h
  unfold m_Growth_init at eR
  refine ⟨_, rfl, _, rfl, aself1, G.C_Growth, dself1, _, rfl, (w.get 0 rfl), F.cl_Growth, F.n_Growth_out, (by show 0 < 1000; decide), ?_⟩
  rw [putF_new [] rfl (by decide)]
  dsimp only [List.cons_append, List.nil_append]
  have w1 : Wd P (upd H aself1 (HO.ins G.C_Growth dself1 [("out", (V.int out1))])) ((aself1, (HO.ins G.C_Growth dself1 [("out", (V.int out1))])) :: (dself1, (HO.own aself1)) :: cs0) := w.put 0 (HO.ins G.C_Growth dself1 [("out", (V.int out1))]) rfl
  generalize upd H aself1 (HO.ins G.C_Growth dself1 [("out", (V.int out1))]) = H1 at w1 ⊢
  refine ⟨_, rfl, _, rfl, aself1, G.C_Growth, dself1, _, rfl, (w1.get 0 rfl), F.cl_Growth, F.n_Growth_per, (by show 1 < 1000; decide), ?_⟩
  rw [putF_new ["out"] rfl (by decide)]
  dsimp only [List.cons_append, List.nil_append]
  have w2 : Wd P (upd H1 aself1 (HO.ins G.C_Growth dself1 [("out", (V.int out1)), ("per", (V.int per1))])) ((aself1, (HO.ins G.C_Growth dself1 [("out", (V.int out1)), ("per", (V.int per1))])) :: (dself1, (HO.own aself1)) :: cs0) := w1.put 0 (HO.ins G.C_Growth dself1 [("out", (V.int out1)), ("per", (V.int per1))]) rfl
  generalize upd H1 aself1 (HO.ins G.C_Growth dself1 [("out", (V.int out1)), ("per", (V.int per1))]) = H2 at w2 ⊢
  refine ⟨_, rfl, _, rfl, aself1, G.C_Growth, dself1, _, rfl, (w2.get 0 rfl), F.cl_Growth, F.n_Growth_slack, (by show 2 < 1000; decide), ?_⟩
  rw [putF_new ["out", "per"] rfl (by decide)]
  dsimp only [List.cons_append, List.nil_append]
  have w3 : Wd P (upd H2 aself1 (HO.ins G.C_Growth dself1 [("out", (V.int out1)), ("per", (V.int per1)), ("slack", (V.int slack1))])) ((aself1, (HO.ins G.C_Growth dself1 [("out", (V.int out1)), ("per", (V.int per1)), ("slack", (V.int slack1))])) :: (dself1, (HO.own aself1)) :: cs0) := w2.put 0 (HO.ins G.C_Growth dself1 [("out", (V.int out1)), ("per", (V.int per1)), ("slack", (V.int slack1))]) rfl
  generalize upd H2 aself1 (HO.ins G.C_Growth dself1 [("out", (V.int out1)), ("per", (V.int per1)), ("slack", (V.int slack1))]) = H3 at w3 ⊢
  refine ⟨_, rfl, _, rfl, aself1, G.C_Growth, dself1, _, rfl, (w3.get 0 rfl), F.cl_Growth, F.n_Growth_peak, (by show 3 < 1000; decide), ?_⟩
  rw [putF_new ["out", "per", "slack"] rfl (by decide)]
  dsimp only [List.cons_append, List.nil_append]
  have w4 : Wd P (upd H3 aself1 (HO.ins G.C_Growth dself1 [("out", (V.int out1)), ("per", (V.int per1)), ("slack", (V.int slack1)), ("peak", (S peak1))])) ((aself1, (HO.ins G.C_Growth dself1 [("out", (V.int out1)), ("per", (V.int per1)), ("slack", (V.int slack1)), ("peak", (S peak1))])) :: (dself1, (HO.own aself1)) :: cs0) := w3.put 0 (HO.ins G.C_Growth dself1 [("out", (V.int out1)), ("per", (V.int per1)), ("slack", (V.int slack1)), ("peak", (S peak1))]) rfl
  generalize upd H3 aself1 (HO.ins G.C_Growth dself1 [("out", (V.int out1)), ("per", (V.int per1)), ("slack", (V.int slack1)), ("peak", (S peak1))]) = H4 at w4 ⊢
  refine ⟨_, rfl, _, rfl, aself1, G.C_Growth, dself1, _, rfl, (w4.get 0 rfl), F.cl_Growth, F.n_Growth_lead, (by show 4 < 1000; decide), ?_⟩
  rw [putF_new ["out", "per", "slack", "peak"] rfl (by decide)]
  dsimp only [List.cons_append, List.nil_append]
  have w5 : Wd P (upd H4 aself1 (HO.ins G.C_Growth dself1 [("out", (V.int out1)), ("per", (V.int per1)), ("slack", (V.int slack1)), ("peak", (S peak1)), ("lead", (S lead1))])) ((aself1, (HO.ins G.C_Growth dself1 [("out", (V.int out1)), ("per", (V.int per1)), ("slack", (V.int slack1)), ("peak", (S peak1)), ("lead", (S lead1))])) :: (dself1, (HO.own aself1)) :: cs0) := w4.put 0 (HO.ins G.C_Growth dself1 [("out", (V.int out1)), ("per", (V.int per1)), ("slack", (V.int slack1)), ("peak", (S peak1)), ("lead", (S lead1))]) rfl
  generalize upd H4 aself1 (HO.ins G.C_Growth dself1 [("out", (V.int out1)), ("per", (V.int per1)), ("slack", (V.int slack1)), ("peak", (S peak1)), ("lead", (S lead1))]) = H5 at w5 ⊢
  refine ⟨_, rfl, _, rfl, aself1, G.C_Growth, dself1, _, rfl, (w5.get 0 rfl), F.cl_Growth, F.n_Growth_loop, (by show 5 < 1000; decide), ?_⟩
  rw [putF_new ["out", "per", "slack", "peak", "lead"] rfl (by decide)]
  dsimp only [List.cons_append, List.nil_append]
  have w6 : Wd P (upd H5 aself1 (HO.ins G.C_Growth dself1 [("out", (V.int out1)), ("per", (V.int per1)), ("slack", (V.int slack1)), ("peak", (S peak1)), ("lead", (S lead1)), ("loop", (S loop1))])) ((aself1, (HO.ins G.C_Growth dself1 [("out", (V.int out1)), ("per", (V.int per1)), ("slack", (V.int slack1)), ("peak", (S peak1)), ("lead", (S lead1)), ("loop", (S loop1))])) :: (dself1, (HO.own aself1)) :: cs0) := w5.put 0 (HO.ins G.C_Growth dself1 [("out", (V.int out1)), ("per", (V.int per1)), ("slack", (V.int slack1)), ("peak", (S peak1)), ("lead", (S lead1)), ("loop", (S loop1))]) rfl
  generalize upd H5 aself1 (HO.ins G.C_Growth dself1 [("out", (V.int out1)), ("per", (V.int per1)), ("slack", (V.int slack1)), ("peak", (S peak1)), ("lead", (S lead1)), ("loop", (S loop1))]) = H6 at w6 ⊢
  have e1 : Ext P (upd P aself1 (HO.ins G.C_Growth dself1 [("out", (V.int out1)), ("per", (V.int per1)), ("slack", (V.int slack1)), ("peak", (S peak1)), ("lead", (S lead1)), ("loop", (S loop1))])) := w6.kext
  have w7 : Wd (upd P aself1 (HO.ins G.C_Growth dself1 [("out", (V.int out1)), ("per", (V.int per1)), ("slack", (V.int slack1)), ("peak", (S peak1)), ("lead", (S lead1)), ("loop", (S loop1))])) H6 ((dself1, (HO.own aself1)) :: cs0) := w6.keep
  have fq1 : upd P aself1 (HO.ins G.C_Growth dself1 [("out", (V.int out1)), ("per", (V.int per1)), ("slack", (V.int slack1)), ("peak", (S peak1)), ("lead", (S lead1)), ("loop", (S loop1))]) aself1 = some (HO.ins G.C_Growth dself1 [("out", (V.int out1)), ("per", (V.int per1)), ("slack", (V.int slack1)), ("peak", (S peak1)), ("lead", (S lead1)), ("loop", (S loop1))]) := upd_same
  generalize upd P aself1 (HO.ins G.C_Growth dself1 [("out", (V.int out1)), ("per", (V.int per1)), ("slack", (V.int slack1)), ("peak", (S peak1)), ("lead", (S lead1)), ("loop", (S loop1))]) = P1 at w7 e1 fq1
  have e2 : Ext P1 (upd P1 dself1 (HO.own aself1)) := w7.kext
  have w8 : Wd (upd P1 dself1 (HO.own aself1)) H6 (cs0) := w7.keep
  have fq2 : upd P1 dself1 (HO.own aself1) dself1 = some (HO.own aself1) := upd_same
  generalize upd P1 dself1 (HO.own aself1) = P2 at w8 e2 fq2
  obtain rfl := Option.some.inj eR
  exact q H6 P2 (e1.trans e2) w8 ⟨_, _, _, _, _, _, _, _, rfl, (e2 _ _ fq1), rfl, rfl, rfl, rfl, rfl, rfl⟩
theorem fn_Growth_init {P : Program} {w : World} {K : PySem.W.Frag} {mg : Str → Option Value} {base : Heap} {G : GA} {f : Addr} {fd : FuncData} (T : Tx w K G mg) (F : Fun K "__init__" "Growth.__init__" s_Growth_init f fd) : FnOk P w K mg base CX0 1 f fd ["self", "out", "per", "slack", "peak", "lead", "loop"] (sp_Growth_init K G) := by
  refine F.ok sc_Growth_init (fun vs H Q E h => ?_) (fun cdv A outer s H vs Q E hr h => ⟨t_Growth_init K G, ?_, rd_Growth_init T.fa vs H Q E h⟩)
  · obtain ⟨_, _, _, _, _, _, _, _, _, _, _, rfl, _⟩ := h
    rfl
  · exact (pss_cons (ps_fld (pv 0) (pv 1) rfl) (pss_cons (ps_fld (pv 0) (pv 2) rfl) (pss_cons (ps_fld (pv 0) (pv 3) rfl) (pss_cons (ps_fld (pv 0) (pv 4) rfl) (pss_cons (ps_fld (pv 0) (pv 5) rfl) (pss_one (ps_fld (pv 0) (pv 6) rfl)))))))
theorem c_Growth_init {P : Program} {w : World} {K : PySem.W.Frag} {mg : Str → Option Value} {base : Heap} {G : GA} (T : Tx w K G mg) : CalI P w K mg base 1 "Growth" G.C_Growth (sp_Growth_init K G) := by
  obtain ⟨f, fd, F, b, g, M⟩ := T.d_Growth_init
  exact ⟨f, fd, _, fn_Growth_init T F, g, M, b⟩

def m_Growth_swells (self1 : O_Growth) : Option Bool :=
  (some (decide (self1.2.1 < self1.1)))
def sp_Growth_swells (K : PySem.W.Frag) (G : GA) : Sp := fun vs H Q _ => ∃ (P : Hp) (cs0 : Cs) (vself1 : V) (self1 : O_Growth) (R0 : Bool), vs = [vself1] ∧ Wd P H (cs0) ∧ (y_Growth K G) P vself1 self1 ∧ m_Growth_swells self1 = some R0 ∧ ∀ (H1 P1 : Hp), Ext P P1 → Wd P1 H1 (cs0) → Q (V.bl R0) H1
def t_Growth_swells (K : PySem.W.Frag) (G : GA) : TS := (tRet (tOp rGt (tFld K (tVar 0) "out") (tFld K (tVar 0) "per")))
theorem sc_Growth_swells : FnScope ["self"] ["self"] (defScope s_Growth_swells) := ⟨rfl, rfl, rfl, by decide +kernel, rfl, by decide +kernel, by decide +kernel⟩
theorem rd_Growth_swells {K : PySem.W.Frag} {G : GA} (F : Fa K G) (vs : List V) (H : Hp) (Q : VK) (E : XK) (h : sp_Growth_swells K G vs H Q E) : t_Growth_swells K G { nx := fun _ H1 => Q .non H1, rt := Q } (L2.start ["self"] vs) H := by
  obtain ⟨P, cs0, vself1, self1, R0, rfl, w, hdself1, eR, q⟩ := h
  unfold m_Growth_swells at eR
  obtain ⟨a1, dx1, u1, u2, u3, u4, u5, u6, rfl, fq1, hu1, hu2, hu3, hu4, hu5, hu6⟩ := hdself1
  obtain rfl : u1 = (V.int self1.1) := hu1
  obtain rfl : u2 = (V.int self1.2.1) := hu2
  obtain rfl : u3 = (V.int self1.2.2.1) := hu3
  obtain rfl : u4 = (S self1.2.2.2.1) := hu4
  obtain rfl : u5 = (S self1.2.2.2.2.1) := hu5
  obtain rfl : u6 = (S self1.2.2.2.2.2) := hu6
  refine ⟨_, rfl, a1, G.C_Growth, dx1, _, _, rfl, (w.sub _ _ fq1), F.cl_Growth, F.n_Growth_out, (by rfl), _, rfl, a1, G.C_Growth, dx1, _, _, rfl, (w.sub _ _ fq1), F.cl_Growth, F.n_Growth_per, (by rfl), _, _, rfl, rfl, ?_⟩
  obtain rfl := Option.some.inj eR
  exact q H P (Ext.refl _) w
theorem fn_Growth_swells {P : Program} {w : World} {K : PySem.W.Frag} {mg : Str → Option Value} {base : Heap} {G : GA} {f : Addr} {fd : FuncData} (T : Tx w K G mg) (F : Fun K "swells" "Growth.swells" s_Growth_swells f fd) : FnOk P w K mg base CX0 1 f fd ["self"] (sp_Growth_swells K G) := by
  refine F.ok sc_Growth_swells (fun vs H Q E h => ?_) (fun cdv A outer s H vs Q E hr h => ⟨t_Growth_swells K G, ?_, rd_Growth_swells T.fa vs H Q E h⟩)
  · obtain ⟨_, _, _, _, _, rfl, _⟩ := h
    rfl
  · exact (pss_one (ps_ret (pe_cmpR o_gt (pe_fld (pv 0) rfl) (pe_fld (pv 0) rfl) (nomark _))))
theorem c_Growth_swells {P : Program} {w : World} {K : PySem.W.Frag} {mg : Str → Option Value} {base : Heap} {G : GA} (T : Tx w K G mg) : CalP P w K mg base 1 G.C_Growth "swells" (sp_Growth_swells K G) := by
  obtain ⟨p, f, fd, F, b, M⟩ := T.d_Growth_swells
  exact ⟨p, f, fd, _, fn_Growth_swells T F, M, b, T.fa.cl_Growth⟩

def m_Growth_bound (self1 : O_Growth) (length1 : Int) : Option Int :=
  (chk (-(2 ^ 64) < self1.1 ∧ self1.1 < 2 ^ 64) (chk (0 < self1.2.1 ∧ self1.2.1 < 1073741824) (some (((self1.1 * length1) + self1.2.2.1) / self1.2.1))))
def sp_Growth_bound (K : PySem.W.Frag) (G : GA) : Sp := fun vs H Q _ => ∃ (P : Hp) (cs0 : Cs) (vself1 : V) (self1 : O_Growth) (length1 : Int) (R0 : Int), vs = [vself1, (V.int length1)] ∧ Wd P H (cs0) ∧ (y_Growth K G) P vself1 self1 ∧ m_Growth_bound self1 length1 = some R0 ∧ ∀ (H1 P1 : Hp), Ext P P1 → Wd P1 H1 (cs0) → Q (V.int R0) H1
def t_Growth_bound (K : PySem.W.Frag) (G : GA) : TS := (tRet (tOp rDiv (tOp rAdd (tOp rMul (tFld K (tVar 0) "out") (tVar 1)) (tFld K (tVar 0) "slack")) (tFld K (tVar 0) "per")))
theorem sc_Growth_bound : FnScope ["self", "length"] ["self", "length"] (defScope s_Growth_bound) := ⟨rfl, rfl, rfl, by decide +kernel, rfl, by decide +kernel, by decide +kernel⟩
theorem rd_Growth_bound {K : PySem.W.Frag} {G : GA} (F : Fa K G) (vs : List V) (H : Hp) (Q : VK) (E : XK) (h : sp_Growth_bound K G vs H Q E) : t_Growth_bound K G { nx := fun _ H1 => Q .non H1, rt := Q } (L2.start ["self", "length"] vs) H := by
  obtain ⟨P, cs0, vself1, self1, length1, R0, rfl, w, hdself1, eR, q⟩ := h
  unfold m_Growth_bound at eR
  obtain ⟨a1, dx1, u1, u2, u3, u4, u5, u6, rfl, fq1, hu1, hu2, hu3, hu4, hu5, hu6⟩ := hdself1
  obtain rfl : u1 = (V.int self1.1) := hu1
  obtain rfl : u2 = (V.int self1.2.1) := hu2
  obtain rfl : u3 = (V.int self1.2.2.1) := hu3
  obtain rfl : u4 = (S self1.2.2.2.1) := hu4
  obtain rfl : u5 = (S self1.2.2.2.2.1) := hu5
  obtain rfl : u6 = (S self1.2.2.2.2.2) := hu6
  obtain ⟨hc1, eR⟩ := chk_some eR
  obtain ⟨hc2, eR⟩ := chk_some eR
  refine ⟨_, rfl, a1, G.C_Growth, dx1, _, _, rfl, (w.sub _ _ fq1), F.cl_Growth, F.n_Growth_out, (by rfl), _, rfl, _, _, rfl, rfl, (.inl hc1), _, rfl, a1, G.C_Growth, dx1, _, _, rfl, (w.sub _ _ fq1), F.cl_Growth, F.n_Growth_slack, (by rfl), _, _, rfl, rfl, _, rfl, a1, G.C_Growth, dx1, _, _, rfl, (w.sub _ _ fq1), F.cl_Growth, F.n_Growth_per, (by rfl), _, _, rfl, rfl, hc2, ?_⟩
  obtain rfl := Option.some.inj eR
  exact q H P (Ext.refl _) w
theorem fn_Growth_bound {P : Program} {w : World} {K : PySem.W.Frag} {mg : Str → Option Value} {base : Heap} {G : GA} {f : Addr} {fd : FuncData} (T : Tx w K G mg) (F : Fun K "bound" "Growth.bound" s_Growth_bound f fd) : FnOk P w K mg base CX0 1 f fd ["self", "length"] (sp_Growth_bound K G) := by
  refine F.ok sc_Growth_bound (fun vs H Q E h => ?_) (fun cdv A outer s H vs Q E hr h => ⟨t_Growth_bound K G, ?_, rd_Growth_bound T.fa vs H Q E h⟩)
  · obtain ⟨_, _, _, _, _, _, rfl, _⟩ := h
    rfl
  · exact (pss_one (ps_ret (pe_op o_div (pe_op o_add (pe_op o_mul (pe_fld (pv 0) rfl) (pv 1)) (pe_fld (pv 0) rfl)) (pe_fld (pv 0) rfl))))
theorem c_Growth_bound {P : Program} {w : World} {K : PySem.W.Frag} {mg : Str → Option Value} {base : Heap} {G : GA} (T : Tx w K G mg) : CalM P w K mg base 1 G.C_Growth "bound" (sp_Growth_bound K G) := by
  obtain ⟨f, fd, F, b, M⟩ := T.d_Growth_bound
  exact ⟨f, fd, _, fn_Growth_bound T F, M, b, T.fa.cl_Growth⟩

def m_number (worth1 : Int) : Option Bool :=
  (some (true && (!false)))
def sp_number (K : PySem.W.Frag) (G : GA) : Sp := fun vs H Q _ => ∃ (P : Hp) (cs0 : Cs) (worth1 : Int) (R0 : Bool), vs = [(V.int worth1)] ∧ Wd P H (cs0) ∧ m_number worth1 = some R0 ∧ ∀ (H1 P1 : Hp), Ext P P1 → Wd P1 H1 (cs0) → Q (V.bl R0) H1
def t_number (K : PySem.W.Frag) (G : GA) : TS := (tRet (tAndV (tCB (rIsi K) (tCons (tVar 0) (tCons (tC (V.ty "int")) tNil))) (tNotV (tCB (rIsi K) (tCons (tVar 0) (tCons (tC (V.ty "bool")) tNil))))))
theorem sc_number : FnScope ["_law_worth"] ["_law_worth"] (defScope s_number) := ⟨rfl, rfl, rfl, by decide +kernel, rfl, by decide +kernel, by decide +kernel⟩
theorem rd_number {K : PySem.W.Frag} {G : GA} (F : Fa K G) (vs : List V) (H : Hp) (Q : VK) (E : XK) (h : sp_number K G vs H Q E) : t_number K G { nx := fun _ H1 => Q .non H1, rt := Q } (L2.start ["_law_worth"] vs) H := by
  obtain ⟨P, cs0, worth1, R0, rfl, w, eR, q⟩ := h
  unfold m_number at eR
  have hB1 : ∀ Q : VK, (∀ Hz Pz, Ext P Pz → Wd Pz Hz (cs0) → Q (V.bl (true && (!false))) Hz) → (tAndV (tCB (rIsi K) (tCons (tVar 0) (tCons (tC (V.ty "int")) tNil))) (tNotV (tCB (rIsi K) (tCons (tVar 0) (tCons (tC (V.ty "bool")) tNil))))) [some (V.int worth1)] H Q := by
    intro Q hQ
    refine ⟨_, rfl, _, _, (.type "int"), (.type "int"), true, rfl, (.ty _), (.base (.int _)), (kit_ty (by decide +kernel)), _, rfl, ?_⟩
    refine iteB (fun hb1 => ?_) (fun hb1 => ?_)
    · refine ⟨_, rfl, _, _, (.type "int"), (.type "bool"), false, rfl, (.ty _), (.base (.int _)), (kit_ty (by decide +kernel)), _, rfl, ?_⟩
      have hq1 := hQ H P (Ext.refl _) w
      rw [hb1, Bool.true_and] at hq1
      exact hq1
    · have hq2 := hQ H P (Ext.refl _) w
      rw [hb1, Bool.false_and] at hq2
      exact hq2
  refine hB1 _ fun H1 P1 e1 w1 => ?_
  obtain rfl := Option.some.inj eR
  exact q H1 P1 e1 w1
theorem fn_number {P : Program} {w : World} {K : PySem.W.Frag} {mg : Str → Option Value} {base : Heap} {G : GA} {f : Addr} {fd : FuncData} (T : Tx w K G mg) (F : Fun K "_law_number" "_law_number" s_number f fd) : FnOk P w K mg base CX0 1 f fd ["_law_worth"] (sp_number K G) := by
  refine F.ok sc_number (fun vs H Q E h => ?_) (fun cdv A outer s H vs Q E hr h => ⟨t_number K G, ?_, rd_number T.fa vs H Q E h⟩)
  · obtain ⟨_, _, _, _, rfl, _⟩ := h
    rfl
  · exact (pss_one (ps_ret (pe_and (pe_callB call_isi (by rfl) T.z_isinstance (by decide +kernel) (pa_cons (pv 0) (pa_cons (pe_bltn (v := V.ty "int") (by rfl) T.z_int (by decide +kernel) rfl) pa_nil))) (pe_one (pe_not (pe_callB call_isi (by rfl) T.z_isinstance (by decide +kernel) (pa_cons (pv 0) (pa_cons (pe_bltn (v := V.ty "bool") (by rfl) T.z_bool (by decide +kernel) rfl) pa_nil))))))))
theorem c_number {P : Program} {w : World} {K : PySem.W.Frag} {mg : Str → Option Value} {base : Heap} {G : GA} (T : Tx w K G mg) : Cal P w K mg base 1 "_law_number" (sp_number K G) := by
  obtain ⟨f, fd, F, b, g⟩ := T.d_number
  exact ⟨f, fd, _, fn_number T F, g, F.kp, b⟩

def bd_law_2 (ns : List Int) (i2 : Nat) (b1 : Box) : Option ((List Nat) × Box) :=
  (ob (m_text ns b1 ([([97] : List Nat), ([48] : List Nat)] : List (List Nat)) 3) (fun (t6 : ((List Nat) × Box)) => (some (t6.1, t6.2))))
def bd_law_1 (ns : List Int) (i1 : Nat) (s1 : ((List (O_Growth × (List Int) × (List (List Nat)) × Int)) × Box)) : Option ((List (O_Growth × (List Int) × (List (List Nat)) × Int)) × Box) :=
  (ob (takeO ns s1.2 41) (fun (t2 : (Int × Box)) => (ob (takeO ns t2.2 12) (fun (t3 : (Int × Box)) => (ob (takeO ns t3.2 61) (fun (t4 : (Int × Box)) => (ob (mps (bd_law_2 ns) (List.range 3) t4.2) (fun (t5 : ((List (List Nat)) × Box)) => (chk (0 < ([t2.1, (1 + t3.1), t4.1] : List Int).length) (chk (1 < ([t2.1, (1 + t3.1), t4.1] : List Int).length) (chk (2 < ([t2.1, (1 + t3.1), t4.1] : List Int).length) (chk (0 < t5.1.length) (chk (1 < t5.1.length) (chk (2 < t5.1.length) (ob (m_Growth_init (([t2.1, (1 + t3.1), t4.1] : List Int).getD 0 (0 : Int)) (([t2.1, (1 + t3.1), t4.1] : List Int).getD 1 (0 : Int)) (([t2.1, (1 + t3.1), t4.1] : List Int).getD 2 (0 : Int)) (t5.1.getD 0 ([] : List Nat)) (t5.1.getD 1 ([] : List Nat)) (t5.1.getD 2 ([] : List Nat))) (fun (t7 : O_Growth) => (ob (takeO ns t5.2 201) (fun (t8 : (Int × Box)) => (chk (s1.1.length < 1000000) (some ((s1.1 ++ [(t7, ([t2.1, (1 + t3.1), t4.1] : List Int), t5.1, t8.1)]), t8.2)))))))))))))))))))))
def bd_law_3 (it1 : (O_Growth × (List Int) × (List (List Nat)) × Int)) (s3 : Unit) : Option (Lr Unit Bool) :=
  (ob (chk ((okL okA) ([it1.1.1, it1.1.2.1, it1.1.2.2.1] : List Int) = true ∧ (okL okA) it1.2.1 = true) (if (!(decide (([it1.1.1, it1.1.2.1, it1.1.2.2.1] : List Int) = it1.2.1))) then (some true) else (chk ((okL okS) ([it1.1.2.2.2.1, it1.1.2.2.2.2.1, it1.1.2.2.2.2.2] : List (List Nat)) = true ∧ (okL okS) it1.2.2.1 = true) (some (!(decide (([it1.1.2.2.2.1, it1.1.2.2.2.2.1, it1.1.2.2.2.2.2] : List (List Nat)) = it1.2.2.1))))))) (fun (t10 : Bool) => (if t10 then (some (Lr.rt false)) else (ob (ob (m_Growth_swells it1.1) (fun (t12 : Bool) => (if (!true) then (some true) else (ob (m_Growth_swells it1.1) (fun (t13 : Bool) => (chk (0 < it1.2.1.length) (chk (1 < it1.2.1.length) (some (!(decide (t13 = (decide ((it1.2.1.getD 1 (0 : Int)) < (it1.2.1.getD 0 (0 : Int))))))))))))))) (fun (t11 : Bool) => (if t11 then (some (Lr.rt false)) else (ob (m_Growth_bound it1.1 it1.2.2.2) (fun (t14 : Int) => (chk (0 < it1.2.1.length) (chk (-(2 ^ 64) < (it1.2.1.getD 0 (0 : Int)) ∧ (it1.2.1.getD 0 (0 : Int)) < 2 ^ 64) (chk (2 < it1.2.1.length) (ob (ob (m_number t14) (fun (t16 : Bool) => (if (!t16) then (some true) else (ob (chk (1 < it1.2.1.length) (chk (-(2 ^ 64) < t14 ∧ t14 < 2 ^ 64) (if (decide ((t14 * (it1.2.1.getD 1 (0 : Int))) ≤ (((it1.2.1.getD 0 (0 : Int)) * it1.2.2.2) + (it1.2.1.getD 2 (0 : Int))))) then (chk (1 < it1.2.1.length) (chk (-(2 ^ 64) < (t14 + 1) ∧ (t14 + 1) < 2 ^ 64) (some (decide ((((it1.2.1.getD 0 (0 : Int)) * it1.2.2.2) + (it1.2.1.getD 2 (0 : Int))) < ((t14 + 1) * (it1.2.1.getD 1 (0 : Int)))))))) else (some false)))) (fun (t17 : Bool) => (some (!t17))))))) (fun (t15 : Bool) => (if t15 then (some (Lr.rt false)) else (some (Lr.nx ()))))))))))))))))
def bd_law_4 (it2 : (O_Growth × (List Int) × (List (List Nat)) × Int)) (s5 : Unit) : Option (Lr Unit Bool) :=
  (chk (0 < it2.2.1.length) (chk (1 < it2.2.1.length) (chk (2 < it2.2.1.length) (ob (m_Growth_init (it2.2.1.getD 0 (0 : Int)) (it2.2.1.getD 1 (0 : Int)) ((-1 : Int) - (it2.2.1.getD 2 (0 : Int))) (cs "") (cs "") ([97] : List Nat)) (fun (t19 : O_Growth) => (ob (m_Growth_bound t19 0) (fun (t20 : Int) => (ob (chk (1 < it2.2.1.length) (chk (-(2 ^ 64) < t20 ∧ t20 < 2 ^ 64) (chk (2 < it2.2.1.length) (if (decide ((t20 * (it2.2.1.getD 1 (0 : Int))) ≤ ((-1 : Int) - (it2.2.1.getD 2 (0 : Int))))) then (chk (1 < it2.2.1.length) (chk (-(2 ^ 64) < (t20 + 1) ∧ (t20 + 1) < 2 ^ 64) (some (decide (((-1 : Int) - (it2.2.1.getD 2 (0 : Int))) < ((t20 + 1) * (it2.2.1.getD 1 (0 : Int)))))))) else (some false))))) (fun (t21 : Bool) => (if (!t21) then (some (Lr.rt false)) else (some (Lr.nx ()))))))))))))
def m_law (ns : List Int) : Option Bool :=
  (ob (itf (bd_law_1 ns) (List.range 2) (([] : List (O_Growth × (List Int) × (List (List Nat)) × Int)), box0)) (fun (s2 : ((List (O_Growth × (List Int) × (List (List Nat)) × Int)) × Box)) => (chk (s2.1.length + s2.1.length ≤ 1000000) (ob (itr bd_law_3 (s2.1 ++ s2.1) ()) (fun (t9 : (Lr Unit Bool)) => Lr.el t9 (fun (r : Bool) => some r) (fun (s4 : Unit) => (ob (itr bd_law_4 s2.1 ()) (fun (t18 : (Lr Unit Bool)) => Lr.el t18 (fun (r : Bool) => some r) (fun (s6 : Unit) => (some true))))))))))
def sp_law (K : PySem.W.Frag) (G : GA) : Sp := fun vs H Q _ => ∃ (P : Hp) (cs0 : Cs) (ascr : Addr) (ns0 : List Int) (R0 : Bool), vs = [V.ref ascr] ∧ Wd P H (cs0) ∧ SqL K P ascr (ns0.map V.int) ∧ ns0.length ≤ 63 ∧ m_law (absL ns0) = some R0 ∧ ∀ (H1 P1 : Hp), Ext P P1 → Wd P1 H1 (cs0) → Q (V.bl R0) H1
def t_law (K : PySem.W.Frag) (G : GA) : TS := (tSeq (tAsg (tCall (sp_box K G) [] E0 (tCons (tVar 0) tNil)) (gName 1)) (tSeq (tAsg (tLst tNil) (gName 2)) (tSeq (tFor (iRng1 (tCons (tC (V.int 2)) tNil)) (gName 3) (tSeq (tAsg (tLst (tCons (tCall (sp_take K G) [] E0 (tCons (tVar 1) (tCons (tC (V.int 41)) tNil))) (tCons (tOp rAdd (tC (V.int 1)) (tCall (sp_take K G) [] E0 (tCons (tVar 1) (tCons (tC (V.int 12)) tNil)))) (tCons (tCall (sp_take K G) [] E0 (tCons (tVar 1) (tCons (tC (V.int 61)) tNil))) tNil)))) (gName 4)) (tSeq (tAsg (tLc (iRng1 (tCons (tC (V.int 3)) tNil)) (gName 11) tYes (tCall (sp_text K G) [] E0 (tCons (tVar 1) (tCons (tLst (tCons (tC (S (cs "a"))) (tCons (tC (S (cs "0"))) tNil))) (tCons (tC (V.int 3)) tNil)))) [11]) (gName 5)) (tSeq (tAsg (tMake G.C_Growth (sp_Growth_init K G) [] E0 (tCons (tOp (rIxL K) (tVar 4) (tC (V.int 0))) (tCons (tOp (rIxL K) (tVar 4) (tC (V.int 1))) (tCons (tOp (rIxL K) (tVar 4) (tC (V.int 2))) (tCons (tOp (rIxL K) (tVar 5) (tC (V.int 0))) (tCons (tOp (rIxL K) (tVar 5) (tC (V.int 1))) (tCons (tOp (rIxL K) (tVar 5) (tC (V.int 2))) tNil))))))) (gName 6)) (tDrop (tBM K "list" rAppend (tVar 2) (tCons (tTup (tCons (tVar 6) (tCons (tVar 4) (tCons (tVar 5) (tCons (tCall (sp_take K G) [] E0 (tCons (tVar 1) (tCons (tC (V.int 201)) tNil))) tNil))))) tNil))))))) (tSeq (tFor (iList K (tOp rCat (tVar 2) (tVar 2))) (gTup K 4 (gCons (gName 6) (gCons (gName 4) (gCons (gName 5) (gCons (gName 7) gNil))))) (tSeq (tIfS (tOr (tTest (tOp (rNeR (yL yI) (okL okA)) (tLst (tCons (tFld K (tVar 6) "out") (tCons (tFld K (tVar 6) "per") (tCons (tFld K (tVar 6) "slack") tNil)))) (tVar 4))) (tTest (tOp (rNeR (yL yS) (okL okS)) (tLst (tCons (tFld K (tVar 6) "peak") (tCons (tFld K (tVar 6) "lead") (tCons (tFld K (tVar 6) "loop") tNil)))) (tVar 5)))) (tRet (tC (V.bl false))) tNext) (tSeq (tIfS (tOr (tNot (tB (tCB (rIsi K) (tCons (tProp G.C_Growth (sp_Growth_swells K G) [] E0 (tVar 6)) (tCons (tC (V.ty "bool")) tNil))))) (tTest (tOp rNeB (tProp G.C_Growth (sp_Growth_swells K G) [] E0 (tVar 6)) (tOp rGt (tOp (rIxL K) (tVar 4) (tC (V.int 0))) (tOp (rIxL K) (tVar 4) (tC (V.int 1))))))) (tRet (tC (V.bl false))) tNext) (tSeq (tAsg (tMeth G.C_Growth "bound" (sp_Growth_bound K G) [] E0 (tVar 6) (tCons (tVar 7) tNil)) (gName 8)) (tSeq (tAsg (tOp rAdd (tOp rMul (tOp (rIxL K) (tVar 4) (tC (V.int 0))) (tVar 7)) (tOp (rIxL K) (tVar 4) (tC (V.int 2)))) (gName 9)) (tIfS (tOr (tNot (tB (tCall (sp_number K G) [] E0 (tCons (tVar 8) tNil)))) (tNot (tTest (tChain rLe rLt (tOp rMul (tVar 8) (tOp (rIxL K) (tVar 4) (tC (V.int 1)))) (tVar 9) (tOp rMul (tOp rAdd (tVar 8) (tC (V.int 1))) (tOp (rIxL K) (tVar 4) (tC (V.int 1)))))))) (tRet (tC (V.bl false))) tNext)))))) (tSeq (tFor (iList K (tVar 2)) (gTup K 4 (gCons (gName 6) (gCons (gName 4) (gCons (gName 5) (gCons (gName 7) gNil))))) (tSeq (tAsg (tMeth G.C_Growth "bound" (sp_Growth_bound K G) [] E0 (tMake G.C_Growth (sp_Growth_init K G) [] E0 (tCons (tOp (rIxL K) (tVar 4) (tC (V.int 0))) (tCons (tOp (rIxL K) (tVar 4) (tC (V.int 1))) (tCons (tOp rSub (tUn (rU fun i => .int (-i)) (tC (V.int 1))) (tOp (rIxL K) (tVar 4) (tC (V.int 2)))) (tCons (tC (S (cs ""))) (tCons (tC (S (cs ""))) (tCons (tC (S (cs "a"))) tNil))))))) (tCons (tC (V.int 0)) tNil)) (gName 10)) (tIfS (tNot (tTest (tChain rLe rLt (tOp rMul (tVar 10) (tOp (rIxL K) (tVar 4) (tC (V.int 1)))) (tOp rSub (tUn (rU fun i => .int (-i)) (tC (V.int 1))) (tOp (rIxL K) (tVar 4) (tC (V.int 2)))) (tOp rMul (tOp rAdd (tVar 10) (tC (V.int 1))) (tOp (rIxL K) (tVar 4) (tC (V.int 1))))))) (tRet (tC (V.bl false))) tNext))) (tRet (tC (V.bl true))))))))
theorem sc_law : FnScope ["_law_script", "_law_box_here", "_law_rows", "_law_turn", "_law_numbers", "_law_texts", "_law_made", "_law_length", "_law_actual", "_law_total", "_law_below", "_law_k"] ["_law_script"] (defScope s_law) := ⟨rfl, rfl, rfl, by decide +kernel, rfl, by decide +kernel, by decide +kernel⟩
theorem rd_law {K : PySem.W.Frag} {G : GA} (F : Fa K G) (vs : List V) (H : Hp) (Q : VK) (E : XK) (h : sp_law K G vs H Q E) : t_law K G { nx := fun _ H1 => Q .non H1, rt := Q } (L2.start ["_law_script", "_law_box_here", "_law_rows", "_law_turn", "_law_numbers", "_law_texts", "_law_made", "_law_length", "_law_actual", "_law_total", "_law_below", "_law_k"] vs) H := by
  obtain ⟨P, cs0, ascr, ns0, R0, rfl, w, hl0, hlen0, eR, q⟩ := h
  unfold m_law at eR
  refine ⟨_, rfl, P, (cs0), ascr, ns0, rfl, w, hl0, hlen0, fun H1 P1 p1 l1 e1 w1 hl => ?_⟩
  generalize absL ns0 = ns at hl eR
  refine ⟨(by show 0 ≤ sizeLine; decide), fun p2 np1 => ?_⟩
  have al1 : AR (y4 K (y_Growth K G) (yL yI) (yL yS) yI) P1 ([] : List V) ([] : List (O_Growth × (List Int) × (List (List Nat)) × Int)) := AR.nil
  have w2 := w1.new np1 (HO.lst ([] : List V))
  generalize upd H1 p2 (HO.lst ([] : List V)) = H2 at w2 ⊢
  obtain ⟨t1, et1, eR⟩ := ob_some eR
  obtain ⟨F1, hF1, et1⟩ := nm_itf et1
  refine ⟨_, rfl, (by decide), (by decide), for_it walk_range0 (fun i σz Hz => ∃ (Pz : Hp) (zs : ((List (O_Growth × (List Int) × (List (List Nat)) × Int)) × Box)) (lz0 : List V) (yz0 : Option V) (yz1 : Option V) (yz2 : Option V) (yz3 : Option V), Ext P1 Pz ∧ σz = [some (V.ref ascr), some (V.ref p1), some (.ref p2), yz3, yz0, yz1, yz2, none, none, none, none, none] ∧ Wd Pz Hz ((p2, (HO.lst lz0)) :: (p1, (boxO l1 zs.2)) :: cs0) ∧ AR (y4 K (y_Growth K G) (yL yI) (yL yS) yI) Pz lz0 zs.1 ∧ itf F1 ((List.range 2).drop i) zs = some t1) ?_ ?_ ?_ ?_⟩
  · exact ⟨P1, (([] : List (O_Growth × (List Int) × (List (List Nat)) × Int)), box0), ([] : List V), none, none, none, none, Ext.refl _, rfl, w2, al1, et1⟩
  · rintro i σz Hz _ ⟨Pz, zs, lz0, yz0, yz1, yz2, yz3, ee, rfl, ww, _⟩
    trivial
  · rintro i1 x1 _ H3 H4 hi1 ⟨P2, s1, vs1, od1, od2, od3, od4, e2, rfl, w3, al2, et2⟩ hy1
    obtain ⟨eH1, hx1⟩ := hy1
    rw [eH1]
    subst hx1
    have eD1 := range_drop (n := 2) (i := i1) (by assumption)
    rw [eD1, itf] at et2
    obtain ⟨o1, eo1, et2⟩ := ob_some et2
    rw [hF1] at eo1
    unfold bd_law_1 at eo1
    obtain ⟨t2, et3, eo1⟩ := ob_some eo1
    refine ⟨_, rfl, P2, ((p2, (HO.lst vs1)) :: cs0), p1, l1, ns, s1.2, 41, t2, rfl, (w3.pull 1 rfl), (Ext.sql e2 hl), et3, fun H5 P3 e3 w4 => ?_⟩
    obtain ⟨t3, et4, eo1⟩ := ob_some eo1
    refine ⟨_, rfl, P3, ((p2, (HO.lst vs1)) :: cs0), p1, l1, ns, t2.2, 12, t3, rfl, w4, (Ext.sql (e2.trans e3) hl), et4, fun H6 P4 e4 w5 => ?_⟩
    obtain ⟨t4, et5, eo1⟩ := ob_some eo1
    refine ⟨_, _, rfl, rfl, _, rfl, P4, ((p2, (HO.lst vs1)) :: cs0), p1, l1, ns, t3.2, 61, t4, rfl, w5, (Ext.sql ((e2.trans e3).trans e4) hl), et5, fun H7 P5 e5 w6 => ?_⟩
    refine ⟨(by show 3 ≤ sizeLine; decide), fun p3 np2 => ?_⟩
    have al3 : AR yI P5 ([(V.int t2.1), (V.int (1 + t3.1)), (V.int t4.1)] : List V) ([t2.1, (1 + t3.1), t4.1] : List Int) := (AR.cons rfl (AR.cons rfl (AR.cons rfl AR.nil)))
    have e6 := w6.fext np2 (HO.lst ([(V.int t2.1), (V.int (1 + t3.1)), (V.int t4.1)] : List V))
    have w7 := w6.frz np2 (HO.lst ([(V.int t2.1), (V.int (1 + t3.1)), (V.int t4.1)] : List V))
    have fq1 : upd P5 p3 (HO.lst ([(V.int t2.1), (V.int (1 + t3.1)), (V.int t4.1)] : List V)) p3 = some (HO.lst ([(V.int t2.1), (V.int (1 + t3.1)), (V.int t4.1)] : List V)) := upd_same
    generalize upd H7 p3 (HO.lst ([(V.int t2.1), (V.int (1 + t3.1)), (V.int t4.1)] : List V)) = H8 at w7 ⊢
    generalize upd P5 p3 (HO.lst ([(V.int t2.1), (V.int (1 + t3.1)), (V.int t4.1)] : List V)) = P6 at w7 e6 fq1
    have al4 := (AR.up e6 al3)
    obtain ⟨t5, et6, eo1⟩ := ob_some eo1
    obtain ⟨F2, hF2, et6⟩ := nm_mps et6
    refine ⟨_, rfl, (by decide), (by decide), fun D1 nD1 => ?_⟩
    refine lc_it walk_range0 (fun i Hz => ∃ (Pz : Hp) (vsz : List V) (accz rsz : (List (List Nat))) (bz : Box), Ext P6 Pz ∧ Wd Pz Hz ((D1, (HO.lst vsz)) :: (p1, (boxO l1 bz)) :: (p2, (HO.lst vs1)) :: cs0) ∧ AR yS Pz vsz accz ∧ accz.length ≤ i ∧ accz ++ rsz = t5.1 ∧ mps F2 ((List.range 3).drop i) bz = some (rsz, t5.2)) ?_ ?_ ?_ ?_
    · exact ⟨P6, [], [], t5.1, t4.2, Ext.refl _, w7.new nD1 _, AR.nil, Nat.le_refl _, rfl, et6⟩
    · rintro i Hz _ ⟨Pz, vsz, accz, rsz, bz, ee, ww, _⟩
      trivial
    · rintro i2 x2 H9 H10 hi2 ⟨P7, vs2, acc1, rs1, b1, e7, w8, al5, hlen1, hsum1, et7⟩ hy2
      obtain ⟨eH2, hx2⟩ := hy2
      rw [eH2]
      subst hx2
      have eD2 := range_drop (n := 3) (i := i2) (by assumption)
      rw [eD2, mps] at et7
      obtain ⟨yy1, ey1, et7⟩ := ob_some et7
      obtain ⟨rs2, er1, et7⟩ := ob_some et7
      rw [hF2] at ey1
      unfold bd_law_2 at ey1
      refine ⟨rfl, ?_⟩
      refine ⟨_, rfl, (by show 2 ≤ sizeLine; decide), fun p4 np3 => ?_⟩
      have al6 : AR yS P7 ([(S (cs "a")), (S (cs "0"))] : List V) ([([97] : List Nat), ([48] : List Nat)] : List (List Nat)) := (AR.cons rfl (AR.cons rfl AR.nil))
      have e8 := w8.fext np3 (HO.lst ([(S (cs "a")), (S (cs "0"))] : List V))
      have w9 := w8.frz np3 (HO.lst ([(S (cs "a")), (S (cs "0"))] : List V))
      have fq2 : upd P7 p4 (HO.lst ([(S (cs "a")), (S (cs "0"))] : List V)) p4 = some (HO.lst ([(S (cs "a")), (S (cs "0"))] : List V)) := upd_same
      generalize upd H9 p4 (HO.lst ([(S (cs "a")), (S (cs "0"))] : List V)) = H11 at w9 ⊢
      generalize upd P7 p4 (HO.lst ([(S (cs "a")), (S (cs "0"))] : List V)) = P8 at w9 e8 fq2
      have al7 := (AR.up e8 al6)
      obtain ⟨t6, et8, ey1⟩ := ob_some ey1
      refine ⟨P8, ((D1, (HO.lst vs2)) :: (p2, (HO.lst vs1)) :: cs0), p1, l1, ns, b1, (.ref p4), ([([97] : List Nat), ([48] : List Nat)] : List (List Nat)), 3, t6, rfl, (w9.pull 1 rfl), (Ext.sql ((((((e2.trans e3).trans e4).trans e5).trans e6).trans e7).trans e8) hl), ⟨_, _, rfl, fq2, al7⟩, et8, fun H12 P9 e9 w10 => ?_⟩
      refine ⟨vs2, (w10.get 1 rfl), (szl (by rw [AR.len (AR.up (e8.trans e9) al5)]; exact Nat.lt_of_le_of_lt hlen1 (Nat.lt_of_lt_of_le hi2 (by decide)))), ?_⟩
      obtain rfl := Option.some.inj ey1
      exact ⟨P9, _, _, _, _, ((e7.trans e8).trans e9), ((w10.put 1 (HO.lst (vs2 ++ [(S t6.1)])) rfl).pull 1 rfl), (AR.snoc (AR.up (e8.trans e9) al5) rfl), snoc_len hlen1, snoc_sumB hsum1 et7, mps_eq er1 et7⟩
    rintro H13 ⟨P10, vs3, acc2, rs3, b2, e10, w11, al8, hlen2, hsum2, et9⟩
    rw [drop_range_of (n := Int.toNat 3) (m := 3) rfl, mps] at et9
    rw [mps_acc hsum2 et9] at al8; rw [mps_box et9] at w11
    have e11 : Ext P10 (upd P10 D1 (HO.lst vs3)) := w11.kext
    have w12 : Wd (upd P10 D1 (HO.lst vs3)) H13 ((p1, (boxO l1 t5.2)) :: (p2, (HO.lst vs1)) :: cs0) := w11.keep
    have fq3 : upd P10 D1 (HO.lst vs3) D1 = some (HO.lst vs3) := upd_same
    generalize upd P10 D1 (HO.lst vs3) = P11 at w12 e11 fq3
    have al9 := (AR.up e11 al8)
    obtain ⟨hc1, eo1⟩ := chk_some eo1
    obtain ⟨v1, hat1, hd1⟩ := AR.getN (n := 0) (d := (0 : Int)) (AR.up (e10.trans e11) al4) hc1
    obtain rfl : v1 = (V.int (([t2.1, (1 + t3.1), t4.1] : List Int).getD 0 (0 : Int))) := hd1
    obtain ⟨hc2, eo1⟩ := chk_some eo1
    obtain ⟨v2, hat2, hd2⟩ := AR.getN (n := 1) (d := (0 : Int)) (AR.up (e10.trans e11) al4) hc2
    obtain rfl : v2 = (V.int (([t2.1, (1 + t3.1), t4.1] : List Int).getD 1 (0 : Int))) := hd2
    obtain ⟨hc3, eo1⟩ := chk_some eo1
    obtain ⟨v3, hat3, hd3⟩ := AR.getN (n := 2) (d := (0 : Int)) (AR.up (e10.trans e11) al4) hc3
    obtain rfl : v3 = (V.int (([t2.1, (1 + t3.1), t4.1] : List Int).getD 2 (0 : Int))) := hd3
    obtain ⟨hc4, eo1⟩ := chk_some eo1
    obtain ⟨v4, hat4, hd4⟩ := AR.getN (n := 0) (d := ([] : List Nat)) al9 hc4
    obtain rfl : v4 = (S (t5.1.getD 0 ([] : List Nat))) := hd4
    obtain ⟨hc5, eo1⟩ := chk_some eo1
    obtain ⟨v5, hat5, hd5⟩ := AR.getN (n := 1) (d := ([] : List Nat)) al9 hc5
    obtain rfl : v5 = (S (t5.1.getD 1 ([] : List Nat))) := hd5
    obtain ⟨hc6, eo1⟩ := chk_some eo1
    obtain ⟨v6, hat6, hd6⟩ := AR.getN (n := 2) (d := ([] : List Nat)) al9 hc6
    obtain rfl : v6 = (S (t5.1.getD 2 ([] : List Nat))) := hd6
    refine ⟨_, rfl, p3, _, _, _, rfl, rfl, (.inl (.inl (w12.sub _ _ ((e10.trans e11) _ _ fq1)))), (atI_nat hat1), _, rfl, p3, _, _, _, rfl, rfl, (.inl (.inl (w12.sub _ _ ((e10.trans e11) _ _ fq1)))), (atI_nat hat2), _, rfl, p3, _, _, _, rfl, rfl, (.inl (.inl (w12.sub _ _ ((e10.trans e11) _ _ fq1)))), (atI_nat hat3), _, rfl, D1, _, _, _, rfl, rfl, (.inl (.inl (w12.sub _ _ fq3))), (atI_nat hat4), _, rfl, D1, _, _, _, rfl, rfl, (.inl (.inl (w12.sub _ _ fq3))), (atI_nat hat5), _, rfl, D1, _, _, _, rfl, rfl, (.inl (.inl (w12.sub _ _ fq3))), (atI_nat hat6), fun x3 dx1 hx3 hdx1 hne1 => ?_⟩
    obtain ⟨t7, et10, eo1⟩ := ob_some eo1
    refine ⟨P11, ((p1, (boxO l1 t5.2)) :: (p2, (HO.lst vs1)) :: cs0), x3, dx1, (([t2.1, (1 + t3.1), t4.1] : List Int).getD 0 (0 : Int)), (([t2.1, (1 + t3.1), t4.1] : List Int).getD 1 (0 : Int)), (([t2.1, (1 + t3.1), t4.1] : List Int).getD 2 (0 : Int)), (t5.1.getD 0 ([] : List Nat)), (t5.1.getD 1 ([] : List Nat)), (t5.1.getD 2 ([] : List Nat)), t7, rfl, (w12.made hx3 hdx1 hne1), et10, fun H14 P12 e12 w14 hd7 => ⟨rfl, ?_⟩⟩
    obtain ⟨a1, dx2, u1, u2, u3, u4, u5, u6, he1, fq4, hu1, hu2, hu3, hu4, hu5, hu6⟩ := hd7
    obtain rfl := V.ref.inj he1
    obtain rfl : u1 = (V.int t7.1) := hu1
    obtain rfl : u2 = (V.int t7.2.1) := hu2
    obtain rfl : u3 = (V.int t7.2.2.1) := hu3
    obtain rfl : u4 = (S t7.2.2.2.1) := hu4
    obtain rfl : u5 = (S t7.2.2.2.2.1) := hu5
    obtain rfl : u6 = (S t7.2.2.2.2.2) := hu6
    obtain ⟨t8, et11, eo1⟩ := ob_some eo1
    refine ⟨_, rfl, .inl ⟨rfl, _, .inl (.inl (w14.get 1 rfl))⟩, _, rfl, _, rfl, _, rfl, _, rfl, P12, ((p2, (HO.lst vs1)) :: cs0), p1, l1, ns, t5.2, 201, t8, rfl, w14, (Ext.sql (((((((e2.trans e3).trans e4).trans e5).trans e6).trans e10).trans e11).trans e12) hl), et11, fun H15 P13 e13 w15 => ?_⟩
    refine ⟨(by show 4 ≤ sizeLine; decide), fun p5 np4 => ?_⟩
    have e14 := w15.fext np4 (HO.tup ([(.ref x3), (.ref p3), (.ref D1), (V.int t8.1)] : List V))
    have w16 := w15.frz np4 (HO.tup ([(.ref x3), (.ref p3), (.ref D1), (V.int t8.1)] : List V))
    have fq5 : upd P13 p5 (HO.tup ([(.ref x3), (.ref p3), (.ref D1), (V.int t8.1)] : List V)) p5 = some (HO.tup ([(.ref x3), (.ref p3), (.ref D1), (V.int t8.1)] : List V)) := upd_same
    generalize upd H15 p5 (HO.tup ([(.ref x3), (.ref p3), (.ref D1), (V.int t8.1)] : List V)) = H16 at w16 ⊢
    generalize upd P13 p5 (HO.tup ([(.ref x3), (.ref p3), (.ref D1), (V.int t8.1)] : List V)) = P14 at w16 e14 fq5
    have sq1 : SqT K P14 p5 ([(.ref x3), (.ref p3), (.ref D1), (V.int t8.1)] : List V) := .inl (.inl fq5)
    obtain ⟨hc7, eo1⟩ := chk_some eo1
    refine ⟨_, _, _, rfl, rfl, (w16.get 1 rfl), (szl (by rw [AR.len (AR.up ((((((((e3.trans e4).trans e5).trans e6).trans e10).trans e11).trans e12).trans e13).trans e14) al2)]; exact hc7)), ?_⟩
    have al10 : AR (y4 K (y_Growth K G) (yL yI) (yL yS) yI) P14 (vs1 ++ [(.ref p5)]) (s1.1 ++ [(t7, ([t2.1, (1 + t3.1), t4.1] : List Int), t5.1, t8.1)]) := (AR.snoc (AR.up ((((((((e3.trans e4).trans e5).trans e6).trans e10).trans e11).trans e12).trans e13).trans e14) al2) ⟨_, _, _, _, _, rfl, sq1, ⟨_, _, _, _, _, _, _, _, rfl, ((e13.trans e14) _ _ fq4), rfl, rfl, rfl, rfl, rfl, rfl⟩, ⟨_, _, rfl, (((((e10.trans e11).trans e12).trans e13).trans e14) _ _ fq1), (AR.up ((((e10.trans e11).trans e12).trans e13).trans e14) al4)⟩, ⟨_, _, rfl, (((e12.trans e13).trans e14) _ _ fq3), (AR.up ((e12.trans e13).trans e14) al9)⟩, rfl⟩)
    have w17 : Wd P14 (upd H16 p2 (HO.lst (vs1 ++ [(.ref p5)]))) ((p1, (boxO l1 t8.2)) :: (p2, (HO.lst (vs1 ++ [(.ref p5)]))) :: cs0) := w16.put 1 (HO.lst (vs1 ++ [(.ref p5)])) rfl
    generalize upd H16 p2 (HO.lst (vs1 ++ [(.ref p5)])) = H17 at w17 ⊢
    generalize (vs1 ++ [(.ref p5)]) = vs4 at w17 al10
    obtain rfl := Option.some.inj eo1
    exact ⟨P14, ((s1.1 ++ [(t7, ([t2.1, (1 + t3.1), t4.1] : List Int), t5.1, t8.1)]), t8.2), vs4, (some (.ref p3)), (some (.ref D1)), (some (.ref x3)), (some (V.int ((i1 : Nat) : Int))), (((((((((e2.trans e3).trans e4).trans e5).trans e6).trans e10).trans e11).trans e12).trans e13).trans e14), rfl, (w17.pull 1 rfl), al10, et2⟩
  rintro _ H18 ⟨P15, s2, vs5, od5, od6, od7, od8, e15, rfl, w18, al11, et12⟩
  rw [drop_range_of (n := Int.toNat 2) (m := 2) rfl, itf] at et12
  obtain rfl := Option.some.inj et12
  obtain ⟨hc8, eR⟩ := chk_some eR
  refine ⟨_, rfl, _, rfl, _, _, vs5, vs5, rfl, rfl, (w18.get 0 rfl), (w18.get 0 rfl), (sz (by simp only [AR.len al11, AR.len al11]; exact hc8)), fun p6 np5 => ?_⟩
  have al12 : AR (y4 K (y_Growth K G) (yL yI) (yL yS) yI) P15 (vs5 ++ vs5) (s2.1 ++ s2.1) := (AR.app al11 al11)
  have e16 := w18.fext np5 (HO.lst (vs5 ++ vs5))
  have w19 := w18.frz np5 (HO.lst (vs5 ++ vs5))
  have fq6 : upd P15 p6 (HO.lst (vs5 ++ vs5)) p6 = some (HO.lst (vs5 ++ vs5)) := upd_same
  generalize upd H18 p6 (HO.lst (vs5 ++ vs5)) = H19 at w19 ⊢
  generalize upd P15 p6 (HO.lst (vs5 ++ vs5)) = P16 at w19 e16 fq6
  have al13 := (AR.up e16 al12)
  obtain ⟨t9, et13, eR⟩ := ob_some eR
  obtain ⟨F3, hF3, et13⟩ := nm_itr et13
  refine ⟨p6, rfl, ⟨_, .inl (.inl (w19.sub _ _ fq6))⟩, for_it (walk_list (K := K) (a := p6) (xs := (vs5 ++ vs5))) (fun i σz Hz => ∃ (Pz : Hp) (zs : Unit) (yz0 : Option V) (yz1 : Option V) (yz2 : Option V) (yz3 : Option V) (yz4 : Option V) (yz5 : Option V), Ext P16 Pz ∧ σz = [some (V.ref ascr), some (V.ref p1), some (.ref p2), od8, yz3, yz4, yz2, yz5, yz0, yz1, none, none] ∧ Wd Pz Hz ((p2, (HO.lst vs5)) :: (p1, (boxO l1 s2.2)) :: cs0) ∧ itr F3 ((s2.1 ++ s2.1).drop i) zs = some t9) ?_ ?_ ?_ ?_⟩
  · exact ⟨P16, (), none, none, od7, od5, od6, none, Ext.refl _, rfl, w19, et13⟩
  · rintro i σz Hz _ ⟨Pz, zs, yz0, yz1, yz2, yz3, yz4, yz5, ee, rfl, ww, _⟩
    exact .inl (.inl (ww.sub _ _ (ee _ _ fq6)))
  · rintro i3 x4 _ H20 H21 hi3 ⟨P17, s3, od9, od10, od11, od12, od13, od14, e17, rfl, w20, et14⟩ hy3
    obtain ⟨eH3, hx4⟩ := hy3
    rw [eH3]
    obtain ⟨it1, _, hd8, eD3⟩ := AR.get (AR.up e17 al13) hx4
    obtain ⟨a2, u7, u8, u9, u10, rfl, sq2, hu7, hu8, hu9, hu10⟩ := hd8
    obtain ⟨a3, dx3, u11, u12, u13, u14, u15, u16, rfl, fq7, hu11, hu12, hu13, hu14, hu15, hu16⟩ := hu7
    obtain rfl : u11 = (V.int it1.1.1) := hu11
    obtain rfl : u12 = (V.int it1.1.2.1) := hu12
    obtain rfl : u13 = (V.int it1.1.2.2.1) := hu13
    obtain rfl : u14 = (S it1.1.2.2.2.1) := hu14
    obtain rfl : u15 = (S it1.1.2.2.2.2.1) := hu15
    obtain rfl : u16 = (S it1.1.2.2.2.2.2) := hu16
    obtain ⟨a4, vs6, rfl, fq8, al14⟩ := hu8
    obtain ⟨a5, vs7, rfl, fq9, al15⟩ := hu9
    obtain rfl : u10 = (V.int it1.2.2.2) := hu10
    rw [eD3, itr] at et14
    obtain ⟨o2, eo2, et14⟩ := ob_some et14
    rw [hF3] at eo2
    unfold bd_law_3 at eo2
    refine ⟨a2, _, rfl, (w20.sqt sq2), rfl, ?_⟩
    refine ⟨_, _, rfl, _, _, rfl, _, _, rfl, _, _, rfl, rfl, ?_⟩
    obtain ⟨t10, et15, eo2⟩ := ob_some eo2
    have hB1 : ∀ Q : (Bool → Hp → Prop), (∀ Hz Pz, Ext P17 Pz → Wd Pz Hz ((p2, (HO.lst vs5)) :: (p1, (boxO l1 s2.2)) :: cs0) → Q t10 Hz) → (tOr (tTest (tOp (rNeR (yL yI) (okL okA)) (tLst (tCons (tFld K (tVar 6) "out") (tCons (tFld K (tVar 6) "per") (tCons (tFld K (tVar 6) "slack") tNil)))) (tVar 4))) (tTest (tOp (rNeR (yL yS) (okL okS)) (tLst (tCons (tFld K (tVar 6) "peak") (tCons (tFld K (tVar 6) "lead") (tCons (tFld K (tVar 6) "loop") tNil)))) (tVar 5)))) [some (V.ref ascr), some (V.ref p1), some (.ref p2), od8, some (.ref a4), some (.ref a5), some (.ref a3), some (V.int it1.2.2.2), od9, od10, none, none] H20 Q := by
      intro Q hQ
      refine ⟨_, rfl, a3, G.C_Growth, dx3, _, _, rfl, (w20.sub _ _ fq7), F.cl_Growth, F.n_Growth_out, (by rfl), _, rfl, a3, G.C_Growth, dx3, _, _, rfl, (w20.sub _ _ fq7), F.cl_Growth, F.n_Growth_per, (by rfl), _, rfl, a3, G.C_Growth, dx3, _, _, rfl, (w20.sub _ _ fq7), F.cl_Growth, F.n_Growth_slack, (by rfl), (by show 3 ≤ sizeLine; decide), fun p7 np6 => ?_⟩
      have al16 : AR yI P17 ([(V.int it1.1.1), (V.int it1.1.2.1), (V.int it1.1.2.2.1)] : List V) ([it1.1.1, it1.1.2.1, it1.1.2.2.1] : List Int) := (AR.cons rfl (AR.cons rfl (AR.cons rfl AR.nil)))
      have e18 := w20.fext np6 (HO.lst ([(V.int it1.1.1), (V.int it1.1.2.1), (V.int it1.1.2.2.1)] : List V))
      have w21 := w20.frz np6 (HO.lst ([(V.int it1.1.1), (V.int it1.1.2.1), (V.int it1.1.2.2.1)] : List V))
      have fq10 : upd P17 p7 (HO.lst ([(V.int it1.1.1), (V.int it1.1.2.1), (V.int it1.1.2.2.1)] : List V)) p7 = some (HO.lst ([(V.int it1.1.1), (V.int it1.1.2.1), (V.int it1.1.2.2.1)] : List V)) := upd_same
      generalize upd H20 p7 (HO.lst ([(V.int it1.1.1), (V.int it1.1.2.1), (V.int it1.1.2.2.1)] : List V)) = H22 at w21 ⊢
      generalize upd P17 p7 (HO.lst ([(V.int it1.1.1), (V.int it1.1.2.1), (V.int it1.1.2.2.1)] : List V)) = P18 at w21 e18 fq10
      have al17 := (AR.up e18 al16)
      obtain ⟨hc9, et15⟩ := chk_some et15
      refine ⟨_, rfl, ([it1.1.1, it1.1.2.1, it1.1.2.2.1] : List Int), it1.2.1, (Mo.mo (R := (yL yI)) (P := P18) w21.sub ⟨_, _, rfl, fq10, al17⟩), (Mo.mo (R := (yL yI)) (P := P18) w21.sub ⟨_, _, rfl, (e18 _ _ fq8), (AR.up e18 al14)⟩), hc9, _, rfl, ?_⟩
      refine iteB (fun hb1 => ?_) (fun hb1 => ?_)
      · rw [ite_t hb1] at et15
        obtain rfl := Option.some.inj et15
        exact hQ H22 P18 e18 w21
      · rw [ite_f hb1] at et15
        refine ⟨_, rfl, a3, G.C_Growth, dx3, _, _, rfl, (w21.sub _ _ (e18 _ _ fq7)), F.cl_Growth, F.n_Growth_peak, (by rfl), _, rfl, a3, G.C_Growth, dx3, _, _, rfl, (w21.sub _ _ (e18 _ _ fq7)), F.cl_Growth, F.n_Growth_lead, (by rfl), _, rfl, a3, G.C_Growth, dx3, _, _, rfl, (w21.sub _ _ (e18 _ _ fq7)), F.cl_Growth, F.n_Growth_loop, (by rfl), (by show 3 ≤ sizeLine; decide), fun p8 np7 => ?_⟩
        have al18 : AR yS P18 ([(S it1.1.2.2.2.1), (S it1.1.2.2.2.2.1), (S it1.1.2.2.2.2.2)] : List V) ([it1.1.2.2.2.1, it1.1.2.2.2.2.1, it1.1.2.2.2.2.2] : List (List Nat)) := (AR.cons rfl (AR.cons rfl (AR.cons rfl AR.nil)))
        have e19 := w21.fext np7 (HO.lst ([(S it1.1.2.2.2.1), (S it1.1.2.2.2.2.1), (S it1.1.2.2.2.2.2)] : List V))
        have w22 := w21.frz np7 (HO.lst ([(S it1.1.2.2.2.1), (S it1.1.2.2.2.2.1), (S it1.1.2.2.2.2.2)] : List V))
        have fq11 : upd P18 p8 (HO.lst ([(S it1.1.2.2.2.1), (S it1.1.2.2.2.2.1), (S it1.1.2.2.2.2.2)] : List V)) p8 = some (HO.lst ([(S it1.1.2.2.2.1), (S it1.1.2.2.2.2.1), (S it1.1.2.2.2.2.2)] : List V)) := upd_same
        generalize upd H22 p8 (HO.lst ([(S it1.1.2.2.2.1), (S it1.1.2.2.2.2.1), (S it1.1.2.2.2.2.2)] : List V)) = H23 at w22 ⊢
        generalize upd P18 p8 (HO.lst ([(S it1.1.2.2.2.1), (S it1.1.2.2.2.2.1), (S it1.1.2.2.2.2.2)] : List V)) = P19 at w22 e19 fq11
        have al19 := (AR.up e19 al18)
        obtain ⟨hc10, et15⟩ := chk_some et15
        refine ⟨_, rfl, ([it1.1.2.2.2.1, it1.1.2.2.2.2.1, it1.1.2.2.2.2.2] : List (List Nat)), it1.2.2.1, (Mo.mo (R := (yL yS)) (P := P19) w22.sub ⟨_, _, rfl, fq11, al19⟩), (Mo.mo (R := (yL yS)) (P := P19) w22.sub ⟨_, _, rfl, ((e18.trans e19) _ _ fq9), (AR.up (e18.trans e19) al15)⟩), hc10, _, rfl, ?_⟩
        obtain rfl := Option.some.inj et15
        exact hQ H23 P19 (e18.trans e19) w22
    refine hB1 _ fun H24 P20 e20 w23 => ?_
    refine iteB (fun hb2 => ?_) (fun hb2 => ?_)
    · rw [ite_t hb2] at eo2
      obtain rfl := Option.some.inj eo2
      dsimp only at et14
      obtain rfl := Option.some.inj et14
      dsimp only [Lr.el] at eR
      obtain rfl := Option.some.inj eR
      exact q H24 P20 ((((e1.trans e15).trans e16).trans e17).trans e20) ((w23.pull 0 rfl).tl.pull 0 rfl).tl
    · rw [ite_f hb2] at eo2
      obtain ⟨t11, et16, eo2⟩ := ob_some eo2
      have hB2 : ∀ Q : (Bool → Hp → Prop), (∀ Hz Pz, Ext P20 Pz → Wd Pz Hz ((p2, (HO.lst vs5)) :: (p1, (boxO l1 s2.2)) :: cs0) → Q t11 Hz) → (tOr (tNot (tB (tCB (rIsi K) (tCons (tProp G.C_Growth (sp_Growth_swells K G) [] E0 (tVar 6)) (tCons (tC (V.ty "bool")) tNil))))) (tTest (tOp rNeB (tProp G.C_Growth (sp_Growth_swells K G) [] E0 (tVar 6)) (tOp rGt (tOp (rIxL K) (tVar 4) (tC (V.int 0))) (tOp (rIxL K) (tVar 4) (tC (V.int 1))))))) [some (V.ref ascr), some (V.ref p1), some (.ref p2), od8, some (.ref a4), some (.ref a5), some (.ref a3), some (V.int it1.2.2.2), od9, od10, none, none] H24 Q := by
        intro Q hQ
        obtain ⟨t12, et17, et16⟩ := ob_some et16
        refine ⟨_, rfl, a3, dx3, _, rfl, (w23.sub _ _ (e20 _ _ fq7)), P20, ((p2, (HO.lst vs5)) :: (p1, (boxO l1 s2.2)) :: cs0), (.ref a3), it1.1, t12, rfl, w23, ⟨_, _, _, _, _, _, _, _, rfl, (e20 _ _ fq7), rfl, rfl, rfl, rfl, rfl, rfl⟩, et17, fun H25 P21 e21 w24 => ?_⟩
        refine ⟨_, _, (.type "bool"), (.type "bool"), true, rfl, (.ty _), (.base (.bl _)), (kit_ty (by decide +kernel)), _, rfl, ?_⟩
        refine iteB (fun hb3 => ?_) (fun hb3 => ?_)
        · rw [ite_t hb3] at et16
          obtain rfl := Option.some.inj et16
          exact hQ H25 P21 e21 w24
        · rw [ite_f hb3] at et16
          obtain ⟨t13, et18, et16⟩ := ob_some et16
          refine ⟨_, rfl, a3, dx3, _, rfl, (w24.sub _ _ ((e20.trans e21) _ _ fq7)), P21, ((p2, (HO.lst vs5)) :: (p1, (boxO l1 s2.2)) :: cs0), (.ref a3), it1.1, t13, rfl, w24, ⟨_, _, _, _, _, _, _, _, rfl, ((e20.trans e21) _ _ fq7), rfl, rfl, rfl, rfl, rfl, rfl⟩, et18, fun H26 P22 e22 w25 => ?_⟩
          obtain ⟨hc11, et16⟩ := chk_some et16
          obtain ⟨v8, hat7, hd9⟩ := AR.getN (n := 0) (d := (0 : Int)) (AR.up ((e20.trans e21).trans e22) al14) hc11
          obtain rfl : v8 = (V.int (it1.2.1.getD 0 (0 : Int))) := hd9
          obtain ⟨hc12, et16⟩ := chk_some et16
          obtain ⟨v9, hat8, hd10⟩ := AR.getN (n := 1) (d := (0 : Int)) (AR.up ((e20.trans e21).trans e22) al14) hc12
          obtain rfl : v9 = (V.int (it1.2.1.getD 1 (0 : Int))) := hd10
          refine ⟨_, rfl, a4, _, _, _, rfl, rfl, (.inl (.inl (w25.sub _ _ (((e20.trans e21).trans e22) _ _ fq8)))), (atI_nat hat7), _, rfl, a4, _, _, _, rfl, rfl, (.inl (.inl (w25.sub _ _ (((e20.trans e21).trans e22) _ _ fq8)))), (atI_nat hat8), _, _, rfl, rfl, _, _, rfl, rfl, _, rfl, ?_⟩
          obtain rfl := Option.some.inj et16
          exact hQ H26 P22 (e21.trans e22) w25
      refine hB2 _ fun H27 P23 e23 w26 => ?_
      refine iteB (fun hb4 => ?_) (fun hb4 => ?_)
      · rw [ite_t hb4] at eo2
        obtain rfl := Option.some.inj eo2
        dsimp only at et14
        obtain rfl := Option.some.inj et14
        dsimp only [Lr.el] at eR
        obtain rfl := Option.some.inj eR
        exact q H27 P23 (((((e1.trans e15).trans e16).trans e17).trans e20).trans e23) ((w26.pull 0 rfl).tl.pull 0 rfl).tl
      · rw [ite_f hb4] at eo2
        obtain ⟨t14, et19, eo2⟩ := ob_some eo2
        refine ⟨_, rfl, a3, dx3, _, rfl, (w26.sub _ _ ((e20.trans e23) _ _ fq7)), (by rfl), _, rfl, P23, ((p2, (HO.lst vs5)) :: (p1, (boxO l1 s2.2)) :: cs0), (.ref a3), it1.1, it1.2.2.2, t14, rfl, w26, ⟨_, _, _, _, _, _, _, _, rfl, ((e20.trans e23) _ _ fq7), rfl, rfl, rfl, rfl, rfl, rfl⟩, et19, fun H28 P24 e24 w27 => ?_⟩
        obtain ⟨hc13, eo2⟩ := chk_some eo2
        obtain ⟨v10, hat9, hd11⟩ := AR.getN (n := 0) (d := (0 : Int)) (AR.up ((e20.trans e23).trans e24) al14) hc13
        obtain rfl : v10 = (V.int (it1.2.1.getD 0 (0 : Int))) := hd11
        obtain ⟨hc14, eo2⟩ := chk_some eo2
        obtain ⟨hc15, eo2⟩ := chk_some eo2
        obtain ⟨v11, hat10, hd12⟩ := AR.getN (n := 2) (d := (0 : Int)) (AR.up ((e20.trans e23).trans e24) al14) hc15
        obtain rfl : v11 = (V.int (it1.2.1.getD 2 (0 : Int))) := hd12
        refine ⟨_, rfl, a4, _, _, _, rfl, rfl, (.inl (.inl (w27.sub _ _ (((e20.trans e23).trans e24) _ _ fq8)))), (atI_nat hat9), _, rfl, _, _, rfl, rfl, (.inl hc14), _, rfl, a4, _, _, _, rfl, rfl, (.inl (.inl (w27.sub _ _ (((e20.trans e23).trans e24) _ _ fq8)))), (atI_nat hat10), _, _, rfl, rfl, ?_⟩
        obtain ⟨t15, et20, eo2⟩ := ob_some eo2
        have hB3 : ∀ Q : (Bool → Hp → Prop), (∀ Hz Pz, Ext P24 Pz → Wd Pz Hz ((p2, (HO.lst vs5)) :: (p1, (boxO l1 s2.2)) :: cs0) → Q t15 Hz) → (tOr (tNot (tB (tCall (sp_number K G) [] E0 (tCons (tVar 8) tNil)))) (tNot (tTest (tChain rLe rLt (tOp rMul (tVar 8) (tOp (rIxL K) (tVar 4) (tC (V.int 1)))) (tVar 9) (tOp rMul (tOp rAdd (tVar 8) (tC (V.int 1))) (tOp (rIxL K) (tVar 4) (tC (V.int 1)))))))) [some (V.ref ascr), some (V.ref p1), some (.ref p2), od8, some (.ref a4), some (.ref a5), some (.ref a3), some (V.int it1.2.2.2), some (V.int t14), some (V.int (((it1.2.1.getD 0 (0 : Int)) * it1.2.2.2) + (it1.2.1.getD 2 (0 : Int)))), none, none] H28 Q := by
          intro Q hQ
          obtain ⟨t16, et21, et20⟩ := ob_some et20
          refine ⟨_, rfl, P24, ((p2, (HO.lst vs5)) :: (p1, (boxO l1 s2.2)) :: cs0), t14, t16, rfl, w27, et21, fun H29 P25 e25 w28 => ?_⟩
          refine ⟨_, rfl, ?_⟩
          refine iteB (fun hb5 => ?_) (fun hb5 => ?_)
          · rw [ite_t hb5] at et20
            obtain rfl := Option.some.inj et20
            exact hQ H29 P25 e25 w28
          · rw [ite_f hb5] at et20
            obtain ⟨t17, et22, et20⟩ := ob_some et20
            have hB4 : ∀ Q : (Bool → Hp → Prop), (∀ Hz Pz, Ext P25 Pz → Wd Pz Hz ((p2, (HO.lst vs5)) :: (p1, (boxO l1 s2.2)) :: cs0) → Q t17 Hz) → (tTest (tChain rLe rLt (tOp rMul (tVar 8) (tOp (rIxL K) (tVar 4) (tC (V.int 1)))) (tVar 9) (tOp rMul (tOp rAdd (tVar 8) (tC (V.int 1))) (tOp (rIxL K) (tVar 4) (tC (V.int 1)))))) [some (V.ref ascr), some (V.ref p1), some (.ref p2), od8, some (.ref a4), some (.ref a5), some (.ref a3), some (V.int it1.2.2.2), some (V.int t14), some (V.int (((it1.2.1.getD 0 (0 : Int)) * it1.2.2.2) + (it1.2.1.getD 2 (0 : Int)))), none, none] H29 Q := by
              intro Q hQ
              obtain ⟨hc16, et22⟩ := chk_some et22
              obtain ⟨v12, hat11, hd13⟩ := AR.getN (n := 1) (d := (0 : Int)) (AR.up (((e20.trans e23).trans e24).trans e25) al14) hc16
              obtain rfl : v12 = (V.int (it1.2.1.getD 1 (0 : Int))) := hd13
              obtain ⟨hc17, et22⟩ := chk_some et22
              refine ⟨_, rfl, _, rfl, a4, _, _, _, rfl, rfl, (.inl (.inl (w28.sub _ _ ((((e20.trans e23).trans e24).trans e25) _ _ fq8)))), (atI_nat hat11), _, _, rfl, rfl, (.inl hc17), _, rfl, _, _, rfl, rfl, _, rfl, ?_⟩
              refine iteB (fun hb6 => ?_) (fun hb6 => ?_)
              · rw [ite_t hb6] at et22
                obtain ⟨hc18, et22⟩ := chk_some et22
                obtain ⟨v13, hat12, hd14⟩ := AR.getN (n := 1) (d := (0 : Int)) (AR.up (((e20.trans e23).trans e24).trans e25) al14) hc18
                obtain rfl : v13 = (V.int (it1.2.1.getD 1 (0 : Int))) := hd14
                obtain ⟨hc19, et22⟩ := chk_some et22
                refine ⟨_, rfl, _, _, rfl, rfl, _, rfl, a4, _, _, _, rfl, rfl, (.inl (.inl (w28.sub _ _ ((((e20.trans e23).trans e24).trans e25) _ _ fq8)))), (atI_nat hat12), _, _, rfl, rfl, (.inl hc19), _, _, rfl, rfl, _, rfl, ?_⟩
                obtain rfl := Option.some.inj et22
                exact hQ H29 P25 (Ext.refl _) w28
              · rw [ite_f hb6] at et22
                refine ⟨_, rfl, ?_⟩
                obtain rfl := Option.some.inj et22
                exact hQ H29 P25 (Ext.refl _) w28
            refine hB4 _ fun H30 P26 e26 w29 => ?_
            obtain rfl := Option.some.inj et20
            exact hQ H30 P26 (e25.trans e26) w29
        refine hB3 _ fun H31 P27 e27 w30 => ?_
        refine iteB (fun hb7 => ?_) (fun hb7 => ?_)
        · rw [ite_t hb7] at eo2
          obtain rfl := Option.some.inj eo2
          dsimp only at et14
          obtain rfl := Option.some.inj et14
          dsimp only [Lr.el] at eR
          obtain rfl := Option.some.inj eR
          exact q H31 P27 (((((((e1.trans e15).trans e16).trans e17).trans e20).trans e23).trans e24).trans e27) ((w30.pull 0 rfl).tl.pull 0 rfl).tl
        · rw [ite_f hb7] at eo2
          obtain rfl := Option.some.inj eo2
          dsimp only at et14
          exact ⟨P27, (), (some (V.int t14)), (some (V.int (((it1.2.1.getD 0 (0 : Int)) * it1.2.2.2) + (it1.2.1.getD 2 (0 : Int))))), (some (.ref a3)), (some (.ref a4)), (some (.ref a5)), (some (V.int it1.2.2.2)), ((((e17.trans e20).trans e23).trans e24).trans e27), rfl, w30, et14⟩
  rintro _ H32 ⟨P28, s4, od15, od16, od17, od18, od19, od20, e28, rfl, w31, et23⟩
  rw [AR.dropall al13, itr] at et23
  obtain rfl := Option.some.inj et23
  dsimp only [Lr.el] at eR
  obtain ⟨t18, et24, eR⟩ := ob_some eR
  obtain ⟨F4, hF4, et24⟩ := nm_itr et24
  refine ⟨_, rfl, p2, rfl, ⟨_, .inl (.inl (w31.get 0 rfl))⟩, for_it (walk_list (K := K) (a := p2) (xs := vs5)) (fun i σz Hz => ∃ (Pz : Hp) (zs : Unit) (yz0 : Option V) (yz1 : Option V) (yz2 : Option V) (yz3 : Option V) (yz4 : Option V), Ext P28 Pz ∧ σz = [some (V.ref ascr), some (V.ref p1), some (.ref p2), od8, yz2, yz3, yz1, yz4, od15, od16, yz0, none] ∧ Wd Pz Hz ((p2, (HO.lst vs5)) :: (p1, (boxO l1 s2.2)) :: cs0) ∧ itr F4 (s2.1.drop i) zs = some t18) ?_ ?_ ?_ ?_⟩
  · exact ⟨P28, (), none, od17, od18, od19, od20, Ext.refl _, rfl, w31, et24⟩
  · rintro i σz Hz _ ⟨Pz, zs, yz0, yz1, yz2, yz3, yz4, ee, rfl, ww, _⟩
    exact .inl (.inl (ww.get 0 rfl))
  · rintro i4 x5 _ H33 H34 hi4 ⟨P29, s5, od21, od22, od23, od24, od25, e29, rfl, w32, et25⟩ hy4
    obtain ⟨eH4, hx5⟩ := hy4
    rw [eH4]
    obtain ⟨it2, _, hd15, eD4⟩ := AR.get (AR.up ((e16.trans e28).trans e29) al11) hx5
    obtain ⟨a6, u17, u18, u19, u20, rfl, sq3, hu17, hu18, hu19, hu20⟩ := hd15
    obtain ⟨a7, dx4, u21, u22, u23, u24, u25, u26, rfl, fq12, hu21, hu22, hu23, hu24, hu25, hu26⟩ := hu17
    obtain rfl : u21 = (V.int it2.1.1) := hu21
    obtain rfl : u22 = (V.int it2.1.2.1) := hu22
    obtain rfl : u23 = (V.int it2.1.2.2.1) := hu23
    obtain rfl : u24 = (S it2.1.2.2.2.1) := hu24
    obtain rfl : u25 = (S it2.1.2.2.2.2.1) := hu25
    obtain rfl : u26 = (S it2.1.2.2.2.2.2) := hu26
    obtain ⟨a8, vs8, rfl, fq13, al20⟩ := hu18
    obtain ⟨a9, vs9, rfl, fq14, al21⟩ := hu19
    obtain rfl : u20 = (V.int it2.2.2.2) := hu20
    rw [eD4, itr] at et25
    obtain ⟨o3, eo3, et25⟩ := ob_some et25
    rw [hF4] at eo3
    unfold bd_law_4 at eo3
    refine ⟨a6, _, rfl, (w32.sqt sq3), rfl, ?_⟩
    refine ⟨_, _, rfl, _, _, rfl, _, _, rfl, _, _, rfl, rfl, ?_⟩
    obtain ⟨hc20, eo3⟩ := chk_some eo3
    obtain ⟨v14, hat13, hd16⟩ := AR.getN (n := 0) (d := (0 : Int)) al20 hc20
    obtain rfl : v14 = (V.int (it2.2.1.getD 0 (0 : Int))) := hd16
    obtain ⟨hc21, eo3⟩ := chk_some eo3
    obtain ⟨v15, hat14, hd17⟩ := AR.getN (n := 1) (d := (0 : Int)) al20 hc21
    obtain rfl : v15 = (V.int (it2.2.1.getD 1 (0 : Int))) := hd17
    obtain ⟨hc22, eo3⟩ := chk_some eo3
    obtain ⟨v16, hat15, hd18⟩ := AR.getN (n := 2) (d := (0 : Int)) al20 hc22
    obtain rfl : v16 = (V.int (it2.2.1.getD 2 (0 : Int))) := hd18
    refine ⟨_, rfl, a8, _, _, _, rfl, rfl, (.inl (.inl (w32.sub _ _ fq13))), (atI_nat hat13), _, rfl, a8, _, _, _, rfl, rfl, (.inl (.inl (w32.sub _ _ fq13))), (atI_nat hat14), _, rfl, _, rfl, a8, _, _, _, rfl, rfl, (.inl (.inl (w32.sub _ _ fq13))), (atI_nat hat15), _, _, rfl, rfl, fun x6 dx5 hx6 hdx2 hne2 => ?_⟩
    obtain ⟨t19, et26, eo3⟩ := ob_some eo3
    refine ⟨P29, ((p2, (HO.lst vs5)) :: (p1, (boxO l1 s2.2)) :: cs0), x6, dx5, (it2.2.1.getD 0 (0 : Int)), (it2.2.1.getD 1 (0 : Int)), ((-1 : Int) - (it2.2.1.getD 2 (0 : Int))), (cs ""), (cs ""), ([97] : List Nat), t19, rfl, (w32.made hx6 hdx2 hne2), et26, fun H35 P30 e30 w34 hd19 => ⟨rfl, ?_⟩⟩
    obtain ⟨a10, dx6, u27, u28, u29, u30, u31, u32, he2, fq15, hu27, hu28, hu29, hu30, hu31, hu32⟩ := hd19
    obtain rfl := V.ref.inj he2
    obtain rfl : u27 = (V.int t19.1) := hu27
    obtain rfl : u28 = (V.int t19.2.1) := hu28
    obtain rfl : u29 = (V.int t19.2.2.1) := hu29
    obtain rfl : u30 = (S t19.2.2.2.1) := hu30
    obtain rfl : u31 = (S t19.2.2.2.2.1) := hu31
    obtain rfl : u32 = (S t19.2.2.2.2.2) := hu32
    obtain ⟨t20, et27, eo3⟩ := ob_some eo3
    refine ⟨x6, dx6, _, rfl, (w34.sub _ _ fq15), (by rfl), P30, ((p2, (HO.lst vs5)) :: (p1, (boxO l1 s2.2)) :: cs0), (.ref x6), t19, 0, t20, rfl, w34, ⟨_, _, _, _, _, _, _, _, rfl, fq15, rfl, rfl, rfl, rfl, rfl, rfl⟩, et27, fun H36 P31 e31 w35 => ?_⟩
    obtain ⟨t21, et28, eo3⟩ := ob_some eo3
    have hB5 : ∀ Q : (Bool → Hp → Prop), (∀ Hz Pz, Ext P31 Pz → Wd Pz Hz ((p2, (HO.lst vs5)) :: (p1, (boxO l1 s2.2)) :: cs0) → Q t21 Hz) → (tTest (tChain rLe rLt (tOp rMul (tVar 10) (tOp (rIxL K) (tVar 4) (tC (V.int 1)))) (tOp rSub (tUn (rU fun i => .int (-i)) (tC (V.int 1))) (tOp (rIxL K) (tVar 4) (tC (V.int 2)))) (tOp rMul (tOp rAdd (tVar 10) (tC (V.int 1))) (tOp (rIxL K) (tVar 4) (tC (V.int 1)))))) [some (V.ref ascr), some (V.ref p1), some (.ref p2), od8, some (.ref a8), some (.ref a9), some (.ref a7), some (V.int it2.2.2.2), od15, od16, some (V.int t20), none] H36 Q := by
      intro Q hQ
      obtain ⟨hc23, et28⟩ := chk_some et28
      obtain ⟨v18, hat16, hd20⟩ := AR.getN (n := 1) (d := (0 : Int)) (AR.up (e30.trans e31) al20) hc23
      obtain rfl : v18 = (V.int (it2.2.1.getD 1 (0 : Int))) := hd20
      obtain ⟨hc24, et28⟩ := chk_some et28
      obtain ⟨hc25, et28⟩ := chk_some et28
      obtain ⟨v19, hat17, hd21⟩ := AR.getN (n := 2) (d := (0 : Int)) (AR.up (e30.trans e31) al20) hc25
      obtain rfl : v19 = (V.int (it2.2.1.getD 2 (0 : Int))) := hd21
      refine ⟨_, rfl, _, rfl, a8, _, _, _, rfl, rfl, (.inl (.inl (w35.sub _ _ ((e30.trans e31) _ _ fq13)))), (atI_nat hat16), _, _, rfl, rfl, (.inl hc24), _, rfl, _, rfl, a8, _, _, _, rfl, rfl, (.inl (.inl (w35.sub _ _ ((e30.trans e31) _ _ fq13)))), (atI_nat hat17), _, _, rfl, rfl, _, _, rfl, rfl, _, rfl, ?_⟩
      refine iteB (fun hb8 => ?_) (fun hb8 => ?_)
      · rw [ite_t hb8] at et28
        obtain ⟨hc26, et28⟩ := chk_some et28
        obtain ⟨v20, hat18, hd22⟩ := AR.getN (n := 1) (d := (0 : Int)) (AR.up (e30.trans e31) al20) hc26
        obtain rfl : v20 = (V.int (it2.2.1.getD 1 (0 : Int))) := hd22
        obtain ⟨hc27, et28⟩ := chk_some et28
        refine ⟨_, rfl, _, _, rfl, rfl, _, rfl, a8, _, _, _, rfl, rfl, (.inl (.inl (w35.sub _ _ ((e30.trans e31) _ _ fq13)))), (atI_nat hat18), _, _, rfl, rfl, (.inl hc27), _, _, rfl, rfl, _, rfl, ?_⟩
        obtain rfl := Option.some.inj et28
        exact hQ H36 P31 (Ext.refl _) w35
      · rw [ite_f hb8] at et28
        refine ⟨_, rfl, ?_⟩
        obtain rfl := Option.some.inj et28
        exact hQ H36 P31 (Ext.refl _) w35
    refine hB5 _ fun H37 P32 e32 w36 => ?_
    refine iteB (fun hb9 => ?_) (fun hb9 => ?_)
    · rw [ite_t hb9] at eo3
      obtain rfl := Option.some.inj eo3
      dsimp only at et25
      obtain rfl := Option.some.inj et25
      dsimp only [Lr.el] at eR
      obtain rfl := Option.some.inj eR
      exact q H37 P32 (((((((e1.trans e15).trans e16).trans e28).trans e29).trans e30).trans e31).trans e32) ((w36.pull 0 rfl).tl.pull 0 rfl).tl
    · rw [ite_f hb9] at eo3
      obtain rfl := Option.some.inj eo3
      dsimp only at et25
      exact ⟨P32, (), (some (V.int t20)), (some (.ref a7)), (some (.ref a8)), (some (.ref a9)), (some (V.int it2.2.2.2)), (((e29.trans e30).trans e31).trans e32), rfl, w36, et25⟩
  rintro _ H38 ⟨P33, s6, od26, od27, od28, od29, od30, e33, rfl, w37, et29⟩
  rw [AR.dropall (AR.up (e16.trans e28) al11), itr] at et29
  obtain rfl := Option.some.inj et29
  dsimp only [Lr.el] at eR
  obtain rfl := Option.some.inj eR
  exact q H38 P33 ((((e1.trans e15).trans e16).trans e28).trans e33) ((w37.pull 0 rfl).tl.pull 0 rfl).tl
theorem fn_law {P : Program} {w : World} {K : PySem.W.Frag} {mg : Str → Option Value} {base : Heap} {G : GA} {f : Addr} {fd : FuncData} (T : Tx w K G mg) (F : Fun K "law" "law" s_law f fd) : FnOk P w K mg base CX0 4 f fd ["_law_script"] (sp_law K G) := by
  refine F.ok sc_law (fun vs H Q E h => ?_) (fun cdv A outer s H vs Q E hr h => ⟨t_law K G, ?_, rd_law T.fa vs H Q E h⟩)
  · obtain ⟨_, _, _, _, _, rfl, _⟩ := h
    rfl
  · exact (pss_cons (ps_set (i := 1) sc_law.nd rfl (.inr rfl) (pe_c (c_box T) hr (by decide) (by rfl) (pa_cons (pv 0) pa_nil))) (pss_cons (ps_set (i := 2) sc_law.nd rfl (.inl rfl) (pe_lst pa_nil)) (pss_cons (ps_for PassesOwn.never rfl (pi_range1 (by rfl) T.z_range (pa_cons pe_int pa_nil)) (pg_name (i := 3) sc_law.nd rfl (Or.inl rfl)) (pss_cons (ps_set (i := 4) sc_law.nd rfl (.inl rfl) (pe_lst (pa_cons (pe_c (c_take T) hr (by decide) (by rfl) (pa_cons (pv 1) (pa_cons pe_int pa_nil))) (pa_cons (pe_op o_add pe_int (pe_c (c_take T) hr (by decide) (by rfl) (pa_cons (pv 1) (pa_cons pe_int pa_nil)))) (pa_cons (pe_c (c_take T) hr (by decide) (by rfl) (pa_cons (pv 1) (pa_cons pe_int pa_nil))) pa_nil))))) (pss_cons (ps_setLc (i := 5) (own := [("_law_k", 11)]) rfl sc_law.nd rfl rfl (sw_true rfl rfl rfl (by decide +kernel)) (pi_range1 (by rfl) T.z_range (pa_cons pe_int pa_nil)) (blkOk_by (N := ["_law_script", "_law_box_here", "_law_rows", "_law_turn", "_law_numbers", "_law_texts", "_law_made", "_law_length", "_law_actual", "_law_total", "_law_below", "_law_k"]) (sc := defScope s_law) (by decide +kernel)) (fun _ _ _ _ _ => (pg_name (i := 11) sc_law.nd rfl (Or.inl rfl))) (fun _ _ _ _ _ => pts_nil) (fun _ _ _ _ _ => (pe_c (c_text T) hr (by decide) (by rfl) (pa_cons (pv 1) (pa_cons (pe_lst (pa_cons pe_strS (pa_cons pe_strS pa_nil))) (pa_cons pe_int pa_nil)))))) (pss_cons (ps_set (i := 6) sc_law.nd rfl (.inl rfl) (pe_ci (c_Growth_init T) hr (by decide) (by rfl) (pa_cons (pe_ix ix_list (pv 4) pe_int (fun _ _ => rfl)) (pa_cons (pe_ix ix_list (pv 4) pe_int (fun _ _ => rfl)) (pa_cons (pe_ix ix_list (pv 4) pe_int (fun _ _ => rfl)) (pa_cons (pe_ix ix_list (pv 5) pe_int (fun _ _ => rfl)) (pa_cons (pe_ix ix_list (pv 5) pe_int (fun _ _ => rfl)) (pa_cons (pe_ix ix_list (pv 5) pe_int (fun _ _ => rfl)) pa_nil)))))))) (pss_one (ps_expr (pe_bm PySem.F.plainAttrs_list PySem.F.slot_list_append PySem.F.type_list_append mt_append (pv 2) (pa_cons (pe_tup (pa_cons (pv 6) (pa_cons (pv 4) (pa_cons (pv 5) (pa_cons (pe_c (c_take T) hr (by decide) (by rfl) (pa_cons (pv 1) (pa_cons pe_int pa_nil))) pa_nil))))) pa_nil)))))))) (pss_cons (ps_for PassesOwn.never rfl (pi_list (pe_op op_cat (pv 2) (pv 2))) (pg_tup rfl (pgs_cons (pg_name (i := 6) sc_law.nd rfl (Or.inl rfl)) (pgs_cons (pg_name (i := 4) sc_law.nd rfl (Or.inl rfl)) (pgs_cons (pg_name (i := 5) sc_law.nd rfl (Or.inl rfl)) (pgs_cons (pg_name (i := 7) sc_law.nd rfl (Or.inl rfl)) pgs_nil))))) (pss_cons (ps_if (PW.pt (pw_or (pt_cmpR (o_neR (R1 := (yL yI)) (ok1 := (okL okA)) hr.units) (pe_lst (pa_cons (pe_fld (pv 6) rfl) (pa_cons (pe_fld (pv 6) rfl) (pa_cons (pe_fld (pv 6) rfl) pa_nil)))) (pv 4) (nomark _)) (pw_or1 (pt_cmpR (o_neR (R1 := (yL yS)) (ok1 := (okL okS)) hr.units) (pe_lst (pa_cons (pe_fld (pv 6) rfl) (pa_cons (pe_fld (pv 6) rfl) (pa_cons (pe_fld (pv 6) rfl) pa_nil)))) (pv 5) (nomark _))))) (pss_one (ps_ret pe_bl)) pss_nil) (pss_cons (ps_if (PW.pt (pw_or (pt_not (pt_val (pe_callB call_isi (by rfl) T.z_isinstance (by decide +kernel) (pa_cons (pe_cp (c_Growth_swells T) hr (by decide) (pv 6)) (pa_cons (pe_bltn (v := V.ty "bool") (by rfl) T.z_bool (by decide +kernel) rfl) pa_nil))))) (pw_or1 (pt_cmpR o_neB (pe_cp (c_Growth_swells T) hr (by decide) (pv 6)) (pe_cmpR o_gt (pe_ix ix_list (pv 4) pe_int (fun _ _ => rfl)) (pe_ix ix_list (pv 4) pe_int (fun _ _ => rfl)) (nomark _)) (nomark _))))) (pss_one (ps_ret pe_bl)) pss_nil) (pss_cons (ps_set (i := 8) sc_law.nd rfl (.inl rfl) (pe_cm (c_Growth_bound T) hr (by decide) (pv 6) (pa_cons (pv 7) pa_nil))) (pss_cons (ps_set (i := 9) sc_law.nd rfl (.inl rfl) (pe_op o_add (pe_op o_mul (pe_ix ix_list (pv 4) pe_int (fun _ _ => rfl)) (pv 7)) (pe_ix ix_list (pv 4) pe_int (fun _ _ => rfl)))) (pss_one (ps_if (PW.pt (pw_or (pt_not (pt_val (pe_c (c_number T) hr (by decide) (by rfl) (pa_cons (pv 8) pa_nil)))) (pw_or1 (pt_not (pt_chain o_le o_lt (pe_op o_mul (pv 8) (pe_ix ix_list (pv 4) pe_int (fun _ _ => rfl))) (pv 9) (pe_op o_mul (pe_op o_add (pv 8) pe_int) (pe_ix ix_list (pv 4) pe_int (fun _ _ => rfl)))))))) (pss_one (ps_ret pe_bl)) pss_nil))))))) (pss_cons (ps_for PassesOwn.never rfl (pi_list (pv 2)) (pg_tup rfl (pgs_cons (pg_name (i := 6) sc_law.nd rfl (Or.inl rfl)) (pgs_cons (pg_name (i := 4) sc_law.nd rfl (Or.inl rfl)) (pgs_cons (pg_name (i := 5) sc_law.nd rfl (Or.inl rfl)) (pgs_cons (pg_name (i := 7) sc_law.nd rfl (Or.inl rfl)) pgs_nil))))) (pss_cons (ps_set (i := 10) sc_law.nd rfl (.inl rfl) (pe_cm (c_Growth_bound T) hr (by decide) (pe_ci (c_Growth_init T) hr (by decide) (by rfl) (pa_cons (pe_ix ix_list (pv 4) pe_int (fun _ _ => rfl)) (pa_cons (pe_ix ix_list (pv 4) pe_int (fun _ _ => rfl)) (pa_cons (pe_op o_sub (pe_un un_neg pe_int) (pe_ix ix_list (pv 4) pe_int (fun _ _ => rfl))) (pa_cons pe_strS (pa_cons pe_strS (pa_cons pe_strS pa_nil))))))) (pa_cons pe_int pa_nil))) (pss_one (ps_if (pt_not (pt_chain o_le o_lt (pe_op o_mul (pv 10) (pe_ix ix_list (pv 4) pe_int (fun _ _ => rfl))) (pe_op o_sub (pe_un un_neg pe_int) (pe_ix ix_list (pv 4) pe_int (fun _ _ => rfl))) (pe_op o_mul (pe_op o_add (pv 10) pe_int) (pe_ix ix_list (pv 4) pe_int (fun _ _ => rfl))))) (pss_one (ps_ret pe_bl)) pss_nil)))) (pss_one (ps_ret pe_bl)))))))
theorem c_law {P : Program} {w : World} {K : PySem.W.Frag} {mg : Str → Option Value} {base : Heap} {G : GA} (T : Tx w K G mg) : Cal P w K mg base 4 "law" (sp_law K G) := by
  obtain ⟨f, fd, F, b, g⟩ := T.d_law
  exact ⟨f, fd, _, fn_law T F, g, F.kp, b⟩

/-! the draws of signs and texts -/
def allT : List Nat := cs " !\"#$&'()*+,-./0123456789:;<=>?@ABCDEFGHIJKLMNOPQRSTUVWXYZ" ++ cs "[\\]^_`abcdefghijklmnopqrstuvwxyz{|}~"
theorem allT_len : allT.length = 94 := by decide
theorem allT_ok : ∀ c ∈ allT, c < 128 := by decide
theorem signs_eq : m_signs = some allT := rfl
theorem sign_eq (ns : List Int) (b : Box) : ∃ c b', m_sign ns b = some (c, b') ∧ c ∈ allT := by
  have h := take_rng ns b (n := 94) (by decide)
  unfold m_sign
  rw [signs_eq, ob_eq, takeO_eq (by decide), ob_eq]
  have hi : inR allT.length (m_take ns b 94).1 := inR_nat (by rw [allT_len]; exact h)
  rw [chk_eq ⟨hi, by decide⟩]
  exact ⟨_, _, rfl, getD_mem (ixP_lt hi)⟩
/-- a text made of these pieces and of signs -/
inductive Mixed (ps : List (List Nat)) : Nat → List Nat → Prop where
  | nil : Mixed ps 0 []
  | sign {n : Nat} {t : List Nat} {c : Nat} : Mixed ps n t → c ∈ allT → Mixed ps (n + 1) (t ++ [c])
  | piece {n : Nat} {t p : List Nat} : Mixed ps n t → p ∈ ps → Mixed ps (n + 1) (t ++ p)
theorem Mixed.len {ps : List (List Nat)} {c : Nat} (hp : ∀ p ∈ ps, p.length ≤ c) (h1 : 1 ≤ c) {n : Nat} {t : List Nat} (h : Mixed ps n t) : t.length ≤ n * c := by
  induction h with
  | nil => simp
  | sign h hc ih => rw [List.length_append, List.length_singleton, Nat.succ_mul]; omega
  | piece h hc ih => rw [List.length_append, Nat.succ_mul]; have := hp _ hc; omega
theorem Mixed.all {ps : List (List Nat)} {Q : Nat → Prop} (hs : ∀ c ∈ allT, Q c) (hp : ∀ p ∈ ps, ∀ c ∈ p, Q c) {n : Nat} {t : List Nat} (h : Mixed ps n t) : ∀ c ∈ t, Q c := by
  induction h with
  | nil => intro c h; cases h
  | sign h hc ih =>
    intro x hx
    rcases List.mem_append.mp hx with q | q
    · exact ih x q
    · rw [List.mem_singleton.mp q]; exact hs _ hc
  | piece h hc ih =>
    intro x hx
    rcases List.mem_append.mp hx with q | q
    · exact ih x q
    · exact hp _ hc x q
theorem text_eq (ns : List Int) (b : Box) (ps : List (List Nat)) (lim : Int) (c : Nat) (h0 : 0 ≤ lim ∧ lim ≤ 1000) (hn : 0 < ps.length ∧ ps.length < 1000) (hp : ∀ p ∈ ps, p.length ≤ c) (hc : 1 ≤ c ∧ c ≤ 500) :
    ∃ t b' n, m_text ns b ps lim = some (t, b') ∧ Mixed ps n t ∧ n ≤ lim.toNat := by
  unfold m_text
  have hr := take_rng ns b (n := lim + 1) (by omega)
  rw [takeO_eq (n := lim + 1) (by omega), ob_eq]
  generalize m_take ns b (lim + 1) = t1 at hr ⊢
  rw [chk_eq (show -(2 ^ 62) ≤ t1.1 ∧ t1.1 < 2 ^ 62 by omega)]
  obtain ⟨s', e, hI⟩ := itf_ok (f := bd_text_1 ns ps) (fun l s => ∃ n, Mixed ps n s.1 ∧ n + l.length = t1.1.toNat) (fun x r s hI => by
    obtain ⟨n, hm, hl⟩ := hI
    rw [List.length_cons] at hl
    have hlen := hm.len hp hc.1
    have hn2 : n * c ≤ 1000 * 500 := Nat.mul_le_mul (by omega) hc.2
    unfold bd_text_1
    rw [takeO_eq (n := 5) (by decide), ob_eq]
    generalize m_take ns s.2 5 = t3
    by_cases q : t3.1 = 0
    · rw [if_pos (decide_eq_true q)]
      obtain ⟨d, b2, e, hd⟩ := sign_eq ns t3.2
      rw [ob_of e, chk_eq (by simp only [List.length_singleton]; omega)]
      exact ⟨_, rfl, n + 1, .sign hm hd, by omega⟩
    · rw [if_neg (by rw [decide_eq_true_eq]; exact q)]
      have h3 := take_rng ns t3.2 (n := (ps.length : Int)) (by omega)
      rw [takeO_eq (n := (ps.length : Int)) (by omega), ob_eq]
      generalize m_take ns t3.2 (ps.length : Int) = t5 at h3 ⊢
      have hi : inR ps.length t5.1 := inR_nat h3
      have hm2 : ps.getD (ixP ps.length t5.1) [] ∈ ps := getD_mem (ixP_lt hi)
      have := hp _ hm2
      rw [chk_eq hi, chk_eq (by omega)]
      exact ⟨_, rfl, n + 1, .piece hm hm2, by omega⟩) (List.range t1.1.toNat) (cs "", t1.2) ⟨0, .nil, by rw [List.length_range]; omega⟩
  obtain ⟨n, hm, hl⟩ := hI
  rw [ob_of e]
  exact ⟨_, _, n, rfl, hm, by simp only [List.length_nil] at hl; omega⟩
def Good (it : O_Growth × List Int × List (List Nat) × Int) : Prop := ∃ (a b c d : Int) (t0 t1 t2 : List Nat), it = ((a, 1 + b, c, t0, t1, t2), [a, 1 + b, c], [t0, t1, t2], d) ∧ (0 ≤ a ∧ a < 41) ∧ (0 ≤ b ∧ b < 12) ∧ (0 ≤ c ∧ c < 61) ∧ (0 ≤ d ∧ d < 201) ∧ okS t0 = true ∧ okS t1 = true ∧ okS t2 = true
theorem div_facts {x n : Int} (hn : 0 < n) : x / n * n ≤ x ∧ x < (x / n + 1) * n := ⟨Int.ediv_mul_le x (by omega), Int.lt_ediv_add_one_mul_self x hn⟩
theorem div_small {x n : Int} (hn : 0 < n) (h1 : -1000000 ≤ x) (h2 : x ≤ 1000000) : -1000001 ≤ x / n ∧ x / n ≤ 1000000 := by
  constructor
  · rw [Int.le_ediv_iff_mul_le hn]
    have : (-1000001 : Int) * n ≤ -1000001 * 1 := Int.mul_le_mul_of_nonpos_left (by omega) (by omega)
    omega
  · have h3 : x / n < 1000001 := by
      rw [Int.ediv_lt_iff_lt_mul hn]
      have : (1000001 : Int) * 1 ≤ 1000001 * n := Int.mul_le_mul_of_nonneg_left (by omega) (by omega)
      omega
    omega
theorem text3 (ns : List Int) (b : Box) : ∃ y, bd_law_2 ns 0 b = some y ∧ okS y.1 = true := by
  obtain ⟨t, b', n, e, hm, _⟩ := text_eq ns b [[97], [48]] 3 1 (by decide) (by decide) (by decide) (by decide)
  refine ⟨(t, b'), ?_, ?_⟩
  · unfold bd_law_2
    rw [ob_of e]
  · have := hm.all (Q := fun c => c < 1114112) (fun c hc => Nat.lt_trans (allT_ok c hc) (by decide)) (by decide)
    unfold okS
    rw [List.all_eq_true]
    intro c hc
    exact decide_eq_true (this c hc)
theorem row_ok (ns : List Int) (i : Nat) (s : List (O_Growth × List Int × List (List Nat) × Int) × Box) (hl : s.1.length < 10) : ∃ it b, bd_law_1 ns i s = some (s.1 ++ [it], b) ∧ Good it := by
  unfold bd_law_1
  have h1 := take_rng ns s.2 (n := 41) (by decide)
  rw [takeO_eq (n := 41) (by decide), ob_eq]
  generalize m_take ns s.2 41 = t2 at h1 ⊢
  have h2 := take_rng ns t2.2 (n := 12) (by decide)
  rw [takeO_eq (n := 12) (by decide), ob_eq]
  generalize m_take ns t2.2 12 = t3 at h2 ⊢
  have h3 := take_rng ns t3.2 (n := 61) (by decide)
  rw [takeO_eq (n := 61) (by decide), ob_eq]
  generalize m_take ns t3.2 61 = t4 at h3 ⊢
  obtain ⟨ys, e, hlen, hq⟩ := mps_ok (f := bd_law_2 ns) (Q := fun t => okS t = true) (List.range 3) t4.2 (fun x _ b => text3 ns b)
  rw [ob_of e]
  obtain ⟨ts, b5⟩ := ys
  rw [List.length_range] at hlen
  match ts, hlen with
  | [x0, x1, x2], _ =>
    rw [chk_eq (by simp), chk_eq (by simp), chk_eq (by simp), chk_eq (by simp), chk_eq (by simp), chk_eq (by simp)]
    unfold m_Growth_init
    rw [ob_eq]
    have h8 := take_rng ns b5 (n := 201) (by decide)
    show ∃ it b, ob (takeO ns b5 201) _ = some (s.1 ++ [it], b) ∧ Good it
    rw [takeO_eq (n := 201) (by decide), ob_eq, chk_eq (by omega)]
    exact ⟨_, _, rfl, t2.1, t3.1, t4.1, (m_take ns b5 201).1, x0, x1, x2, rfl, h1, h2, h3, h8, hq _ (by simp), hq _ (by simp), hq _ (by simp)⟩
theorem three_ok (it : O_Growth × List Int × List (List Nat) × Int) (h : Good it) : bd_law_3 it () = some (.nx ()) := by
  obtain ⟨a, b, c, d, t0, t1, t2, rfl, ha, hb, hc, hd, o0, o1, o2⟩ := h
  have hn : (0 : Int) < 1 + b := by omega
  have hm : 0 ≤ a * d := Int.mul_nonneg ha.1 hd.1
  have hm2 : a * d ≤ 40 * 200 := Int.mul_le_mul (by omega) (by omega) hd.1 (by omega)
  have f1 := div_facts (x := a * d + c) hn
  have f2 := div_small (x := a * d + c) hn (by omega) (by omega)
  unfold bd_law_3
  dsimp only
  rw [chk_eq ⟨by simp [okL, okA], by simp [okL, okA]⟩]
  simp only [decide_true, Bool.not_true, Bool.false_eq_true, if_false]
  rw [chk_eq ⟨by simp [okL, o0, o1, o2], by simp [okL, o0, o1, o2]⟩, ob_eq]
  simp only [Bool.false_eq_true, if_false]
  unfold m_Growth_swells m_Growth_bound m_number
  simp only [ob_eq]
  rw [chk_eq (show 0 < ([a, 1 + b, c] : List Int).length by simp), chk_eq (show 1 < ([a, 1 + b, c] : List Int).length by simp)]
  simp only [ob_eq, Bool.not_true, Bool.false_eq_true, if_false, List.getD_cons_zero, List.getD_cons_succ, decide_true]
  rw [chk_eq (show -(2 ^ 64) < a ∧ a < 2 ^ 64 by omega), chk_eq (show 0 < 1 + b ∧ 1 + b < 1073741824 by omega)]
  simp only [ob_eq, Bool.and_self, Bool.not_false, Bool.not_true, Bool.false_eq_true, if_false]
  rw [chk_eq (show 0 < ([a, 1 + b, c] : List Int).length by simp), chk_eq (show -(2 ^ 64) < a ∧ a < 2 ^ 64 by omega), chk_eq (show 2 < ([a, 1 + b, c] : List Int).length by simp)]
  rw [chk_eq (show 1 < ([a, 1 + b, c] : List Int).length by simp), chk_eq (show -(2 ^ 64) < (a * d + c) / (1 + b) ∧ (a * d + c) / (1 + b) < 2 ^ 64 by omega)]
  rw [if_pos (decide_eq_true f1.1), chk_eq (show 1 < ([a, 1 + b, c] : List Int).length by simp), chk_eq (show -(2 ^ 64) < (a * d + c) / (1 + b) + 1 ∧ (a * d + c) / (1 + b) + 1 < 2 ^ 64 by omega)]
  rw [decide_eq_true f1.2]
  rfl
theorem four_ok (it : O_Growth × List Int × List (List Nat) × Int) (h : Good it) : bd_law_4 it () = some (.nx ()) := by
  obtain ⟨a, b, c, d, t0, t1, t2, rfl, ha, hb, hc, hd, o0, o1, o2⟩ := h
  have hn : (0 : Int) < 1 + b := by omega
  have f1 := div_facts (x := a * 0 + (-1 - c)) hn
  have f2 := div_small (x := a * 0 + (-1 - c)) hn (by omega) (by omega)
  unfold bd_law_4
  dsimp only
  rw [chk_eq (show 0 < ([a, 1 + b, c] : List Int).length by simp), chk_eq (show 1 < ([a, 1 + b, c] : List Int).length by simp), chk_eq (show 2 < ([a, 1 + b, c] : List Int).length by simp)]
  unfold m_Growth_init m_Growth_bound
  simp only [ob_eq, List.getD_cons_zero, List.getD_cons_succ]
  rw [chk_eq (show -(2 ^ 64) < a ∧ a < 2 ^ 64 by omega), chk_eq (show 0 < 1 + b ∧ 1 + b < 1073741824 by omega)]
  simp only [ob_eq]
  rw [chk_eq (show 1 < ([a, 1 + b, c] : List Int).length by simp), chk_eq (show -(2 ^ 64) < (a * 0 + (-1 - c)) / (1 + b) ∧ (a * 0 + (-1 - c)) / (1 + b) < 2 ^ 64 by omega), chk_eq (show 2 < ([a, 1 + b, c] : List Int).length by simp)]
  have e1 : (a * 0 + (-1 - c)) / (1 + b) * (1 + b) ≤ -1 - c := by have := f1.1; rw [Int.mul_zero, Int.zero_add] at *; exact this
  have e2 : -1 - c < ((a * 0 + (-1 - c)) / (1 + b) + 1) * (1 + b) := by have := f1.2; rw [Int.mul_zero, Int.zero_add] at *; exact this
  rw [if_pos (decide_eq_true e1), chk_eq (show 1 < ([a, 1 + b, c] : List Int).length by simp), chk_eq (show -(2 ^ 64) < (a * 0 + (-1 - c)) / (1 + b) + 1 ∧ (a * 0 + (-1 - c)) / (1 + b) + 1 < 2 ^ 64 by omega)]
  rw [decide_eq_true e2]
  rfl
theorem law_true (ns : List Int) (h : ns.length ≤ 63) : m_law (absL ns) = some true := by
  unfold m_law
  generalize absL ns = ms
  obtain ⟨s, e, hI⟩ := itf_ok (f := bd_law_1 ms) (fun l s => s.1.length + l.length = 2 ∧ ∀ it ∈ s.1, Good it) (fun x r s hI => by
    rw [List.length_cons] at hI
    obtain ⟨it, b, e, hg⟩ := row_ok ms x s (by omega)
    refine ⟨_, e, by rw [List.length_append, List.length_singleton]; omega, fun y hy => ?_⟩
    rcases List.mem_append.mp hy with q | q
    · exact hI.2 y q
    · rw [List.mem_singleton.mp q]; exact hg) (List.range 2) ([], box0) ⟨by decide, fun y hy => by cases hy⟩
  rw [ob_of e, chk_eq (by simp only [List.length_nil] at hI; omega)]
  rw [ob_of (itr_all (xs := s.1 ++ s.1) fun it hit => three_ok it (by rcases List.mem_append.mp hit with q | q <;> exact hI.2 it q))]
  dsimp only [Lr.el]
  rw [ob_of (itr_all (xs := s.1) fun it hit => four_ok it (hI.2 it hit))]

theorem all_mk {l : PySem.W.OpenLaw} {w : World} {K : PySem.W.Frag} {h : Heap} {mg : Str → Option Value} {fa : Addr} (X : K.In h) (Gh : h.Ns mainGlobals mg) (hfa : mg "law" = some (.ref fa))
    {f_take : Addr} {od_take an_take : Option Addr} {sl_take : Array (Option Value)} {oc_take kV_take dc_take pm_take cd_take ct_take : Value}
    (a_take : PySem.W.nsIn K mainGlobals "_law_take" = some (some (.ref f_take)))
    (l_take : K.lookup f_take = some ⟨oc_take, od_take, .func (PySem.W.fnOf "_law_take" "_law_take" (defArgs s_take) (defBody s_take) (defScope s_take) .none kV_take dc_take pm_take an_take cd_take ct_take), sl_take⟩) (c_take : PySem.W.codeIn K cd_take "_law_take" = true) (k_take : PySem.W.keepIn K (.ref f_take) = true)
    {f_box : Addr} {od_box an_box : Option Addr} {sl_box : Array (Option Value)} {oc_box kV_box dc_box pm_box cd_box ct_box : Value}
    (a_box : PySem.W.nsIn K mainGlobals "_law_box" = some (some (.ref f_box)))
    (l_box : K.lookup f_box = some ⟨oc_box, od_box, .func (PySem.W.fnOf "_law_box" "_law_box" (defArgs s_box) (defBody s_box) (defScope s_box) .none kV_box dc_box pm_box an_box cd_box ct_box), sl_box⟩) (c_box : PySem.W.codeIn K cd_box "_law_box" = true) (k_box : PySem.W.keepIn K (.ref f_box) = true)
    {f_signs : Addr} {od_signs an_signs : Option Addr} {sl_signs : Array (Option Value)} {oc_signs kV_signs dc_signs pm_signs cd_signs ct_signs : Value}
    (a_signs : PySem.W.nsIn K mainGlobals "_law_signs" = some (some (.ref f_signs)))
    (l_signs : K.lookup f_signs = some ⟨oc_signs, od_signs, .func (PySem.W.fnOf "_law_signs" "_law_signs" (defArgs s_signs) (defBody s_signs) (defScope s_signs) .none kV_signs dc_signs pm_signs an_signs cd_signs ct_signs), sl_signs⟩) (c_signs : PySem.W.codeIn K cd_signs "_law_signs" = true) (k_signs : PySem.W.keepIn K (.ref f_signs) = true)
    {f_sign : Addr} {od_sign an_sign : Option Addr} {sl_sign : Array (Option Value)} {oc_sign kV_sign dc_sign pm_sign cd_sign ct_sign : Value}
    (a_sign : PySem.W.nsIn K mainGlobals "_law_sign" = some (some (.ref f_sign)))
    (l_sign : K.lookup f_sign = some ⟨oc_sign, od_sign, .func (PySem.W.fnOf "_law_sign" "_law_sign" (defArgs s_sign) (defBody s_sign) (defScope s_sign) .none kV_sign dc_sign pm_sign an_sign cd_sign ct_sign), sl_sign⟩) (c_sign : PySem.W.codeIn K cd_sign "_law_sign" = true) (k_sign : PySem.W.keepIn K (.ref f_sign) = true)
    {f_text : Addr} {od_text an_text : Option Addr} {sl_text : Array (Option Value)} {oc_text kV_text dc_text pm_text cd_text ct_text : Value}
    (a_text : PySem.W.nsIn K mainGlobals "_law_text" = some (some (.ref f_text)))
    (l_text : K.lookup f_text = some ⟨oc_text, od_text, .func (PySem.W.fnOf "_law_text" "_law_text" (defArgs s_text) (defBody s_text) (defScope s_text) .none kV_text dc_text pm_text an_text cd_text ct_text), sl_text⟩) (c_text : PySem.W.codeIn K cd_text "_law_text" = true) (k_text : PySem.W.keepIn K (.ref f_text) = true)
    {f_number : Addr} {od_number an_number : Option Addr} {sl_number : Array (Option Value)} {oc_number kV_number dc_number pm_number cd_number ct_number : Value}
    (a_number : PySem.W.nsIn K mainGlobals "_law_number" = some (some (.ref f_number)))
    (l_number : K.lookup f_number = some ⟨oc_number, od_number, .func (PySem.W.fnOf "_law_number" "_law_number" (defArgs s_number) (defBody s_number) (defScope s_number) .none kV_number dc_number pm_number an_number cd_number ct_number), sl_number⟩) (c_number : PySem.W.codeIn K cd_number "_law_number" = true) (k_number : PySem.W.keepIn K (.ref f_number) = true)
    {f_law : Addr} {od_law an_law : Option Addr} {sl_law : Array (Option Value)} {oc_law kV_law dc_law pm_law cd_law ct_law : Value}
    (a_law : PySem.W.nsIn K mainGlobals "law" = some (some (.ref f_law)))
    (l_law : K.lookup f_law = some ⟨oc_law, od_law, .func (PySem.W.fnOf "law" "law" (defArgs s_law) (defBody s_law) (defScope s_law) .none kV_law dc_law pm_law an_law cd_law ct_law), sl_law⟩) (c_law : PySem.W.codeIn K cd_law "law" = true) (k_law : PySem.W.keepIn K (.ref f_law) = true)
    (z_abs : PySem.W.nsIn K mainGlobals "abs" = some none)
    (z_bool : PySem.W.nsIn K mainGlobals "bool" = some none)
    (z_int : PySem.W.nsIn K mainGlobals "int" = some none)
    (z_isinstance : PySem.W.nsIn K mainGlobals "isinstance" = some none)
    (z_len : PySem.W.nsIn K mainGlobals "len" = some none)
    (z_range : PySem.W.nsIn K mainGlobals "range" = some none)
    {C_Growth : Addr} (aC_Growth : PySem.W.nsIn K mainGlobals "Growth" = some (some (.ref C_Growth))) (pg_Growth : PySem.W.plainGet K C_Growth Str.empty = true) (hd_Growth : PySem.W.hasDictIn K C_Growth = true) (po_Growth : PySem.W.plainOver K C_Growth = true) (sa_Growth : PySem.W.findIn K (.ref C_Growth) "__setattr__" = some (some (.builtin "object.__setattr__"))) (mk_Growth : PySem.W.makesIn K C_Growth = true) (kc_Growth : PySem.W.keepIn K (.ref C_Growth) = true)
    (na_Growth_lead : PySem.W.findIn K (.ref C_Growth) "lead" = some none)
    (na_Growth_loop : PySem.W.findIn K (.ref C_Growth) "loop" = some none)
    (na_Growth_out : PySem.W.findIn K (.ref C_Growth) "out" = some none)
    (na_Growth_peak : PySem.W.findIn K (.ref C_Growth) "peak" = some none)
    (na_Growth_per : PySem.W.findIn K (.ref C_Growth) "per" = some none)
    (na_Growth_slack : PySem.W.findIn K (.ref C_Growth) "slack" = some none)
    {f_Growth_init : Addr} {od_Growth_init an_Growth_init : Option Addr} {sl_Growth_init : Array (Option Value)} {oc_Growth_init kV_Growth_init dc_Growth_init pm_Growth_init cd_Growth_init ct_Growth_init : Value}
    (in_Growth_init : PySem.W.findIn K (.ref C_Growth) "__init__" = some (some (.ref f_Growth_init))) (if_Growth_init : PySem.W.isFn K (.ref f_Growth_init) = true)
    (l_Growth_init : K.lookup f_Growth_init = some ⟨oc_Growth_init, od_Growth_init, .func (PySem.W.fnOf "__init__" "Growth.__init__" (defArgs s_Growth_init) (defBody s_Growth_init) (defScope s_Growth_init) .none kV_Growth_init dc_Growth_init pm_Growth_init an_Growth_init cd_Growth_init ct_Growth_init), sl_Growth_init⟩) (c_Growth_init : PySem.W.codeIn K cd_Growth_init "Growth.__init__" = true) (k_Growth_init : PySem.W.keepIn K (.ref f_Growth_init) = true)
    {f_Growth_swells : Addr} {od_Growth_swells an_Growth_swells : Option Addr} {sl_Growth_swells : Array (Option Value)} {oc_Growth_swells kV_Growth_swells dc_Growth_swells pm_Growth_swells cd_Growth_swells ct_Growth_swells : Value}
    {p_Growth_swells : Addr} {r_Growth_swells : List Value} (in_Growth_swells : PySem.W.findIn K (.ref C_Growth) "swells" = some (some (.ref p_Growth_swells))) (pg_Growth_swells : PySem.W.specialIn K (.ref p_Growth_swells) "__get__" = some (some (.builtin "property.__get__"))) (pt_Growth_swells : PySem.W.takesIn K (.ref p_Growth_swells) = some true) (pr_Growth_swells : PySem.W.recIn K p_Growth_swells "property" = some (.ref f_Growth_swells :: r_Growth_swells))
    (l_Growth_swells : K.lookup f_Growth_swells = some ⟨oc_Growth_swells, od_Growth_swells, .func (PySem.W.fnOf "swells" "Growth.swells" (defArgs s_Growth_swells) (defBody s_Growth_swells) (defScope s_Growth_swells) .none kV_Growth_swells dc_Growth_swells pm_Growth_swells an_Growth_swells cd_Growth_swells ct_Growth_swells), sl_Growth_swells⟩) (c_Growth_swells : PySem.W.codeIn K cd_Growth_swells "Growth.swells" = true) (k_Growth_swells : PySem.W.keepIn K (.ref f_Growth_swells) = true)
    {f_Growth_bound : Addr} {od_Growth_bound an_Growth_bound : Option Addr} {sl_Growth_bound : Array (Option Value)} {oc_Growth_bound kV_Growth_bound dc_Growth_bound pm_Growth_bound cd_Growth_bound ct_Growth_bound : Value}
    (in_Growth_bound : PySem.W.findIn K (.ref C_Growth) "bound" = some (some (.ref f_Growth_bound))) (if_Growth_bound : PySem.W.isFn K (.ref f_Growth_bound) = true)
    (l_Growth_bound : K.lookup f_Growth_bound = some ⟨oc_Growth_bound, od_Growth_bound, .func (PySem.W.fnOf "bound" "Growth.bound" (defArgs s_Growth_bound) (defBody s_Growth_bound) (defScope s_Growth_bound) .none kV_Growth_bound dc_Growth_bound pm_Growth_bound an_Growth_bound cd_Growth_bound ct_Growth_bound), sl_Growth_bound⟩) (c_Growth_bound : PySem.W.codeIn K cd_Growth_bound "Growth.bound" = true) (k_Growth_bound : PySem.W.keepIn K (.ref f_Growth_bound) = true)
    : ∃ fd : FuncData, (∀ (s : Shared) (v : Value), BindsTo s fd ⟨[v], []⟩ [("_law_script", v)]) ∧ ∀ base : Heap, K.In base → base.Ns mainGlobals mg → FnOk l.prog w K mg base CX0 4 fa fd ["_law_script"] (spL K) := by
  have e := hfa.symm.trans (PySem.W.mg_of X Gh a_law)
  cases e
  have F_take := fun_mk (st := s_take) l_take c_take k_take
  have b_take := F_take.binds (ps := ["_law_box_here", "_law_size"]) fun _ _ _ _ _ _ us hl => match us, hl with | [_, _], _ => rfl
  have F_box := fun_mk (st := s_box) l_box c_box k_box
  have b_box := F_box.binds (ps := ["_law_script"]) fun _ _ _ _ _ _ us hl => match us, hl with | [_], _ => rfl
  have F_signs := fun_mk (st := s_signs) l_signs c_signs k_signs
  have b_signs := F_signs.binds (ps := []) fun _ _ _ _ _ _ us hl => match us, hl with | [], _ => rfl
  have F_sign := fun_mk (st := s_sign) l_sign c_sign k_sign
  have b_sign := F_sign.binds (ps := ["_law_box_here"]) fun _ _ _ _ _ _ us hl => match us, hl with | [_], _ => rfl
  have F_text := fun_mk (st := s_text) l_text c_text k_text
  have b_text := F_text.binds (ps := ["_law_box_here", "_law_pieces", "_law_limit"]) fun _ _ _ _ _ _ us hl => match us, hl with | [_, _, _], _ => rfl
  have F_number := fun_mk (st := s_number) l_number c_number k_number
  have b_number := F_number.binds (ps := ["_law_worth"]) fun _ _ _ _ _ _ us hl => match us, hl with | [_], _ => rfl
  have F_law := fun_mk (st := s_law) l_law c_law k_law
  have b_law := F_law.binds (ps := ["_law_script"]) fun _ _ _ _ _ _ us hl => match us, hl with | [_], _ => rfl
  have F_Growth_init := fun_mk (st := s_Growth_init) l_Growth_init c_Growth_init k_Growth_init
  have b_Growth_init := F_Growth_init.binds (ps := ["self", "out", "per", "slack", "peak", "lead", "loop"]) fun _ _ _ _ _ _ us hl => match us, hl with | [_, _, _, _, _, _, _], _ => rfl
  have F_Growth_swells := fun_mk (st := s_Growth_swells) l_Growth_swells c_Growth_swells k_Growth_swells
  have b_Growth_swells := F_Growth_swells.binds (ps := ["self"]) fun _ _ _ _ _ _ us hl => match us, hl with | [_], _ => rfl
  have F_Growth_bound := fun_mk (st := s_Growth_bound) l_Growth_bound c_Growth_bound k_Growth_bound
  have b_Growth_bound := F_Growth_bound.binds (ps := ["self", "length"]) fun _ _ _ _ _ _ us hl => match us, hl with | [_, _], _ => rfl
  have T : Tx w K ⟨0, C_Growth⟩ mg := {
    fa := ⟨trivial, ⟨pg_Growth, hd_Growth, po_Growth, sa_Growth⟩, na_Growth_lead, na_Growth_loop, na_Growth_out, na_Growth_peak, na_Growth_per, na_Growth_slack⟩
    d_take := ⟨_, _, F_take, b_take, PySem.W.mg_of X Gh a_take⟩
    d_box := ⟨_, _, F_box, b_box, PySem.W.mg_of X Gh a_box⟩
    d_signs := ⟨_, _, F_signs, b_signs, PySem.W.mg_of X Gh a_signs⟩
    d_sign := ⟨_, _, F_sign, b_sign, PySem.W.mg_of X Gh a_sign⟩
    d_text := ⟨_, _, F_text, b_text, PySem.W.mg_of X Gh a_text⟩
    d_number := ⟨_, _, F_number, b_number, PySem.W.mg_of X Gh a_number⟩
    d_law := ⟨_, _, F_law, b_law, PySem.W.mg_of X Gh a_law⟩
    z_abs := PySem.W.mg_none_of X Gh z_abs
    z_bool := PySem.W.mg_none_of X Gh z_bool
    z_int := PySem.W.mg_none_of X Gh z_int
    z_isinstance := PySem.W.mg_none_of X Gh z_isinstance
    z_len := PySem.W.mg_none_of X Gh z_len
    z_range := PySem.W.mg_none_of X Gh z_range
    d_Growth_init := ⟨_, _, F_Growth_init, b_Growth_init, PySem.W.mg_of X Gh aC_Growth, ⟨mk_Growth, in_Growth_init, if_Growth_init, kc_Growth⟩⟩
    d_Growth_swells := ⟨_, _, _, F_Growth_swells, b_Growth_swells, ⟨in_Growth_swells, pg_Growth_swells, pt_Growth_swells, ⟨_, pr_Growth_swells⟩⟩⟩
    d_Growth_bound := ⟨_, _, F_Growth_bound, b_Growth_bound, ⟨in_Growth_bound, if_Growth_bound, k_Growth_bound⟩⟩
  }
  refine ⟨_, fun s v => .of_eq rfl, fun base _ _ => (fn_law T F_law).imp (fun vs H Q E h => ?_)⟩
  obtain ⟨a, ns, rfl, hS, hl, q⟩ := h
  exact ⟨H, [], a, ns, true, rfl, Wd.all H, hS, hl, law_true ns hl, fun H1 P1 _ _ => q H1⟩
end G
open PySem PySem.W PyProof.Rows
set_option maxHeartbeats 0 in
theorem PySem.Challenge.cw_regrow_k46_growth_objects_holds : PySem.Challenge.rw_regrow_k46_growth_objects.Holds := by
  w_on; o_law; k_head; (case hw => w_witness2)
  k_fill
  refine L2.walk_of (l := PySem.Challenge.rw_regrow_k46_growth_objects) (n := 63) (k := 4) (x := "_law_script") (CX := fun _ => L2.CX0) (sp := fun w => G.spL _) rfl (by decide) rfl ⟨rfl, by decide, by decide⟩ (fun w h Y => PySem.W.kIn_of Y) ?F (fun _ _ a ns hl _ hS => ⟨a, ns, rfl, hS, hl, fun _ => rfl⟩) (fun _ _ _ _ _ h => h)
  case F =>
    intro w mg fa h KX Gh hmg
    refine' G.all_mk KX Gh hmg ?a_take ?l_take ?c_take ?k_take ?a_box ?l_box ?c_box ?k_box ?a_signs ?l_signs ?c_signs ?k_signs ?a_sign ?l_sign ?c_sign ?k_sign ?a_text ?l_text ?c_text ?k_text ?a_number ?l_number ?c_number ?k_number ?a_law ?l_law ?c_law ?k_law ?z_abs ?z_bool ?z_int ?z_isinstance ?z_len ?z_range ?aC_Growth ?pg_Growth ?hd_Growth ?po_Growth ?sa_Growth ?mk_Growth ?kc_Growth ?na_Growth_lead ?na_Growth_loop ?na_Growth_out ?na_Growth_peak ?na_Growth_per ?na_Growth_slack ?in_Growth_init ?if_Growth_init ?l_Growth_init ?c_Growth_init ?k_Growth_init ?in_Growth_swells ?pg_Growth_swells ?pt_Growth_swells ?pr_Growth_swells ?l_Growth_swells ?c_Growth_swells ?k_Growth_swells ?in_Growth_bound ?if_Growth_bound ?l_Growth_bound ?c_Growth_bound ?k_Growth_bound
    (case a_take => k_is)
    (case l_take => k_is)
    (case c_take => k_is)
    (case k_take => k_is)
    (case a_box => k_is)
    (case l_box => k_is)
    (case c_box => k_is)
    (case k_box => k_is)
    (case a_signs => k_is)
    (case l_signs => k_is)
    (case c_signs => k_is)
    (case k_signs => k_is)
    (case a_sign => k_is)
    (case l_sign => k_is)
    (case c_sign => k_is)
    (case k_sign => k_is)
    (case a_text => k_is)
    (case l_text => k_is)
    (case c_text => k_is)
    (case k_text => k_is)
    (case a_number => k_is)
    (case l_number => k_is)
    (case c_number => k_is)
    (case k_number => k_is)
    (case a_law => k_is)
    (case l_law => k_is)
    (case c_law => k_is)
    (case k_law => k_is)
    (case z_abs => k_is)
    (case z_bool => k_is)
    (case z_int => k_is)
    (case z_isinstance => k_is)
    (case z_len => k_is)
    (case z_range => k_is)
    (case aC_Growth => k_is)
    (case pg_Growth => k_is)
    (case hd_Growth => k_is)
    (case po_Growth => k_is)
    (case sa_Growth => k_is)
    (case mk_Growth => k_is)
    (case kc_Growth => k_is)
    (case na_Growth_lead => k_is)
    (case na_Growth_loop => k_is)
    (case na_Growth_out => k_is)
    (case na_Growth_peak => k_is)
    (case na_Growth_per => k_is)
    (case na_Growth_slack => k_is)
    (case in_Growth_init => k_is)
    (case if_Growth_init => k_is)
    (case l_Growth_init => k_is)
    (case c_Growth_init => k_is)
    (case k_Growth_init => k_is)
    (case in_Growth_swells => k_is)
    (case pg_Growth_swells => k_is)
    (case pt_Growth_swells => k_is)
    (case pr_Growth_swells => k_is)
    (case l_Growth_swells => k_is)
    (case c_Growth_swells => k_is)
    (case k_Growth_swells => k_is)
    (case in_Growth_bound => k_is)
    (case if_Growth_bound => k_is)
    (case l_Growth_bound => k_is)
    (case c_Growth_bound => k_is)
    (case k_Growth_bound => k_is)
