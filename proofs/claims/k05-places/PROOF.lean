import PyProof.Rows.All
import Wide.All
import OpenK.AllK
import Wide.FinOn
import HandS.ForMost
import HandS.IsInst
import HandS.Codes
import HandS.Walk
import HandS.Defaults
import HandS.Evl
import HandS.More
import HandS.Style
import PySem.Challenge.RW_regrow_k05_places
set_option Elab.async false
set_option linter.all false
set_option maxRecDepth 100000
set_option maxHeartbeats 4000000
namespace G
open PySem PySem.Spec PyProof.Rows L2
/-! ### texts by their codes -/
def S (t : List Nat) : V := .str ⟨⟨t⟩⟩
theorem S_inj {a b : List Nat} (h : S a = S b) : a = b := by
  unfold S at h
  injection h with h
  injection h with h
  injection h
theorem S_eq {a b : List Nat} : (S a = S b) = (a = b) := propext ⟨S_inj, fun h => by rw [h]⟩
theorem str_S (x : Str) : V.str x = S x.cps.toList := rfl
/-! ### what stays -/
def Ext (P P' : Hp) : Prop := ∀ a o, P a = some o → P' a = some o
theorem Ext.refl (P : Hp) : Ext P P := fun _ _ h => h
theorem Ext.trans {P P1 P2 : Hp} (a : Ext P P1) (b : Ext P1 P2) : Ext P P2 := fun x o h => b x o (a x o h)
theorem Ext.new {P : Hp} {p : Addr} {o : HO} (h : P p = none) : Ext P (upd P p o) := fun a u e => by
  rw [upd_ne (ne_of_none e h)]
  exact e
theorem Ext.rd {P P' : Hp} {a : Addr} {u : HO} (e : Ext P P') (h : Rd P a u) : Rd P' a u := by
  rcases h with h | ⟨o, h⟩
  · exact Or.inl (e a _ h)
  · exact Or.inr ⟨o, e a _ h⟩
theorem Ext.sql {K : PySem.W.Frag} {P P' : Hp} {a : Addr} {xs : List V} (e : Ext P P') (h : SqL K P a xs) : SqL K P' a xs := by
  rcases h with h | h
  · exact Or.inl (e.rd h)
  · exact Or.inr h
theorem Ext.sqt {K : PySem.W.Frag} {P P' : Hp} {a : Addr} {xs : List V} (e : Ext P P') (h : SqT K P a xs) : SqT K P' a xs := by
  rcases h with h | h
  · exact Or.inl (e.rd h)
  · exact Or.inr h
/-! ### the world: what is frozen (P), the cells that may change (cs) -/
abbrev Cs := List (Addr × HO)
structure Wd (P H : Hp) (cs : Cs) : Prop where
  sub : Ext P H
  nd : (cs.map (·.1)).Nodup
  ok : ∀ p ∈ cs, H p.1 = some p.2 ∧ P p.1 = none
section
variable {P H : Hp} {cs : Cs} {a p : Addr} {o o' : HO} {i : Nat}
theorem Wd.mem (w : Wd P H cs) (h : (a, o) ∈ cs) : H a = some o := (w.ok _ h).1
theorem Wd.get (w : Wd P H cs) (i : Nat) (h : cs[i]? = some (a, o)) : H a = some o := (w.ok _ (List.mem_of_getElem? h)).1
theorem Wd.hd (w : Wd P H ((a, o) :: cs)) : H a = some o := (w.ok _ List.mem_cons_self).1
theorem Wd.pnone (w : Wd P H cs) (hp : H p = none) : P p = none := by
  cases q : P p with
  | none => rfl
  | some u =>
    rw [w.sub p u q] at hp
    cases hp
theorem map_set1 : ∀ (cs : Cs) (i : Nat) (a : Addr) (o o' : HO), cs[i]? = some (a, o) → (cs.set i (a, o')).map (·.1) = cs.map (·.1)
  | [], _, _, _, _, h => by simp at h
  | c :: r, 0, a, o, o', h => by
    have e : c = (a, o) := Option.some.inj h
    subst e
    rfl
  | c :: r, i + 1, a, o, o', h => by
    have ih := map_set1 r i a o o' h
    show c.1 :: (r.set i (a, o')).map (·.1) = c.1 :: r.map (·.1)
    rw [ih]
theorem mem_set1 : ∀ (cs : Cs) (i : Nat) (a : Addr) (o o' : HO), (cs.map (·.1)).Nodup → cs[i]? = some (a, o) → ∀ q ∈ cs.set i (a, o'), q = (a, o') ∨ (q ∈ cs ∧ q.1 ≠ a)
  | [], _, _, _, _, _, h => by simp at h
  | c :: r, 0, a, o, o', nd, h => by
    have e : c = (a, o) := Option.some.inj h
    subst e
    intro q hq
    rcases List.mem_cons.mp hq with z | z
    · exact Or.inl z
    · refine Or.inr ⟨List.mem_cons_of_mem _ z, fun e => ?_⟩
      have nd' : a ∉ r.map (·.1) := (List.nodup_cons.mp nd).1
      exact nd' (e ▸ List.mem_map_of_mem z)
  | c :: r, i + 1, a, o, o', nd, h => by
    intro q hq
    have nd' := List.nodup_cons.mp nd
    rcases List.mem_cons.mp hq with z | z
    · refine Or.inr ⟨z ▸ List.mem_cons_self, fun e => ?_⟩
      have hm : (a, o) ∈ r := List.mem_of_getElem? h
      have : a ∈ r.map (·.1) := List.mem_map_of_mem (f := (·.1)) hm
      rw [← e, z] at this
      exact nd'.1 this
    · rcases mem_set1 r i a o o' nd'.2 h q z with y | ⟨y1, y2⟩
      · exact Or.inl y
      · exact Or.inr ⟨List.mem_cons_of_mem _ y1, y2⟩
theorem Wd.put (w : Wd P H cs) (i : Nat) (o' : HO) (h : cs[i]? = some (a, o)) : Wd P (upd H a o') (cs.set i (a, o')) where
  sub := fun b u e => by
    have hb : b ≠ a := fun z => by
      subst z
      rw [(w.ok _ (List.mem_of_getElem? h)).2] at e
      cases e
    rw [upd_ne hb]
    exact w.sub b u e
  nd := by rw [map_set1 cs i a o o' h]; exact w.nd
  ok := fun q hq => by
    rcases mem_set1 cs i a o o' w.nd h q hq with z | ⟨z1, z2⟩
    · subst z
      exact ⟨upd_same, (w.ok _ (List.mem_of_getElem? h)).2⟩
    · rw [upd_ne z2]
      exact w.ok q z1
/-- a new cell that may change -/
theorem Wd.new (w : Wd P H cs) (hp : H p = none) (o : HO) : Wd P (upd H p o) ((p, o) :: cs) where
  sub := fun b u e => by
    rw [upd_ne (ne_of_none (w.sub b u e) hp)]
    exact w.sub b u e
  nd := by
    refine List.nodup_cons.mpr ⟨fun hm => ?_, w.nd⟩
    obtain ⟨q, hq, e⟩ := List.mem_map.mp hm
    have := (w.ok q hq).1
    rw [show q.1 = p from e, hp] at this
    cases this
  ok := fun q hq => by
    rcases List.mem_cons.mp hq with z | z
    · subst z
      exact ⟨upd_same, w.pnone hp⟩
    · rw [upd_ne (ne_of_none (w.ok q z).1 hp)]
      exact w.ok q z
/-- a cell is frozen -/
theorem Wd.keep (w : Wd P H ((a, o) :: cs)) : Wd (upd P a o) H cs where
  sub := fun b u e => by
    by_cases hb : b = a
    · subst hb
      rw [upd_same] at e
      cases e
      exact w.hd
    · rw [upd_ne hb] at e
      exact w.sub b u e
  nd := (List.nodup_cons.mp w.nd).2
  ok := fun q hq => by
    have n : q.1 ≠ a := fun e => (List.nodup_cons.mp w.nd).1 (show a ∈ cs.map (·.1) from e ▸ List.mem_map_of_mem hq)
    rw [upd_ne n]
    exact w.ok q (List.mem_cons_of_mem _ hq)
theorem Wd.kext (w : Wd P H ((a, o) :: cs)) : Ext P (upd P a o) := Ext.new (w.ok _ List.mem_cons_self).2
/-- a new thing that never changes -/
theorem Wd.frz (w : Wd P H cs) (hp : H p = none) (o : HO) : Wd (upd P p o) (upd H p o) cs := (w.new hp o).keep
theorem Wd.fext (w : Wd P H cs) (hp : H p = none) (o : HO) : Ext P (upd P p o) := Ext.new (w.pnone hp)
theorem Wd.sublist {cs' : Cs} (w : Wd P H cs) (h : cs'.Sublist cs) : Wd P H cs' := ⟨w.sub, w.nd.sublist (h.map _), fun q hq => w.ok q (h.subset hq)⟩
theorem Wd.tl {c : Addr × HO} (w : Wd P H (c :: cs)) : Wd P H cs := w.sublist (List.sublist_cons_self _ _)
theorem Wd.perm {cs' : Cs} (w : Wd P H cs) (h : cs.Perm cs') : Wd P H cs' := ⟨w.sub, (h.map _).nodup_iff.mp w.nd, fun q hq => w.ok q (h.mem_iff.mpr hq)⟩
theorem perm_pull {α : Type} : ∀ (l : List α) (i : Nat) (x : α), l[i]? = some x → l.Perm (x :: l.eraseIdx i)
  | [], _, _, h => by simp at h
  | c :: r, 0, x, h => by
    have e : c = x := Option.some.inj h
    subst e
    exact List.Perm.refl _
  | c :: r, i + 1, x, h => ((perm_pull r i x h).cons c).trans (List.Perm.swap x c _)
theorem Wd.pull (w : Wd P H cs) (i : Nat) (h : cs[i]? = some (a, o)) : Wd P H ((a, o) :: cs.eraseIdx i) := w.perm (perm_pull cs i _ h)
/-- all is frozen that is there -/
theorem Wd.all (H : Hp) : Wd H H [] := ⟨Ext.refl H, List.nodup_nil, fun _ h => by cases h⟩
theorem Wd.sql {K : PySem.W.Frag} {xs : List V} (w : Wd P H cs) (h : SqL K P a xs) : SqL K H a xs := w.sub.sql h
theorem Wd.sqt {K : PySem.W.Frag} {xs : List V} (w : Wd P H cs) (h : SqT K P a xs) : SqT K H a xs := w.sub.sqt h
theorem Wd.lst {K : PySem.W.Frag} {xs : List V} (w : Wd P H cs) (h : P a = some (.lst xs)) : SqL K H a xs := .inl (.inl (w.sub _ _ h))
theorem Wd.tup {K : PySem.W.Frag} {xs : List V} (w : Wd P H cs) (h : P a = some (.tup xs)) : SqT K H a xs := .inl (.inl (w.sub _ _ h))
/-- a cell is lent: frozen for a while -/
def hid (P : Hp) (a : Addr) : Hp := fun b => if b = a then none else P b
theorem hid_same {P : Hp} {a : Addr} : hid P a a = none := by unfold hid; rw [if_pos rfl]
theorem hid_ne {P : Hp} {a b : Addr} (h : b ≠ a) : hid P a b = P b := by unfold hid; rw [if_neg h]
theorem Wd.unlend {P' : Hp} (w : Wd P' H cs) (h : P' a = some o) : Wd (hid P' a) H ((a, o) :: cs) where
  sub := fun b u e => by
    by_cases hb : b = a
    · subst hb
      rw [hid_same] at e
      cases e
    · rw [hid_ne hb] at e
      exact w.sub b u e
  nd := by
    refine List.nodup_cons.mpr ⟨fun hm => ?_, w.nd⟩
    obtain ⟨q, hq, e⟩ := List.mem_map.mp hm
    have := (w.ok q hq).2
    rw [show q.1 = a from e, h] at this
    cases this
  ok := fun q hq => by
    rcases List.mem_cons.mp hq with z | z
    · subst z
      exact ⟨w.sub _ _ h, hid_same⟩
    · refine ⟨(w.ok q z).1, ?_⟩
      have n : q.1 ≠ a := fun e => by
        have := (w.ok q z).2
        rw [e, h] at this
        cases this
      rw [hid_ne n]
      exact (w.ok q z).2
theorem Ext.unlend {P P' : Hp} (h : P a = none) (e : Ext (upd P a o) P') : Ext P (hid P' a) := fun b u q => by
  have hb : b ≠ a := ne_of_none q h
  rw [hid_ne hb]
  exact e b u (by rw [upd_ne hb]; exact q)
end
/-! ### data -/
section
variable {K : PySem.W.Frag} {P P' : Hp}
mutual
theorem dpm (e : Ext P P') : ∀ (d : PyData) (v : V), Dp K P v d → Dp K P' v d
  | .none, _, h => by cases h; exact .non
  | .bool b, _, h => by cases h; exact .bl b
  | .int i, _, h => by cases h; exact .int i
  | .str x, _, h => by cases h; exact .str x
  | .list ds, _, h => by
    cases h with
    | lst hs ha => exact .lst (e.sql hs) (dpmAll e ds _ ha)
  | .tuple ds, _, h => by
    cases h with
    | tup hs ha => exact .tup (e.sqt hs) (dpmAll e ds _ ha)
  | .dict _, _, h => by cases h
theorem dpmAll (e : Ext P P') : ∀ (ds : List PyData) (vs : List V), DpAll K P vs ds → DpAll K P' vs ds
  | [], _, h => by cases h; exact .nil
  | d :: ds, _, h => by
    cases h with
    | cons h1 h2 => exact .cons (dpm e d _ h1) (dpmAll e ds _ h2)
end
end
theorem Dp.mono {K : PySem.W.Frag} {P P' : Hp} {v : V} {d : PyData} (h : Dp K P v d) (e : Ext P P') : Dp K P' v d := dpm e d v h
theorem DpAll.mono {K : PySem.W.Frag} {P P' : Hp} {vs : List V} {ds : List PyData} (h : DpAll K P vs ds) (e : Ext P P') : DpAll K P' vs ds := dpmAll e ds vs h
end G
namespace G
open PySem PySem.Spec PyProof.Rows L2
abbrev cs (s : String) : List Nat := (Str.ofString s).cps.toList
def eS (t : List Nat) : PyData := .str ⟨⟨t⟩⟩
/-! ### tests -/
theorem iteB {b : Bool} {A B : Prop} (h1 : b = true → A) (h2 : b = false → B) : if b = true then A else B := by
  cases b with
  | true => rw [if_pos rfl]; exact h1 rfl
  | false => rw [if_neg Bool.false_ne_true]; exact h2 rfl
theorem ite_t {α : Type} {b : Bool} {x y : α} (h : b = true) : (if b = true then x else y) = x := if_pos h
theorem ite_f {α : Type} {b : Bool} {x y : α} (h : b = false) : (if b = true then x else y) = y := if_neg (by rw [h]; exact Bool.false_ne_true)
/-! ### operators over texts by their codes -/
section
variable {X : Cx}
theorem pe_strS {x : Str} {j : Nat} {pos : Pos} : PE X (.Constant (.str x) j pos) (tC (S x.cps.toList)) := pe_str
def rAdd : R2 := rI0 fun i j => .int (i + j)
def rSub : R2 := rI0 fun i j => .int (i - j)
def rMul : R2 := rI CMul fun i j => .int (i * j)
def rMod : R2 := rI (fun _ j => 0 < j) fun i j => .int (i % j)
def rDiv : R2 := rI CDiv fun i j => .int (i / j)
def rPow : R2 := rI CPow fun i j => .int (i ^ j.toNat)
def rLt : R2 := rI0 fun i j => .bl (decide (i < j))
def rLe : R2 := rI0 fun i j => .bl (decide (i ≤ j))
def rGt : R2 := rI0 fun i j => .bl (decide (j < i))
def rGe : R2 := rI0 fun i j => .bl (decide (j ≤ i))
theorem o_add : OpR X (binaryOp .Add) rAdd := op_add
theorem o_sub : OpR X (binaryOp .Sub) rSub := op_sub
theorem o_mul : OpR X (binaryOp .Mult) rMul := op_mul
theorem o_mod : OpR X (binaryOp .Mod) rMod := op_mod
theorem o_div : OpR X (binaryOp .FloorDiv) rDiv := op_fdiv
theorem o_pow : OpR X (binaryOp .Pow) rPow := op_pow
theorem o_lt : OpR X (compareOp .Lt) rLt := op_lt
theorem o_le : OpR X (compareOp .LtE) rLe := op_le
theorem o_gt : OpR X (compareOp .Gt) rGt := op_gt
theorem o_ge : OpR X (compareOp .GtE) rGe := op_ge
def rAddS : R2 := fun x y H Q => ∃ a b : List Nat, x = S a ∧ y = S b ∧ a.length + b.length ≤ sizeLine ∧ Q (S (a ++ b)) H
theorem S_app (a b : List Nat) : V.str ((⟨⟨a⟩⟩ : Str) ++ (⟨⟨b⟩⟩ : Str)) = S (a ++ b) := by
  show V.str ⟨(⟨a⟩ : Array Nat) ++ (⟨b⟩ : Array Nat)⟩ = V.str ⟨⟨a ++ b⟩⟩
  congr 2
  simp
theorem o_addS : OpR X (binaryOp .Add) rAddS := fun pins s σ H x y v u Q I rx ry h => by
  obtain ⟨a, b, rfl, rfl, hz, q⟩ := h
  exact op_add_str pins s σ H _ _ v u Q I rx ry ⟨_, _, rfl, rfl, hz, by rw [S_app]; exact q⟩
def rEqI : R2 := fun x y H Q => ∃ i j : Int, x = .int i ∧ y = .int j ∧ Q (.bl (decide (i = j))) H
def rNeI : R2 := fun x y H Q => ∃ i j : Int, x = .int i ∧ y = .int j ∧ Q (.bl (!decide (i = j))) H
def rEqB : R2 := fun x y H Q => ∃ i j : Bool, x = .bl i ∧ y = .bl j ∧ Q (.bl (decide (i = j))) H
def rNeB : R2 := fun x y H Q => ∃ i j : Bool, x = .bl i ∧ y = .bl j ∧ Q (.bl (!decide (i = j))) H
def rEqS : R2 := fun x y H Q => ∃ a b : List Nat, x = S a ∧ y = S b ∧ Q (.bl (decide (a = b))) H
def rNeS : R2 := fun x y H Q => ∃ a b : List Nat, x = S a ∧ y = S b ∧ Q (.bl (!decide (a = b))) H
theorem dI (i j : Int) : decide (V.int i = V.int j) = decide (i = j) := decide_eq_decide.mpr ⟨fun h => V.int.inj h, fun h => by rw [h]⟩
theorem dB (i j : Bool) : decide (V.bl i = V.bl j) = decide (i = j) := decide_eq_decide.mpr ⟨fun h => V.bl.inj h, fun h => by rw [h]⟩
theorem dS (i j : List Nat) : decide (S i = S j) = decide (i = j) := decide_eq_decide.mpr ⟨S_inj, fun h => by rw [h]⟩
theorem o_eqI : OpR X (compareOp .Eq) rEqI := fun pins s σ H x y v u Q I rx ry h => by
  obtain ⟨i, j, rfl, rfl, q⟩ := h
  exact op_eq pins s σ H _ _ v u Q I rx ry ⟨rfl, by rw [dI]; exact q⟩
theorem o_neI : OpR X (compareOp .NotEq) rNeI := fun pins s σ H x y v u Q I rx ry h => by
  obtain ⟨i, j, rfl, rfl, q⟩ := h
  exact op_ne pins s σ H _ _ v u Q I rx ry ⟨rfl, by rw [dI]; exact q⟩
theorem o_eqB : OpR X (compareOp .Eq) rEqB := fun pins s σ H x y v u Q I rx ry h => by
  obtain ⟨i, j, rfl, rfl, q⟩ := h
  exact op_eq pins s σ H _ _ v u Q I rx ry ⟨rfl, by rw [dB]; exact q⟩
theorem o_neB : OpR X (compareOp .NotEq) rNeB := fun pins s σ H x y v u Q I rx ry h => by
  obtain ⟨i, j, rfl, rfl, q⟩ := h
  exact op_ne pins s σ H _ _ v u Q I rx ry ⟨rfl, by rw [dB]; exact q⟩
theorem o_eqS : OpR X (compareOp .Eq) rEqS := fun pins s σ H x y v u Q I rx ry h => by
  obtain ⟨i, j, rfl, rfl, q⟩ := h
  exact op_eq pins s σ H _ _ v u Q I rx ry ⟨rfl, by rw [dS]; exact q⟩
theorem o_neS : OpR X (compareOp .NotEq) rNeS := fun pins s σ H x y v u Q I rx ry h => by
  obtain ⟨i, j, rfl, rfl, q⟩ := h
  exact op_ne pins s σ H _ _ v u Q I rx ry ⟨rfl, by rw [dS]; exact q⟩
/-- one sign in a text -/
def rInS : R2 := fun x y H Q => ∃ (c : Nat) (t : List Nat), x = S [c] ∧ y = S t ∧ Q (.bl (decide (c ∈ t))) H
def rNiS : R2 := fun x y H Q => ∃ (c : Nat) (t : List Nat), x = S [c] ∧ y = S t ∧ Q (.bl (!decide (c ∈ t))) H
theorem o_inS : OpR X (compareOp .In) rInS := fun pins s σ H x y v u Q I rx ry h => by
  obtain ⟨c, t, rfl, rfl, q⟩ := h
  exact op_in_sign pins s σ H _ _ v u Q I rx ry ⟨c, _, rfl, rfl, q⟩
theorem o_niS : OpR X (compareOp .NotIn) rNiS := fun pins s σ H x y v u Q I rx ry h => by
  obtain ⟨c, t, rfl, rfl, q⟩ := h
  exact op_notIn_sign pins s σ H _ _ v u Q I rx ry ⟨c, _, rfl, rfl, q⟩
/-- a text in a list or tuple of texts -/
theorem inV_S (t : List Nat) : ∀ ts : List (List Nat), inV (S t) (ts.map S) = decide (t ∈ ts)
  | [] => by simp [inV]
  | a :: r => by
    have ih := inV_S t r
    unfold inV at ih ⊢
    simp only [List.map_cons, List.any_cons, ih]
    rw [Bool.eq_iff_iff]
    have e : eqV (S a) (S t) = true ↔ a = t := by
      constructor
      · intro h
        simp [eqV, S] at h
        first | exact h | simpa using h
      · intro h
        subst h
        simp [eqV, S]
    have e2 : eqV (S t) (S a) = true ↔ a = t := by
      constructor
      · intro h
        simp [eqV, S] at h
        first | exact h.symm | (have := h; simp_all)
      · intro h
        subst h
        simp [eqV, S]
    simp only [Bool.or_eq_true, decide_eq_true_eq, List.mem_cons]
    constructor
    · rintro (h | h)
      · left; first | exact (e.mp h).symm | exact (e2.mp h).symm
      · right; exact h
    · rintro (h | h)
      · left; first | exact e.mpr h.symm | exact e2.mpr h.symm
      · right; exact h
theorem flat_S (ts : List (List Nat)) : (ts.map S).all flatV = true := by
  rw [List.all_eq_true]
  intro x hx
  obtain ⟨t, _, rfl⟩ := List.mem_map.mp hx
  rfl
def rInTS (K : PySem.W.Frag) : R2 := fun x y H Q => ∃ (t : List Nat) (a : Addr) (ts : List (List Nat)), x = S t ∧ y = .ref a ∧ (SqL K H a (ts.map S) ∨ SqT K H a (ts.map S)) ∧ Q (.bl (decide (t ∈ ts))) H
def rNiTS (K : PySem.W.Frag) : R2 := fun x y H Q => ∃ (t : List Nat) (a : Addr) (ts : List (List Nat)), x = S t ∧ y = .ref a ∧ (SqL K H a (ts.map S) ∨ SqT K H a (ts.map S)) ∧ Q (.bl (!decide (t ∈ ts))) H
theorem o_inTS : OpR X (compareOp .In) (rInTS X.K) := fun pins s σ H x y v u Q I rx ry h => by
  obtain ⟨t, a, ts, rfl, rfl, hs, q⟩ := h
  exact op_in_seq pins s σ H _ _ v u Q I rx ry ⟨a, _, rfl, hs, rfl, flat_S ts, by rw [inV_S]; exact q⟩
theorem o_niTS : OpR X (compareOp .NotIn) (rNiTS X.K) := fun pins s σ H x y v u Q I rx ry h => by
  obtain ⟨t, a, ts, rfl, rfl, hs, q⟩ := h
  exact op_notIn_seq pins s σ H _ _ v u Q I rx ry ⟨a, _, rfl, hs, rfl, flat_S ts, by rw [inV_S]; exact q⟩
/-! ### len, items, slices -/
def rLenS : List V → Hp → VK → Prop := fun xs H Q => ∃ t : List Nat, xs = [S t] ∧ t.length ≤ sizeLine ∧ Q (.int t.length) H
theorem c_lenS : CallR X (.builtin "len") rLenS := fun pins s σ H xs us Q I r h => by
  obtain ⟨t, rfl, hz, q⟩ := h
  exact call_len_str pins s σ H _ us Q I r ⟨_, rfl, hz, q⟩
def rLenL (K : PySem.W.Frag) : List V → Hp → VK → Prop := fun xs H Q => ∃ (p : Addr) (ys : List V), xs = [.ref p] ∧ (SqL K H p ys ∨ SqT K H p ys) ∧ Q (.int ys.length) H
theorem c_lenL : CallR X (.builtin "len") (rLenL X.K) := call_len_seq
def rIxT : R2 := fun x y H Q => ∃ (t : List Nat) (i : Int) (c : Nat), x = S t ∧ y = .int i ∧ t.length ≤ sizeLine ∧ atI t i = some c ∧ Q (S [c]) H
theorem i_str : IxR X rIxT := fun value slice pins s σ H x y v u Q I rx ry h hs => by
  obtain ⟨t, i, c, rfl, rfl, hz, ha, q⟩ := h
  exact ix_str value slice pins s σ H _ _ v u Q I rx ry ⟨_, i, c, rfl, rfl, hz, ha, q⟩ hs
theorem atI_getD {α : Type} {t : List α} {i : Int} {d : α} (h : 0 ≤ i ∧ i < t.length) : atI t i = some (t.getD i.toNat d) := by
  obtain ⟨n, rfl⟩ := Int.eq_ofNat_of_zero_le h.1
  have hl : n < t.length := by omega
  refine atI_nat ?_
  rw [Int.toNat_natCast, List.getElem?_eq_getElem hl]
  simp [List.getD, List.getElem?_eq_getElem hl]
theorem atI_mapD {α β : Type} {t : List α} {i : Int} {d : α} {f : α → β} (h : 0 ≤ i ∧ i < t.length) : atI (t.map f) i = some (f (t.getD i.toNat d)) := by
  obtain ⟨n, rfl⟩ := Int.eq_ofNat_of_zero_le h.1
  have hl : n < t.length := by omega
  refine atI_nat ?_
  rw [Int.toNat_natCast, List.getElem?_map, List.getElem?_eq_getElem hl]
  simp [List.getD, List.getElem?_eq_getElem hl]
theorem atI_lastD {t : List Nat} {d : Nat} (h : t ≠ []) : atI t (-1) = some (t.getLastD d) := by
  obtain ⟨r, x, rfl⟩ : ∃ r x, t = r ++ [x] := ⟨t.dropLast, t.getLast h, (List.dropLast_concat_getLast h).symm⟩
  rw [atI_last]
  simp
/-! ### isalpha, isdigit -/
def rAlpha : V → List V → Hp → VK → Prop := fun x xs H Q => ∃ t : List Nat, x = S t ∧ xs = [] ∧ Q (.bl (Txt.isalpha ⟨⟨t⟩⟩)) H
def rDigit : V → List V → Hp → VK → Prop := fun x xs H Q => ∃ t : List Nat, x = S t ∧ xs = [] ∧ Q (.bl (Txt.isdigit ⟨⟨t⟩⟩)) H
theorem m_alpha : MtR X "str.isalpha" rAlpha := fun pins s σ H x xs v us Q I rx rs h => by
  obtain ⟨t, rfl, rfl, q⟩ := h
  exact mt_isalpha pins s σ H _ _ v us Q I rx rs ⟨_, rfl, rfl, trivial, q⟩
theorem m_digit : MtR X "str.isdigit" rDigit := fun pins s σ H x xs v us Q I rx rs h => by
  obtain ⟨t, rfl, rfl, q⟩ := h
  exact mt_isdigit pins s σ H _ _ v us Q I rx rs ⟨_, rfl, rfl, trivial, q⟩
/-! ### join -/
def rJoin (K : PySem.W.Frag) : V → List V → Hp → VK → Prop := fun x xs H Q => ∃ (sep : List Nat) (p : Addr) (ts : List (List Nat)), x = S sep ∧ xs = [.ref p] ∧ (SqL K H p (ts.map S) ∨ SqT K H p (ts.map S)) ∧
  (ts.map List.length).sum + ts.length * sep.length ≤ 16777216 ∧ Q (S (TL.joinL sep ts)) H
theorem map_tl (ts : List (List Nat)) : (ts.map fun t => (⟨⟨t⟩⟩ : Str)).map TL.tl = ts := by
  rw [List.map_map]
  conv => rhs; rw [← List.map_id ts]
  rfl
theorem m_join : MtR X "str.join" (rJoin X.K) := fun pins s σ H x xs v us Q I rx rs h => by
  obtain ⟨sep, p, ts, rfl, rfl, hs, hz, q⟩ := h
  have e1 : ts.map S = (ts.map fun t => (⟨⟨t⟩⟩ : Str)).map V.str := by rw [List.map_map]; rfl
  have e2 : (ts.map fun t => (⟨⟨t⟩⟩ : Str)).map (·.length) = ts.map List.length := by rw [List.map_map]; rfl
  rw [e1] at hs
  refine mt_join pins s σ H _ _ v us Q I rx rs ⟨⟨⟨sep⟩⟩, p, ts.map fun t => (⟨⟨t⟩⟩ : Str), rfl, rfl, hs, ?_, ?_⟩
  · rw [e2, List.length_map]
    exact hz
  · have e3 : V.str (Txt.join ⟨⟨sep⟩⟩ (ts.map fun t => (⟨⟨t⟩⟩ : Str))) = S (TL.joinL sep ts) := by
      have := TL.tl_join ⟨⟨sep⟩⟩ (ts.map fun t => (⟨⟨t⟩⟩ : Str))
      rw [map_tl] at this
      rw [TL.join_eq]
      show S (TL.tl (Str.join ⟨⟨sep⟩⟩ (ts.map fun t => (⟨⟨t⟩⟩ : Str)))) = S (TL.joinL sep ts)
      rw [this]
    rw [e3]
    exact q
end
/-! ### data: opened -/
section
variable {K : PySem.W.Frag} {P : Hp} {v : V}
theorem dp_str {t : List Nat} (h : Dp K P v (eS t)) : v = S t := by cases h; rfl
theorem dp_int {i : Int} (h : Dp K P v (.int i)) : v = .int i := by cases h; rfl
theorem dp_bl {i : Bool} (h : Dp K P v (.bool i)) : v = .bl i := by cases h; rfl
theorem dp_non (h : Dp K P v .none) : v = .non := by cases h; rfl
theorem pd_str (t : List Nat) : Dp K P (S t) (eS t) := .str _
theorem pd_int (i : Int) : Dp K P (.int i) (.int i) := .int _
theorem pd_bl (i : Bool) : Dp K P (.bl i) (.bool i) := .bl _
theorem pd_non : Dp K P .non .none := .non
theorem dp_list {ds : List PyData} (h : Dp K P v (.list ds)) : ∃ a vs, v = .ref a ∧ SqL K P a vs ∧ DpAll K P vs ds := by
  cases h with
  | lst hs ha => exact ⟨_, _, rfl, hs, ha⟩
theorem dp_tup {ds : List PyData} (h : Dp K P v (.tuple ds)) : ∃ a vs, v = .ref a ∧ SqT K P a vs ∧ DpAll K P vs ds := by
  cases h with
  | tup hs ha => exact ⟨_, _, rfl, hs, ha⟩
theorem dpa_nil {vs : List V} (h : DpAll K P vs []) : vs = [] := by cases h; rfl
theorem dpa_cons {vs : List V} {d : PyData} {ds : List PyData} (h : DpAll K P vs (d :: ds)) : ∃ u us, vs = u :: us ∧ Dp K P u d ∧ DpAll K P us ds := by
  cases h with
  | cons h1 h2 => exact ⟨_, _, rfl, h1, h2⟩
theorem dp_tup2 {d1 d2 : PyData} (h : Dp K P v (.tuple [d1, d2])) : ∃ a v1 v2, v = .ref a ∧ SqT K P a [v1, v2] ∧ Dp K P v1 d1 ∧ Dp K P v2 d2 := by
  obtain ⟨a, vs, rfl, hs, ha⟩ := dp_tup h
  obtain ⟨v1, vs, rfl, h1, ha⟩ := dpa_cons ha
  obtain ⟨v2, vs, rfl, h2, ha⟩ := dpa_cons ha
  obtain rfl := dpa_nil ha
  exact ⟨a, v1, v2, rfl, hs, h1, h2⟩
theorem dp_tup3 {d1 d2 d3 : PyData} (h : Dp K P v (.tuple [d1, d2, d3])) : ∃ a v1 v2 v3, v = .ref a ∧ SqT K P a [v1, v2, v3] ∧ Dp K P v1 d1 ∧ Dp K P v2 d2 ∧ Dp K P v3 d3 := by
  obtain ⟨a, vs, rfl, hs, ha⟩ := dp_tup h
  obtain ⟨v1, vs, rfl, h1, ha⟩ := dpa_cons ha
  obtain ⟨v2, vs, rfl, h2, ha⟩ := dpa_cons ha
  obtain ⟨v3, vs, rfl, h3, ha⟩ := dpa_cons ha
  obtain rfl := dpa_nil ha
  exact ⟨a, v1, v2, v3, rfl, hs, h1, h2, h3⟩
theorem dp_tup4 {d1 d2 d3 d4 : PyData} (h : Dp K P v (.tuple [d1, d2, d3, d4])) : ∃ a v1 v2 v3 v4, v = .ref a ∧ SqT K P a [v1, v2, v3, v4] ∧ Dp K P v1 d1 ∧ Dp K P v2 d2 ∧ Dp K P v3 d3 ∧ Dp K P v4 d4 := by
  obtain ⟨a, vs, rfl, hs, ha⟩ := dp_tup h
  obtain ⟨v1, vs, rfl, h1, ha⟩ := dpa_cons ha
  obtain ⟨v2, vs, rfl, h2, ha⟩ := dpa_cons ha
  obtain ⟨v3, vs, rfl, h3, ha⟩ := dpa_cons ha
  obtain ⟨v4, vs, rfl, h4, ha⟩ := dpa_cons ha
  obtain rfl := dpa_nil ha
  exact ⟨a, v1, v2, v3, v4, rfl, hs, h1, h2, h3, h4⟩
/-- a list of scalars is known by its values -/
theorem dpa_map {α : Type} {f : α → V} {e : α → PyData} (hf : ∀ (v : V) (x : α), Dp K P v (e x) → v = f x) : ∀ {xs : List α} {vs : List V}, DpAll K P vs (xs.map e) → vs = xs.map f
  | [], _, h => dpa_nil h
  | x :: r, _, h => by
    obtain ⟨u, us, rfl, h1, h2⟩ := dpa_cons h
    rw [hf u x h1, dpa_map hf h2]
    rfl
theorem dpa_strs {ts : List (List Nat)} {vs : List V} (h : DpAll K P vs (ts.map eS)) : vs = ts.map S := dpa_map (fun _ _ h => dp_str h) h
theorem pda_map {α : Type} {f : α → V} {e : α → PyData} (hf : ∀ x : α, Dp K P (f x) (e x)) : ∀ xs : List α, DpAll K P (xs.map f) (xs.map e)
  | [] => .nil
  | x :: r => .cons (hf x) (pda_map hf r)
theorem pda_strs (ts : List (List Nat)) : DpAll K P (ts.map S) (ts.map eS) := pda_map (fun t => pd_str t) ts
theorem dpa_len : ∀ {ds : List PyData} {vs : List V}, DpAll K P vs ds → vs.length = ds.length
  | [], _, h => by rw [dpa_nil h]; rfl
  | d :: ds, _, h => by
    obtain ⟨u, us, rfl, h1, h2⟩ := dpa_cons h
    rw [List.length_cons, List.length_cons, dpa_len h2]
theorem dpa_app : ∀ {ds es : List PyData} {vs us : List V}, DpAll K P vs ds → DpAll K P us es → DpAll K P (vs ++ us) (ds ++ es)
  | [], _, _, _, h, h' => by
    rw [dpa_nil h]
    exact h'
  | d :: ds, _, _, _, h, h' => by
    obtain ⟨u, us, rfl, h1, h2⟩ := dpa_cons h
    exact .cons h1 (dpa_app h2 h')
theorem dpa_one {d : PyData} (h : Dp K P v d) : DpAll K P [v] [d] := .cons h .nil
theorem dpa_get {α : Type} {e : α → PyData} : ∀ {xs : List α} {vs : List V} {i : Nat} {v : V}, DpAll K P vs (xs.map e) → vs[i]? = some v → ∃ x, xs[i]? = some x ∧ Dp K P v (e x) ∧ xs.drop i = x :: xs.drop (i + 1)
  | [], _, i, v, h, hi => by
    rw [dpa_nil h] at hi
    simp at hi
  | x :: r, _, 0, v, h, hi => by
    obtain ⟨u, us, rfl, h1, h2⟩ := dpa_cons h
    cases hi
    exact ⟨x, rfl, h1, rfl⟩
  | x :: r, _, i + 1, v, h, hi => by
    obtain ⟨u, us, rfl, h1, h2⟩ := dpa_cons h
    exact dpa_get (xs := r) (vs := us) (i := i) (v := v) h2 hi
theorem dpa_at {α : Type} {e : α → PyData} {xs : List α} {vs : List V} {i : Int} {d : α} (h : DpAll K P vs (xs.map e)) (hi : 0 ≤ i ∧ i < xs.length) : ∃ v, atI vs i = some v ∧ Dp K P v (e (xs.getD i.toNat d)) := by
  obtain ⟨n, rfl⟩ := Int.eq_ofNat_of_zero_le hi.1
  have hl : n < xs.length := by omega
  have hl2 : n < vs.length := by rw [dpa_len h, List.length_map]; exact hl
  obtain ⟨x, hx, hd, _⟩ := dpa_get (i := n) h (List.getElem?_eq_getElem hl2)
  refine ⟨_, atI_nat (List.getElem?_eq_getElem hl2), ?_⟩
  rw [Int.toNat_natCast]
  have : xs.getD n d = x := by
    rw [List.getD, hx]
    rfl
  rw [this]
  exact hd
end
theorem get_map {α : Type} {f : α → V} : ∀ {xs : List α} {i : Nat} {v : V}, (xs.map f)[i]? = some v → ∃ x, xs[i]? = some x ∧ v = f x ∧ xs.drop i = x :: xs.drop (i + 1)
  | [], _, _, h => by simp at h
  | x :: r, 0, v, h => ⟨x, rfl, (Option.some.inj h).symm, rfl⟩
  | x :: r, i + 1, v, h => get_map (xs := r) (i := i) (v := v) h
theorem get_drop {α : Type} : ∀ {xs : List α} {i : Nat} {v : α}, xs[i]? = some v → xs.drop i = v :: xs.drop (i + 1)
  | [], _, _, h => by simp at h
  | x :: r, 0, v, h => by
    have e : x = v := Option.some.inj h
    subst e
    rfl
  | x :: r, i + 1, v, h => get_drop (xs := r) (i := i) (v := v) h
theorem sz {n : Nat} (h : n ≤ 1000000) : n ≤ sizeLine := Nat.le_trans h (by decide)
theorem szl {n : Nat} (h : n < 1000000) : n < sizeLine := Nat.lt_of_lt_of_le h (by decide)
end G
namespace G
open PySem PySem.Spec PyProof.Rows L2
section
variable {X : Cx}
abbrev rIxT1 : R2 := rIxT
def rLenM (K : PySem.W.Frag) : List V → Hp → VK → Prop := fun xs H Q => ∃ (p : Addr) (ys : List V) (n : Nat), xs = [.ref p] ∧ SqL K H p ys ∧ ys.length = n ∧ Q (.int n) H
theorem c_lenM : CallR X (.builtin "len") (rLenM X.K) := fun pins s σ H xs us Q I r h => by
  obtain ⟨p, ys, n, rfl, hs, rfl, q⟩ := h
  exact call_len_seq pins s σ H _ us Q I r ⟨p, ys, rfl, .inl hs, q⟩
def rInt : List V → Hp → VK → Prop := fun xs H Q => (∃ i, xs = [.int i] ∧ Q (.int i) H) ∨ ∃ k, xs = [.bl k] ∧ Q (.int (if k then 1 else 0)) H
theorem c_int : CallR X (.type "int") rInt := call_int1
end
/-- a def of the module, by its promise -/
structure Cal (P : Program) (w : World) (K : PySem.W.Frag) (mg : Str → Option Value) (base : Heap) (k : Nat) (x : Str) (sp : Sp) : Prop where
  ex : ∃ (f : Addr) (fd : FuncData) (ps : List Str), FnOk P w K mg base CX0 k f fd ps sp ∧ mg x = some (.ref f) ∧ PySem.W.keepIn K (.ref f) = true ∧ Binds K fd ps []
section
variable {X : Cx}
theorem pe_c {k j : Nat} {x : Str} {sp : Sp} {p pos : Pos} {e : Expr} {es : List Expr} {t : TA} (c : Cal X.prog X.w X.K X.mg X.base k x sp) (hr : Room j X.A) (hk : k ≤ j) (hg : Gl X x) (ha : PA X (e :: es) t)
    (hdb : (x == ("__debug__" : Str)) = false := by decide) (he : starEach (e :: es) X.env = (false, eval e X.env) :: starEach es X.env := by rfl) (hpl : (backTo pos (starEach es X.env)).any (·.1) = false := by rfl) :
    PE X (.Call (.Name x p) (e :: es) [] pos) (tCall sp [] E0 t) := by
  obtain ⟨f, fd, ps, F, hm, kp, b⟩ := c.ex
  exact pe_call F (hr.mono hk) hg hm kp b .nil pass0 ha hdb he hpl
theorem pe_c0 {k j : Nat} {x : Str} {sp : Sp} {p pos : Pos} (c : Cal X.prog X.w X.K X.mg X.base k x sp) (hr : Room j X.A) (hk : k ≤ j) (hg : Gl X x) (hdb : (x == ("__debug__" : Str)) = false := by decide) : PE X (.Call (.Name x p) [] [] pos) (tCall sp [] E0 tNil) := by
  obtain ⟨f, fd, ps, F, hm, kp, b⟩ := c.ex
  exact pe_call0 F (hr.mono hk) hg hm kp b .nil pass0 hdb
def rMulS : R2 := fun x y H Q => ∃ (a : List Nat) (n : Int), x = S a ∧ y = .int n ∧ (0 ≤ n ∧ n ≤ 1000) ∧ a.length * n.toNat ≤ sizeLine ∧ Q (S (List.replicate n.toNat a).flatten) H
end
theorem q_cutM {D : Ends} {σ : L2.St} {H : Hp} {tu tz : TS} (M : L2.St → Hp → Prop) (h : tu { D with nx := M } σ H) (k : ∀ σ' H', M σ' H' → tz D σ' H') : Evl.tCut tu tz D σ H := ⟨M, h, k⟩
/-! ### turns -/
theorem range_drop {n i : Nat} (h : i < n) : (List.range n).drop i = i :: (List.range n).drop (i + 1) := get_drop (by
  rw [List.getElem?_eq_getElem (by rw [List.length_range]; exact h)]
  simp)
theorem drop_range_all {n : Nat} : (List.range n).drop n = [] := List.drop_of_length_le (by rw [List.length_range]; exact Nat.le_refl _)
theorem take_range_all {n : Nat} : (List.range n).take n = List.range n := List.take_of_length_le (by rw [List.length_range]; exact Nat.le_refl _)
theorem str_drop {t : List Nat} {i c : Nat} (h : ((⟨⟨t⟩⟩ : Str).cps)[i]? = some c) : t.drop i = c :: t.drop (i + 1) := get_drop (by simpa using h)
theorem str_mem {t : List Nat} {i c : Nat} (h : ((⟨⟨t⟩⟩ : Str).cps)[i]? = some c) : c ∈ t := List.mem_of_getElem? (l := t) (i := i) (by simpa using h)
theorem drop_str_all {t : List Nat} : t.drop (⟨⟨t⟩⟩ : Str).cps.size = [] := List.drop_of_length_le (Nat.le_refl _)
theorem take_str_all {t : List Nat} : t.take (⟨⟨t⟩⟩ : Str).cps.size = t := List.take_of_length_le (Nat.le_refl _)
theorem str_bnd {t : List Nat} {n : Nat} (h : t.length ≤ n) : (⟨⟨t⟩⟩ : Str).cps.size ≤ n := h
section
variable {K : PySem.W.Frag} {P : Hp} {vs : List V} {α : Type} {e : α → PyData} {xs : List α}
theorem drop_dpa_all (h : DpAll K P vs (xs.map e)) : xs.drop vs.length = [] := List.drop_of_length_le (by rw [dpa_len h, List.length_map]; exact Nat.le_refl _)
theorem take_dpa_all (h : DpAll K P vs (xs.map e)) : xs.take vs.length = xs := List.take_of_length_le (by rw [dpa_len h, List.length_map]; exact Nat.le_refl _)
theorem dpa_bnd {n : Nat} (h : DpAll K P vs (xs.map e)) (hn : xs.length ≤ n) : vs.length ≤ n := by
  rw [dpa_len h, List.length_map]
  exact hn
theorem dpa_snoc {v : V} {x : α} (h : DpAll K P vs (xs.map e)) (hx : Dp K P v (e x)) : DpAll K P (vs ++ [v]) ((xs ++ [x]).map e) := by
  rw [List.map_append]
  exact dpa_app h (dpa_one hx)
end
section
variable {α β : Type} {xs : List α} {i : Nat} {x : α} {f : α → β} {p : α → Bool}
theorem take_snoc (h : xs.drop i = x :: xs.drop (i + 1)) : xs.take (i + 1) = xs.take i ++ [x] := by
  have hl : i < xs.length := by
    have := congrArg List.length h
    simp only [List.length_drop, List.length_cons] at this
    omega
  have hx : xs[i]? = some x := by
    have := congrArg List.head? h
    rw [List.head?_drop] at this
    exact this
  rw [List.take_add_one, hx]
  rfl
theorem take_snoc_map (h : xs.drop i = x :: xs.drop (i + 1)) : (xs.take (i + 1)).map f = (xs.take i).map f ++ [f x] := by
  rw [take_snoc h, List.map_append]
  rfl
theorem take_snoc_filter (h : xs.drop i = x :: xs.drop (i + 1)) (hp : p x = true) : ((xs.take (i + 1)).filter p).map f = ((xs.take i).filter p).map f ++ [f x] := by
  rw [take_snoc h, List.filter_append, List.map_append, List.filter_cons, if_pos hp]
  rfl
theorem take_snoc_filter_no (h : xs.drop i = x :: xs.drop (i + 1)) (hp : p x = false) : ((xs.take (i + 1)).filter p).map f = ((xs.take i).filter p).map f := by
  rw [take_snoc h, List.filter_append, List.map_append, List.filter_cons, if_neg (by rw [hp]; exact Bool.false_ne_true)]
  simp
theorem len_tm : ((xs.take i).map f).length ≤ i := by
  rw [List.length_map, List.length_take]
  exact Nat.min_le_left _ _
theorem len_tf : (((xs.take i).filter p).map f).length ≤ i := by
  rw [List.length_map]
  refine Nat.le_trans (List.length_filter_le _ _) ?_
  rw [List.length_take]
  exact Nat.min_le_left _ _
end
theorem sum_le {ts : List (List Nat)} {c : Nat} (h : ∀ t ∈ ts, t.length ≤ c) : (ts.map List.length).sum ≤ ts.length * c := by
  induction ts with
  | nil => simp
  | cons t r ih =>
    rw [List.map_cons, List.sum_cons, List.length_cons, Nat.succ_mul]
    have h1 := h t List.mem_cons_self
    have h2 := ih fun u hu => h u (List.mem_cons_of_mem _ hu)
    omega
theorem join_ok {ts : List (List Nat)} {sep : List Nat} (n c : Nat) (h : ∀ t ∈ ts, t.length ≤ c) (hn : ts.length ≤ n) (hb : n * (c + sep.length) ≤ 16777216) : (ts.map List.length).sum + ts.length * sep.length ≤ 16777216 := by
  have h1 := sum_le h
  have h2 : ts.length * c + ts.length * sep.length ≤ n * (c + sep.length) := by
    rw [← Nat.mul_add]
    exact Nat.mul_le_mul_right _ hn
  omega
theorem one_map {xs : List Nat} : ∀ t ∈ xs.map (fun c => ([c] : List Nat)), t.length ≤ 1 := fun t ht => by
  obtain ⟨c, _, rfl⟩ := List.mem_map.mp ht
  exact Nat.le_refl _
theorem joinL_nil : ∀ ts : List (List Nat), TL.joinL [] ts = ts.flatten
  | [] => rfl
  | [t] => by simp [TL.joinL]
  | t :: u :: r => by
    have ih := joinL_nil (u :: r)
    show t ++ ([] ++ TL.joinL [] (u :: r)) = (t :: u :: r).flatten
    rw [ih]
    rfl
/-! ### the draws -/
structure Box where
  i : Nat
  acc : Int
  seed : Int
def boxO (l : Addr) (b : Box) : HO := .lst [.ref l, .int b.i, .int b.acc, .int b.seed]
def take1 (ns : List Int) (b : Box) : Box :=
  if (decide (b.acc < 2) && decide ((b.i : Int) < ns.length)) = true then
    { i := b.i + 1, seed := (b.seed * 48271 + ns.getD b.i 0 % 2147483629 * 69621 + 11) % 2147483647, acc := if decide (10 ^ 18 ≤ ns.getD b.i 0) = true then ns.getD b.i 0 - 10 ^ 18 else b.acc }
  else b
def m_take (ns : List Int) (b : Box) (n : Int) : Int × Box :=
  if decide (1 < (take1 ns b).acc) = true then ((take1 ns b).acc % n, { take1 ns b with acc := (take1 ns b).acc / n })
  else (((take1 ns b).seed * 48271 + 12345) % 2147483647 / 2048 % n, { take1 ns b with seed := ((take1 ns b).seed * 48271 + 12345) % 2147483647 })
theorem take_rng (ns : List Int) (b : Box) {n : Int} (h : 0 < n) : 0 ≤ (m_take ns b n).1 ∧ (m_take ns b n).1 < n := by
  unfold m_take
  split
  · exact ⟨Int.emod_nonneg _ (by omega), Int.emod_lt_of_pos _ h⟩
  · exact ⟨Int.emod_nonneg _ (by omega), Int.emod_lt_of_pos _ h⟩
end G
namespace G
open PySem PySem.Spec PyProof.Rows L2
/-! ### _law_take: its reading -/
abbrev ixB (K : PySem.W.Frag) (i : Int) : TE := tOp (rIxL K) (tVar 0) (tC (V.int i))
def tTakeR (K : PySem.W.Frag) : TS :=
  tSeq (tIfS (tAnd (tTest (tOp rLt (ixB K 2) (tC (V.int 2)))) (tTest (tOp rLt (ixB K 1) (tCB (rLenL K) (tCons (ixB K 0) tNil)))))
    (tSeq (tAsg (tOp (rIxL K) (ixB K 0) (ixB K 1)) (gName 2))
    (tSeq (tAsg (tOp rAdd (ixB K 1) (tC (V.int 1))) (gSub (tVar 0) (tC (V.int 1)) rSetL))
    (tSeq (tAsg (tOp rMod (tCB rInt (tCons (tOp rAdd (tOp rAdd (tOp rMul (ixB K 3) (tC (V.int 48271))) (tOp rMul (tOp rMod (tCB rInt (tCons (tVar 2) tNil)) (tC (V.int 2147483629))) (tC (V.int 69621)))) (tC (V.int 11))) tNil)) (tC (V.int 2147483647))) (gSub (tVar 0) (tC (V.int 3)) rSetL))
    (tIfS (tTest (tOp rGe (tVar 2) (tOp rPow (tC (V.int 10)) (tC (V.int 18))))) (tAsg (tOp rSub (tVar 2) (tOp rPow (tC (V.int 10)) (tC (V.int 18)))) (gSub (tVar 0) (tC (V.int 2)) rSetL)) tNext)))) tNext)
  (tSeq (tIfS (tTest (tOp rGt (ixB K 2) (tC (V.int 1))))
    (tSeq (tAsg (tOp rMod (tCB rInt (tCons (ixB K 2) tNil)) (tVar 1)) (gName 3))
    (tSeq (tAsg (tOp rDiv (ixB K 2) (tVar 1)) (gSub (tVar 0) (tC (V.int 2)) rSetL)) (tRet (tVar 3)))) tNext)
  (tSeq (tAsg (tOp rMod (tCB rInt (tCons (tOp rAdd (tOp rMul (ixB K 3) (tC (V.int 48271))) (tC (V.int 12345))) tNil)) (tC (V.int 2147483647))) (gSub (tVar 0) (tC (V.int 3)) rSetL))
  (tRet (tOp rMod (tCB rInt (tCons (tOp rDiv (ixB K 3) (tC (V.int 2048))) tNil)) (tVar 1)))))
def takeE (b : Box) (n : Int) : Int × Box := if decide (1 < b.acc) = true then (b.acc % n, { b with acc := b.acc / n }) else ((b.seed * 48271 + 12345) % 2147483647 / 2048 % n, { b with seed := (b.seed * 48271 + 12345) % 2147483647 })
section
variable {K : PySem.W.Frag}
/-- the rest of _law_take, once the first if is behind -/
theorem take_rest {P H : Hp} {cs0 : Cs} {a l : Addr} {b : Box} {n : Int} {Q : VK} {x : Option V} (w : Wd P H ((a, boxO l b) :: cs0)) (n0 : 0 < n) (n1 : n < 1000000)
    (q : ∀ H1, Wd P H1 ((a, boxO l (takeE b n).2) :: cs0) →
      Q (.int (takeE b n).1) H1) :
    (tSeq (tIfS (tTest (tOp rGt (ixB K 2) (tC (V.int 1))))
    (tSeq (tAsg (tOp rMod (tCB rInt (tCons (ixB K 2) tNil)) (tVar 1)) (gName 3))
    (tSeq (tAsg (tOp rDiv (ixB K 2) (tVar 1)) (gSub (tVar 0) (tC (V.int 2)) rSetL)) (tRet (tVar 3)))) tNext)
  (tSeq (tAsg (tOp rMod (tCB rInt (tCons (tOp rAdd (tOp rMul (ixB K 3) (tC (V.int 48271))) (tC (V.int 12345))) tNil)) (tC (V.int 2147483647))) (gSub (tVar 0) (tC (V.int 3)) rSetL))
  (tRet (tOp rMod (tCB rInt (tCons (tOp rDiv (ixB K 3) (tC (V.int 2048))) tNil)) (tVar 1))))) { nx := fun _ H1 => Q .non H1, rt := Q } [some (.ref a), some (.int n), x, none] H := by
  refine ⟨_, rfl, a, _, 2, _, rfl, rfl, .inl (.inl w.hd), rfl, _, _, rfl, rfl, _, rfl, ?_⟩
  refine iteB (fun hb => ?_) (fun hb => ?_)
  · have eE : takeE b n = (b.acc % n, { b with acc := b.acc / n }) := by unfold takeE; rw [if_pos hb]
    rw [eE] at q
    refine ⟨_, rfl, a, _, 2, _, rfl, rfl, .inl (.inl w.hd), rfl, ?_⟩
    refine Or.inl ⟨_, rfl, _, rfl, _, _, rfl, rfl, n0, ?_⟩
    refine ⟨_, rfl, a, _, 2, _, rfl, rfl, .inl (.inl w.hd), rfl, _, rfl, _, _, rfl, rfl, ⟨n0, by omega⟩, _, rfl, a, _, 2, 2, rfl, rfl, w.hd, rfl, _, rfl, ?_⟩
    exact q _ (w.put 0 _ rfl)
  · have eE : takeE b n = ((b.seed * 48271 + 12345) % 2147483647 / 2048 % n, { b with seed := (b.seed * 48271 + 12345) % 2147483647 }) := by unfold takeE; rw [if_neg (by rw [show decide (1 < b.acc) = false from hb]; exact Bool.false_ne_true)]
    rw [eE] at q
    refine ⟨_, rfl, a, _, 3, _, rfl, rfl, .inl (.inl w.hd), rfl, _, _, rfl, rfl, .inr ⟨by decide, by decide⟩, _, _, rfl, rfl, ?_⟩
    refine Or.inl ⟨_, rfl, _, _, rfl, rfl, (by decide : (0 : Int) < 2147483647), _, rfl, a, _, 3, 3, rfl, rfl, w.hd, rfl, ?_⟩
    have w2 := w.put 0 (boxO l { b with seed := (b.seed * 48271 + 12345) % 2147483647 }) rfl
    refine ⟨_, rfl, a, _, 3, _, rfl, rfl, .inl (.inl w2.hd), rfl, _, _, rfl, rfl, ⟨by decide, by decide⟩, ?_⟩
    refine Or.inl ⟨_, rfl, _, rfl, _, _, rfl, rfl, n0, ?_⟩
    exact q _ w2
theorem rd_takeR {P H : Hp} {cs0 : Cs} {a l : Addr} {ns : List Int} {b : Box} {n : Int} {Q : VK} (w : Wd P H ((a, boxO l b) :: cs0)) (hl : SqL K P l (ns.map V.int)) (n0 : 0 < n) (n1 : n < 1000000)
    (q : ∀ H1, Wd P H1 ((a, boxO l (m_take ns b n).2) :: cs0) → Q (.int (m_take ns b n).1) H1) : tTakeR K { nx := fun _ H1 => Q .non H1, rt := Q } [some (.ref a), some (.int n), none, none] H := by
  have em : m_take ns b n = takeE (take1 ns b) n := rfl
  rw [em] at q
  have hB : ∀ Q' : Bool → Hp → Prop, Q' (decide (b.acc < 2) && decide ((b.i : Int) < ns.length)) H → (tAnd (tTest (tOp rLt (ixB K 2) (tC (V.int 2)))) (tTest (tOp rLt (ixB K 1) (tCB (rLenL K) (tCons (ixB K 0) tNil))))) [some (.ref a), some (.int n), none, none] H Q' := by
    intro Q' hQ
    refine ⟨_, rfl, a, _, 2, _, rfl, rfl, .inl (.inl w.hd), rfl, _, _, rfl, rfl, _, rfl, ?_⟩
    refine iteB (fun h1 => ?_) (fun h1 => ?_)
    · rw [h1, Bool.true_and] at hQ
      refine ⟨_, rfl, a, _, 1, _, rfl, rfl, .inl (.inl w.hd), rfl, _, rfl, a, _, 0, _, rfl, rfl, .inl (.inl w.hd), rfl, l, _, rfl, .inl (w.sql hl), _, _, rfl, rfl, _, rfl, ?_⟩
      rw [List.length_map]
      exact hQ
    · rw [h1, Bool.false_and] at hQ
      exact hQ
  refine hB _ ?_
  refine iteB (fun h1 => ?_) (fun h1 => ?_)
  · have e1 : take1 ns b = { i := b.i + 1, seed := (b.seed * 48271 + ns.getD b.i 0 % 2147483629 * 69621 + 11) % 2147483647, acc := if decide (10 ^ 18 ≤ ns.getD b.i 0) = true then ns.getD b.i 0 - 10 ^ 18 else b.acc } := by
      unfold take1
      rw [if_pos h1]
    rw [e1] at q
    rw [Bool.and_eq_true, decide_eq_true_eq, decide_eq_true_eq] at h1
    have hat : atI (ns.map V.int) (b.i : Int) = some (V.int (ns.getD b.i 0)) := by
      have := atI_mapD (t := ns) (i := (b.i : Int)) (d := 0) (f := V.int) ⟨by omega, h1.2⟩
      rw [Int.toNat_natCast] at this
      exact this
    refine ⟨_, rfl, a, _, 0, _, rfl, rfl, .inl (.inl w.hd), rfl, _, rfl, a, _, 1, _, rfl, rfl, .inl (.inl w.hd), rfl, l, _, _, _, rfl, rfl, w.sql hl, hat, ?_⟩
    refine ⟨_, rfl, a, _, 1, _, rfl, rfl, .inl (.inl w.hd), rfl, _, _, rfl, rfl, _, rfl, a, _, 1, 1, rfl, rfl, w.hd, rfl, ?_⟩
    have w2 := w.put 0 (boxO l { b with i := b.i + 1 }) rfl
    have w2' : Wd P (upd H a (HO.lst [.ref l, .int ((b.i : Int) + 1), .int b.acc, .int b.seed])) ((a, boxO l { b with i := b.i + 1 }) :: cs0) := w2
    refine ⟨_, rfl, a, _, 3, _, rfl, rfl, .inl (.inl w2'.hd), rfl, _, _, rfl, rfl, .inr ⟨by decide, by decide⟩, _, rfl, ?_⟩
    refine Or.inl ⟨_, rfl, _, _, rfl, rfl, (by decide : (0 : Int) < 2147483629), _, _, rfl, rfl, .inr ⟨by decide, by decide⟩, _, _, rfl, rfl, _, _, rfl, rfl, ?_⟩
    refine Or.inl ⟨_, rfl, _, _, rfl, rfl, (by decide : (0 : Int) < 2147483647), _, rfl, a, _, 3, 3, rfl, rfl, w2'.hd, rfl, ?_⟩
    have w3 := w2'.put 0 (boxO l { i := b.i + 1, acc := b.acc, seed := (b.seed * 48271 + ns.getD b.i 0 % 2147483629 * 69621 + 11) % 2147483647 }) rfl
    refine ⟨_, rfl, _, _, rfl, rfl, ⟨by decide, by decide, by decide⟩, _, _, rfl, rfl, _, rfl, ?_⟩
    refine iteB (fun h2 => ?_) (fun h2 => ?_)
    · have h2' : decide ((10 : Int) ^ 18 ≤ ns.getD b.i 0) = true := h2
      rw [h2', if_pos rfl] at q
      refine ⟨_, rfl, _, _, rfl, rfl, ⟨by decide, by decide, by decide⟩, _, _, rfl, rfl, _, rfl, a, _, 2, 2, rfl, rfl, w3.hd, rfl, ?_⟩
      have w4 := w3.put 0 (boxO l { i := b.i + 1, acc := ns.getD b.i 0 - 10 ^ 18, seed := (b.seed * 48271 + ns.getD b.i 0 % 2147483629 * 69621 + 11) % 2147483647 }) rfl
      exact take_rest w4 n0 n1 q
    · have h2' : decide ((10 : Int) ^ 18 ≤ ns.getD b.i 0) = false := h2
      rw [h2', if_neg Bool.false_ne_true] at q
      exact take_rest w3 n0 n1 q
  · have e1 : take1 ns b = b := by
      unfold take1
      rw [if_neg (by rw [h1]; exact Bool.false_ne_true)]
    rw [e1] at q
    exact take_rest w n0 n1 q
end
/-! ### _law_box: its reading -/
def absL (ns : List Int) : List Int := (cutT0 ns).map fun i => if i < 0 then -i else i
where cutT0 (ns : List Int) : List Int := ns.take 63
def box0 : Box := ⟨0, 1, 7⟩
def tBoxR (K : PySem.W.Frag) : TS :=
  tRet (tLst (tCons (tLc (iList K (tSl (rSlL K) (tVar 0) tNoPart (tPart (tC (V.int 63))))) (gName 1) tYes (tCB (fun xs H Q => ∃ i, xs = [.int i] ∧ Q (.int (if i < 0 then -i else i)) H) (tCons (tVar 1) tNil)) [1]) (tCons (tC (V.int 0)) (tCons (tC (V.int 1)) (tCons (tC (V.int 7)) tNil)))))
theorem cut63 (ns : List Int) (h : ns.length ≤ 63) : cutV (ns.map V.int) none (some 63) = ns.map V.int := by
  unfold cutV
  rw [HT.sIx_none, List.drop_zero]
  refine List.take_of_length_le ?_
  rw [Nat.sub_zero, List.length_map]
  rw [show HT.sIx ns.length ns.length (some 63) = min 63 ns.length from HT.sIx_nat ns.length ns.length 63]
  omega
theorem rd_boxR {K : PySem.W.Frag} {P H : Hp} {cs0 : Cs} {a : Addr} {ns : List Int} {Q : VK} (w : Wd P H cs0) (hl : SqL K P a (ns.map V.int)) (hlen : ns.length ≤ 63)
    (q : ∀ (H1 P1 : Hp) (p l : Addr), Ext P P1 → Wd P1 H1 ((p, boxO l box0) :: cs0) → SqL K P1 l ((absL ns).map V.int) → Q (.ref p) H1) : tBoxR K { nx := fun _ H1 => Q .non H1, rt := Q } [some (.ref a), none] H := by
  refine ⟨_, rfl, 63, rfl, a, _, rfl, w.sql hl, fun c nc => ?_⟩
  rw [cut63 ns hlen]
  have w1 := w.frz nc (HO.lst (ns.map V.int))
  have e1 := w.fext nc (HO.lst (ns.map V.int))
  have hc : (upd P c (HO.lst (ns.map V.int))) c = some (HO.lst (ns.map V.int)) := upd_same
  generalize upd H c (HO.lst (ns.map V.int)) = H2 at w1 ⊢
  generalize upd P c (HO.lst (ns.map V.int)) = P2 at w1 e1 hc
  refine ⟨c, rfl, ⟨_, w1.lst hc⟩, fun D nD => ?_⟩
  refine lc_it (walk_list (K := K) (a := c) (xs := ns.map V.int)) (fun i H1 => Wd P2 H1 ((D, HO.lst (((ns.take i).map fun i => if i < 0 then -i else i).map V.int)) :: cs0)) (w1.new nD _) (fun i H1 _ w2 => w2.lst hc) ?_ ?_
  · rintro i x H1 H3 hi w2 y
    obtain ⟨eH, hx⟩ := y
    rw [eH]
    obtain ⟨z, hz, rfl, eD⟩ := get_map hx
    refine ⟨rfl, ?_⟩
    refine ⟨_, rfl, _, rfl, _, w2.hd, ?_, ?_⟩
    · rw [List.length_map, List.length_map, List.length_take]
      exact szl (by omega)
    · have w3 := w2.put 0 (HO.lst (((ns.take i).map fun i => if i < 0 then -i else i).map V.int ++ [V.int (if z < 0 then -z else z)])) rfl
      have e2 : ((ns.take (i + 1)).map fun i => if i < 0 then -i else i).map V.int = ((ns.take i).map fun i => if i < 0 then -i else i).map V.int ++ [V.int (if z < 0 then -z else z)] := by
        rw [take_snoc_map eD, List.map_append]
        rfl
      show Wd P2 _ ((D, HO.lst (((ns.take (i + 1)).map fun i => if i < 0 then -i else i).map V.int)) :: cs0)
      rw [e2]
      exact w3
  · rintro H3 w2
    rw [List.length_map, List.take_of_length_le (Nat.le_refl _)] at w2
    have w3 := w2.keep
    have e3 := w2.kext
    have hD : (upd P2 D (HO.lst ((ns.map fun i => if i < 0 then -i else i).map V.int))) D = some (HO.lst ((ns.map fun i => if i < 0 then -i else i).map V.int)) := upd_same
    generalize upd P2 D (HO.lst ((ns.map fun i => if i < 0 then -i else i).map V.int)) = P3 at w3 e3 hD
    refine ⟨(by show 4 ≤ sizeLine; decide), fun p np => ?_⟩
    refine q _ P3 p D (e1.trans e3) (w3.new np _) (.inl (.inl ?_))
    unfold absL absL.cutT0
    rw [List.take_of_length_le hlen]
    exact hD
theorem snoc_all {α : Type} {p : α → Prop} {l : List α} {x : α} (h : ∀ t ∈ l, p t) (hx : p x) : ∀ t ∈ l ++ [x], p t := fun t ht => by
  rcases List.mem_append.mp ht with z | z
  · exact h t z
  · rw [List.mem_singleton.mp z]; exact hx
section
variable {X : Cx}
theorem pe_gc {x : Str} {v : V} {pos : Pos} (hg : Gl X x) (h : ∃ u, X.mg x = some u ∧ RelV v u) (hd : (x == ("__debug__" : Str)) = false := by decide) : PE X (.Name x pos) (tC v) := by
  obtain ⟨u, h1, h2⟩ := h
  exact pe_glob hg h1 h2 hd
end
theorem walk_range0 {n : Nat} : Walk (Itr 0 n) n (fun _ => True) (fun i H x H' => H' = H ∧ x = V.int (i : Int)) := walk_range.mono (fun _ h => h) fun i H x H' _ _ y => ⟨y.1, by rw [y.2]; show V.int (0 + (i : Int)) = _; rw [Int.zero_add]⟩
/-! ### cuts -/
def cutT {α : Type} (t : List α) (lo hi : Option Int) : List α := (t.drop (HT.sIx t.length 0 lo)).take (HT.sIx t.length t.length hi - HT.sIx t.length 0 lo)
theorem cutT_len {α : Type} (t : List α) (lo hi : Option Int) : (cutT t lo hi).length ≤ t.length := by
  unfold cutT
  rw [List.length_take, List.length_drop]
  omega
def rSlT1 : V → Option Int → Option Int → Hp → VK → Prop := fun x lo hi H Q => ∃ t : List Nat, x = S t ∧ t.length ≤ sizeLine ∧ Q (S (cutT t lo hi)) H
theorem s_strT {X : Cx} : SlR X rSlT1 := fun pins s σ H x v vl vu lo hi sl Q I rx hs pl pu h => by
  obtain ⟨t, rfl, hz, q⟩ := h
  exact sl_str pins s σ H _ v vl vu lo hi sl Q I rx hs pl pu ⟨_, rfl, hz, q⟩
theorem joinL_len {ts : List (List Nat)} {c : Nat} (h : ∀ t ∈ ts, t.length ≤ c) : (TL.joinL (cs "") ts).length ≤ ts.length * c := by
  rw [show cs "" = [] from by decide, joinL_nil]
  induction ts with
  | nil => simp
  | cons t r ih =>
    rw [List.flatten_cons, List.length_append, List.length_cons, Nat.succ_mul]
    have h1 := h t List.mem_cons_self
    have h2 := ih fun u hu => h u (List.mem_cons_of_mem _ hu)
    omega
end G
namespace G
open PySem PySem.Spec PyProof.Rows L2
/-- what the row asks of law -/
def spL (K : PySem.W.Frag) : Sp := fun vs H Q _ => ∃ (a : Addr) (ns : List Int), vs = [.ref a] ∧ SqL K H a (ns.map V.int) ∧ ns.length ≤ 63 ∧ ∀ H1, Q (.bl true) H1
theorem sqt_strs {K : PySem.W.Frag} {a : Addr} {o : Obj} {its : Array Value} {n : Nat} {xs : List V} (h1 : K.lookup a = some o) (h2 : o.cls = .type "tuple") (h3 : o.data = .seq its n) (h4 : its.size ≤ sizeLine) (h5 : Vals xs its.toList) (H : Hp) : SqT K H a xs :=
  .inr ⟨o, its, n, h1, h2, h3, h4, h5⟩
end G
namespace G
open PySem PySem.Spec PyProof.Rows L2
/-- a def whose last parameter is keyword-only: called with it, called without it (dv its default) -/
structure CalK (P : Program) (w : World) (K : PySem.W.Frag) (mg : Str → Option Value) (base : Heap) (k : Nat) (x : Str) (sp : Sp) (n : Nat) (kw : Str) (dv : V) : Prop where
  ex : ∃ (f : Addr) (fd : FuncData) (ps : List Str), FnOk P w K mg base CX0 k f fd ps sp ∧ mg x = some (.ref f) ∧ PySem.W.keepIn K (.ref f) = true ∧ KBn K fd ps n [kw] (fun us ws => us ++ ws) (fun vs zs => vs ++ zs) ∧ ∃ ds, Vals [dv] ds ∧ Binds K fd ps ds
section
variable {X : Cx} {k j n : Nat} {x kw : Str} {dv : V} {sp : Sp} {p pos : Pos} {e : Expr} {es : List Expr} {t tk : TA} {kws : List Keyword}
theorem pe_ck (c : CalK X.prog X.w X.K X.mg X.base k x sp n kw dv) (hr : Room j X.A) (hk : k ≤ j) (hg : Gl X x) (ha : PA X (e :: es) t) (hkw : PK X kws tk)
    (hall : (backToKw pos (keywordEach kws X.env)).all (·.1.isSome) = true := by rfl) (hks : (backToKw pos (keywordEach kws X.env)).filterMap (·.1) = [kw] := by rfl)
    (hdb : (x == ("__debug__" : Str)) = false := by decide) (he : starEach (e :: es) X.env = (false, eval e X.env) :: starEach es X.env := by rfl)
    (hpl : ((backTo pos (starEach (e :: es) X.env)).any (·.1) || (backToKw pos (keywordEach kws X.env)).any (·.1.isNone)) = false := by rfl) :
    PE X (.Call (.Name x p) (e :: es) kws pos) (tCallN n 1 sp (fun vs zs => vs ++ zs) E0 t tk) := by
  obtain ⟨f, fd, ps, F, hm, kp, b, _⟩ := c.ex
  exact pe_callN F (hr.mono hk) hg hm kp b pass0 ha hkw hall hks hdb he hpl
theorem pe_cd (c : CalK X.prog X.w X.K X.mg X.base k x sp n kw dv) (hr : Room j X.A) (hk : k ≤ j) (hg : Gl X x) (ha : PA X (e :: es) t)
    (hdb : (x == ("__debug__" : Str)) = false := by decide) (he : starEach (e :: es) X.env = (false, eval e X.env) :: starEach es X.env := by rfl) (hpl : (backTo pos (starEach es X.env)).any (·.1) = false := by rfl) :
    PE X (.Call (.Name x p) (e :: es) [] pos) (tCall sp [dv] E0 t) := by
  obtain ⟨f, fd, ps, F, hm, kp, _, ds, d, b⟩ := c.ex
  exact pe_call F (hr.mono hk) hg hm kp b d pass0 ha hdb he hpl
end
/-- two ways meet -/
theorem q_join {D : Ends} {σ : L2.St} {H : Hp} {tu tz : TS} (M : L2.St → Hp → Prop) (h : tu { D with nx := M } σ H) (k : ∀ σ' H', M σ' H' → tz D σ' H') : Evl.tCut tu tz D σ H := ⟨M, h, k⟩
end G
/-- a join of ways: k is what follows -/
def G.jn {α β : Type} (k : α) (f : α → β) : β := f k
namespace G
open PySem PySem.Spec PyProof.Rows L2
section
variable {K : PySem.W.Frag} {x qual kw : Str} {st : Stmt} {f : Addr} {fd : FuncData} {ps : List Str} {n : Nat} {dv : V}
theorem kbn_of (F : Fun K x qual st f fd)
    (h : ∀ (kV doc pm : Value) (an : Option Addr) (cdv ct : Value) (us ws : List Value), us.length = n → ws.length = 1 → bindArgs (PySem.W.fnOf x qual (defArgs st) (defBody st) (defScope st) .none kV doc pm an cdv ct) ⟨us, [kw].zip ws⟩ = pure (ps.zip (us ++ ws))) :
    KBn K fd ps n [kw] (fun us ws => us ++ ws) (fun vs zs => vs ++ zs) := by
  obtain ⟨oc, od, kV, doc, pm, an, cdv, ct, osl, rfl, lk, hcd⟩ := F.ex
  exact ⟨fun s us ws _ h1 h2 => .of_eq (h kV doc pm an cdv ct us ws h1 h2), fun r1 r2 => r1.append r2⟩
theorem kwd_of {oc doc pm cdv ct : Value} {od an : Option Addr} {D : Addr} {osl : Array (Option Value)} (l : K.lookup f = some ⟨oc, od, .func (PySem.W.fnOf x qual (defArgs st) (defBody st) (defScope st) .none (.ref D) doc pm an cdv ct), osl⟩)
    (c : PySem.W.codeIn K cdv qual = true) (k : PySem.W.keepIn K (.ref f) = true) (hq : ∃ u, PySem.W.nsIn K D kw = some (some u) ∧ RelV dv u) (hn : n + 1 = ps.length)
    (h : ∀ (D : Addr) (doc pm : Value) (an : Option Addr) (cdv ct : Value) (us ks : List Value), us.length = n → ks.length = 1 →
      KwChain D ([kw].zip ks) (bindArgs (PySem.W.fnOf x qual (defArgs st) (defBody st) (defScope st) .none (.ref D) doc pm an cdv ct) ⟨us, []⟩) (ps.zip (us ++ ks))) :
    ∃ ds, Vals [dv] ds ∧ Binds K (PySem.W.fnOf x qual (defArgs st) (defBody st) (defScope st) .none (.ref D) doc pm an cdv ct) ps ds := by
  refine FunD.binds0 (kws := [(kw, dv)]) (x := x) (qual := qual) (params := defArgs st) (body := defBody st) (scope := defScope st) (f := f) ⟨⟨oc, od, .none, .ref D, doc, pm, an, cdv, ct, osl, rfl, l, c, .inl ⟨rfl, rfl⟩, .inr ⟨D, rfl, fun q hm => ?_⟩⟩, k⟩ n (by intro z; cases z) hn h
  rw [List.mem_singleton.mp hm]
  exact hq
end
theorem getD_len {l : List (List Nat)} {c : Nat} (h : ∀ t ∈ l, t.length ≤ c) (i : Nat) : (l.getD i []).length ≤ c := by
  rw [List.getD]
  cases e : l[i]? with
  | none => exact Nat.zero_le _
  | some t => exact h t (List.mem_of_getElem? e)
end G
namespace G
open PySem PyProof.Rows L2
/-! ### the order of tuples of ints and texts -/
inductive Sc where
  | i (n : Int)
  | t (x : List Nat)
  deriving DecidableEq
def Sc.v : Sc → V
  | .i n => .int n
  | .t x => S x
def Sc.lt : Sc → Sc → Bool
  | .i a, .i b => decide (a < b)
  | .t a, .t b => decide (a < b)
  | _, _ => false
def Sc.like : Sc → Sc → Bool
  | .i _, .i _ => true
  | .t _, .t _ => true
  | _, _ => false
def lexSc : List Sc → List Sc → Bool
  | [], [] => false
  | [], _ :: _ => true
  | _ :: _, [] => false
  | x :: xs, y :: ys => if x = y then lexSc xs ys else x.lt y
def likeSc : List Sc → List Sc → Bool
  | x :: xs, y :: ys => x.like y && likeSc xs ys
  | _, _ => true
abbrev ScAre : List Sc → List Value → Prop := Paired fun k u => RelV k.v u
theorem eqAt_sc (A : Around) (s : Shared) {x y : Sc} {u v : Value} (hx : RelV x.v u) (hy : RelV y.v v) (hl : x.like y = true) : ∃ e, SeqAt.EqAt A s u v e ∧ (e = true ↔ x = y) := by
  cases x with
  | i a =>
    cases y with
    | i c =>
      obtain ⟨t, rfl⟩ := hx
      obtain ⟨t', rfl⟩ := hy
      exact ⟨(a == c), SeqAt.EqAt.int_int a t c t', by simp⟩
    | t c => cases hl
  | t a =>
    cases y with
    | i c => cases hl
    | t c =>
      obtain ⟨t, rfl⟩ := hx
      obtain ⟨t', rfl⟩ := hy
      refine ⟨_, SeqAt.EqAt.str_str _ t _ t', ?_⟩
      simp
theorem rcLt_sc (A : Around) (s : Shared) {x y : Sc} {u v : Value} (hx : RelV x.v u) (hy : RelV y.v v) (hl : x.like y = true) (prog : Program) (w : World) (E : Value → Shared → Prop) (Q : Value → Shared → Prop) (h : Q (.bool (x.lt y)) s) :
    wpAny (model prog w) A (richCompare .Lt u v) Q E s := by
  cases x with
  | i a =>
    cases y with
    | i c =>
      obtain ⟨t, rfl⟩ := hx
      obtain ⟨t', rfl⟩ := hy
      exact (PyProof.Rows.lt_int h : wpAny (model prog w) A (compareOp .Lt (.int a t) (.int c t')) Q E s)
    | t c => cases hl
  | t a =>
    cases y with
    | i c => cases hl
    | t c =>
      obtain ⟨t, rfl⟩ := hx
      obtain ⟨t', rfl⟩ := hy
      exact (lt_str h : wpAny (model prog w) A (compareOp .Lt (.str ⟨⟨a⟩⟩ t) (.str ⟨⟨c⟩⟩ t')) Q E s)
section
open PySem.SeqAt
open PySem.AutoSeq1 (wpAny_loadPart')
open PySem.MeetsSeq PySem.MeetsSeq2 PySem.MeetsSeq3
theorem tuple_lt_sc (l b : Addr) (items items2 : Array Value) (n n2 : Nat) (dd dd2 : Option Addr) (sl sl2 : Array (Option Value)) (ns ms : List Sc) (hi : ScAre ns items.toList) (hj : ScAre ms items2.toList) (hk : likeSc ns ms = true) :
    Meets (Builtin.«tuple.__lt__» ⟨[.ref l, .ref b], []⟩)
      (fun _ R s => s.heap.get? l = some { cls := .type "tuple", dict := dd, data := .seq items n, slots := sl } ∧ s.heap.get? b = some { cls := .type "tuple", dict := dd2, data := .seq items2 n2, slots := sl2 } ∧
        R (.ok (.ret (.bool (lexSc ns ms)))) s) :=
  .of_wp fun prog w A R s h => by
    obtain ⟨hp, g, d, tk, os⟩ := s; obtain ⟨hl, hb, h⟩ := h
    have f2 := AutoSeq1.sub_tuple_tuple
    have z1 : items.size = ns.length := by rw [hi.length]; simp
    have z2 : items2.size = ms.length := by rw [hj.length]; simp
    wp_walk using wpAny_loadPart' hl, wpAny_loadPart' hb, wpAny_forIn_list _ (fun rest b s' => b.1 = none ∧ s' = ⟨hp, g, d, tk, os⟩ ∧ ∃ (vs ws : List Value) (ns' ms' : List Sc), rest = vs.zip ws ∧
      ScAre ns' vs ∧ ScAre ms' ws ∧ likeSc ns' ms' = true ∧ ns'.length + items2.size = ms'.length + items.size ∧ R (.ok (.ret (.bool (lexSc ns' ms')))) ⟨hp, g, d, tk, os⟩) _
    case turn =>
      rintro ⟨y, x⟩ rest b s' ⟨hb', rfl, vs, ws, ns', ms', hz, hvi, hwi, hlk, hlen, hR⟩
      cases hvi with
      | nil => rw [List.zip_nil_left] at hz; cases hz
      | cons ra hvi' =>
        cases hwi with
        | nil => rw [List.zip_nil_right] at hz; cases hz
        | cons rc hwi' =>
          rw [List.zip_cons_cons] at hz
          injection hz with hyx hrest
          injection hyx with hy hx
          subst hy hx
          rw [lexSc] at hR
          rw [likeSc, Bool.and_eq_true] at hlk
          simp only [List.length_cons] at hlen
          obtain ⟨e, he, hiff⟩ := eqAt_sc A.in1 ⟨hp, g, d, tk, os⟩ ra rc hlk.1
          refine wpAny_bind (he prog w _ _ ?_)
          cases e with
          | true =>
            rw [if_pos (hiff.mp rfl)] at hR
            wp_walk
            exact ⟨rfl, rfl, _, _, _, _, hrest, hvi', hwi', hlk.2, by omega, hR⟩
          | false =>
            rw [if_neg (fun q => absurd (hiff.mpr q) Bool.false_ne_true)] at hR
            have hri := rcLt_sc A.in1 ⟨hp, g, d, tk, os⟩ ra rc hlk.1 prog w
            wp_walk using hri
            exact ⟨_, rfl, by simpa using hR⟩
    case fin =>
      rintro ⟨b1, b2⟩ s' ⟨hb', rfl, vs, ws, ns', ms', hz, hvi, hwi, hlk, hlen, hR⟩
      simp only at hb'
      subst hb'
      have hv : lexSc ns' ms' = decide (items.size < items2.size) := by
        cases hvi with
        | nil =>
          cases hwi with
          | nil =>
            simp only [List.length_nil] at hlen
            rw [lexSc]
            exact (decide_eq_false (by omega)).symm
          | cons rc hw =>
            simp only [List.length_nil, List.length_cons] at hlen
            rw [lexSc]
            exact (decide_eq_true (by omega)).symm
        | cons ra hv =>
          cases hwi with
          | nil =>
            simp only [List.length_nil, List.length_cons] at hlen
            rw [lexSc]
            exact (decide_eq_false (by omega)).symm
          | cons rc hw =>
            rw [List.zip_cons_cons] at hz
            cases hz
      rw [hv] at hR
      wp_walk
      exact ⟨_, rfl, by simpa [Builtin.Tuple.tupleCompareSizes] using hR⟩
    case h =>
      exact ⟨rfl, rfl, items.toList, items2.toList, ns, ms, rfl, hi, hj, hk, by omega, h⟩
end
section
variable {prog : Program} {w : World} {A : Around} {E : Value → Shared → Prop} {s : Shared}
theorem lt_tupSc {l b : Addr} {items items2 : Array Value} {ns ms : List Sc} {Q : Value → Shared → Prop} (hl : IsTup s.heap l items) (hb : IsTup s.heap b items2) (hi : ScAre ns items.toList) (hj : ScAre ms items2.toList) (hk : likeSc ns ms = true)
    (hu : A.units < cLine) (h : Q (.bool (lexSc ns ms)) s) : wpAny (model prog w) A (compareOp .Lt (.ref l) (.ref b)) Q E s := by
  obtain ⟨⟨cls, dd, data, sl⟩, ho, hc, n, hd⟩ := id hl
  obtain ⟨⟨cls2, dd2, data2, sl2⟩, ho2, hc2, n2, hd2⟩ := id hb
  simp only at hc hd hc2 hd2
  subst hc hd hc2 hd2
  exact richCompare_meets_room (op := .Lt) ⟨_, ho, rfl⟩ ⟨_, ho2, rfl⟩ PySem.F.slot_tuple_lt PySem.F.entry_tuple_lt (PySem.F.args_tuple_lt_2 _ _) (tuple_lt_sc l b items items2 n n2 dd dd2 sl sl2 ns ms hi hj hk)
    ⟨ho, ho2, show Value.bool (lexSc ns ms) ≠ Value.notImplemented ∧ Q (.bool (lexSc ns ms)) s from ⟨(fun x => nomatch x), h⟩⟩ hu
end
section
variable {X : Cx}
def rLtSc (K : PySem.W.Frag) : R2 := fun x y H Q => ∃ (a b : Addr) (ns ms : List Sc), x = .ref a ∧ y = .ref b ∧ SqT K H a (ns.map Sc.v) ∧ SqT K H b (ms.map Sc.v) ∧ likeSc ns ms = true ∧ Q (.bl (lexSc ns ms)) H
theorem scAre_of : ∀ {ns : List Sc} {us : List Value}, Vals (ns.map Sc.v) us → ScAre ns us
  | [], _, h => by cases h; exact .nil
  | n :: r, _, h => by
    cases h with
    | cons h1 h2 => exact .cons h1 (scAre_of h2)
theorem o_ltSc (hu : X.A.units < cLine) : OpR X (compareOp .Lt) (rLtSc X.K) := by
  intro pins s σ H x y v u Q I rx ry h
  obtain ⟨a, b, ns, ms, rfl, rfl, h1, h2, hk, q⟩ := h
  cases rx
  cases ry
  obtain ⟨its1, r1, p1, _⟩ := I.tuple h1
  obtain ⟨its2, r2, p2, _⟩ := I.tuple h2
  exact lt_tupSc p1 p2 (scAre_of (by simpa using r1)) (scAre_of (by simpa using r2)) hk hu ⟨.bl (lexSc ns ms), H, I, rfl, q⟩
def rLtS : R2 := fun x y H Q => ∃ a b : List Nat, x = S a ∧ y = S b ∧ Q (.bl (decide (a < b))) H
theorem o_ltS : OpR X (compareOp .Lt) rLtS := fun pins s σ H x y v u Q I rx ry h => by
  obtain ⟨a, b, rfl, rfl, q⟩ := h
  exact op_lt_str pins s σ H _ _ v u Q I rx ry ⟨_, _, rfl, rfl, q⟩
end
end G
namespace G
open PySem L2
def eT1 {A : Type} (f : A → PyData) (p : A) : PyData := .tuple [f p]
def eT2 {A B : Type} (f : A → PyData) (g : B → PyData) (p : A × B) : PyData := .tuple [f p.1, g p.2]
def eT3 {A B C : Type} (f : A → PyData) (g : B → PyData) (h : C → PyData) (p : A × B × C) : PyData := .tuple [f p.1, g p.2.1, h p.2.2]
def eT4 {A B C D : Type} (f : A → PyData) (g : B → PyData) (h : C → PyData) (k : D → PyData) (p : A × B × C × D) : PyData := .tuple [f p.1, g p.2.1, h p.2.2.1, k p.2.2.2]
def eT5 {A B C D E : Type} (f : A → PyData) (g : B → PyData) (h : C → PyData) (k : D → PyData) (l : E → PyData) (p : A × B × C × D × E) : PyData := .tuple [f p.1, g p.2.1, h p.2.2.1, k p.2.2.2.1, l p.2.2.2.2]
end G
namespace G
open PySem L2
theorem dpa_atN {K : PySem.W.Frag} {P : Hp} {A : Type} {e : A → PyData} {xs : List A} {vs : List V} {n : Nat} {d : A} (h : DpAll K P vs (xs.map e)) (hi : n < xs.length) : ∃ v, atI vs (n : Int) = some v ∧ Dp K P v (e (xs.getD n d)) := by
  obtain ⟨v, h1, h2⟩ := dpa_at (i := (n : Int)) (d := d) h ⟨by omega, by omega⟩
  rw [Int.toNat_natCast] at h2
  exact ⟨v, h1, h2⟩
theorem len_pos {t : List Nat} (h : ¬ t = cs "") : 0 < t.length := by
  cases t with
  | nil => exact absurd (by decide) h
  | cons a r => exact Nat.zero_lt_succ _
theorem len_zero {t : List Nat} (h : t = cs "") : t.length = 0 := by
  rw [h]
  decide
end G
namespace G
open PySem PySem.Spec PyProof.Rows L2
/-! ### mirrors that may fail -/
def chk (c : Prop) [Decidable c] {A : Type} (k : Option A) : Option A := if c then k else none
def ob {A B : Type} (m : Option A) (k : A → Option B) : Option B := match m with
  | none => none
  | some a => k a
section
variable {A B S R : Type}
theorem chk_some {c : Prop} [Decidable c] {k : Option A} {r : A} (h : chk c k = some r) : c ∧ k = some r := by
  unfold chk at h
  by_cases q : c
  · rw [if_pos q] at h
    exact ⟨q, h⟩
  · rw [if_neg q] at h
    cases h
theorem chk_eq {c : Prop} [Decidable c] {k : Option A} (h : c) : chk c k = k := if_pos h
theorem ob_some {m : Option A} {k : A → Option B} {r : B} (h : ob m k = some r) : ∃ a, m = some a ∧ k a = some r := by
  cases m with
  | none => cases h
  | some a => exact ⟨a, rfl, h⟩
@[simp] theorem ob_eq {a : A} {k : A → Option B} : ob (some a) k = k a := rfl
theorem ob_of {m : Option A} {k : A → Option B} {a : A} (h : m = some a) : ob m k = k a := by rw [h]; rfl
/-! loops -/
def itf (f : A → S → Option S) : List A → S → Option S
  | [], s => some s
  | x :: xs, s => ob (f x s) (itf f xs)
inductive Lr (S R : Type) where
  | nx (s : S)
  | bk (s : S)
  | rt (r : R)
def Lr.el {T : Type} (o : Lr S R) (r : R → T) (k : S → T) : T := match o with
  | .nx s => k s
  | .bk s => k s
  | .rt x => r x
def itr (f : A → S → Option (Lr S R)) : List A → S → Option (Lr S R)
  | [], s => some (.nx s)
  | x :: xs, s => ob (f x s) fun o => match o with
    | .nx s' => itr f xs s'
    | .bk s' => some (.bk s')
    | .rt r => some (.rt r)
/-- while: the body tells .bk where the test fails -/
def whN (f : S → Option (Lr S R)) : Nat → S → Option (Lr S R)
  | 0, _ => none
  | n + 1, s => ob (f s) fun o => match o with
    | .nx s' => whN f n s'
    | .bk s' => some (.bk s')
    | .rt r => some (.rt r)
open Classical in
noncomputable def whl (f : S → Option (Lr S R)) (s : S) : Option (Lr S R) := if h : ∃ n r, whN f n s = some r then whN f h.choose s else none
theorem whl_some {f : S → Option (Lr S R)} {s : S} {t : Lr S R} (h : whl f s = some t) : ∃ n, whN f n s = some t := by
  unfold whl at h
  split at h
  · exact ⟨_, h⟩
  · cases h
theorem whN_more {f : S → Option (Lr S R)} : ∀ {n m : Nat} {s : S} {t : Lr S R}, whN f n s = some t → n ≤ m → whN f m s = some t
  | 0, _, _, _, h, _ => by cases h
  | n + 1, 0, _, _, _, l => by omega
  | n + 1, m + 1, s, t, h, l => by
    rw [whN] at h ⊢
    obtain ⟨o, h1, h2⟩ := ob_some h
    rw [ob_of h1]
    cases o with
    | nx s' => exact whN_more h2 (by omega)
    | bk s' => exact h2
    | rt r => exact h2
theorem whl_of {f : S → Option (Lr S R)} {s : S} {t : Lr S R} (n : Nat) (h : whN f n s = some t) : whl f s = some t := by
  unfold whl
  have e : ∃ n r, whN f n s = some r := ⟨n, t, h⟩
  rw [dif_pos e]
  obtain ⟨r, hr⟩ := e.choose_spec
  rcases Nat.le_total n e.choose with l | l
  · exact whN_more h l
  · have := whN_more hr l
    rw [h] at this
    rw [hr, this]
/-- maps -/
def mpo (f : A → Option B) : List A → Option (List B)
  | [] => some []
  | x :: xs => ob (f x) fun y => ob (mpo f xs) fun ys => some (y :: ys)
def fpo (f : A → Option (Option B)) : List A → Option (List B)
  | [] => some []
  | x :: xs => ob (f x) fun y => ob (fpo f xs) fun ys => some (y.toList ++ ys)
def mps (f : A → S → Option (B × S)) : List A → S → Option (List B × S)
  | [], s => some ([], s)
  | x :: xs, s => ob (f x s) fun y => ob (mps f xs y.2) fun ys => some (y.1 :: ys.1, ys.2)
theorem nm_itf {f : A → S → Option S} {xs : List A} {s : S} {r : Option S} (h : itf f xs s = r) : ∃ F, F = f ∧ itf F xs s = r := ⟨_, rfl, h⟩
theorem nm_itr {f : A → S → Option (Lr S R)} {xs : List A} {s : S} {r : Option (Lr S R)} (h : itr f xs s = r) : ∃ F, F = f ∧ itr F xs s = r := ⟨_, rfl, h⟩
theorem nm_mpo {f : A → Option B} {xs : List A} {r : Option (List B)} (h : mpo f xs = r) : ∃ F, F = f ∧ mpo F xs = r := ⟨_, rfl, h⟩
theorem nm_fpo {f : A → Option (Option B)} {xs : List A} {r : Option (List B)} (h : fpo f xs = r) : ∃ F, F = f ∧ fpo F xs = r := ⟨_, rfl, h⟩
theorem nm_mps {f : A → S → Option (B × S)} {xs : List A} {s : S} {r : Option (List B × S)} (h : mps f xs s = r) : ∃ F, F = f ∧ mps F xs s = r := ⟨_, rfl, h⟩
theorem nm_whl {f : S → Option (Lr S R)} {s : S} {t : Lr S R} (h : whl f s = some t) : ∃ F, F = f ∧ ∃ n, whN F n s = some t := ⟨_, rfl, whl_some h⟩
end
/-! ### values and what they stand for -/
abbrev Rel (A : Type) := Hp → V → A → Prop
class Mo {A : Type} (R : Rel A) : Prop where
  mo : ∀ {P P' : Hp} {v : V} {x : A}, Ext P P' → R P v x → R P' v x
inductive AR {A : Type} (R : Rel A) (P : Hp) : List V → List A → Prop where
  | nil : AR R P [] []
  | cons {v : V} {x : A} {vs : List V} {xs : List A} : R P v x → AR R P vs xs → AR R P (v :: vs) (x :: xs)
section
variable {A B C D E : Type} {R : Rel A} {P P' : Hp}
theorem AR.up [Mo R] (e : Ext P P') : ∀ {vs : List V} {xs : List A}, AR R P vs xs → AR R P' vs xs
  | _, _, .nil => .nil
  | _, _, .cons h t => .cons (Mo.mo e h) (AR.up e t)
theorem AR.len : ∀ {vs : List V} {xs : List A}, AR R P vs xs → vs.length = xs.length
  | _, _, .nil => rfl
  | _, _, .cons h t => by rw [List.length_cons, List.length_cons, AR.len t]
theorem AR.app : ∀ {vs us : List V} {xs ys : List A}, AR R P vs xs → AR R P us ys → AR R P (vs ++ us) (xs ++ ys)
  | _, _, _, _, .nil, h => h
  | _, _, _, _, .cons h t, h' => .cons h (AR.app t h')
theorem AR.one {v : V} {x : A} (h : R P v x) : AR R P [v] [x] := .cons h .nil
theorem AR.snoc {vs : List V} {xs : List A} {v : V} {x : A} (h : AR R P vs xs) (hx : R P v x) : AR R P (vs ++ [v]) (xs ++ [x]) := h.app (.one hx)
theorem AR.rev {vs : List V} {xs : List A} (h : AR R P vs xs) : AR R P vs.reverse xs.reverse := by
  induction h with
  | nil => exact .nil
  | cons h t ih =>
    rw [List.reverse_cons, List.reverse_cons]
    exact ih.snoc h
theorem AR.drop : ∀ {vs : List V} {xs : List A} (n : Nat), AR R P vs xs → AR R P (vs.drop n) (xs.drop n)
  | _, _, 0, h => h
  | _, _, n + 1, .nil => .nil
  | _, _, n + 1, .cons h t => AR.drop n t
theorem AR.take : ∀ {vs : List V} {xs : List A} (n : Nat), AR R P vs xs → AR R P (vs.take n) (xs.take n)
  | _, _, 0, h => .nil
  | _, _, n + 1, .nil => .nil
  | _, _, n + 1, .cons h t => .cons h (AR.take n t)
theorem AR.get : ∀ {vs : List V} {xs : List A} {i : Nat} {v : V}, AR R P vs xs → vs[i]? = some v → ∃ x, xs[i]? = some x ∧ R P v x ∧ xs.drop i = x :: xs.drop (i + 1)
  | _, _, _, _, .nil, h => by simp at h
  | _, _, 0, v, .cons (x := x) h t, hi => by
    cases hi
    exact ⟨x, rfl, h, rfl⟩
  | _, _, i + 1, v, .cons h t, hi => AR.get (i := i) t hi
theorem AR.getN {vs : List V} {xs : List A} {n : Nat} {d : A} (h : AR R P vs xs) (hi : n < xs.length) : ∃ v, vs[n]? = some v ∧ R P v (xs.getD n d) := by
  have hl : n < vs.length := by rw [h.len]; exact hi
  obtain ⟨x, hx, hr, _⟩ := h.get (i := n) (List.getElem?_eq_getElem hl)
  refine ⟨_, List.getElem?_eq_getElem hl, ?_⟩
  have : xs.getD n d = x := by
    rw [List.getD, hx]
    rfl
  rw [this]
  exact hr
/-- the place of an index, as Python counts -/
def ixP (n : Nat) (i : Int) : Nat := (if i < 0 then i + n else i).toNat
def inR (n : Nat) (i : Int) : Prop := -(n : Int) ≤ i ∧ i < n
instance (n : Nat) (i : Int) : Decidable (inR n i) := inferInstanceAs (Decidable (_ ∧ _))
theorem ixN_ixP {n : Nat} {i : Int} (h : inR n i) : ixN n i = some (ixP n i) := by
  unfold inR at h
  unfold ixN ixP
  by_cases h0 : 0 ≤ i
  · rw [if_pos h0, if_pos h.2, if_neg (by omega)]
  · rw [if_neg h0]
    rw [if_pos (show i < 0 by omega)]
    first
      | (rw [if_pos (by omega)]; congr 1; omega)
      | (rw [if_pos (by omega)])
      | omega
theorem ixP_lt {n : Nat} {i : Int} (h : inR n i) : ixP n i < n := by
  unfold inR at h
  unfold ixP
  split <;> omega
theorem atI_ixP {t : List A} {i : Int} {x : A} (h : inR t.length i) (hx : t[ixP t.length i]? = some x) : atI t i = some x := by
  unfold atI
  rw [ixN_ixP h]
  exact hx
end
end G
namespace G
open PySem PySem.Spec PyProof.Rows L2
section
variable {A B C D E F : Type}
def yI : Rel Int := fun _ v x => v = .int x
def yB : Rel Bool := fun _ v x => v = .bl x
def yS : Rel (List Nat) := fun _ v x => v = S x
def yN : Rel Unit := fun _ v _ => v = .non
def yO (R : Rel A) : Rel (Option A) := fun P v x => match x with
  | none => v = .non
  | some y => R P v y
def yL (R : Rel A) : Rel (List A) := fun P v x => ∃ (a : Addr) (vs : List V), v = .ref a ∧ P a = some (.lst vs) ∧ AR R P vs x
def yU (K : PySem.W.Frag) (R : Rel A) : Rel (List A) := fun P v x => ∃ (a : Addr) (vs : List V), v = .ref a ∧ SqT K P a vs ∧ AR R P vs x
def y1 (K : PySem.W.Frag) (R1 : Rel A) : Rel A := fun P v x => ∃ (a : Addr) (v1 : V), v = .ref a ∧ SqT K P a [v1] ∧ R1 P v1 x
def y2 (K : PySem.W.Frag) (R1 : Rel A) (R2 : Rel B) : Rel (A × B) := fun P v x => ∃ (a : Addr) (v1 v2 : V), v = .ref a ∧ SqT K P a [v1, v2] ∧ R1 P v1 x.1 ∧ R2 P v2 x.2
def y3 (K : PySem.W.Frag) (R1 : Rel A) (R2 : Rel B) (R3 : Rel C) : Rel (A × B × C) := fun P v x => ∃ (a : Addr) (v1 v2 v3 : V), v = .ref a ∧ SqT K P a [v1, v2, v3] ∧ R1 P v1 x.1 ∧ R2 P v2 x.2.1 ∧ R3 P v3 x.2.2
def y4 (K : PySem.W.Frag) (R1 : Rel A) (R2 : Rel B) (R3 : Rel C) (R4 : Rel D) : Rel (A × B × C × D) := fun P v x => ∃ (a : Addr) (v1 v2 v3 v4 : V), v = .ref a ∧ SqT K P a [v1, v2, v3, v4] ∧ R1 P v1 x.1 ∧ R2 P v2 x.2.1 ∧ R3 P v3 x.2.2.1 ∧ R4 P v4 x.2.2.2
def y5 (K : PySem.W.Frag) (R1 : Rel A) (R2 : Rel B) (R3 : Rel C) (R4 : Rel D) (R5 : Rel E) : Rel (A × B × C × D × E) := fun P v x => ∃ (a : Addr) (v1 v2 v3 v4 v5 : V), v = .ref a ∧ SqT K P a [v1, v2, v3, v4, v5] ∧ R1 P v1 x.1 ∧ R2 P v2 x.2.1 ∧ R3 P v3 x.2.2.1 ∧ R4 P v4 x.2.2.2.1 ∧ R5 P v5 x.2.2.2.2
instance : Mo yI := ⟨fun _ h => h⟩
instance : Mo yB := ⟨fun _ h => h⟩
instance : Mo yS := ⟨fun _ h => h⟩
instance : Mo yN := ⟨fun _ h => h⟩
instance {R : Rel A} [Mo R] : Mo (yO R) := ⟨fun {P P' v x} e h => by
  cases x with
  | none => exact h
  | some y => exact Mo.mo (R := R) e h⟩
variable {K : PySem.W.Frag} {R1 : Rel A} {R2 : Rel B} {R3 : Rel C} {R4 : Rel D} {R5 : Rel E}
instance [Mo R1] : Mo (yL R1) := ⟨fun e ⟨a, vs, h, s, r⟩ => ⟨a, vs, h, e _ _ s, r.up e⟩⟩
instance [Mo R1] : Mo (yU K R1) := ⟨fun e ⟨a, vs, h, s, r⟩ => ⟨a, vs, h, e.sqt s, r.up e⟩⟩
instance [Mo R1] : Mo (y1 K R1) := ⟨fun e ⟨a, v1, h, s, r1⟩ => ⟨a, v1, h, e.sqt s, Mo.mo e r1⟩⟩
instance [Mo R1] [Mo R2] : Mo (y2 K R1 R2) := ⟨fun e ⟨a, v1, v2, h, s, r1, r2⟩ => ⟨a, v1, v2, h, e.sqt s, Mo.mo e r1, Mo.mo e r2⟩⟩
instance [Mo R1] [Mo R2] [Mo R3] : Mo (y3 K R1 R2 R3) := ⟨fun e ⟨a, v1, v2, v3, h, s, r1, r2, r3⟩ => ⟨a, v1, v2, v3, h, e.sqt s, Mo.mo e r1, Mo.mo e r2, Mo.mo e r3⟩⟩
instance [Mo R1] [Mo R2] [Mo R3] [Mo R4] : Mo (y4 K R1 R2 R3 R4) := ⟨fun e ⟨a, v1, v2, v3, v4, h, s, r1, r2, r3, r4⟩ => ⟨a, v1, v2, v3, v4, h, e.sqt s, Mo.mo e r1, Mo.mo e r2, Mo.mo e r3, Mo.mo e r4⟩⟩
instance [Mo R1] [Mo R2] [Mo R3] [Mo R4] [Mo R5] : Mo (y5 K R1 R2 R3 R4 R5) := ⟨fun e ⟨a, v1, v2, v3, v4, v5, h, s, r1, r2, r3, r4, r5⟩ => ⟨a, v1, v2, v3, v4, v5, h, e.sqt s, Mo.mo e r1, Mo.mo e r2, Mo.mo e r3, Mo.mo e r4, Mo.mo e r5⟩⟩
/-- never None -/
class NN (R : Rel A) : Prop where
  nn : ∀ {P : Hp} {v : V} {x : A}, R P v x → v ≠ .non
instance : NN yI := ⟨fun h e => by rw [show _ = _ from h] at e; cases e⟩
instance : NN yB := ⟨fun h e => by rw [show _ = _ from h] at e; cases e⟩
instance : NN yS := ⟨fun h e => by rw [show _ = _ from h] at e; cases e⟩
instance : NN (yL R1) := ⟨fun ⟨a, vs, h, _⟩ e => by rw [h] at e; cases e⟩
instance : NN (yU K R1) := ⟨fun ⟨a, vs, h, _⟩ e => by rw [h] at e; cases e⟩
instance : NN (y1 K R1) := ⟨fun ⟨a, v1, h, _⟩ e => by rw [h] at e; cases e⟩
instance : NN (y2 K R1 R2) := ⟨fun ⟨a, v1, v2, h, _⟩ e => by rw [h] at e; cases e⟩
instance : NN (y3 K R1 R2 R3) := ⟨fun ⟨a, v1, v2, v3, h, _⟩ e => by rw [h] at e; cases e⟩
instance : NN (y4 K R1 R2 R3 R4) := ⟨fun ⟨a, v1, v2, v3, v4, h, _⟩ e => by rw [h] at e; cases e⟩
instance : NN (y5 K R1 R2 R3 R4 R5) := ⟨fun ⟨a, v1, v2, v3, v4, v5, h, _⟩ e => by rw [h] at e; cases e⟩
theorem yO_is {R : Rel A} [NN R] {P : Hp} {v : V} {x : Option A} (h : yO R P v x) : decide (v = .non) = x.isNone := by
  cases x with
  | none =>
    have e : v = .non := h
    rw [e]
    rfl
  | some y => exact decide_eq_false (NN.nn (R := R) (show R P v y from h))
theorem yO_get {R : Rel A} {P : Hp} {v : V} {x : Option A} (d : A) (h : yO R P v x) (hs : x.isSome = true) : R P v (x.getD d) := by
  cases x with
  | none => cases hs
  | some y => exact h
theorem yO_none {R : Rel A} {P : Hp} : yO R P .non none := rfl
theorem yO_some {R : Rel A} {P : Hp} {v : V} {x : A} (h : R P v x) : yO R P v (some x) := h
/-! ### texts, ints of a list by their values -/
theorem ar_strs {P : Hp} : ∀ {vs : List V} {ts : List (List Nat)}, AR yS P vs ts → vs = ts.map S
  | _, _, .nil => rfl
  | _, _, .cons h t => by
    rw [show _ = _ from h, ar_strs t]
    rfl
theorem ar_ints {P : Hp} : ∀ {vs : List V} {ts : List Int}, AR yI P vs ts → vs = ts.map V.int
  | _, _, .nil => rfl
  | _, _, .cons h t => by
    rw [show _ = _ from h, ar_ints t]
    rfl
theorem ar_bools {P : Hp} : ∀ {vs : List V} {ts : List Bool}, AR yB P vs ts → vs = ts.map V.bl
  | _, _, .nil => rfl
  | _, _, .cons h t => by
    rw [show _ = _ from h, ar_bools t]
    rfl
theorem strs_ar {P : Hp} : ∀ ts : List (List Nat), AR yS P (ts.map S) ts
  | [] => .nil
  | t :: r => .cons rfl (strs_ar r)
/-! ### deep equality -/
def okS (t : List Nat) : Bool := t.all (· < 1114112)
class En (K : PySem.W.Frag) (R : Rel A) (ok : outParam (A → Bool)) (n : outParam Nat) where
  enc : A → PyData
  dp : ∀ {P : Hp} {v : V} {x : A}, R P v x → Dp K P v (enc x)
  inj : ∀ {x y : A}, PyData.eqv (enc x) (enc y) = true ↔ x = y
  lay : ∀ {x : A}, ok x = true → (enc x).canLay0 = true
  dep : ∀ {x : A}, (enc x).depth ≤ n
def okA {A : Type} (_ : A) : Bool := true
instance : En K yI okA 0 where
  enc := .int
  dp h := by cases h; exact .int _
  inj := by intro x y; simp [PyData.eqv]
  lay _ := by simp [PyData.canLay0]
  dep := by intro x; simp [PyData.depth]
instance : En K yB okA 0 where
  enc := .bool
  dp h := by cases h; exact .bl _
  inj := by intro x y; simp [PyData.eqv]
  lay _ := by simp [PyData.canLay0]
  dep := by intro x; simp [PyData.depth]
instance : En K yS okS 0 where
  enc := eS
  dp h := by cases h; exact pd_str _
  inj := by
    intro x y
    unfold eS
    simp [PyData.eqv]
  lay {x} h := by
    unfold eS
    simp only [PyData.canLay0, PyData.strOk]
    unfold okS at h
    simpa using h
  dep := by intro x; simp [PyData.depth, eS]
theorem dpa_of [e : En K R1 ok n] {P : Hp} : ∀ {vs : List V} {xs : List A}, AR R1 P vs xs → DpAll K P vs (xs.map e.enc)
  | _, _, .nil => .nil
  | _, _, .cons h t => .cons (e.dp h) (dpa_of t)
theorem eqvAll_map [e : En K R1 ok n] : ∀ {xs ys : List A}, PyData.eqvAll (xs.map e.enc) (ys.map e.enc) = true ↔ xs = ys
  | [], [] => by simp [PyData.eqvAll]
  | [], y :: ys => by simp [PyData.eqvAll]
  | x :: xs, [] => by simp [PyData.eqvAll]
  | x :: xs, y :: ys => by
    rw [List.map_cons, List.map_cons, PyData.eqvAll, Bool.and_eq_true, e.inj, eqvAll_map, List.cons.injEq]
theorem lay_map [e : En K R1 ok n] : ∀ {xs : List A}, xs.all ok = true → PyData.canLayAll0 (xs.map e.enc) = true
  | [], _ => by simp [PyData.canLayAll0]
  | x :: xs, h => by
    rw [List.all_cons, Bool.and_eq_true] at h
    rw [List.map_cons, PyData.canLayAll0, Bool.and_eq_true]
    exact ⟨e.lay h.1, lay_map h.2⟩
theorem dep_map [e : En K R1 ok n] : ∀ {xs : List A}, PyData.depthAll (xs.map e.enc) ≤ n
  | [] => by simp [PyData.depthAll]
  | x :: xs => by
    rw [List.map_cons, PyData.depthAll]
    exact Nat.max_le.mpr ⟨e.dep, dep_map⟩
def okL {A : Type} (ok : A → Bool) (xs : List A) : Bool := xs.all ok
instance [e : En K R1 ok n] : En K (yL R1) (okL ok) (n + 1) where
  enc := fun xs => .list (xs.map e.enc)
  dp := fun ⟨a, vs, h, s, r⟩ => by subst h; exact .lst (.inl (.inl s)) (dpa_of r)
  inj := by
    intro x y
    rw [PyData.eqv]
    exact eqvAll_map
  lay h := by
    rw [PyData.canLay0]
    exact lay_map h
  dep := by
    intro x
    rw [PyData.depth]
    exact Nat.succ_le_succ dep_map
instance [e : En K R1 ok n] : En K (yU K R1) (okL ok) (n + 1) where
  enc := fun xs => .tuple (xs.map e.enc)
  dp := fun ⟨a, vs, h, s, r⟩ => by subst h; exact .tup s (dpa_of r)
  inj := by
    intro x y
    rw [PyData.eqv]
    exact eqvAll_map
  lay h := by
    rw [PyData.canLay0]
    exact lay_map h
  dep := by
    intro x
    rw [PyData.depth]
    exact Nat.succ_le_succ dep_map
variable {ok1 : A → Bool} {ok2 : B → Bool} {ok3 : C → Bool} {ok4 : D → Bool} {ok5 : E → Bool} {n n1 n2 n3 n4 n5 : Nat}
def ok_2 (o1 : A → Bool) (o2 : B → Bool) (x : A × B) : Bool := o1 x.1 && o2 x.2
def ok_3 (o1 : A → Bool) (o2 : B → Bool) (o3 : C → Bool) (x : A × B × C) : Bool := o1 x.1 && (o2 x.2.1 && o3 x.2.2)
def ok_4 (o1 : A → Bool) (o2 : B → Bool) (o3 : C → Bool) (o4 : D → Bool) (x : A × B × C × D) : Bool := o1 x.1 && (o2 x.2.1 && (o3 x.2.2.1 && o4 x.2.2.2))
def ok_5 (o1 : A → Bool) (o2 : B → Bool) (o3 : C → Bool) (o4 : D → Bool) (o5 : E → Bool) (x : A × B × C × D × E) : Bool := o1 x.1 && (o2 x.2.1 && (o3 x.2.2.1 && (o4 x.2.2.2.1 && o5 x.2.2.2.2)))
instance [e1 : En K R1 ok1 n1] : En K (y1 K R1) ok1 (n1 + 1) where
  enc := fun x => .tuple [e1.enc x]
  dp := fun ⟨a, v1, h, s, r1⟩ => by subst h; exact .tup s (.cons (e1.dp r1) .nil)
  inj := by
    intro x y
    simp only [PyData.eqv, PyData.eqvAll, Bool.and_true, e1.inj]
  lay h := by
    simp only [PyData.canLay0, PyData.canLayAll0, Bool.and_true]
    exact e1.lay h
  dep := by
    intro x
    simp only [PyData.depth, PyData.depthAll]
    have := e1.dep (x := x)
    omega
instance [e1 : En K R1 ok1 n1] [e2 : En K R2 ok2 n2] : En K (y2 K R1 R2) (ok_2 ok1 ok2) (max n1 n2 + 1) where
  enc := fun x => .tuple [e1.enc x.1, e2.enc x.2]
  dp := fun ⟨a, v1, v2, h, s, r1, r2⟩ => by subst h; exact .tup s (.cons (e1.dp r1) (.cons (e2.dp r2) .nil))
  inj := by
    rintro ⟨x1, x2⟩ ⟨z1, z2⟩
    simp only [PyData.eqv, PyData.eqvAll, Bool.and_true, Bool.and_eq_true, e1.inj, e2.inj, Prod.mk.injEq]
  lay h := by
    unfold ok_2 at h
    simp only [Bool.and_eq_true] at h
    simp only [PyData.canLay0, PyData.canLayAll0, Bool.and_true, Bool.and_eq_true]
    exact ⟨e1.lay h.1, e2.lay h.2⟩
  dep := by
    intro x
    simp only [PyData.depth, PyData.depthAll]
    have := e1.dep (x := x.1)
    have := e2.dep (x := x.2)
    omega
instance [e1 : En K R1 ok1 n1] [e2 : En K R2 ok2 n2] [e3 : En K R3 ok3 n3] : En K (y3 K R1 R2 R3) (ok_3 ok1 ok2 ok3) (max n1 (max n2 n3) + 1) where
  enc := fun x => .tuple [e1.enc x.1, e2.enc x.2.1, e3.enc x.2.2]
  dp := fun ⟨a, v1, v2, v3, h, s, r1, r2, r3⟩ => by subst h; exact .tup s (.cons (e1.dp r1) (.cons (e2.dp r2) (.cons (e3.dp r3) .nil)))
  inj := by
    rintro ⟨x1, x2, x3⟩ ⟨z1, z2, z3⟩
    simp only [PyData.eqv, PyData.eqvAll, Bool.and_true, Bool.and_eq_true, e1.inj, e2.inj, e3.inj, Prod.mk.injEq]
  lay h := by
    unfold ok_3 at h
    simp only [Bool.and_eq_true] at h
    simp only [PyData.canLay0, PyData.canLayAll0, Bool.and_true, Bool.and_eq_true]
    exact ⟨e1.lay h.1, e2.lay h.2.1, e3.lay h.2.2⟩
  dep := by
    intro x
    simp only [PyData.depth, PyData.depthAll]
    have := e1.dep (x := x.1)
    have := e2.dep (x := x.2.1)
    have := e3.dep (x := x.2.2)
    omega
instance [e1 : En K R1 ok1 n1] [e2 : En K R2 ok2 n2] [e3 : En K R3 ok3 n3] [e4 : En K R4 ok4 n4] : En K (y4 K R1 R2 R3 R4) (ok_4 ok1 ok2 ok3 ok4) (max n1 (max n2 (max n3 n4)) + 1) where
  enc := fun x => .tuple [e1.enc x.1, e2.enc x.2.1, e3.enc x.2.2.1, e4.enc x.2.2.2]
  dp := fun ⟨a, v1, v2, v3, v4, h, s, r1, r2, r3, r4⟩ => by subst h; exact .tup s (.cons (e1.dp r1) (.cons (e2.dp r2) (.cons (e3.dp r3) (.cons (e4.dp r4) .nil))))
  inj := by
    rintro ⟨x1, x2, x3, x4⟩ ⟨z1, z2, z3, z4⟩
    simp only [PyData.eqv, PyData.eqvAll, Bool.and_true, Bool.and_eq_true, e1.inj, e2.inj, e3.inj, e4.inj, Prod.mk.injEq]
  lay h := by
    unfold ok_4 at h
    simp only [Bool.and_eq_true] at h
    simp only [PyData.canLay0, PyData.canLayAll0, Bool.and_true, Bool.and_eq_true]
    exact ⟨e1.lay h.1, e2.lay h.2.1, e3.lay h.2.2.1, e4.lay h.2.2.2⟩
  dep := by
    intro x
    simp only [PyData.depth, PyData.depthAll]
    have := e1.dep (x := x.1)
    have := e2.dep (x := x.2.1)
    have := e3.dep (x := x.2.2.1)
    have := e4.dep (x := x.2.2.2)
    omega
def rEqR {A : Type} [DecidableEq A] (R : Rel A) (ok : A → Bool) : L2.R2 := fun x y H Q => ∃ i j : A, R H x i ∧ R H y j ∧ (ok i = true ∧ ok j = true) ∧ Q (.bl (decide (i = j))) H
def rNeR {A : Type} [DecidableEq A] (R : Rel A) (ok : A → Bool) : L2.R2 := fun x y H Q => ∃ i j : A, R H x i ∧ R H y j ∧ (ok i = true ∧ ok j = true) ∧ Q (.bl (!decide (i = j))) H
variable {X : Cx}
theorem eqv_dec [DecidableEq A] [e : En K R1 ok1 n] {i j : A} : PyData.eqv (e.enc i) (e.enc j) = decide (i = j) := by
  by_cases h : i = j
  · rw [decide_eq_true h, e.inj.mpr h]
  · rw [decide_eq_false h]
    cases q : PyData.eqv (e.enc i) (e.enc j) with
    | false => rfl
    | true => exact absurd (e.inj.mp q) h
theorem shp [e : En K R1 ok1 n] {i : A} (h : ok1 i = true) (hn : n ≤ 64) : SeqAt.shaped (e.enc i) = true := by
  unfold SeqAt.shaped
  rw [Bool.and_eq_true, decide_eq_true_eq]
  exact ⟨e.lay h, Nat.le_trans e.dep hn⟩
theorem o_eqR [DecidableEq A] [e : En X.K R1 ok1 n] (hu : X.A.units + 64 < cLine) (hn : n ≤ 64 := by decide) : OpR X (compareOp .Eq) (rEqR R1 ok1) := fun pins s σ H x y v u Q I rx ry h => by
  obtain ⟨i, j, r1, r2, o, q⟩ := h
  exact op_eqD hu pins s σ H _ _ v u Q I rx ry ⟨_, _, e.dp r1, e.dp r2, shp o.1 hn, shp o.2 hn, by rw [eqv_dec]; exact q⟩
theorem o_neR [DecidableEq A] [e : En X.K R1 ok1 n] (hu : X.A.units + 64 < cLine) (hn : n ≤ 64 := by decide) : OpR X (compareOp .NotEq) (rNeR R1 ok1) := fun pins s σ H x y v u Q I rx ry h => by
  obtain ⟨i, j, r1, r2, o, q⟩ := h
  exact op_neD hu pins s σ H _ _ v u Q I rx ry ⟨_, _, e.dp r1, e.dp r2, shp o.1 hn, shp o.2 hn, by rw [eqv_dec]; exact q⟩
end
end G
namespace G
open PySem PySem.Spec PyProof.Rows L2
section
variable {A B Z R : Type}
theorem snoc_sum {acc rs r2 T : List A} {x : A} (h : acc ++ rs = T) (e : some (x :: r2) = some rs) : (acc ++ [x]) ++ r2 = T := by
  cases e
  rw [List.append_assoc]
  exact h
theorem snoc_sumB {acc rs r2 T : List A} {x : A} {b t2 : Z} (h : acc ++ rs = T) (e : some (x :: r2, b) = some (rs, t2)) : (acc ++ [x]) ++ r2 = T := by
  cases e
  rw [List.append_assoc]
  exact h
theorem skip_sum {acc rs r2 T : List A} (h : acc ++ rs = T) (e : some r2 = some rs) : acc ++ r2 = T := by
  cases e
  exact h
theorem snoc_len {acc : List A} {x : A} {i : Nat} (h : acc.length ≤ i) : (acc ++ [x]).length ≤ i + 1 := by
  rw [List.length_append, List.length_singleton]
  exact Nat.succ_le_succ h
theorem mps_eq {F : A → Z → Option (B × Z)} {xs : List A} {b t2 : Z} {r2 : List B × Z} {l rs : List B} (er : mps F xs b = some r2) (e : some (l, r2.2) = some (rs, t2)) : mps F xs b = some (r2.1, t2) := by
  have q := congrArg Prod.snd (Option.some.inj e)
  rw [er]
  show some r2 = some (r2.1, t2)
  rw [← (show r2.2 = t2 from q)]
theorem mpo_acc {acc rs T : List A} (h : acc ++ rs = T) (e : some ([] : List A) = some rs) : acc = T := by
  cases e
  rw [List.append_nil] at h
  exact h
theorem mps_acc {acc rs T : List A} {b t2 : Z} (h : acc ++ rs = T) (e : some (([] : List A), b) = some (rs, t2)) : acc = T := by
  cases e
  rw [List.append_nil] at h
  exact h
theorem mps_box {rs : List A} {b t2 : Z} (e : some (([] : List A), b) = some (rs, t2)) : b = t2 := congrArg Prod.snd (Option.some.inj e)
theorem nm_el {T : Type} {o : Lr Z R} {r : R → T} {k : Z → T} {x : T} (h : o.el r k = x) : ∃ kk, kk = k ∧ o.el r kk = x := ⟨_, rfl, h⟩
variable {Rr : Rel A} {P : Hp}
theorem AR.getI {vs : List V} {xs : List A} {i : Int} {d : A} (h : AR Rr P vs xs) (hi : inR xs.length i) : ∃ v, atI vs i = some v ∧ Rr P v (xs.getD (ixP xs.length i) d) := by
  obtain ⟨v, h1, h2⟩ := h.getN (d := d) (ixP_lt hi)
  rw [← h.len] at hi h1
  exact ⟨v, atI_ixP hi h1, h2⟩
theorem AR.takeall {vs : List V} {xs : List A} (h : AR Rr P vs xs) : xs.take vs.length = xs := List.take_of_length_le (by rw [h.len]; exact Nat.le_refl _)
theorem AR.dropall {vs : List V} {xs : List A} (h : AR Rr P vs xs) : xs.drop vs.length = [] := List.drop_of_length_le (by rw [h.len]; exact Nat.le_refl _)
theorem AR.bnd {vs : List V} {xs : List A} {n : Nat} (h : AR Rr P vs xs) (hn : xs.length ≤ n) : vs.length ≤ n := by
  rw [h.len]
  exact hn
theorem atI_str0 {t : List Nat} {n : Nat} (h : n < t.length) : atI t (n : Int) = some (t.getD n 0) := atI_nat (by
  rw [List.getElem?_eq_getElem h]
  simp [List.getD, List.getElem?_eq_getElem h])
theorem atI_str {t : List Nat} {i : Int} (h : inR t.length i) : atI t i = some (t.getD (ixP t.length i) 0) := atI_ixP h (by
  have := ixP_lt h
  rw [List.getElem?_eq_getElem this]
  simp [List.getD, List.getElem?_eq_getElem this])
variable {X : Cx}
/-- the one text within the other -/
def subT (a b : List Nat) : Bool := !(Builtin.Str.occurrences ⟨⟨b⟩⟩ ⟨⟨a⟩⟩ 0 (⟨⟨b⟩⟩ : Str).length 1).isEmpty
def rInU : R2 := fun x y H Q => ∃ a b : List Nat, x = G.S a ∧ y = G.S b ∧ Q (.bl (subT a b)) H
def rNiU : R2 := fun x y H Q => ∃ a b : List Nat, x = G.S a ∧ y = G.S b ∧ Q (.bl (!subT a b)) H
theorem o_inU : OpR X (compareOp .In) rInU := fun pins s σ H x y v u Q I rx ry h => by
  obtain ⟨a, b, rfl, rfl, q⟩ := h
  exact op_in_str pins s σ H _ _ v u Q I rx ry ⟨_, _, rfl, rfl, q⟩
theorem o_niU : OpR X (compareOp .NotIn) rNiU := fun pins s σ H x y v u Q I rx ry h => by
  obtain ⟨a, b, rfl, rfl, q⟩ := h
  exact op_notIn_str pins s σ H _ _ v u Q I rx ry ⟨_, _, rfl, rfl, q⟩
/-- a text some times -/
def repT (a : List Nat) (n : Int) : List Nat := (List.replicate n.toNat a).flatten
theorem foldl_arr : ∀ (n : Nat) (x b : Array Nat), ((List.replicate n x).foldl (· ++ ·) b).toList = b.toList ++ (List.replicate n x.toList).flatten
  | 0, x, b => by simp
  | n + 1, x, b => by
    rw [List.replicate_succ, List.foldl_cons, foldl_arr n x (b ++ x), List.replicate_succ, List.flatten_cons, Array.toList_append, List.append_assoc]
theorem mul_repT (a : List Nat) (n : Int) : V.str (Txt.mul ⟨⟨a⟩⟩ n) = G.S (repT a n) := by
  unfold Txt.mul repT
  by_cases h1 : n < 1
  · rw [if_pos h1, show n.toNat = 0 by omega]
    rfl
  · rw [if_neg h1]
    by_cases h2 : (n == 1 || (⟨⟨a⟩⟩ : Str).length == 0) = true
    · rw [if_pos h2]
      rw [Bool.or_eq_true, beq_iff_eq, beq_iff_eq] at h2
      rcases h2 with h2 | h2
      · subst h2
        show G.S a = G.S _
        congr 1
        simp
      · have : a = [] := List.length_eq_zero_iff.mp h2
        subst this
        simp [G.S]
    · rw [if_neg h2]
      have := foldl_arr n.toNat ⟨a⟩ #[]
      unfold G.S
      congr 2
      apply Array.toList_inj.mp
      simpa using this
def rMulT : R2 := fun x y H Q => ∃ (a : List Nat) (n : Int), x = G.S a ∧ y = .int n ∧ ((0 ≤ n ∧ n ≤ 1000000) ∧ a.length * n.toNat ≤ 1000000) ∧ Q (G.S (repT a n)) H
theorem mulOk {a : List Nat} {n : Int} (h : (0 ≤ n ∧ n ≤ 1000000) ∧ a.length * n.toNat ≤ 1000000) : MulOk ⟨⟨a⟩⟩ n := by
  obtain ⟨⟨h0, h1⟩, h2⟩ := h
  refine ⟨by rw [decide_eq_false (by omega), decide_eq_false (by omega)]; rfl, fun h3 _ => ?_, fun _ _ => ?_⟩
  · have hn : (1 : Int) ≤ n := by omega
    have hl : a.length ≤ 1000000 := Nat.le_trans (Nat.le_mul_of_pos_right _ (by omega)) h2
    have hd : (1000000 : Int) ≤ (2 ^ 63 - 1) / n := by
      rw [Int.le_ediv_iff_mul_le (by omega)]
      omega
    show ¬ ((a.length : Int) > _)
    omega
  · show Builtin.Str.tooLong (a.length * n.toNat) = false
    unfold Builtin.Str.tooLong
    first
      | exact decide_eq_false (by have := sizeLine_eq; omega)
      | (simp only [decide_eq_false_iff_not]; have := sizeLine_eq; omega)
      | (have := sizeLine_eq; simp; omega)
theorem o_mulS : OpR X (binaryOp .Mult) G.rMulT := fun pins s σ H x y v u Q I rx ry h => by
  obtain ⟨a, n, rfl, rfl, hz, q⟩ := h
  obtain ⟨t, rfl⟩ := rx
  obtain ⟨t', rfl⟩ := ry
  exact SB.mul (mulOk hz) fun t' k => ⟨.str (Txt.mul ⟨⟨a⟩⟩ n), H, I.tok _, ⟨_, rfl⟩, by rw [mul_repT]; exact q⟩
theorem AR.cut {vs : List V} {xs : List A} {lo hi : Option Int} (h : AR Rr P vs xs) : AR Rr P (cutT vs lo hi) (cutT xs lo hi) := by
  unfold cutT
  rw [h.len]
  exact (h.drop _).take _
def rSlL1 (K : PySem.W.Frag) : V → Option Int → Option Int → Hp → VK → Prop := fun x lo hi H Q => ∃ (a : Addr) (xs : List V), x = .ref a ∧ SqL K H a xs ∧ ∀ p, H p = none → Q (.ref p) (upd H p (.lst (cutT xs lo hi)))
theorem s_lstT : SlR X (rSlL1 X.K) := sl_list
def rListL (K : PySem.W.Frag) : List V → Hp → VK → Prop := fun xs H Q => ∃ (p : Addr) (ys : List V), xs = [.ref p] ∧ SqL K H p ys ∧ ∀ l, H l = none → Q (.ref l) (upd H l (.lst ys))
theorem c_listL : CallR X (.type "list") (rListL X.K) := fun pins s σ H xs us Q I r h => by
  obtain ⟨p, ys, rfl, hs, q⟩ := h
  exact call_list_of pins s σ H _ us Q I r ⟨p, ys, rfl, .inl hs, q⟩
def rIsO {A : Type} (R : Rel A) : R2 := fun x y H Q => ∃ o : Option A, yO R H x o ∧ y = .non ∧ Q (.bl o.isNone) H
def rNsO {A : Type} (R : Rel A) : R2 := fun x y H Q => ∃ o : Option A, yO R H x o ∧ y = .non ∧ Q (.bl (!o.isNone)) H
theorem o_isO [NN Rr] : OpR X (compareOp .Is) (rIsO Rr) := fun pins s σ H x y v u Q I rx ry h => by
  obtain ⟨o, ho, rfl, q⟩ := h
  exact op_isN pins s σ H _ _ v u Q I rx ry ⟨rfl, by rw [yO_is ho]; exact q⟩
theorem o_nsO [NN Rr] : OpR X (compareOp .IsNot) (rNsO Rr) := fun pins s σ H x y v u Q I rx ry h => by
  obtain ⟨o, ho, rfl, q⟩ := h
  exact op_notN pins s σ H _ _ v u Q I rx ry ⟨rfl, by rw [yO_is ho]; exact q⟩
def rStarts : V → List V → Hp → VK → Prop := fun x xs H Q => ∃ a b : List Nat, x = G.S a ∧ xs = [G.S b] ∧ Q (.bl (b.isPrefixOf a)) H
theorem m_starts : MtR X "str.startswith" rStarts := fun pins s σ H x xs v us Q I rx rs h => by
  obtain ⟨a, b, rfl, rfl, q⟩ := h
  refine mt_startswith pins s σ H _ _ v us Q I rx rs ⟨_, _, rfl, rfl, ?_⟩
  have e : Txt.startswith ⟨⟨a⟩⟩ ⟨⟨b⟩⟩ = b.isPrefixOf a := by
    unfold Txt.startswith
    rw [PySem.StrLaws.subAt_eq]
    show (decide (0 + b.length ≤ a.length) && ((a.drop 0).take b.length == b)) = b.isPrefixOf a
    rw [Bool.eq_iff_iff, Bool.and_eq_true, decide_eq_true_eq, beq_iff_eq, List.drop_zero, List.isPrefixOf_iff_prefix, List.prefix_iff_eq_take]
    constructor
    · intro h
      exact h.2.symm
    · intro h
      refine ⟨?_, h.symm⟩
      have := congrArg List.length h
      rw [List.length_take] at this
      omega
  rw [e]
  exact q
/-- the draws, checked -/
def takeO (ns : List Int) (b : Box) (n : Int) : Option (Int × Box) := chk (0 < n ∧ n < 1000000) (some (m_take ns b n))
theorem takeO_eq {ns : List Int} {b : Box} {n : Int} (h : 0 < n ∧ n < 1000000) : takeO ns b n = some (m_take ns b n) := chk_eq h
theorem takeO_some {ns : List Int} {b : Box} {n : Int} {t : Int × Box} (h : takeO ns b n = some t) : (0 < n ∧ n < 1000000) ∧ m_take ns b n = t := by
  obtain ⟨h1, h2⟩ := chk_some h
  exact ⟨h1, Option.some.inj h2⟩
end
end G
namespace G
open PySem PySem.Spec PyProof.Rows L2
/-! ### a written dict: texts to tuples of texts -/
structure WDf (K : PySem.W.Frag) (d : Addr) (f : List Nat → Option Addr) (c : List Nat → List (List Nat)) (k : List Nat → Bool) : Prop where
  ns : ∀ t, PySem.W.nsIn K d ⟨⟨t⟩⟩ = some ((f t).map Value.ref)
  has : ∀ t, (f t).isSome = k t
  sq : ∀ t a, f t = some a → ∀ H : Hp, SqT K H a ((c t).map S)
  no : ∀ t, f t = none → c t = []
def KD (K : PySem.W.Frag) (w : World) (d : Addr) : Prop := ∃ es n, KDict K w d es n
def rInW (K : PySem.W.Frag) (d : Addr) : R2 := fun x y H Q => ∃ (t : List Nat) (r : Option Value), x = S t ∧ y = .ref d ∧ PySem.W.nsIn K d ⟨⟨t⟩⟩ = some r ∧ Q (.bl r.isSome) H
def rNiW (K : PySem.W.Frag) (d : Addr) : R2 := fun x y H Q => ∃ (t : List Nat) (r : Option Value), x = S t ∧ y = .ref d ∧ PySem.W.nsIn K d ⟨⟨t⟩⟩ = some r ∧ Q (.bl (!r.isSome)) H
def kq (Q : VK) (z : V) (H : Hp) : Option Value → Prop
  | none => Q z H
  | some u => ∃ v, RelV v u ∧ Q v H
def tKGet (K : PySem.W.Frag) (d : Addr) (td ty tx : TE) : TE := fun σ H Q => td σ H fun x H1 => x = .ref d ∧ ty σ H1 fun y H2 => tx σ H2 fun z H3 =>
  ∃ (t : List Nat) (r : Option Value), y = S t ∧ PySem.W.nsIn K d ⟨⟨t⟩⟩ = some r ∧ kq Q z H3 r
section
variable {X : Cx} {d : Addr}
theorem o_inW (D : KD X.K X.w d) : OpR X (compareOp .In) (rInW X.K d) := fun pins s σ H x y v u Q I rx ry h => by
  obtain ⟨es, n, D⟩ := D
  obtain ⟨t, r, rfl, rfl, e, q⟩ := h
  exact op_in_kd D pins s σ H _ _ v u Q I rx ry ⟨_, r, rfl, rfl, e, q⟩
theorem o_niW (D : KD X.K X.w d) : OpR X (compareOp .NotIn) (rNiW X.K d) := fun pins s σ H x y v u Q I rx ry h => by
  obtain ⟨es, n, D⟩ := D
  obtain ⟨t, r, rfl, rfl, e, q⟩ := h
  exact op_notIn_kd D pins s σ H _ _ v u Q I rx ry ⟨_, r, rfl, rfl, e, q⟩
theorem pe_kget {o e f : Expr} {apos cpos : Pos} {td ty tx : TE} (D : KD X.K X.w d) (ho : PE X o td) (he : PE X e ty) (hf : PE X f tx) (m : M2 X o "get" apos e f cpos) : PE X (.Call (.Attribute o "get" apos) [e, f] [] cpos) (tKGet X.K d td ty tx) := by
  obtain ⟨es, n, D⟩ := D
  refine ⟨fun pins s σ H Q I h => ?_⟩
  refine wpAny_Call_method m.base m.few m.line PySem.F.plainAttrs_dict PySem.F.slot_dict_get PySem.F.type_dict_get (thn (ho.run pins s σ H _ I h) fun u s1 ⟨x, H1, I1, rx, ex, q1⟩ => ?_)
  subst ex
  obtain rfl : u = Value.ref d := rx
  have t1 := kd_type D I1
  refine ⟨t1, fun b q => ?_, ?_⟩
  · cases q
    exact ⟨_, I1.kIn _ _ D.at_, rfl⟩
  rw [m.trees]
  refine Calls.callWith_builtin rfl (Calls.evalArgs_plain (Calls.spliced_cons (thn (he.run pins s1 σ H1 _ I1 q1) fun iv s2 ⟨y, H2, I2, ry, q2⟩ =>
    Calls.spliced_cons (thn (hf.run pins s2 σ H2 _ I2 q2) fun fv s3 ⟨z, H3, I3, rz, t, r, ey, en, q3⟩ => Calls.spliced_nil ?_))))
  subst ey
  obtain ⟨tk, rfl⟩ := ry
  refine call_meetsIn PySem.F.slot_dict_get (kd_type D I3) PySem.F.entry_dict_get (PySem.F.args_dict_get_3 _ _ _) (meets_dict_get_default (PySem.strKind X.prog X.w) d (PySem.strKind_is X.prog X.w ⟨⟨t⟩⟩ tk) D.low fv) ⟨_, PySem.W.mapOf_K (prog := X.prog) I3.kIn D.at_ D.lit, ?_⟩
  rw [PySem.W.find_K D.at_ en]
  cases r with
  | none => exact ⟨z, H3, I3.tok _, rz, q3⟩
  | some u =>
    obtain ⟨v, rv, qv⟩ := q3
    exact ⟨v, H3, I3.tok _, rv, qv⟩
end
section
variable {K : PySem.W.Frag} {d : Addr} {f : List Nat → Option Addr} {c : List Nat → List (List Nat)} {k : List Nat → Bool}
theorem WDf.get (W : WDf K d f c k) {t : List Nat} {P H : Hp} {p : Addr} {Q : VK} (hp : SqT K P p []) (h : ∀ v, yU K yS P v (c t) → Q v H) :
    ∃ (t' : List Nat) (r : Option Value), S t = S t' ∧ PySem.W.nsIn K d ⟨⟨t'⟩⟩ = some r ∧ kq Q (.ref p) H r := by
  refine ⟨t, _, rfl, W.ns t, ?_⟩
  cases e : f t with
  | none =>
    show Q (.ref p) H
    refine h _ ⟨p, [], rfl, hp, ?_⟩
    rw [W.no t e]
    exact .nil
  | some a =>
    show ∃ v, RelV v (Value.ref a) ∧ Q v H
    exact ⟨.ref a, rfl, h _ ⟨a, _, rfl, W.sq t a e P, strs_ar _⟩⟩
theorem WDf.isin (W : WDf K d f c k) (t : List Nat) : ((f t).map Value.ref).isSome = k t := by
  rw [Option.isSome_map]
  exact W.has t
end

section
variable {K : PySem.W.Frag} {d : Addr} {n : Nat}
def fA : List (List Nat × Addr) → List Nat → Option Addr
  | [], _ => none
  | (c, a) :: r, t => if t = c then some a else fA r t
def entOk : List DictEntry → List (List Nat × Addr) → Prop
  | [], [] => True
  | e :: es, (c, a) :: r => (∃ (x : Str) (k : Tok), e.key = .str x k ∧ x = ⟨⟨c⟩⟩ ∧ e.val = .ref a) ∧ entOk es r
  | _, _ => False
theorem find_ent : ∀ {es : List DictEntry} {cs : List (List Nat × Addr)} (t : List Nat), entOk es cs → (es.find? (·.key.isStr ⟨⟨t⟩⟩)).map (·.val) = (fA cs t).map Value.ref
  | [], [], _, _ => rfl
  | e :: es, (c, a) :: r, t, h => by
    obtain ⟨⟨x, k, h1, h2, h3⟩, h4⟩ := h
    subst h2
    have ih := find_ent t h4
    rw [List.find?_cons, fA, h1]
    by_cases q : t = c
    · subst q
      have e1 : Value.isStr (.str ⟨⟨t⟩⟩ k) ⟨⟨t⟩⟩ = true := by simp [Value.isStr]
      rw [e1, if_pos rfl]
      show some e.val = some (Value.ref a)
      rw [h3]
    · have e1 : Value.isStr (.str ⟨⟨c⟩⟩ k) ⟨⟨t⟩⟩ = false := by
        simp only [Value.isStr]
        rw [beq_eq_false_iff_ne]
        intro z
        apply q
        injection z with z
        injection z with z
        first
          | exact z
          | exact z.symm
      rw [e1, if_neg q]
      exact ih
theorem ref_ent : ∀ {es : List DictEntry} {cs : List (List Nat × Addr)}, entOk es cs → es.any (·.refKey) = false
  | [], [], _ => rfl
  | e :: es, (c, a) :: r, h => by
    obtain ⟨⟨x, k, h1, h2, h3⟩, h4⟩ := h
    rw [List.any_cons, ref_ent h4]
    have : e.refKey = false := by
      unfold DictEntry.refKey
      rw [h1]
    rw [this]
    rfl
theorem ns_ent {es : Array DictEntry} {cs : List (List Nat × Addr)} (l : K.lookup d = some ⟨.type "dict", none, .dict es n, #[]⟩) (h : entOk es.toList cs) (t : List Nat) : PySem.W.nsIn K d ⟨⟨t⟩⟩ = some ((fA cs t).map Value.ref) := by
  unfold PySem.W.nsIn
  rw [l]
  have e := find_ent t h
  show (match es.toList.find? (·.key.isStr ⟨⟨t⟩⟩) with | some e => some (some e.val) | none => if es.toList.any (·.refKey) then none else some none) = _
  cases q : es.toList.find? (·.key.isStr ⟨⟨t⟩⟩) with
  | none =>
    rw [q] at e
    show (if es.toList.any (·.refKey) then none else some none) = _
    rw [ref_ent h, ← e]
    rfl
  | some z =>
    rw [q] at e
    show some (some z.val) = _
    rw [← e]
    rfl
end
end G
namespace G
open PySem PySem.Spec PyProof.Rows L2
def topS (i : Nat) : Stmt := PySem.Challenge.pw_regrow_k05_places.main.body.getD i (.Pass ⟨0, 0, 0, 0⟩)
abbrev s_take : Stmt := topS 6
abbrev s_box : Stmt := topS 5
abbrev s_allows : Stmt := topS 2
abbrev s_law_allows : Stmt := topS 7
abbrev s_overlap : Stmt := topS 3
abbrev s_law : Stmt := topS 8
def ALLOWED_T (t : List Nat) : List (List Nat) := if t = (cs "any") then [cs "none", cs "letter", cs "figure", cs "mark"] else if t = (cs "opening") then [cs "none", cs "mark"] else if t = (cs "inner") then [cs "letter"] else if t = (cs "unit") then [cs "figure"] else []
def ALLOWED_K (t : List Nat) : Bool := decide (t ∈ [(cs "any"), (cs "opening"), (cs "inner"), (cs "unit")])
structure GA where
  z0 : Addr
  dALLOWED : Addr
  dALLOWED0 : Addr
  dALLOWED1 : Addr
  dALLOWED2 : Addr
  dALLOWED3 : Addr
structure Fa (K : PySem.W.Frag) (G : GA) : Prop where
  tr : True
  wALLOWED : WDf K G.dALLOWED (fA [((cs "any"), G.dALLOWED0), ((cs "opening"), G.dALLOWED1), ((cs "inner"), G.dALLOWED2), ((cs "unit"), G.dALLOWED3)]) ALLOWED_T ALLOWED_K
structure Tx (w : World) (K : PySem.W.Frag) (G : GA) (mg : Str → Option Value) : Prop where
  fa : Fa K G
  d_take : ∃ f fd, Fun K "_law_take" "_law_take" s_take f fd ∧ Binds K fd ["_law_box_here", "_law_size"] [] ∧ mg "_law_take" = some (.ref f)
  d_box : ∃ f fd, Fun K "_law_box" "_law_box" s_box f fd ∧ Binds K fd ["_law_script"] [] ∧ mg "_law_box" = some (.ref f)
  d_allows : ∃ f fd, Fun K "allows" "allows" s_allows f fd ∧ Binds K fd ["place", "kind"] [] ∧ mg "allows" = some (.ref f)
  d_law_allows : ∃ f fd, Fun K "_law_allows" "_law_allows" s_law_allows f fd ∧ Binds K fd ["_law_place", "_law_kind"] [] ∧ mg "_law_allows" = some (.ref f)
  d_overlap : ∃ f fd, Fun K "overlap" "overlap" s_overlap f fd ∧ Binds K fd ["place", "other"] [] ∧ mg "overlap" = some (.ref f)
  d_law : ∃ f fd, Fun K "law" "law" s_law f fd ∧ Binds K fd ["_law_script"] [] ∧ mg "law" = some (.ref f)
  z_abs : mg "abs" = none
  z_bool : mg "bool" = none
  z_int : mg "int" = none
  z_isinstance : mg "isinstance" = none
  z_len : mg "len" = none
  g_ALLOWED : ∃ u, mg "ALLOWED" = some u ∧ RelV (V.ref G.dALLOWED) u
  k_ALLOWED : KD K w G.dALLOWED

def sp_take (K : PySem.W.Frag) (G : GA) : Sp := fun vs H Q _ => ∃ (P : Hp) (cs0 : Cs) (a l : Addr) (ns : List Int) (b : Box) (n : Int) (R0 : Int × Box), vs = [.ref a, .int n] ∧ Wd P H ((a, boxO l b) :: cs0) ∧ SqL K P l (ns.map V.int) ∧ takeO ns b n = some R0 ∧
  ∀ (H1 P1 : Hp), Ext P P1 → Wd P1 H1 ((a, boxO l R0.2) :: cs0) → Q (.int R0.1) H1
theorem sc_take : FnScope ["_law_box_here", "_law_size", "_law_cell", "_law_digit"] ["_law_box_here", "_law_size"] (defScope s_take) := ⟨rfl, rfl, rfl, by decide +kernel, rfl, by decide +kernel, by decide +kernel⟩
theorem c_take {P : Program} {w : World} {K : PySem.W.Frag} {mg : Str → Option Value} {base : Heap} {G : GA} (T : Tx w K G mg) : Cal P w K mg base 1 "_law_take" (sp_take K G) := by
  obtain ⟨f, fd, F, b, g⟩ := T.d_take
  refine ⟨f, fd, _, F.ok sc_take (fun vs H Q E h => ?_) (fun cdv A outer s H vs Q E hr h => ⟨tTakeR K, ?_, ?_⟩), g, F.kp, b⟩
  · obtain ⟨_, _, _, _, _, _, _, _, rfl, _⟩ := h
    rfl
  · exact pss_cons (ps_if (PW.pt (pw_and (pt_cmpR o_lt (pe_ix ix_list (pv 0) pe_int (fun _ _ => rfl)) pe_int (nomark _)) (pw_and1 (pt_cmpR o_lt (pe_ix ix_list (pv 0) pe_int (fun _ _ => rfl)) (pe_callB c_lenL (by rfl) T.z_len PySem.boot_len (pa_cons (pe_ix ix_list (pv 0) pe_int (fun _ _ => rfl)) pa_nil)) (nomark _)))))
        (pss_cons (ps_set (i := 2) sc_take.nd rfl (.inl rfl) (pe_ix ix_list (pe_ix ix_list (pv 0) pe_int (fun _ _ => rfl)) (pe_ix ix_list (pv 0) pe_int (fun _ _ => rfl)) (fun _ _ => rfl)))
        (pss_cons (ps_asg (pe_op o_add (pe_ix ix_list (pv 0) pe_int (fun _ _ => rfl)) pe_int) (pg_sub (pv 0) pe_int set_list))
        (pss_cons (ps_asg (pe_op o_mod (pe_callTy c_int (by rfl) T.z_int (by decide +kernel) (pa_cons (pe_op o_add (pe_op o_add (pe_op o_mul (pe_ix ix_list (pv 0) pe_int (fun _ _ => rfl)) pe_int) (pe_op o_mul (pe_op o_mod (pe_callTy c_int (by rfl) T.z_int (by decide +kernel) (pa_cons (pv 2) pa_nil)) pe_int) pe_int)) pe_int) pa_nil)) pe_int) (pg_sub (pv 0) pe_int set_list))
        (pss_one (ps_if (pt_cmpR o_ge (pv 2) (pe_op o_pow pe_int pe_int) (nomark _)) (pss_one (ps_asg (pe_op o_sub (pv 2) (pe_op o_pow pe_int pe_int)) (pg_sub (pv 0) pe_int set_list))) pss_nil)))))
        pss_nil)
      (pss_cons (ps_if (pt_cmpR o_gt (pe_ix ix_list (pv 0) pe_int (fun _ _ => rfl)) pe_int (nomark _))
        (pss_cons (ps_set (i := 3) sc_take.nd rfl (.inl rfl) (pe_op o_mod (pe_callTy c_int (by rfl) T.z_int (by decide +kernel) (pa_cons (pe_ix ix_list (pv 0) pe_int (fun _ _ => rfl)) pa_nil)) (pv 1)))
        (pss_cons (ps_asg (pe_op o_div (pe_ix ix_list (pv 0) pe_int (fun _ _ => rfl)) (pv 1)) (pg_sub (pv 0) pe_int set_list))
        (pss_one (ps_ret (pv 3))))) pss_nil)
      (pss_cons (ps_asg (pe_op o_mod (pe_callTy c_int (by rfl) T.z_int (by decide +kernel) (pa_cons (pe_op o_add (pe_op o_mul (pe_ix ix_list (pv 0) pe_int (fun _ _ => rfl)) pe_int) pe_int) pa_nil)) pe_int) (pg_sub (pv 0) pe_int set_list))
      (pss_one (ps_ret (pe_op o_mod (pe_callTy c_int (by rfl) T.z_int (by decide +kernel) (pa_cons (pe_op o_div (pe_ix ix_list (pv 0) pe_int (fun _ _ => rfl)) pe_int) pa_nil)) (pv 1))))))
  · obtain ⟨P, cs0, a, l, ns, b, n, R0, rfl, w, hl, e, q⟩ := h
    obtain ⟨⟨n0, n1⟩, rfl⟩ := takeO_some e
    exact rd_takeR w hl n0 n1 (fun H1 w1 => q H1 P (Ext.refl _) w1)
def sp_box (K : PySem.W.Frag) (G : GA) : Sp := fun vs H Q _ => ∃ (P : Hp) (cs0 : Cs) (a : Addr) (ns : List Int), vs = [.ref a] ∧ Wd P H cs0 ∧ SqL K P a (ns.map V.int) ∧ ns.length ≤ 63 ∧
  ∀ (H1 P1 : Hp) (p l : Addr), Ext P P1 → Wd P1 H1 ((p, boxO l box0) :: cs0) → SqL K P1 l ((absL ns).map V.int) → Q (.ref p) H1
theorem sc_box : FnScope ["_law_script", "_law_cell"] ["_law_script"] (defScope s_box) := ⟨rfl, rfl, rfl, by decide +kernel, rfl, by decide +kernel, by decide +kernel⟩
theorem c_box {P : Program} {w : World} {K : PySem.W.Frag} {mg : Str → Option Value} {base : Heap} {G : GA} (T : Tx w K G mg) : Cal P w K mg base 1 "_law_box" (sp_box K G) := by
  obtain ⟨f, fd, F, b, g⟩ := T.d_box
  refine ⟨f, fd, _, F.ok sc_box (fun vs H Q E h => ?_) (fun cdv A outer s H vs Q E hr h => ⟨tBoxR K, ?_, ?_⟩), g, F.kp, b⟩
  · obtain ⟨_, _, _, _, rfl, _⟩ := h
    rfl
  · exact pss_one (ps_ret (pe_lst (pa_cons (pe_lc (own := [("_law_cell", 1)]) rfl sc_box.nd (pi_list (pe_slice sl_list (pv 0) po_none (po_some pe_int))) (blkOk_by (N := ["_law_script", "_law_cell"]) (sc := defScope s_box) (by decide +kernel)) (fun _ _ _ _ _ => pg_name (i := 1) sc_box.nd rfl (Or.inl rfl)) (fun _ _ _ _ _ => pts_nil) (fun _ _ _ _ _ => pe_callB call_abs (by rfl) T.z_abs (by decide +kernel) (pa_cons (pv 1) pa_nil))) (pa_cons pe_int (pa_cons pe_int (pa_cons pe_int pa_nil))))))
  · obtain ⟨P, cs0, a, ns, rfl, w, hl, hlen, q⟩ := h
    exact rd_boxR w hl hlen q

def m_allows (place1 : (List Nat)) (kind1 : (List Nat)) : Option Bool :=
  (some (decide (kind1 ∈ (ALLOWED_T place1))))
def sp_allows (K : PySem.W.Frag) (G : GA) : Sp := fun vs H Q _ => ∃ (P : Hp) (cs0 : Cs) (place1 : (List Nat)) (kind1 : (List Nat)) (R0 : Bool), vs = [(S place1), (S kind1)] ∧ Wd P H (cs0) ∧ m_allows place1 kind1 = some R0 ∧ ∀ (H1 P1 : Hp), Ext P P1 → Wd P1 H1 (cs0) → Q (V.bl R0) H1
def t_allows (K : PySem.W.Frag) (G : GA) : TS := (tRet (tOp (rInTS K) (tVar 1) (tKGet K G.dALLOWED (tC (V.ref G.dALLOWED)) (tVar 0) (tTup tNil))))
theorem sc_allows : FnScope ["place", "kind"] ["place", "kind"] (defScope s_allows) := ⟨rfl, rfl, rfl, by decide +kernel, rfl, by decide +kernel, by decide +kernel⟩
theorem rd_allows {K : PySem.W.Frag} {G : GA} (F : Fa K G) (vs : List V) (H : Hp) (Q : VK) (E : XK) (h : sp_allows K G vs H Q E) : t_allows K G { nx := fun _ H1 => Q .non H1, rt := Q } (L2.start ["place", "kind"] vs) H := by
  obtain ⟨P, cs0, place1, kind1, R0, rfl, w, eR, q⟩ := h
  unfold m_allows at eR
  refine ⟨_, rfl, rfl, _, rfl, (by decide), fun p1 np1 => ?_⟩
  have e1 := w.fext np1 (HO.tup [])
  have w1 := w.frz np1 (HO.tup [])
  have fq1 : upd P p1 (HO.tup []) p1 = some (HO.tup []) := upd_same
  generalize upd H p1 (HO.tup []) = H1 at w1 ⊢
  generalize upd P p1 (HO.tup []) = P1 at w1 e1 fq1
  refine F.wALLOWED.get (P := P1) (.inl (.inl fq1)) fun v1 hv1 => ?_
  obtain ⟨a1, vs1, rfl, sq1, al1⟩ := hv1
  refine ⟨kind1, a1, (ALLOWED_T place1), rfl, rfl, (.inr (ar_strs al1 ▸ (w1.sqt sq1))), ?_⟩
  obtain rfl := Option.some.inj eR
  exact q H1 P1 e1 w1
theorem fn_allows {P : Program} {w : World} {K : PySem.W.Frag} {mg : Str → Option Value} {base : Heap} {G : GA} {f : Addr} {fd : FuncData} (T : Tx w K G mg) (F : Fun K "allows" "allows" s_allows f fd) : FnOk P w K mg base CX0 1 f fd ["place", "kind"] (sp_allows K G) := by
  refine F.ok sc_allows (fun vs H Q E h => ?_) (fun cdv A outer s H vs Q E hr h => ⟨t_allows K G, ?_, rd_allows T.fa vs H Q E h⟩)
  · obtain ⟨_, _, _, _, _, rfl, _⟩ := h
    rfl
  · exact (pss_one (ps_ret (pe_cmpR o_inTS (pv 1) (pe_kget T.k_ALLOWED (pe_gc (by rfl) T.g_ALLOWED) (pv 0) (pe_tup pa_nil) ⟨rfl, rfl, rfl, rfl⟩) (by rfl))))
theorem c_allows {P : Program} {w : World} {K : PySem.W.Frag} {mg : Str → Option Value} {base : Heap} {G : GA} (T : Tx w K G mg) : Cal P w K mg base 1 "allows" (sp_allows K G) := by
  obtain ⟨f, fd, F, b, g⟩ := T.d_allows
  exact ⟨f, fd, _, fn_allows T F, g, F.kp, b⟩

def m_law_allows (place1 : (List Nat)) (kind1 : (List Nat)) : Option Bool :=
  (if (decide (place1 = (cs "any"))) then (some true) else (if (decide (place1 = (cs "opening"))) then (some ((decide (kind1 = (cs "none"))) || (decide (kind1 = (cs "mark"))))) else (chk (inR ([(cs "letter"), (cs "figure")] : List (List Nat)).length (if (decide (place1 = (cs "unit"))) then 1 else 0 : Int)) (some (decide (kind1 = (([(cs "letter"), (cs "figure")] : List (List Nat)).getD (ixP ([(cs "letter"), (cs "figure")] : List (List Nat)).length (if (decide (place1 = (cs "unit"))) then 1 else 0 : Int)) ([] : List Nat))))))))
def sp_law_allows (K : PySem.W.Frag) (G : GA) : Sp := fun vs H Q _ => ∃ (P : Hp) (cs0 : Cs) (place1 : (List Nat)) (kind1 : (List Nat)) (R0 : Bool), vs = [(S place1), (S kind1)] ∧ Wd P H (cs0) ∧ m_law_allows place1 kind1 = some R0 ∧ ∀ (H1 P1 : Hp), Ext P P1 → Wd P1 H1 (cs0) → Q (V.bl R0) H1
def t_law_allows (K : PySem.W.Frag) (G : GA) : TS := (tSeq (tIfS (tTest (tOp rEqS (tVar 0) (tC (S (cs "any"))))) (tRet (tC (V.bl true))) tNext) (tSeq (tIfS (tTest (tOp rEqS (tVar 0) (tC (S (cs "opening"))))) (tRet (tOrV (tOp rEqS (tVar 1) (tC (S (cs "none")))) (tOp rEqS (tVar 1) (tC (S (cs "mark")))))) tNext) (tRet (tOp rEqS (tVar 1) (tOp (rIxL K) (tLst (tCons (tC (S (cs "letter"))) (tCons (tC (S (cs "figure"))) tNil))) (tCB rInt (tCons (tOp rEqS (tVar 0) (tC (S (cs "unit")))) tNil)))))))
theorem sc_law_allows : FnScope ["_law_place", "_law_kind"] ["_law_place", "_law_kind"] (defScope s_law_allows) := ⟨rfl, rfl, rfl, by decide +kernel, rfl, by decide +kernel, by decide +kernel⟩
theorem rd_law_allows {K : PySem.W.Frag} {G : GA} (F : Fa K G) (vs : List V) (H : Hp) (Q : VK) (E : XK) (h : sp_law_allows K G vs H Q E) : t_law_allows K G { nx := fun _ H1 => Q .non H1, rt := Q } (L2.start ["_law_place", "_law_kind"] vs) H := by
  obtain ⟨P, cs0, place1, kind1, R0, rfl, w, eR, q⟩ := h
  unfold m_law_allows at eR
  refine ⟨_, rfl, _, _, rfl, rfl, _, rfl, ?_⟩
  refine iteB (fun hb1 => ?_) (fun hb1 => ?_)
  · rw [ite_t hb1] at eR
    obtain rfl := Option.some.inj eR
    exact q H P (Ext.refl _) w
  · rw [ite_f hb1] at eR
    refine ⟨_, rfl, _, _, rfl, rfl, _, rfl, ?_⟩
    refine iteB (fun hb2 => ?_) (fun hb2 => ?_)
    · rw [ite_t hb2] at eR
      have hB1 : ∀ Q : VK, (∀ Hz Pz, Ext P Pz → Wd Pz Hz (cs0) → Q (V.bl ((decide (kind1 = (cs "none"))) || (decide (kind1 = (cs "mark"))))) Hz) → (tOrV (tOp rEqS (tVar 1) (tC (S (cs "none")))) (tOp rEqS (tVar 1) (tC (S (cs "mark"))))) [some (S place1), some (S kind1)] H Q := by
        intro Q hQ
        refine ⟨_, rfl, _, _, rfl, rfl, _, rfl, ?_⟩
        refine iteB (fun hb3 => ?_) (fun hb3 => ?_)
        · have hq1 := hQ H P (Ext.refl _) w
          rw [hb3, Bool.true_or] at hq1
          exact hq1
        · refine ⟨_, rfl, _, _, rfl, rfl, ?_⟩
          have hq2 := hQ H P (Ext.refl _) w
          rw [hb3, Bool.false_or] at hq2
          exact hq2
      refine hB1 _ fun H1 P1 e1 w1 => ?_
      obtain rfl := Option.some.inj eR
      exact q H1 P1 e1 w1
    · rw [ite_f hb2] at eR
      refine ⟨_, rfl, (by show 2 ≤ sizeLine; decide), fun p1 np1 => ?_⟩
      have al1 : AR yS P ([(S (cs "letter")), (S (cs "figure"))] : List V) ([(cs "letter"), (cs "figure")] : List (List Nat)) := (AR.cons rfl (AR.cons rfl AR.nil))
      have e2 := w.fext np1 (HO.lst ([(S (cs "letter")), (S (cs "figure"))] : List V))
      have w2 := w.frz np1 (HO.lst ([(S (cs "letter")), (S (cs "figure"))] : List V))
      have fq1 : upd P p1 (HO.lst ([(S (cs "letter")), (S (cs "figure"))] : List V)) p1 = some (HO.lst ([(S (cs "letter")), (S (cs "figure"))] : List V)) := upd_same
      generalize upd H p1 (HO.lst ([(S (cs "letter")), (S (cs "figure"))] : List V)) = H2 at w2 ⊢
      generalize upd P p1 (HO.lst ([(S (cs "letter")), (S (cs "figure"))] : List V)) = P2 at w2 e2 fq1
      have al2 := (AR.up e2 al1)
      refine ⟨_, rfl, _, _, rfl, rfl, ?_⟩
      refine Or.inr ?_
      obtain ⟨hc1, eR⟩ := chk_some eR
      obtain ⟨v1, hat1, hd1⟩ := AR.getI (i := (if (decide (place1 = (cs "unit"))) then 1 else 0 : Int)) (d := ([] : List Nat)) al2 hc1
      obtain rfl : v1 = (S (([(cs "letter"), (cs "figure")] : List (List Nat)).getD (ixP ([(cs "letter"), (cs "figure")] : List (List Nat)).length (if (decide (place1 = (cs "unit"))) then 1 else 0 : Int)) ([] : List Nat))) := hd1
      refine ⟨_, rfl, p1, _, _, _, rfl, rfl, (.inl (.inl (w2.sub _ _ fq1))), hat1, _, _, rfl, rfl, ?_⟩
      obtain rfl := Option.some.inj eR
      exact q H2 P2 e2 w2
theorem fn_law_allows {P : Program} {w : World} {K : PySem.W.Frag} {mg : Str → Option Value} {base : Heap} {G : GA} {f : Addr} {fd : FuncData} (T : Tx w K G mg) (F : Fun K "_law_allows" "_law_allows" s_law_allows f fd) : FnOk P w K mg base CX0 1 f fd ["_law_place", "_law_kind"] (sp_law_allows K G) := by
  refine F.ok sc_law_allows (fun vs H Q E h => ?_) (fun cdv A outer s H vs Q E hr h => ⟨t_law_allows K G, ?_, rd_law_allows T.fa vs H Q E h⟩)
  · obtain ⟨_, _, _, _, _, rfl, _⟩ := h
    rfl
  · exact (pss_cons (ps_if (pt_cmpR o_eqS (pv 0) pe_strS (nomark _)) (pss_one (ps_ret pe_bl)) pss_nil) (pss_cons (ps_if (pt_cmpR o_eqS (pv 0) pe_strS (nomark _)) (pss_one (ps_ret (pe_or (pe_cmpR o_eqS (pv 1) pe_strS (nomark _)) (pe_one (pe_cmpR o_eqS (pv 1) pe_strS (nomark _)))))) pss_nil) (pss_one (ps_ret (pe_cmpR o_eqS (pv 1) (pe_ix ix_list (pe_lst (pa_cons pe_strS (pa_cons pe_strS pa_nil))) (pe_callTy c_int (by rfl) T.z_int (by decide +kernel) (pa_cons (pe_cmpR o_eqS (pv 0) pe_strS (nomark _)) pa_nil)) (fun _ _ => rfl)) (nomark _))))))
theorem c_law_allows {P : Program} {w : World} {K : PySem.W.Frag} {mg : Str → Option Value} {base : Heap} {G : GA} (T : Tx w K G mg) : Cal P w K mg base 1 "_law_allows" (sp_law_allows K G) := by
  obtain ⟨f, fd, F, b, g⟩ := T.d_law_allows
  exact ⟨f, fd, _, fn_law_allows T F, g, F.kp, b⟩

def m_overlap (place1 : (List Nat)) (other1 : (List Nat)) : Option Bool :=
  (some ((decide (place1 = other1)) || ((decide (place1 = (cs "any"))) || (decide (other1 = (cs "any"))))))
def sp_overlap (K : PySem.W.Frag) (G : GA) : Sp := fun vs H Q _ => ∃ (P : Hp) (cs0 : Cs) (place1 : (List Nat)) (other1 : (List Nat)) (R0 : Bool), vs = [(S place1), (S other1)] ∧ Wd P H (cs0) ∧ m_overlap place1 other1 = some R0 ∧ ∀ (H1 P1 : Hp), Ext P P1 → Wd P1 H1 (cs0) → Q (V.bl R0) H1
def t_overlap (K : PySem.W.Frag) (G : GA) : TS := (tRet (tOrV (tOp rEqS (tVar 0) (tVar 1)) (tOrV (tOp rEqS (tVar 0) (tC (S (cs "any")))) (tOp rEqS (tVar 1) (tC (S (cs "any")))))))
theorem sc_overlap : FnScope ["place", "other"] ["place", "other"] (defScope s_overlap) := ⟨rfl, rfl, rfl, by decide +kernel, rfl, by decide +kernel, by decide +kernel⟩
theorem rd_overlap {K : PySem.W.Frag} {G : GA} (F : Fa K G) (vs : List V) (H : Hp) (Q : VK) (E : XK) (h : sp_overlap K G vs H Q E) : t_overlap K G { nx := fun _ H1 => Q .non H1, rt := Q } (L2.start ["place", "other"] vs) H := by
  obtain ⟨P, cs0, place1, other1, R0, rfl, w, eR, q⟩ := h
  unfold m_overlap at eR
  have hB1 : ∀ Q : VK, (∀ Hz Pz, Ext P Pz → Wd Pz Hz (cs0) → Q (V.bl ((decide (place1 = other1)) || ((decide (place1 = (cs "any"))) || (decide (other1 = (cs "any")))))) Hz) → (tOrV (tOp rEqS (tVar 0) (tVar 1)) (tOrV (tOp rEqS (tVar 0) (tC (S (cs "any")))) (tOp rEqS (tVar 1) (tC (S (cs "any")))))) [some (S place1), some (S other1)] H Q := by
    intro Q hQ
    refine ⟨_, rfl, _, rfl, _, _, rfl, rfl, _, rfl, ?_⟩
    refine iteB (fun hb1 => ?_) (fun hb1 => ?_)
    · have hq1 := hQ H P (Ext.refl _) w
      rw [hb1, Bool.true_or] at hq1
      exact hq1
    · refine ⟨_, rfl, _, _, rfl, rfl, _, rfl, ?_⟩
      refine iteB (fun hb2 => ?_) (fun hb2 => ?_)
      · have hq2 := hQ H P (Ext.refl _) w
        rw [hb1, Bool.false_or] at hq2
        rw [hb2, Bool.true_or] at hq2
        exact hq2
      · refine ⟨_, rfl, _, _, rfl, rfl, ?_⟩
        have hq3 := hQ H P (Ext.refl _) w
        rw [hb1, Bool.false_or] at hq3
        rw [hb2, Bool.false_or] at hq3
        exact hq3
  refine hB1 _ fun H1 P1 e1 w1 => ?_
  obtain rfl := Option.some.inj eR
  exact q H1 P1 e1 w1
theorem fn_overlap {P : Program} {w : World} {K : PySem.W.Frag} {mg : Str → Option Value} {base : Heap} {G : GA} {f : Addr} {fd : FuncData} (T : Tx w K G mg) (F : Fun K "overlap" "overlap" s_overlap f fd) : FnOk P w K mg base CX0 1 f fd ["place", "other"] (sp_overlap K G) := by
  refine F.ok sc_overlap (fun vs H Q E h => ?_) (fun cdv A outer s H vs Q E hr h => ⟨t_overlap K G, ?_, rd_overlap T.fa vs H Q E h⟩)
  · obtain ⟨_, _, _, _, _, rfl, _⟩ := h
    rfl
  · exact (pss_one (ps_ret (pe_or (pe_cmpR o_eqS (pv 0) (pv 1) (nomark _)) (pe_or (pe_cmpR o_eqS (pv 0) pe_strS (nomark _)) (pe_one (pe_cmpR o_eqS (pv 1) pe_strS (nomark _)))))))
theorem c_overlap {P : Program} {w : World} {K : PySem.W.Frag} {mg : Str → Option Value} {base : Heap} {G : GA} (T : Tx w K G mg) : Cal P w K mg base 1 "overlap" (sp_overlap K G) := by
  obtain ⟨f, fd, F, b, g⟩ := T.d_overlap
  exact ⟨f, fd, _, fn_overlap T F, g, F.kp, b⟩

def bd_law_1 (t1 : (Int × Box)) (t2 : (Int × Box)) (it1 : (List Nat)) : Option (Option (List Nat)) :=
  (ob (ob (m_law_allows (([(cs "any"), (cs "opening"), (cs "inner"), (cs "unit")] : List (List Nat)).getD (ixP ([(cs "any"), (cs "opening"), (cs "inner"), (cs "unit")] : List (List Nat)).length t1.1) ([] : List Nat)) it1) (fun (t9 : Bool) => (if t9 then (ob (m_law_allows (([(cs "any"), (cs "opening"), (cs "inner"), (cs "unit")] : List (List Nat)).getD (ixP ([(cs "any"), (cs "opening"), (cs "inner"), (cs "unit")] : List (List Nat)).length t2.1) ([] : List Nat)) it1) (fun (t10 : Bool) => (some t10))) else (some false)))) (fun (t8 : Bool) => (if t8 then (some (some it1)) else (some (none : Option (List Nat))))))
def bd_law_2 (t1 : (Int × Box)) (t2 : (Int × Box)) (it2 : (List Nat)) : Option (Option (List Nat)) :=
  (ob (ob (m_allows (([(cs "any"), (cs "opening"), (cs "inner"), (cs "unit")] : List (List Nat)).getD (ixP ([(cs "any"), (cs "opening"), (cs "inner"), (cs "unit")] : List (List Nat)).length t1.1) ([] : List Nat)) it2) (fun (t13 : Bool) => (if t13 then (ob (m_allows (([(cs "any"), (cs "opening"), (cs "inner"), (cs "unit")] : List (List Nat)).getD (ixP ([(cs "any"), (cs "opening"), (cs "inner"), (cs "unit")] : List (List Nat)).length t2.1) ([] : List Nat)) it2) (fun (t14 : Bool) => (some t14))) else (some false)))) (fun (t12 : Bool) => (if t12 then (some (some it2)) else (some (none : Option (List Nat))))))
def bd_law_3 (t3 : (Int × Box)) (it3 : (List Nat)) (s1 : Unit) : Option (Lr Unit Bool) :=
  (ob (m_allows it3 (([(cs "none"), (cs "letter"), (cs "figure"), (cs "mark")] : List (List Nat)).getD (ixP ([(cs "none"), (cs "letter"), (cs "figure"), (cs "mark")] : List (List Nat)).length t3.1) ([] : List Nat))) (fun (t17 : Bool) => (if (!(decide (t17 = false))) then (some (Lr.rt false)) else (some (Lr.nx ())))))
def m_law (ns : List Int) : Option Bool :=
  (ob (takeO ns box0 4) (fun (t1 : (Int × Box)) => (chk (inR ([(cs "any"), (cs "opening"), (cs "inner"), (cs "unit")] : List (List Nat)).length t1.1) (ob (takeO ns t1.2 4) (fun (t2 : (Int × Box)) => (chk (inR ([(cs "any"), (cs "opening"), (cs "inner"), (cs "unit")] : List (List Nat)).length t2.1) (ob (takeO ns t2.2 4) (fun (t3 : (Int × Box)) => (chk (inR ([(cs "none"), (cs "letter"), (cs "figure"), (cs "mark")] : List (List Nat)).length t3.1) (ob (m_allows (([(cs "any"), (cs "opening"), (cs "inner"), (cs "unit")] : List (List Nat)).getD (ixP ([(cs "any"), (cs "opening"), (cs "inner"), (cs "unit")] : List (List Nat)).length t1.1) ([] : List Nat)) (([(cs "none"), (cs "letter"), (cs "figure"), (cs "mark")] : List (List Nat)).getD (ixP ([(cs "none"), (cs "letter"), (cs "figure"), (cs "mark")] : List (List Nat)).length t3.1) ([] : List Nat))) (fun (t4 : Bool) => (ob (if (!true) then (some true) else (ob (m_law_allows (([(cs "any"), (cs "opening"), (cs "inner"), (cs "unit")] : List (List Nat)).getD (ixP ([(cs "any"), (cs "opening"), (cs "inner"), (cs "unit")] : List (List Nat)).length t1.1) ([] : List Nat)) (([(cs "none"), (cs "letter"), (cs "figure"), (cs "mark")] : List (List Nat)).getD (ixP ([(cs "none"), (cs "letter"), (cs "figure"), (cs "mark")] : List (List Nat)).length t3.1) ([] : List Nat))) (fun (t6 : Bool) => (some (!(decide (t4 = t6))))))) (fun (t5 : Bool) => (if t5 then (some false) else (chk (([(cs "none"), (cs "letter"), (cs "figure"), (cs "mark")] : List (List Nat)).length ≤ 1000000) (ob (fpo (bd_law_1 t1 t2) ([(cs "none"), (cs "letter"), (cs "figure"), (cs "mark")] : List (List Nat))) (fun (t7 : (List (List Nat))) => (chk (([(cs "none"), (cs "letter"), (cs "figure"), (cs "mark")] : List (List Nat)).length ≤ 1000000) (ob (fpo (bd_law_2 t1 t2) ([(cs "none"), (cs "letter"), (cs "figure"), (cs "mark")] : List (List Nat))) (fun (t11 : (List (List Nat))) => (ob (m_overlap (([(cs "any"), (cs "opening"), (cs "inner"), (cs "unit")] : List (List Nat)).getD (ixP ([(cs "any"), (cs "opening"), (cs "inner"), (cs "unit")] : List (List Nat)).length t1.1) ([] : List Nat)) (([(cs "any"), (cs "opening"), (cs "inner"), (cs "unit")] : List (List Nat)).getD (ixP ([(cs "any"), (cs "opening"), (cs "inner"), (cs "unit")] : List (List Nat)).length t2.1) ([] : List Nat))) (fun (t15 : Bool) => (ob (itr (bd_law_3 t3) ([(cs ""), (cs "none"), (cs "letter"), (cs "anything")] : List (List Nat)) ()) (fun (t16 : (Lr Unit Bool)) => Lr.el t16 (fun (r : Bool) => some r) (fun (s2 : Unit) => (ob (if true then (chk ((okL okS) t7 = true ∧ (okL okS) ([] : List (List Nat)) = true) (if (decide (t15 = (!(decide (t7 = ([] : List (List Nat))))))) then (chk ((okL okS) t11 = true ∧ (okL okS) t7 = true) (some (decide (t11 = t7)))) else (some false))) else (some false)) (fun (t18 : Bool) => (some t18))))))))))))))))))))))))))))
def sp_law (K : PySem.W.Frag) (G : GA) : Sp := fun vs H Q _ => ∃ (P : Hp) (cs0 : Cs) (ascr : Addr) (ns0 : List Int) (R0 : Bool), vs = [V.ref ascr] ∧ Wd P H (cs0) ∧ SqL K P ascr (ns0.map V.int) ∧ ns0.length ≤ 63 ∧ m_law (absL ns0) = some R0 ∧ ∀ (H1 P1 : Hp), Ext P P1 → Wd P1 H1 (cs0) → Q (V.bl R0) H1
def t_law (K : PySem.W.Frag) (G : GA) : TS := (tSeq (tAsg (tCall (sp_box K G) [] E0 (tCons (tVar 0) tNil)) (gName 1)) (tSeq (tAsg (tLst (tCons (tC (S (cs "any"))) (tCons (tC (S (cs "opening"))) (tCons (tC (S (cs "inner"))) (tCons (tC (S (cs "unit"))) tNil))))) (gName 2)) (tSeq (tAsg (tLst (tCons (tC (S (cs "none"))) (tCons (tC (S (cs "letter"))) (tCons (tC (S (cs "figure"))) (tCons (tC (S (cs "mark"))) tNil))))) (gName 3)) (tSeq (tAsg (tOp (rIxL K) (tVar 2) (tCall (sp_take K G) [] E0 (tCons (tVar 1) (tCons (tC (V.int 4)) tNil)))) (gName 4)) (tSeq (tAsg (tOp (rIxL K) (tVar 2) (tCall (sp_take K G) [] E0 (tCons (tVar 1) (tCons (tC (V.int 4)) tNil)))) (gName 5)) (tSeq (tAsg (tOp (rIxL K) (tVar 3) (tCall (sp_take K G) [] E0 (tCons (tVar 1) (tCons (tC (V.int 4)) tNil)))) (gName 6)) (tSeq (tAsg (tCall (sp_allows K G) [] E0 (tCons (tVar 4) (tCons (tVar 6) tNil))) (gName 7)) (tSeq (tIfS (tOr (tNot (tB (tCB (rIsi K) (tCons (tVar 7) (tCons (tC (V.ty "bool")) tNil))))) (tTest (tOp rNeB (tVar 7) (tCall (sp_law_allows K G) [] E0 (tCons (tVar 4) (tCons (tVar 6) tNil)))))) (tRet (tC (V.bl false))) tNext) (tSeq (tAsg (tLc (iList K (tVar 3)) (gName 11) (tAnd (tB (tCall (sp_law_allows K G) [] E0 (tCons (tVar 4) (tCons (tVar 11) tNil)))) (tB (tCall (sp_law_allows K G) [] E0 (tCons (tVar 5) (tCons (tVar 11) tNil))))) (tVar 11) [11]) (gName 8)) (tSeq (tAsg (tLc (iList K (tVar 3)) (gName 11) (tAnd (tB (tCall (sp_allows K G) [] E0 (tCons (tVar 4) (tCons (tVar 11) tNil)))) (tB (tCall (sp_allows K G) [] E0 (tCons (tVar 5) (tCons (tVar 11) tNil))))) (tVar 11) [11]) (gName 9)) (tSeq (tAsg (tCall (sp_overlap K G) [] E0 (tCons (tVar 4) (tCons (tVar 5) tNil))) (gName 7)) (tSeq (tFor (iList K (tLst (tCons (tC (S (cs ""))) (tCons (tC (S (cs "none"))) (tCons (tC (S (cs "letter"))) (tCons (tC (S (cs "anything"))) tNil)))))) (gName 10) (tIfS (tTest (tOp rNotB (tCall (sp_allows K G) [] E0 (tCons (tVar 10) (tCons (tVar 6) tNil))) (tC (V.bl false)))) (tRet (tC (V.bl false))) tNext)) (tRet (tAndV (tCB (rIsi K) (tCons (tVar 7) (tCons (tC (V.ty "bool")) tNil))) (tAndV (tOp rEqB (tVar 7) (tOp (rNeR (yL yS) (okL okS)) (tVar 8) (tLst tNil))) (tOp (rEqR (yL yS) (okL okS)) (tVar 9) (tVar 8)))))))))))))))))
theorem sc_law : FnScope ["_law_script", "_law_box_here", "_law_places", "_law_kinds", "_law_one", "_law_two", "_law_kind", "_law_actual", "_law_both", "_law_seen", "_law_word", "_law_told"] ["_law_script"] (defScope s_law) := ⟨rfl, rfl, rfl, by decide +kernel, rfl, by decide +kernel, by decide +kernel⟩
theorem rd_law {K : PySem.W.Frag} {G : GA} (F : Fa K G) (vs : List V) (H : Hp) (Q : VK) (E : XK) (h : sp_law K G vs H Q E) : t_law K G { nx := fun _ H1 => Q .non H1, rt := Q } (L2.start ["_law_script", "_law_box_here", "_law_places", "_law_kinds", "_law_one", "_law_two", "_law_kind", "_law_actual", "_law_both", "_law_seen", "_law_word", "_law_told"] vs) H := by
  obtain ⟨P, cs0, ascr, ns0, R0, rfl, w, hl0, hlen0, eR, q⟩ := h
  unfold m_law at eR
  refine ⟨_, rfl, P, (cs0), ascr, ns0, rfl, w, hl0, hlen0, fun H1 P1 p1 l1 e1 w1 hl => ?_⟩
  generalize absL ns0 = ns at hl eR
  refine ⟨(by show 4 ≤ sizeLine; decide), fun p2 np1 => ?_⟩
  have al1 : AR yS P1 ([(S (cs "any")), (S (cs "opening")), (S (cs "inner")), (S (cs "unit"))] : List V) ([(cs "any"), (cs "opening"), (cs "inner"), (cs "unit")] : List (List Nat)) := (AR.cons rfl (AR.cons rfl (AR.cons rfl (AR.cons rfl AR.nil))))
  have e2 := w1.fext np1 (HO.lst ([(S (cs "any")), (S (cs "opening")), (S (cs "inner")), (S (cs "unit"))] : List V))
  have w2 := w1.frz np1 (HO.lst ([(S (cs "any")), (S (cs "opening")), (S (cs "inner")), (S (cs "unit"))] : List V))
  have fq1 : upd P1 p2 (HO.lst ([(S (cs "any")), (S (cs "opening")), (S (cs "inner")), (S (cs "unit"))] : List V)) p2 = some (HO.lst ([(S (cs "any")), (S (cs "opening")), (S (cs "inner")), (S (cs "unit"))] : List V)) := upd_same
  generalize upd H1 p2 (HO.lst ([(S (cs "any")), (S (cs "opening")), (S (cs "inner")), (S (cs "unit"))] : List V)) = H2 at w2 ⊢
  generalize upd P1 p2 (HO.lst ([(S (cs "any")), (S (cs "opening")), (S (cs "inner")), (S (cs "unit"))] : List V)) = P2 at w2 e2 fq1
  have al2 := (AR.up e2 al1)
  refine ⟨(by show 4 ≤ sizeLine; decide), fun p3 np2 => ?_⟩
  have al3 : AR yS P2 ([(S (cs "none")), (S (cs "letter")), (S (cs "figure")), (S (cs "mark"))] : List V) ([(cs "none"), (cs "letter"), (cs "figure"), (cs "mark")] : List (List Nat)) := (AR.cons rfl (AR.cons rfl (AR.cons rfl (AR.cons rfl AR.nil))))
  have e3 := w2.fext np2 (HO.lst ([(S (cs "none")), (S (cs "letter")), (S (cs "figure")), (S (cs "mark"))] : List V))
  have w3 := w2.frz np2 (HO.lst ([(S (cs "none")), (S (cs "letter")), (S (cs "figure")), (S (cs "mark"))] : List V))
  have fq2 : upd P2 p3 (HO.lst ([(S (cs "none")), (S (cs "letter")), (S (cs "figure")), (S (cs "mark"))] : List V)) p3 = some (HO.lst ([(S (cs "none")), (S (cs "letter")), (S (cs "figure")), (S (cs "mark"))] : List V)) := upd_same
  generalize upd H2 p3 (HO.lst ([(S (cs "none")), (S (cs "letter")), (S (cs "figure")), (S (cs "mark"))] : List V)) = H3 at w3 ⊢
  generalize upd P2 p3 (HO.lst ([(S (cs "none")), (S (cs "letter")), (S (cs "figure")), (S (cs "mark"))] : List V)) = P3 at w3 e3 fq2
  have al4 := (AR.up e3 al3)
  obtain ⟨t1, et1, eR⟩ := ob_some eR
  refine ⟨_, rfl, _, rfl, P3, (cs0), p1, l1, ns, box0, 4, t1, rfl, w3, (Ext.sql (e2.trans e3) hl), et1, fun H4 P4 e4 w4 => ?_⟩
  obtain ⟨hc1, eR⟩ := chk_some eR
  obtain ⟨v1, hat1, hd1⟩ := AR.getI (i := t1.1) (d := ([] : List Nat)) (AR.up (e3.trans e4) al2) hc1
  obtain rfl : v1 = (S (([(cs "any"), (cs "opening"), (cs "inner"), (cs "unit")] : List (List Nat)).getD (ixP ([(cs "any"), (cs "opening"), (cs "inner"), (cs "unit")] : List (List Nat)).length t1.1) ([] : List Nat))) := hd1
  obtain ⟨t2, et2, eR⟩ := ob_some eR
  refine ⟨p2, _, _, _, rfl, rfl, (.inl (.inl (w4.sub _ _ ((e3.trans e4) _ _ fq1)))), hat1, _, rfl, _, rfl, P4, (cs0), p1, l1, ns, t1.2, 4, t2, rfl, w4, (Ext.sql ((e2.trans e3).trans e4) hl), et2, fun H5 P5 e5 w5 => ?_⟩
  obtain ⟨hc2, eR⟩ := chk_some eR
  obtain ⟨v2, hat2, hd2⟩ := AR.getI (i := t2.1) (d := ([] : List Nat)) (AR.up ((e3.trans e4).trans e5) al2) hc2
  obtain rfl : v2 = (S (([(cs "any"), (cs "opening"), (cs "inner"), (cs "unit")] : List (List Nat)).getD (ixP ([(cs "any"), (cs "opening"), (cs "inner"), (cs "unit")] : List (List Nat)).length t2.1) ([] : List Nat))) := hd2
  obtain ⟨t3, et3, eR⟩ := ob_some eR
  refine ⟨p2, _, _, _, rfl, rfl, (.inl (.inl (w5.sub _ _ (((e3.trans e4).trans e5) _ _ fq1)))), hat2, _, rfl, _, rfl, P5, (cs0), p1, l1, ns, t2.2, 4, t3, rfl, w5, (Ext.sql (((e2.trans e3).trans e4).trans e5) hl), et3, fun H6 P6 e6 w6 => ?_⟩
  obtain ⟨hc3, eR⟩ := chk_some eR
  obtain ⟨v3, hat3, hd3⟩ := AR.getI (i := t3.1) (d := ([] : List Nat)) (AR.up ((e4.trans e5).trans e6) al4) hc3
  obtain rfl : v3 = (S (([(cs "none"), (cs "letter"), (cs "figure"), (cs "mark")] : List (List Nat)).getD (ixP ([(cs "none"), (cs "letter"), (cs "figure"), (cs "mark")] : List (List Nat)).length t3.1) ([] : List Nat))) := hd3
  obtain ⟨t4, et4, eR⟩ := ob_some eR
  refine ⟨p3, _, _, _, rfl, rfl, (.inl (.inl (w6.sub _ _ (((e4.trans e5).trans e6) _ _ fq2)))), hat3, _, rfl, _, rfl, P6, ((p1, (boxO l1 t3.2)) :: cs0), (([(cs "any"), (cs "opening"), (cs "inner"), (cs "unit")] : List (List Nat)).getD (ixP ([(cs "any"), (cs "opening"), (cs "inner"), (cs "unit")] : List (List Nat)).length t1.1) ([] : List Nat)), (([(cs "none"), (cs "letter"), (cs "figure"), (cs "mark")] : List (List Nat)).getD (ixP ([(cs "none"), (cs "letter"), (cs "figure"), (cs "mark")] : List (List Nat)).length t3.1) ([] : List Nat)), t4, rfl, w6, et4, fun H7 P7 e7 w7 => ?_⟩
  obtain ⟨t5, et5, eR⟩ := ob_some eR
  have hB1 : ∀ Q : (Bool → Hp → Prop), (∀ Hz Pz, Ext P7 Pz → Wd Pz Hz ((p1, (boxO l1 t3.2)) :: cs0) → Q t5 Hz) → (tOr (tNot (tB (tCB (rIsi K) (tCons (tVar 7) (tCons (tC (V.ty "bool")) tNil))))) (tTest (tOp rNeB (tVar 7) (tCall (sp_law_allows K G) [] E0 (tCons (tVar 4) (tCons (tVar 6) tNil)))))) [some (V.ref ascr), some (V.ref p1), some (.ref p2), some (.ref p3), some (S (([(cs "any"), (cs "opening"), (cs "inner"), (cs "unit")] : List (List Nat)).getD (ixP ([(cs "any"), (cs "opening"), (cs "inner"), (cs "unit")] : List (List Nat)).length t1.1) ([] : List Nat))), some (S (([(cs "any"), (cs "opening"), (cs "inner"), (cs "unit")] : List (List Nat)).getD (ixP ([(cs "any"), (cs "opening"), (cs "inner"), (cs "unit")] : List (List Nat)).length t2.1) ([] : List Nat))), some (S (([(cs "none"), (cs "letter"), (cs "figure"), (cs "mark")] : List (List Nat)).getD (ixP ([(cs "none"), (cs "letter"), (cs "figure"), (cs "mark")] : List (List Nat)).length t3.1) ([] : List Nat))), some (V.bl t4), none, none, none, none] H7 Q := by
    intro Q hQ
    refine ⟨_, rfl, _, _, (.type "bool"), (.type "bool"), true, rfl, (.ty _), (.base (.bl _)), (kit_ty (by decide +kernel)), _, rfl, ?_⟩
    refine iteB (fun hb1 => ?_) (fun hb1 => ?_)
    · rw [ite_t hb1] at et5
      obtain rfl := Option.some.inj et5
      exact hQ H7 P7 (Ext.refl _) w7
    · rw [ite_f hb1] at et5
      obtain ⟨t6, et6, et5⟩ := ob_some et5
      refine ⟨_, rfl, _, rfl, _, rfl, P7, ((p1, (boxO l1 t3.2)) :: cs0), (([(cs "any"), (cs "opening"), (cs "inner"), (cs "unit")] : List (List Nat)).getD (ixP ([(cs "any"), (cs "opening"), (cs "inner"), (cs "unit")] : List (List Nat)).length t1.1) ([] : List Nat)), (([(cs "none"), (cs "letter"), (cs "figure"), (cs "mark")] : List (List Nat)).getD (ixP ([(cs "none"), (cs "letter"), (cs "figure"), (cs "mark")] : List (List Nat)).length t3.1) ([] : List Nat)), t6, rfl, w7, et6, fun H8 P8 e8 w8 => ?_⟩
      refine ⟨_, _, rfl, rfl, _, rfl, ?_⟩
      obtain rfl := Option.some.inj et5
      exact hQ H8 P8 e8 w8
  refine hB1 _ fun H9 P9 e9 w9 => ?_
  refine iteB (fun hb2 => ?_) (fun hb2 => ?_)
  · rw [ite_t hb2] at eR
    obtain rfl := Option.some.inj eR
    exact q H9 P9 (((((((e1.trans e2).trans e3).trans e4).trans e5).trans e6).trans e7).trans e9) (w9.pull 0 rfl).tl
  · rw [ite_f hb2] at eR
    obtain ⟨hc4, eR⟩ := chk_some eR
    obtain ⟨t7, et7, eR⟩ := ob_some eR
    obtain ⟨F1, hF1, et7⟩ := nm_fpo et7
    refine ⟨_, rfl, p3, rfl, ⟨_, .inl (.inl (w9.sub _ _ (((((e4.trans e5).trans e6).trans e7).trans e9) _ _ fq2)))⟩, fun D1 nD1 => ?_⟩
    refine lc_it (walk_list (K := K) (a := p3) (xs := ([(S (cs "none")), (S (cs "letter")), (S (cs "figure")), (S (cs "mark"))] : List V))) (fun i Hz => ∃ (Pz : Hp) (vsz : List V) (accz rsz : (List (List Nat))), Ext P9 Pz ∧ Wd Pz Hz ((D1, (HO.lst vsz)) :: (p1, (boxO l1 t3.2)) :: cs0) ∧ AR yS Pz vsz accz ∧ accz.length ≤ i ∧ accz ++ rsz = t7 ∧ fpo F1 (([(cs "none"), (cs "letter"), (cs "figure"), (cs "mark")] : List (List Nat)).drop i) = some rsz) ?_ ?_ ?_ ?_
    · exact ⟨P9, [], [], t7, Ext.refl _, w9.new nD1 _, AR.nil, Nat.le_refl _, rfl, et7⟩
    · rintro i Hz _ ⟨Pz, vsz, accz, rsz, ee, ww, _⟩
      exact .inl (.inl (ww.sub _ _ (ee _ _ (((((e4.trans e5).trans e6).trans e7).trans e9) _ _ fq2))))
    · rintro i1 x1 H10 H11 hi1 ⟨P10, vs1, acc1, rs1, e10, w10, al5, hlen1, hsum1, et8⟩ y1
      obtain ⟨eH1, hx1⟩ := y1
      rw [eH1]
      obtain ⟨it1, _, hd4, eD1⟩ := AR.get (AR.up (((((e4.trans e5).trans e6).trans e7).trans e9).trans e10) al4) hx1
      obtain rfl : x1 = (S it1) := hd4
      rw [eD1, fpo] at et8
      obtain ⟨y2, ey1, et8⟩ := ob_some et8
      obtain ⟨rs2, er1, et8⟩ := ob_some et8
      rw [hF1] at ey1
      unfold bd_law_1 at ey1
      refine ⟨rfl, ?_⟩
      obtain ⟨t8, et9, ey1⟩ := ob_some ey1
      have hB2 : ∀ Q : (Bool → Hp → Prop), (∀ Hz Pz, Ext P10 Pz → Wd Pz Hz ((D1, (HO.lst vs1)) :: (p1, (boxO l1 t3.2)) :: cs0) → Q t8 Hz) → (tAnd (tB (tCall (sp_law_allows K G) [] E0 (tCons (tVar 4) (tCons (tVar 11) tNil)))) (tB (tCall (sp_law_allows K G) [] E0 (tCons (tVar 5) (tCons (tVar 11) tNil))))) [some (V.ref ascr), some (V.ref p1), some (.ref p2), some (.ref p3), some (S (([(cs "any"), (cs "opening"), (cs "inner"), (cs "unit")] : List (List Nat)).getD (ixP ([(cs "any"), (cs "opening"), (cs "inner"), (cs "unit")] : List (List Nat)).length t1.1) ([] : List Nat))), some (S (([(cs "any"), (cs "opening"), (cs "inner"), (cs "unit")] : List (List Nat)).getD (ixP ([(cs "any"), (cs "opening"), (cs "inner"), (cs "unit")] : List (List Nat)).length t2.1) ([] : List Nat))), some (S (([(cs "none"), (cs "letter"), (cs "figure"), (cs "mark")] : List (List Nat)).getD (ixP ([(cs "none"), (cs "letter"), (cs "figure"), (cs "mark")] : List (List Nat)).length t3.1) ([] : List Nat))), some (V.bl t4), none, none, none, some (S it1)] H10 Q := by
        intro Q hQ
        obtain ⟨t9, et10, et9⟩ := ob_some et9
        refine ⟨_, rfl, _, rfl, P10, ((D1, (HO.lst vs1)) :: (p1, (boxO l1 t3.2)) :: cs0), (([(cs "any"), (cs "opening"), (cs "inner"), (cs "unit")] : List (List Nat)).getD (ixP ([(cs "any"), (cs "opening"), (cs "inner"), (cs "unit")] : List (List Nat)).length t1.1) ([] : List Nat)), it1, t9, rfl, w10, et10, fun H12 P11 e11 w11 => ?_⟩
        refine ⟨_, rfl, ?_⟩
        refine iteB (fun hb3 => ?_) (fun hb3 => ?_)
        · rw [ite_t hb3] at et9
          obtain ⟨t10, et11, et9⟩ := ob_some et9
          refine ⟨_, rfl, _, rfl, P11, ((D1, (HO.lst vs1)) :: (p1, (boxO l1 t3.2)) :: cs0), (([(cs "any"), (cs "opening"), (cs "inner"), (cs "unit")] : List (List Nat)).getD (ixP ([(cs "any"), (cs "opening"), (cs "inner"), (cs "unit")] : List (List Nat)).length t2.1) ([] : List Nat)), it1, t10, rfl, w11, et11, fun H13 P12 e12 w12 => ?_⟩
          refine ⟨_, rfl, ?_⟩
          obtain rfl := Option.some.inj et9
          exact hQ H13 P12 (e11.trans e12) w12
        · rw [ite_f hb3] at et9
          obtain rfl := Option.some.inj et9
          exact hQ H12 P11 e11 w11
      refine hB2 _ fun H14 P13 e13 w13 => ?_
      refine iteB (fun hb4 => ?_) (fun hb4 => ?_)
      · rw [ite_t hb4] at ey1
        refine ⟨_, rfl, vs1, (w13.get 0 rfl), (szl (by rw [AR.len (AR.up e13 al5)]; exact Nat.lt_of_le_of_lt hlen1 (Nat.lt_of_lt_of_le hi1 (AR.bnd (AR.up ((((e4.trans e5).trans e6).trans e7).trans e9) al4) hc4)))), ?_⟩
        obtain rfl := Option.some.inj ey1
        exact ⟨P13, _, _, _, (e10.trans e13), (w13.put 0 (HO.lst (vs1 ++ [(S it1)])) rfl), (AR.snoc (AR.up e13 al5) rfl), snoc_len hlen1, snoc_sum hsum1 et8, er1⟩
      · rw [ite_f hb4] at ey1
        obtain rfl := Option.some.inj ey1
        exact ⟨P13, _, _, _, (e10.trans e13), w13, (AR.up e13 al5), Nat.le_succ_of_le hlen1, skip_sum hsum1 et8, er1⟩
    rintro H15 ⟨P14, vs2, acc2, rs3, e14, w14, al6, hlen2, hsum2, et12⟩
    rw [AR.dropall (AR.up ((((e4.trans e5).trans e6).trans e7).trans e9) al4), fpo] at et12
    rw [mpo_acc hsum2 et12] at al6
    have e15 : Ext P14 (upd P14 D1 (HO.lst vs2)) := w14.kext
    have w15 : Wd (upd P14 D1 (HO.lst vs2)) H15 ((p1, (boxO l1 t3.2)) :: cs0) := w14.keep
    have fq3 : upd P14 D1 (HO.lst vs2) D1 = some (HO.lst vs2) := upd_same
    generalize upd P14 D1 (HO.lst vs2) = P15 at w15 e15 fq3
    have al7 := (AR.up e15 al6)
    obtain ⟨hc5, eR⟩ := chk_some eR
    obtain ⟨t11, et13, eR⟩ := ob_some eR
    obtain ⟨F2, hF2, et13⟩ := nm_fpo et13
    refine ⟨_, rfl, p3, rfl, ⟨_, .inl (.inl (w15.sub _ _ (((((((e4.trans e5).trans e6).trans e7).trans e9).trans e14).trans e15) _ _ fq2)))⟩, fun D2 nD2 => ?_⟩
    refine lc_it (walk_list (K := K) (a := p3) (xs := ([(S (cs "none")), (S (cs "letter")), (S (cs "figure")), (S (cs "mark"))] : List V))) (fun i Hz => ∃ (Pz : Hp) (vsz : List V) (accz rsz : (List (List Nat))), Ext P15 Pz ∧ Wd Pz Hz ((D2, (HO.lst vsz)) :: (p1, (boxO l1 t3.2)) :: cs0) ∧ AR yS Pz vsz accz ∧ accz.length ≤ i ∧ accz ++ rsz = t11 ∧ fpo F2 (([(cs "none"), (cs "letter"), (cs "figure"), (cs "mark")] : List (List Nat)).drop i) = some rsz) ?_ ?_ ?_ ?_
    · exact ⟨P15, [], [], t11, Ext.refl _, w15.new nD2 _, AR.nil, Nat.le_refl _, rfl, et13⟩
    · rintro i Hz _ ⟨Pz, vsz, accz, rsz, ee, ww, _⟩
      exact .inl (.inl (ww.sub _ _ (ee _ _ (((((((e4.trans e5).trans e6).trans e7).trans e9).trans e14).trans e15) _ _ fq2))))
    · rintro i2 x2 H16 H17 hi2 ⟨P16, vs3, acc3, rs4, e16, w16, al8, hlen3, hsum3, et14⟩ y3
      obtain ⟨eH2, hx2⟩ := y3
      rw [eH2]
      obtain ⟨it2, _, hd5, eD2⟩ := AR.get (AR.up (((((((e4.trans e5).trans e6).trans e7).trans e9).trans e14).trans e15).trans e16) al4) hx2
      obtain rfl : x2 = (S it2) := hd5
      rw [eD2, fpo] at et14
      obtain ⟨y4, ey2, et14⟩ := ob_some et14
      obtain ⟨rs5, er2, et14⟩ := ob_some et14
      rw [hF2] at ey2
      unfold bd_law_2 at ey2
      refine ⟨rfl, ?_⟩
      obtain ⟨t12, et15, ey2⟩ := ob_some ey2
      have hB3 : ∀ Q : (Bool → Hp → Prop), (∀ Hz Pz, Ext P16 Pz → Wd Pz Hz ((D2, (HO.lst vs3)) :: (p1, (boxO l1 t3.2)) :: cs0) → Q t12 Hz) → (tAnd (tB (tCall (sp_allows K G) [] E0 (tCons (tVar 4) (tCons (tVar 11) tNil)))) (tB (tCall (sp_allows K G) [] E0 (tCons (tVar 5) (tCons (tVar 11) tNil))))) [some (V.ref ascr), some (V.ref p1), some (.ref p2), some (.ref p3), some (S (([(cs "any"), (cs "opening"), (cs "inner"), (cs "unit")] : List (List Nat)).getD (ixP ([(cs "any"), (cs "opening"), (cs "inner"), (cs "unit")] : List (List Nat)).length t1.1) ([] : List Nat))), some (S (([(cs "any"), (cs "opening"), (cs "inner"), (cs "unit")] : List (List Nat)).getD (ixP ([(cs "any"), (cs "opening"), (cs "inner"), (cs "unit")] : List (List Nat)).length t2.1) ([] : List Nat))), some (S (([(cs "none"), (cs "letter"), (cs "figure"), (cs "mark")] : List (List Nat)).getD (ixP ([(cs "none"), (cs "letter"), (cs "figure"), (cs "mark")] : List (List Nat)).length t3.1) ([] : List Nat))), some (V.bl t4), some (.ref D1), none, none, some (S it2)] H16 Q := by
        intro Q hQ
        obtain ⟨t13, et16, et15⟩ := ob_some et15
        refine ⟨_, rfl, _, rfl, P16, ((D2, (HO.lst vs3)) :: (p1, (boxO l1 t3.2)) :: cs0), (([(cs "any"), (cs "opening"), (cs "inner"), (cs "unit")] : List (List Nat)).getD (ixP ([(cs "any"), (cs "opening"), (cs "inner"), (cs "unit")] : List (List Nat)).length t1.1) ([] : List Nat)), it2, t13, rfl, w16, et16, fun H18 P17 e17 w17 => ?_⟩
        refine ⟨_, rfl, ?_⟩
        refine iteB (fun hb5 => ?_) (fun hb5 => ?_)
        · rw [ite_t hb5] at et15
          obtain ⟨t14, et17, et15⟩ := ob_some et15
          refine ⟨_, rfl, _, rfl, P17, ((D2, (HO.lst vs3)) :: (p1, (boxO l1 t3.2)) :: cs0), (([(cs "any"), (cs "opening"), (cs "inner"), (cs "unit")] : List (List Nat)).getD (ixP ([(cs "any"), (cs "opening"), (cs "inner"), (cs "unit")] : List (List Nat)).length t2.1) ([] : List Nat)), it2, t14, rfl, w17, et17, fun H19 P18 e18 w18 => ?_⟩
          refine ⟨_, rfl, ?_⟩
          obtain rfl := Option.some.inj et15
          exact hQ H19 P18 (e17.trans e18) w18
        · rw [ite_f hb5] at et15
          obtain rfl := Option.some.inj et15
          exact hQ H18 P17 e17 w17
      refine hB3 _ fun H20 P19 e19 w19 => ?_
      refine iteB (fun hb6 => ?_) (fun hb6 => ?_)
      · rw [ite_t hb6] at ey2
        refine ⟨_, rfl, vs3, (w19.get 0 rfl), (szl (by rw [AR.len (AR.up e19 al8)]; exact Nat.lt_of_le_of_lt hlen3 (Nat.lt_of_lt_of_le hi2 (AR.bnd (AR.up ((((((e4.trans e5).trans e6).trans e7).trans e9).trans e14).trans e15) al4) hc5)))), ?_⟩
        obtain rfl := Option.some.inj ey2
        exact ⟨P19, _, _, _, (e16.trans e19), (w19.put 0 (HO.lst (vs3 ++ [(S it2)])) rfl), (AR.snoc (AR.up e19 al8) rfl), snoc_len hlen3, snoc_sum hsum3 et14, er2⟩
      · rw [ite_f hb6] at ey2
        obtain rfl := Option.some.inj ey2
        exact ⟨P19, _, _, _, (e16.trans e19), w19, (AR.up e19 al8), Nat.le_succ_of_le hlen3, skip_sum hsum3 et14, er2⟩
    rintro H21 ⟨P20, vs4, acc4, rs6, e20, w20, al9, hlen4, hsum4, et18⟩
    rw [AR.dropall (AR.up ((((((e4.trans e5).trans e6).trans e7).trans e9).trans e14).trans e15) al4), fpo] at et18
    rw [mpo_acc hsum4 et18] at al9
    have e21 : Ext P20 (upd P20 D2 (HO.lst vs4)) := w20.kext
    have w21 : Wd (upd P20 D2 (HO.lst vs4)) H21 ((p1, (boxO l1 t3.2)) :: cs0) := w20.keep
    have fq4 : upd P20 D2 (HO.lst vs4) D2 = some (HO.lst vs4) := upd_same
    generalize upd P20 D2 (HO.lst vs4) = P21 at w21 e21 fq4
    have al10 := (AR.up e21 al9)
    obtain ⟨t15, et19, eR⟩ := ob_some eR
    refine ⟨_, rfl, _, rfl, P21, ((p1, (boxO l1 t3.2)) :: cs0), (([(cs "any"), (cs "opening"), (cs "inner"), (cs "unit")] : List (List Nat)).getD (ixP ([(cs "any"), (cs "opening"), (cs "inner"), (cs "unit")] : List (List Nat)).length t1.1) ([] : List Nat)), (([(cs "any"), (cs "opening"), (cs "inner"), (cs "unit")] : List (List Nat)).getD (ixP ([(cs "any"), (cs "opening"), (cs "inner"), (cs "unit")] : List (List Nat)).length t2.1) ([] : List Nat)), t15, rfl, w21, et19, fun H22 P22 e22 w22 => ?_⟩
    refine ⟨(by show 4 ≤ sizeLine; decide), fun p4 np3 => ?_⟩
    have al11 : AR yS P22 ([(S (cs "")), (S (cs "none")), (S (cs "letter")), (S (cs "anything"))] : List V) ([(cs ""), (cs "none"), (cs "letter"), (cs "anything")] : List (List Nat)) := (AR.cons rfl (AR.cons rfl (AR.cons rfl (AR.cons rfl AR.nil))))
    have e23 := w22.fext np3 (HO.lst ([(S (cs "")), (S (cs "none")), (S (cs "letter")), (S (cs "anything"))] : List V))
    have w23 := w22.frz np3 (HO.lst ([(S (cs "")), (S (cs "none")), (S (cs "letter")), (S (cs "anything"))] : List V))
    have fq5 : upd P22 p4 (HO.lst ([(S (cs "")), (S (cs "none")), (S (cs "letter")), (S (cs "anything"))] : List V)) p4 = some (HO.lst ([(S (cs "")), (S (cs "none")), (S (cs "letter")), (S (cs "anything"))] : List V)) := upd_same
    generalize upd H22 p4 (HO.lst ([(S (cs "")), (S (cs "none")), (S (cs "letter")), (S (cs "anything"))] : List V)) = H23 at w23 ⊢
    generalize upd P22 p4 (HO.lst ([(S (cs "")), (S (cs "none")), (S (cs "letter")), (S (cs "anything"))] : List V)) = P23 at w23 e23 fq5
    have al12 := (AR.up e23 al11)
    obtain ⟨t16, et20, eR⟩ := ob_some eR
    obtain ⟨F3, hF3, et20⟩ := nm_itr et20
    refine ⟨p4, rfl, ⟨_, .inl (.inl (w23.sub _ _ fq5))⟩, for_it (walk_list (K := K) (a := p4) (xs := ([(S (cs "")), (S (cs "none")), (S (cs "letter")), (S (cs "anything"))] : List V))) (fun i σz Hz => ∃ (Pz : Hp) (zs : Unit) (yz0 : Option V), Ext P23 Pz ∧ σz = [some (V.ref ascr), some (V.ref p1), some (.ref p2), some (.ref p3), some (S (([(cs "any"), (cs "opening"), (cs "inner"), (cs "unit")] : List (List Nat)).getD (ixP ([(cs "any"), (cs "opening"), (cs "inner"), (cs "unit")] : List (List Nat)).length t1.1) ([] : List Nat))), some (S (([(cs "any"), (cs "opening"), (cs "inner"), (cs "unit")] : List (List Nat)).getD (ixP ([(cs "any"), (cs "opening"), (cs "inner"), (cs "unit")] : List (List Nat)).length t2.1) ([] : List Nat))), some (S (([(cs "none"), (cs "letter"), (cs "figure"), (cs "mark")] : List (List Nat)).getD (ixP ([(cs "none"), (cs "letter"), (cs "figure"), (cs "mark")] : List (List Nat)).length t3.1) ([] : List Nat))), some (V.bl t15), some (.ref D1), some (.ref D2), yz0, none] ∧ Wd Pz Hz ((p1, (boxO l1 t3.2)) :: cs0) ∧ itr F3 (([(cs ""), (cs "none"), (cs "letter"), (cs "anything")] : List (List Nat)).drop i) zs = some t16) ?_ ?_ ?_ ?_⟩
    · exact ⟨P23, (), none, Ext.refl _, rfl, w23, et20⟩
    · rintro i σz Hz _ ⟨Pz, zs, yz0, ee, rfl, ww, _⟩
      exact .inl (.inl (ww.sub _ _ (ee _ _ fq5)))
    · rintro i3 x3 _ H24 H25 hi3 ⟨P24, s1, y6, e24, rfl, w24, et21⟩ y5
      obtain ⟨eH3, hx3⟩ := y5
      rw [eH3]
      obtain ⟨it3, _, hd6, eD3⟩ := AR.get (AR.up e24 al12) hx3
      obtain rfl : x3 = (S it3) := hd6
      rw [eD3, itr] at et21
      obtain ⟨o1, eo1, et21⟩ := ob_some et21
      rw [hF3] at eo1
      unfold bd_law_3 at eo1
      obtain ⟨t17, et22, eo1⟩ := ob_some eo1
      refine ⟨_, rfl, _, rfl, P24, ((p1, (boxO l1 t3.2)) :: cs0), it3, (([(cs "none"), (cs "letter"), (cs "figure"), (cs "mark")] : List (List Nat)).getD (ixP ([(cs "none"), (cs "letter"), (cs "figure"), (cs "mark")] : List (List Nat)).length t3.1) ([] : List Nat)), t17, rfl, w24, et22, fun H26 P25 e25 w25 => ?_⟩
      refine ⟨_, _, rfl, rfl, _, rfl, ?_⟩
      refine iteB (fun hb7 => ?_) (fun hb7 => ?_)
      · rw [ite_t hb7] at eo1
        obtain rfl := Option.some.inj eo1
        dsimp only at et21
        obtain rfl := Option.some.inj et21
        dsimp only [Lr.el] at eR
        obtain rfl := Option.some.inj eR
        exact q H26 P25 (((((((((((((((e1.trans e2).trans e3).trans e4).trans e5).trans e6).trans e7).trans e9).trans e14).trans e15).trans e20).trans e21).trans e22).trans e23).trans e24).trans e25) (w25.pull 0 rfl).tl
      · rw [ite_f hb7] at eo1
        obtain rfl := Option.some.inj eo1
        dsimp only at et21
        exact ⟨P25, (), (some (S it3)), (e24.trans e25), rfl, w25, et21⟩
    rintro _ H27 ⟨P26, s2, y7, e26, rfl, w26, et23⟩
    rw [AR.dropall al12, itr] at et23
    obtain rfl := Option.some.inj et23
    dsimp only [Lr.el] at eR
    obtain ⟨t18, et24, eR⟩ := ob_some eR
    have hB4 : ∀ Q : VK, (∀ Hz Pz, Ext P26 Pz → Wd Pz Hz ((p1, (boxO l1 t3.2)) :: cs0) → Q (V.bl t18) Hz) → (tAndV (tCB (rIsi K) (tCons (tVar 7) (tCons (tC (V.ty "bool")) tNil))) (tAndV (tOp rEqB (tVar 7) (tOp (rNeR (yL yS) (okL okS)) (tVar 8) (tLst tNil))) (tOp (rEqR (yL yS) (okL okS)) (tVar 9) (tVar 8)))) [some (V.ref ascr), some (V.ref p1), some (.ref p2), some (.ref p3), some (S (([(cs "any"), (cs "opening"), (cs "inner"), (cs "unit")] : List (List Nat)).getD (ixP ([(cs "any"), (cs "opening"), (cs "inner"), (cs "unit")] : List (List Nat)).length t1.1) ([] : List Nat))), some (S (([(cs "any"), (cs "opening"), (cs "inner"), (cs "unit")] : List (List Nat)).getD (ixP ([(cs "any"), (cs "opening"), (cs "inner"), (cs "unit")] : List (List Nat)).length t2.1) ([] : List Nat))), some (S (([(cs "none"), (cs "letter"), (cs "figure"), (cs "mark")] : List (List Nat)).getD (ixP ([(cs "none"), (cs "letter"), (cs "figure"), (cs "mark")] : List (List Nat)).length t3.1) ([] : List Nat))), some (V.bl t15), some (.ref D1), some (.ref D2), y7, none] H27 Q := by
      intro Q hQ
      refine ⟨_, rfl, _, _, (.type "bool"), (.type "bool"), true, rfl, (.ty _), (.base (.bl _)), (kit_ty (by decide +kernel)), _, rfl, ?_⟩
      refine iteB (fun hb8 => ?_) (fun hb8 => ?_)
      · rw [ite_t hb8] at et24
        refine ⟨_, rfl, _, rfl, (by show 0 ≤ sizeLine; decide), fun p5 np4 => ?_⟩
        have al13 : AR yS P26 ([] : List V) ([] : List (List Nat)) := AR.nil
        have e27 := w26.fext np4 (HO.lst ([] : List V))
        have w27 := w26.frz np4 (HO.lst ([] : List V))
        have fq6 : upd P26 p5 (HO.lst ([] : List V)) p5 = some (HO.lst ([] : List V)) := upd_same
        generalize upd H27 p5 (HO.lst ([] : List V)) = H28 at w27 ⊢
        generalize upd P26 p5 (HO.lst ([] : List V)) = P27 at w27 e27 fq6
        have al14 := (AR.up e27 al13)
        obtain ⟨hc6, et24⟩ := chk_some et24
        refine ⟨t7, ([] : List (List Nat)), (Mo.mo (R := (yL yS)) (P := P27) w27.sub ⟨_, _, rfl, ((((((e20.trans e21).trans e22).trans e23).trans e26).trans e27) _ _ fq3), (AR.up (((((e20.trans e21).trans e22).trans e23).trans e26).trans e27) al7)⟩), (Mo.mo (R := (yL yS)) (P := P27) w27.sub ⟨_, _, rfl, fq6, al14⟩), hc6, _, _, rfl, rfl, _, rfl, ?_⟩
        refine iteB (fun hb9 => ?_) (fun hb9 => ?_)
        · rw [ite_t hb9] at et24
          obtain ⟨hc7, et24⟩ := chk_some et24
          refine ⟨_, rfl, _, rfl, t11, t7, (Mo.mo (R := (yL yS)) (P := P27) w27.sub ⟨_, _, rfl, ((((e22.trans e23).trans e26).trans e27) _ _ fq4), (AR.up (((e22.trans e23).trans e26).trans e27) al10)⟩), (Mo.mo (R := (yL yS)) (P := P27) w27.sub ⟨_, _, rfl, ((((((e20.trans e21).trans e22).trans e23).trans e26).trans e27) _ _ fq3), (AR.up (((((e20.trans e21).trans e22).trans e23).trans e26).trans e27) al7)⟩), hc7, ?_⟩
          obtain rfl := Option.some.inj et24
          exact hQ H28 P27 e27 w27
        · rw [ite_f hb9] at et24
          obtain rfl := Option.some.inj et24
          exact hQ H28 P27 e27 w27
      · rw [ite_f hb8] at et24
        obtain rfl := Option.some.inj et24
        exact hQ H27 P26 (Ext.refl _) w26
    refine hB4 _ fun H29 P28 e28 w28 => ?_
    obtain rfl := Option.some.inj eR
    exact q H29 P28 (((((((((((((((e1.trans e2).trans e3).trans e4).trans e5).trans e6).trans e7).trans e9).trans e14).trans e15).trans e20).trans e21).trans e22).trans e23).trans e26).trans e28) (w28.pull 0 rfl).tl
theorem fn_law {P : Program} {w : World} {K : PySem.W.Frag} {mg : Str → Option Value} {base : Heap} {G : GA} {f : Addr} {fd : FuncData} (T : Tx w K G mg) (F : Fun K "law" "law" s_law f fd) : FnOk P w K mg base CX0 2 f fd ["_law_script"] (sp_law K G) := by
  refine F.ok sc_law (fun vs H Q E h => ?_) (fun cdv A outer s H vs Q E hr h => ⟨t_law K G, ?_, rd_law T.fa vs H Q E h⟩)
  · obtain ⟨_, _, _, _, _, rfl, _⟩ := h
    rfl
  · exact (pss_cons (ps_set (i := 1) sc_law.nd rfl (.inl rfl) (pe_c (c_box T) hr (by decide) (by rfl) (pa_cons (pv 0) pa_nil))) (pss_cons (ps_set (i := 2) sc_law.nd rfl (.inl rfl) (pe_lst (pa_cons pe_strS (pa_cons pe_strS (pa_cons pe_strS (pa_cons pe_strS pa_nil)))))) (pss_cons (ps_set (i := 3) sc_law.nd rfl (.inl rfl) (pe_lst (pa_cons pe_strS (pa_cons pe_strS (pa_cons pe_strS (pa_cons pe_strS pa_nil)))))) (pss_cons (ps_set (i := 4) sc_law.nd rfl (.inr rfl) (pe_ix ix_list (pv 2) (pe_c (c_take T) hr (by decide) (by rfl) (pa_cons (pv 1) (pa_cons pe_int pa_nil))) (fun _ _ => rfl))) (pss_cons (ps_set (i := 5) sc_law.nd rfl (.inr rfl) (pe_ix ix_list (pv 2) (pe_c (c_take T) hr (by decide) (by rfl) (pa_cons (pv 1) (pa_cons pe_int pa_nil))) (fun _ _ => rfl))) (pss_cons (ps_set (i := 6) sc_law.nd rfl (.inl rfl) (pe_ix ix_list (pv 3) (pe_c (c_take T) hr (by decide) (by rfl) (pa_cons (pv 1) (pa_cons pe_int pa_nil))) (fun _ _ => rfl))) (pss_cons (ps_set (i := 7) sc_law.nd rfl (.inl rfl) (pe_c (c_allows T) hr (by decide) (by rfl) (pa_cons (pv 4) (pa_cons (pv 6) pa_nil)))) (pss_cons (ps_if (PW.pt (pw_or (pt_not (pt_val (pe_callB call_isi (by rfl) T.z_isinstance (by decide +kernel) (pa_cons (pv 7) (pa_cons (pe_bltn (v := V.ty "bool") (by rfl) T.z_bool (by decide +kernel) rfl) pa_nil))))) (pw_or1 (pt_cmpR o_neB (pv 7) (pe_c (c_law_allows T) hr (by decide) (by rfl) (pa_cons (pv 4) (pa_cons (pv 6) pa_nil))) (nomark _))))) (pss_one (ps_ret pe_bl)) pss_nil) (pss_cons (ps_setLc (i := 8) (own := [("_law_told", 11)]) rfl sc_law.nd rfl rfl (sw_true rfl rfl rfl (by decide +kernel)) (pi_list (pv 3)) (blkOk_by (N := ["_law_script", "_law_box_here", "_law_places", "_law_kinds", "_law_one", "_law_two", "_law_kind", "_law_actual", "_law_both", "_law_seen", "_law_word", "_law_told"]) (sc := defScope s_law) (by decide +kernel)) (fun _ _ _ _ _ => (pg_name (i := 11) sc_law.nd rfl (Or.inl rfl))) (fun _ _ _ _ _ => pts_one (PW.pt (pw_and (pt_val (pe_c (c_law_allows T) hr (by decide) (by rfl) (pa_cons (pv 4) (pa_cons (pv 11) pa_nil)))) (pw_and1 (pt_val (pe_c (c_law_allows T) hr (by decide) (by rfl) (pa_cons (pv 5) (pa_cons (pv 11) pa_nil)))))))) (fun _ _ _ _ _ => (pv 11))) (pss_cons (ps_setLc (i := 9) (own := [("_law_told", 11)]) rfl sc_law.nd rfl rfl (sw_true rfl rfl rfl (by decide +kernel)) (pi_list (pv 3)) (blkOk_by (N := ["_law_script", "_law_box_here", "_law_places", "_law_kinds", "_law_one", "_law_two", "_law_kind", "_law_actual", "_law_both", "_law_seen", "_law_word", "_law_told"]) (sc := defScope s_law) (by decide +kernel)) (fun _ _ _ _ _ => (pg_name (i := 11) sc_law.nd rfl (Or.inl rfl))) (fun _ _ _ _ _ => pts_one (PW.pt (pw_and (pt_val (pe_c (c_allows T) hr (by decide) (by rfl) (pa_cons (pv 4) (pa_cons (pv 11) pa_nil)))) (pw_and1 (pt_val (pe_c (c_allows T) hr (by decide) (by rfl) (pa_cons (pv 5) (pa_cons (pv 11) pa_nil)))))))) (fun _ _ _ _ _ => (pv 11))) (pss_cons (ps_set (i := 7) sc_law.nd rfl (.inl rfl) (pe_c (c_overlap T) hr (by decide) (by rfl) (pa_cons (pv 4) (pa_cons (pv 5) pa_nil)))) (pss_cons (ps_for PassesOwn.never rfl (pi_list (pe_lst (pa_cons pe_strS (pa_cons pe_strS (pa_cons pe_strS (pa_cons pe_strS pa_nil)))))) (pg_name (i := 10) sc_law.nd rfl (Or.inl rfl)) (pss_one (ps_if (pt_cmpR op_notBl (pe_c (c_allows T) hr (by decide) (by rfl) (pa_cons (pv 10) (pa_cons (pv 6) pa_nil))) pe_bl (nomark _)) (pss_one (ps_ret pe_bl)) pss_nil))) (pss_one (ps_ret (pe_and (pe_callB call_isi (by rfl) T.z_isinstance (by decide +kernel) (pa_cons (pv 7) (pa_cons (pe_bltn (v := V.ty "bool") (by rfl) T.z_bool (by decide +kernel) rfl) pa_nil))) (pe_and (pe_cmpR o_eqB (pv 7) (pe_cmpR (o_neR (R1 := (yL yS)) (ok1 := (okL okS)) hr.units) (pv 8) (pe_lst pa_nil) (nomark _)) (nomark _)) (pe_one (pe_cmpR (o_eqR (R1 := (yL yS)) (ok1 := (okL okS)) hr.units) (pv 9) (pv 8) (nomark _)))))))))))))))))))
theorem c_law {P : Program} {w : World} {K : PySem.W.Frag} {mg : Str → Option Value} {base : Heap} {G : GA} (T : Tx w K G mg) : Cal P w K mg base 2 "law" (sp_law K G) := by
  obtain ⟨f, fd, F, b, g⟩ := T.d_law
  exact ⟨f, fd, _, fn_law T F, g, F.kp, b⟩

theorem law_true (ns : List Int) (h : ns.length ≤ 63) : m_law (absL ns) = some true := by
  unfold m_law
  generalize absL ns = ms
  have h1 := take_rng ms box0 (n := 4) (by decide)
  rw [takeO_eq (n := 4) (by decide), ob_eq]
  generalize m_take ms box0 4 = t1 at h1 ⊢
  have h2 := take_rng ms t1.2 (n := 4) (by decide)
  rw [takeO_eq (b := t1.2) (n := 4) (by decide), ob_eq]
  generalize m_take ms t1.2 4 = t2 at h2 ⊢
  have h3 := take_rng ms t2.2 (n := 4) (by decide)
  rw [takeO_eq (b := t2.2) (n := 4) (by decide), ob_eq]
  generalize m_take ms t2.2 4 = t3 at h3 ⊢
  obtain ⟨a, b1⟩ := t1
  obtain ⟨b, b2⟩ := t2
  obtain ⟨c, b3⟩ := t3
  have ha : a = 0 ∨ a = 1 ∨ a = 2 ∨ a = 3 := by simp only at h1; omega
  have hb : b = 0 ∨ b = 1 ∨ b = 2 ∨ b = 3 := by simp only at h2; omega
  have hc : c = 0 ∨ c = 1 ∨ c = 2 ∨ c = 3 := by simp only at h3; omega
  clear h1 h2 h3
  rcases ha with rfl | rfl | rfl | rfl <;> rcases hb with rfl | rfl | rfl | rfl <;> rcases hc with rfl | rfl | rfl | rfl <;> kernel_rfl

theorem all_mk {l : PySem.W.OpenLaw} {w : World} {K : PySem.W.Frag} {h : Heap} {mg : Str → Option Value} {fa : Addr} (X : K.In h) (Gh : h.Ns mainGlobals mg) (hfa : mg "law" = some (.ref fa))
    {f_take : Addr} {od_take an_take : Option Addr} {sl_take : Array (Option Value)} {oc_take kV_take dc_take pm_take cd_take ct_take : Value}
    (a_take : PySem.W.nsIn K mainGlobals "_law_take" = some (some (.ref f_take)))
    (l_take : K.lookup f_take = some ⟨oc_take, od_take, .func (PySem.W.fnOf "_law_take" "_law_take" (defArgs s_take) (defBody s_take) (defScope s_take) .none kV_take dc_take pm_take an_take cd_take ct_take), sl_take⟩) (c_take : PySem.W.codeIn K cd_take "_law_take" = true) (k_take : PySem.W.keepIn K (.ref f_take) = true)
    {f_box : Addr} {od_box an_box : Option Addr} {sl_box : Array (Option Value)} {oc_box kV_box dc_box pm_box cd_box ct_box : Value}
    (a_box : PySem.W.nsIn K mainGlobals "_law_box" = some (some (.ref f_box)))
    (l_box : K.lookup f_box = some ⟨oc_box, od_box, .func (PySem.W.fnOf "_law_box" "_law_box" (defArgs s_box) (defBody s_box) (defScope s_box) .none kV_box dc_box pm_box an_box cd_box ct_box), sl_box⟩) (c_box : PySem.W.codeIn K cd_box "_law_box" = true) (k_box : PySem.W.keepIn K (.ref f_box) = true)
    {f_allows : Addr} {od_allows an_allows : Option Addr} {sl_allows : Array (Option Value)} {oc_allows kV_allows dc_allows pm_allows cd_allows ct_allows : Value}
    (a_allows : PySem.W.nsIn K mainGlobals "allows" = some (some (.ref f_allows)))
    (l_allows : K.lookup f_allows = some ⟨oc_allows, od_allows, .func (PySem.W.fnOf "allows" "allows" (defArgs s_allows) (defBody s_allows) (defScope s_allows) .none kV_allows dc_allows pm_allows an_allows cd_allows ct_allows), sl_allows⟩) (c_allows : PySem.W.codeIn K cd_allows "allows" = true) (k_allows : PySem.W.keepIn K (.ref f_allows) = true)
    {f_law_allows : Addr} {od_law_allows an_law_allows : Option Addr} {sl_law_allows : Array (Option Value)} {oc_law_allows kV_law_allows dc_law_allows pm_law_allows cd_law_allows ct_law_allows : Value}
    (a_law_allows : PySem.W.nsIn K mainGlobals "_law_allows" = some (some (.ref f_law_allows)))
    (l_law_allows : K.lookup f_law_allows = some ⟨oc_law_allows, od_law_allows, .func (PySem.W.fnOf "_law_allows" "_law_allows" (defArgs s_law_allows) (defBody s_law_allows) (defScope s_law_allows) .none kV_law_allows dc_law_allows pm_law_allows an_law_allows cd_law_allows ct_law_allows), sl_law_allows⟩) (c_law_allows : PySem.W.codeIn K cd_law_allows "_law_allows" = true) (k_law_allows : PySem.W.keepIn K (.ref f_law_allows) = true)
    {f_overlap : Addr} {od_overlap an_overlap : Option Addr} {sl_overlap : Array (Option Value)} {oc_overlap kV_overlap dc_overlap pm_overlap cd_overlap ct_overlap : Value}
    (a_overlap : PySem.W.nsIn K mainGlobals "overlap" = some (some (.ref f_overlap)))
    (l_overlap : K.lookup f_overlap = some ⟨oc_overlap, od_overlap, .func (PySem.W.fnOf "overlap" "overlap" (defArgs s_overlap) (defBody s_overlap) (defScope s_overlap) .none kV_overlap dc_overlap pm_overlap an_overlap cd_overlap ct_overlap), sl_overlap⟩) (c_overlap : PySem.W.codeIn K cd_overlap "overlap" = true) (k_overlap : PySem.W.keepIn K (.ref f_overlap) = true)
    {f_law : Addr} {od_law an_law : Option Addr} {sl_law : Array (Option Value)} {oc_law kV_law dc_law pm_law cd_law ct_law : Value}
    (a_law : PySem.W.nsIn K mainGlobals "law" = some (some (.ref f_law)))
    (l_law : K.lookup f_law = some ⟨oc_law, od_law, .func (PySem.W.fnOf "law" "law" (defArgs s_law) (defBody s_law) (defScope s_law) .none kV_law dc_law pm_law an_law cd_law ct_law), sl_law⟩) (c_law : PySem.W.codeIn K cd_law "law" = true) (k_law : PySem.W.keepIn K (.ref f_law) = true)
    (z_abs : PySem.W.nsIn K mainGlobals "abs" = some none)
    (z_bool : PySem.W.nsIn K mainGlobals "bool" = some none)
    (z_int : PySem.W.nsIn K mainGlobals "int" = some none)
    (z_isinstance : PySem.W.nsIn K mainGlobals "isinstance" = some none)
    (z_len : PySem.W.nsIn K mainGlobals "len" = some none)
    {aD_ALLOWED : Addr} {nD_ALLOWED : Nat} (g_ALLOWED : PySem.W.nsIn K mainGlobals "ALLOWED" = some (some (.ref aD_ALLOWED)))
    {aD_ALLOWED0 : Addr} {xk_ALLOWED0 : Str} {tk_ALLOWED0 : Tok}
    {aD_ALLOWED1 : Addr} {xk_ALLOWED1 : Str} {tk_ALLOWED1 : Tok}
    {aD_ALLOWED2 : Addr} {xk_ALLOWED2 : Str} {tk_ALLOWED2 : Tok}
    {aD_ALLOWED3 : Addr} {xk_ALLOWED3 : Str} {tk_ALLOWED3 : Tok}
    (l_ALLOWED : K.lookup aD_ALLOWED = some ⟨.type "dict", none, .dict #[{ hash := PyData.keyHash w.params xk_ALLOWED0, key := .str xk_ALLOWED0 tk_ALLOWED0, val := .ref aD_ALLOWED0 }, { hash := PyData.keyHash w.params xk_ALLOWED1, key := .str xk_ALLOWED1 tk_ALLOWED1, val := .ref aD_ALLOWED1 }, { hash := PyData.keyHash w.params xk_ALLOWED2, key := .str xk_ALLOWED2 tk_ALLOWED2, val := .ref aD_ALLOWED2 }, { hash := PyData.keyHash w.params xk_ALLOWED3, key := .str xk_ALLOWED3 tk_ALLOWED3, val := .ref aD_ALLOWED3 }] nD_ALLOWED, #[]⟩)
    (lo_ALLOWED : (aD_ALLOWED == sysModules) = false)
    (e_ALLOWEDk0 : xk_ALLOWED0 = ⟨⟨(cs "any")⟩⟩)
    {dT_ALLOWED0 : Option Addr} {nT_ALLOWED0 : Nat} {slT_ALLOWED0 : Array (Option Value)} {x_ALLOWED0_0 x_ALLOWED0_1 x_ALLOWED0_2 x_ALLOWED0_3 : Str} {t_ALLOWED0_0 t_ALLOWED0_1 t_ALLOWED0_2 t_ALLOWED0_3 : Tok} (l_ALLOWED0 : K.lookup aD_ALLOWED0 = some ⟨.type "tuple", dT_ALLOWED0, .seq #[.str x_ALLOWED0_0 t_ALLOWED0_0, .str x_ALLOWED0_1 t_ALLOWED0_1, .str x_ALLOWED0_2 t_ALLOWED0_2, .str x_ALLOWED0_3 t_ALLOWED0_3] nT_ALLOWED0, slT_ALLOWED0⟩) (e_ALLOWED0_0 : x_ALLOWED0_0 = ⟨⟨(cs "none")⟩⟩) (e_ALLOWED0_1 : x_ALLOWED0_1 = ⟨⟨(cs "letter")⟩⟩) (e_ALLOWED0_2 : x_ALLOWED0_2 = ⟨⟨(cs "figure")⟩⟩) (e_ALLOWED0_3 : x_ALLOWED0_3 = ⟨⟨(cs "mark")⟩⟩)
    (e_ALLOWEDk1 : xk_ALLOWED1 = ⟨⟨(cs "opening")⟩⟩)
    {dT_ALLOWED1 : Option Addr} {nT_ALLOWED1 : Nat} {slT_ALLOWED1 : Array (Option Value)} {x_ALLOWED1_0 x_ALLOWED1_1 : Str} {t_ALLOWED1_0 t_ALLOWED1_1 : Tok} (l_ALLOWED1 : K.lookup aD_ALLOWED1 = some ⟨.type "tuple", dT_ALLOWED1, .seq #[.str x_ALLOWED1_0 t_ALLOWED1_0, .str x_ALLOWED1_1 t_ALLOWED1_1] nT_ALLOWED1, slT_ALLOWED1⟩) (e_ALLOWED1_0 : x_ALLOWED1_0 = ⟨⟨(cs "none")⟩⟩) (e_ALLOWED1_1 : x_ALLOWED1_1 = ⟨⟨(cs "mark")⟩⟩)
    (e_ALLOWEDk2 : xk_ALLOWED2 = ⟨⟨(cs "inner")⟩⟩)
    {dT_ALLOWED2 : Option Addr} {nT_ALLOWED2 : Nat} {slT_ALLOWED2 : Array (Option Value)} {x_ALLOWED2_0 : Str} {t_ALLOWED2_0 : Tok} (l_ALLOWED2 : K.lookup aD_ALLOWED2 = some ⟨.type "tuple", dT_ALLOWED2, .seq #[.str x_ALLOWED2_0 t_ALLOWED2_0] nT_ALLOWED2, slT_ALLOWED2⟩) (e_ALLOWED2_0 : x_ALLOWED2_0 = ⟨⟨(cs "letter")⟩⟩)
    (e_ALLOWEDk3 : xk_ALLOWED3 = ⟨⟨(cs "unit")⟩⟩)
    {dT_ALLOWED3 : Option Addr} {nT_ALLOWED3 : Nat} {slT_ALLOWED3 : Array (Option Value)} {x_ALLOWED3_0 : Str} {t_ALLOWED3_0 : Tok} (l_ALLOWED3 : K.lookup aD_ALLOWED3 = some ⟨.type "tuple", dT_ALLOWED3, .seq #[.str x_ALLOWED3_0 t_ALLOWED3_0] nT_ALLOWED3, slT_ALLOWED3⟩) (e_ALLOWED3_0 : x_ALLOWED3_0 = ⟨⟨(cs "figure")⟩⟩)
    : ∃ fd : FuncData, (∀ (s : Shared) (v : Value), BindsTo s fd ⟨[v], []⟩ [("_law_script", v)]) ∧ ∀ base : Heap, K.In base → base.Ns mainGlobals mg → FnOk l.prog w K mg base CX0 2 fa fd ["_law_script"] (spL K) := by
  have e := hfa.symm.trans (PySem.W.mg_of X Gh a_law)
  cases e
  have F_take := fun_mk (st := s_take) l_take c_take k_take
  have b_take := F_take.binds (ps := ["_law_box_here", "_law_size"]) fun _ _ _ _ _ _ us hl => match us, hl with | [_, _], _ => rfl
  have F_box := fun_mk (st := s_box) l_box c_box k_box
  have b_box := F_box.binds (ps := ["_law_script"]) fun _ _ _ _ _ _ us hl => match us, hl with | [_], _ => rfl
  have F_allows := fun_mk (st := s_allows) l_allows c_allows k_allows
  have b_allows := F_allows.binds (ps := ["place", "kind"]) fun _ _ _ _ _ _ us hl => match us, hl with | [_, _], _ => rfl
  have F_law_allows := fun_mk (st := s_law_allows) l_law_allows c_law_allows k_law_allows
  have b_law_allows := F_law_allows.binds (ps := ["_law_place", "_law_kind"]) fun _ _ _ _ _ _ us hl => match us, hl with | [_, _], _ => rfl
  have F_overlap := fun_mk (st := s_overlap) l_overlap c_overlap k_overlap
  have b_overlap := F_overlap.binds (ps := ["place", "other"]) fun _ _ _ _ _ _ us hl => match us, hl with | [_, _], _ => rfl
  have F_law := fun_mk (st := s_law) l_law c_law k_law
  have b_law := F_law.binds (ps := ["_law_script"]) fun _ _ _ _ _ _ us hl => match us, hl with | [_], _ => rfl
  have S_ALLOWED0 : ∀ H : Hp, SqT K H aD_ALLOWED0 [S (cs "none"), S (cs "letter"), S (cs "figure"), S (cs "mark")] := sqt_strs l_ALLOWED0 rfl rfl (by show 4 ≤ sizeLine; decide) (.cons ⟨_, by rw [e_ALLOWED0_0]⟩ (.cons ⟨_, by rw [e_ALLOWED0_1]⟩ (.cons ⟨_, by rw [e_ALLOWED0_2]⟩ (.cons ⟨_, by rw [e_ALLOWED0_3]⟩ .nil))))
  have S_ALLOWED1 : ∀ H : Hp, SqT K H aD_ALLOWED1 [S (cs "none"), S (cs "mark")] := sqt_strs l_ALLOWED1 rfl rfl (by show 2 ≤ sizeLine; decide) (.cons ⟨_, by rw [e_ALLOWED1_0]⟩ (.cons ⟨_, by rw [e_ALLOWED1_1]⟩ .nil))
  have S_ALLOWED2 : ∀ H : Hp, SqT K H aD_ALLOWED2 [S (cs "letter")] := sqt_strs l_ALLOWED2 rfl rfl (by show 1 ≤ sizeLine; decide) (.cons ⟨_, by rw [e_ALLOWED2_0]⟩ .nil)
  have S_ALLOWED3 : ∀ H : Hp, SqT K H aD_ALLOWED3 [S (cs "figure")] := sqt_strs l_ALLOWED3 rfl rfl (by show 1 ≤ sizeLine; decide) (.cons ⟨_, by rw [e_ALLOWED3_0]⟩ .nil)
  have KD_ALLOWED : KDict K w aD_ALLOWED _ _ := ⟨l_ALLOWED, ⟨⟨_, _, rfl, rfl⟩, ⟨⟨_, _, rfl, rfl⟩, ⟨⟨_, _, rfl, rfl⟩, ⟨⟨_, _, rfl, rfl⟩, trivial⟩⟩⟩⟩, lo_ALLOWED⟩
  have W_ALLOWED : WDf K aD_ALLOWED (fA [((cs "any"), aD_ALLOWED0), ((cs "opening"), aD_ALLOWED1), ((cs "inner"), aD_ALLOWED2), ((cs "unit"), aD_ALLOWED3)]) ALLOWED_T ALLOWED_K := {
      ns := ns_ent l_ALLOWED ⟨⟨_, _, rfl, e_ALLOWEDk0, rfl⟩, ⟨⟨_, _, rfl, e_ALLOWEDk1, rfl⟩, ⟨⟨_, _, rfl, e_ALLOWEDk2, rfl⟩, ⟨⟨_, _, rfl, e_ALLOWEDk3, rfl⟩, trivial⟩⟩⟩⟩
      has := by
        intro t
        simp only [fA]
        unfold ALLOWED_K
        by_cases h0 : t = (cs "any")
        · subst h0
          rw [if_pos rfl]
          show true = decide _
          decide
        rw [if_neg h0]
        by_cases h1 : t = (cs "opening")
        · subst h1
          rw [if_pos rfl]
          show true = decide _
          decide
        rw [if_neg h1]
        by_cases h2 : t = (cs "inner")
        · subst h2
          rw [if_pos rfl]
          show true = decide _
          decide
        rw [if_neg h2]
        by_cases h3 : t = (cs "unit")
        · subst h3
          rw [if_pos rfl]
          show true = decide _
          decide
        rw [if_neg h3]
        exact (decide_eq_false (by simp only [List.mem_cons, List.not_mem_nil, or_false]; rintro (h | h | h | h) <;> contradiction)).symm
      sq := by
        intro t a e H
        simp only [fA] at e
        by_cases h0 : t = (cs "any")
        · subst h0
          rw [if_pos rfl] at e
          cases e
          exact S_ALLOWED0 H
        rw [if_neg h0] at e
        by_cases h1 : t = (cs "opening")
        · subst h1
          rw [if_pos rfl] at e
          cases e
          exact S_ALLOWED1 H
        rw [if_neg h1] at e
        by_cases h2 : t = (cs "inner")
        · subst h2
          rw [if_pos rfl] at e
          cases e
          exact S_ALLOWED2 H
        rw [if_neg h2] at e
        by_cases h3 : t = (cs "unit")
        · subst h3
          rw [if_pos rfl] at e
          cases e
          exact S_ALLOWED3 H
        rw [if_neg h3] at e
        cases e
      no := by
        intro t e
        simp only [fA] at e
        unfold ALLOWED_T
        by_cases h0 : t = (cs "any")
        · rw [if_pos h0] at e
          cases e
        rw [if_neg h0] at e
        rw [if_neg h0]
        by_cases h1 : t = (cs "opening")
        · rw [if_pos h1] at e
          cases e
        rw [if_neg h1] at e
        rw [if_neg h1]
        by_cases h2 : t = (cs "inner")
        · rw [if_pos h2] at e
          cases e
        rw [if_neg h2] at e
        rw [if_neg h2]
        by_cases h3 : t = (cs "unit")
        · rw [if_pos h3] at e
          cases e
        rw [if_neg h3] at e
        rw [if_neg h3]
    }
  have T : Tx w K ⟨0, aD_ALLOWED, aD_ALLOWED0, aD_ALLOWED1, aD_ALLOWED2, aD_ALLOWED3⟩ mg := {
    fa := ⟨trivial, W_ALLOWED⟩
    d_take := ⟨_, _, F_take, b_take, PySem.W.mg_of X Gh a_take⟩
    d_box := ⟨_, _, F_box, b_box, PySem.W.mg_of X Gh a_box⟩
    d_allows := ⟨_, _, F_allows, b_allows, PySem.W.mg_of X Gh a_allows⟩
    d_law_allows := ⟨_, _, F_law_allows, b_law_allows, PySem.W.mg_of X Gh a_law_allows⟩
    d_overlap := ⟨_, _, F_overlap, b_overlap, PySem.W.mg_of X Gh a_overlap⟩
    d_law := ⟨_, _, F_law, b_law, PySem.W.mg_of X Gh a_law⟩
    z_abs := PySem.W.mg_none_of X Gh z_abs
    z_bool := PySem.W.mg_none_of X Gh z_bool
    z_int := PySem.W.mg_none_of X Gh z_int
    z_isinstance := PySem.W.mg_none_of X Gh z_isinstance
    z_len := PySem.W.mg_none_of X Gh z_len
    g_ALLOWED := ⟨_, PySem.W.mg_of X Gh g_ALLOWED, rfl⟩
    k_ALLOWED := ⟨_, _, KD_ALLOWED⟩
  }
  refine ⟨_, fun s v => .of_eq rfl, fun base _ _ => (fn_law T F_law).imp (fun vs H Q E h => ?_)⟩
  obtain ⟨a, ns, rfl, hS, hl, q⟩ := h
  exact ⟨H, [], a, ns, true, rfl, Wd.all H, hS, hl, law_true ns hl, fun H1 P1 _ _ => q H1⟩
end G
open PySem PySem.W PyProof.Rows
set_option maxHeartbeats 0 in
theorem PySem.Challenge.cw_regrow_k05_places_holds : PySem.Challenge.rw_regrow_k05_places.Holds := by
  w_on; o_law; k_head; (case hw => w_witness2)
  k_fill
  refine L2.walk_of (l := PySem.Challenge.rw_regrow_k05_places) (n := 63) (k := 2) (x := "_law_script") (CX := fun _ => L2.CX0) (sp := fun w => G.spL _) rfl (by decide) rfl ⟨rfl, by decide, by decide⟩ (fun w h Y => PySem.W.kIn_of Y) ?F (fun _ _ a ns hl _ hS => ⟨a, ns, rfl, hS, hl, fun _ => rfl⟩) (fun _ _ _ _ _ h => h)
  case F =>
    intro w mg fa h KX Gh hmg
    refine' G.all_mk KX Gh hmg ?a_take ?l_take ?c_take ?k_take ?a_box ?l_box ?c_box ?k_box ?a_allows ?l_allows ?c_allows ?k_allows ?a_law_allows ?l_law_allows ?c_law_allows ?k_law_allows ?a_overlap ?l_overlap ?c_overlap ?k_overlap ?a_law ?l_law ?c_law ?k_law ?z_abs ?z_bool ?z_int ?z_isinstance ?z_len ?g_ALLOWED ?l_ALLOWED ?lo_ALLOWED ?e_ALLOWEDk0 ?l_ALLOWED0 ?e_ALLOWED0_0 ?e_ALLOWED0_1 ?e_ALLOWED0_2 ?e_ALLOWED0_3 ?e_ALLOWEDk1 ?l_ALLOWED1 ?e_ALLOWED1_0 ?e_ALLOWED1_1 ?e_ALLOWEDk2 ?l_ALLOWED2 ?e_ALLOWED2_0 ?e_ALLOWEDk3 ?l_ALLOWED3 ?e_ALLOWED3_0
    (case a_take => k_is)
    (case l_take => k_is)
    (case c_take => k_is)
    (case k_take => k_is)
    (case a_box => k_is)
    (case l_box => k_is)
    (case c_box => k_is)
    (case k_box => k_is)
    (case a_allows => k_is)
    (case l_allows => k_is)
    (case c_allows => k_is)
    (case k_allows => k_is)
    (case a_law_allows => k_is)
    (case l_law_allows => k_is)
    (case c_law_allows => k_is)
    (case k_law_allows => k_is)
    (case a_overlap => k_is)
    (case l_overlap => k_is)
    (case c_overlap => k_is)
    (case k_overlap => k_is)
    (case a_law => k_is)
    (case l_law => k_is)
    (case c_law => k_is)
    (case k_law => k_is)
    (case z_abs => k_is)
    (case z_bool => k_is)
    (case z_int => k_is)
    (case z_isinstance => k_is)
    (case z_len => k_is)
    (case g_ALLOWED => k_is)
    (case l_ALLOWED => k_is)
    (case lo_ALLOWED => first | rfl | decide +kernel)
    (case e_ALLOWEDk0 => first | rfl | decide +kernel)
    (case l_ALLOWED0 => k_is)
    (case e_ALLOWED0_0 => first | rfl | decide +kernel)
    (case e_ALLOWED0_1 => first | rfl | decide +kernel)
    (case e_ALLOWED0_2 => first | rfl | decide +kernel)
    (case e_ALLOWED0_3 => first | rfl | decide +kernel)
    (case e_ALLOWEDk1 => first | rfl | decide +kernel)
    (case l_ALLOWED1 => k_is)
    (case e_ALLOWED1_0 => first | rfl | decide +kernel)
    (case e_ALLOWED1_1 => first | rfl | decide +kernel)
    (case e_ALLOWEDk2 => first | rfl | decide +kernel)
    (case l_ALLOWED2 => k_is)
    (case e_ALLOWED2_0 => first | rfl | decide +kernel)
    (case e_ALLOWEDk3 => first | rfl | decide +kernel)
    (case l_ALLOWED3 => k_is)
    (case e_ALLOWED3_0 => first | rfl | decide +kernel)
