import PyProof.Rows.All
import Wide.All
import OpenK.AllK
import Wide.FinOn
import HandS.ForMost
import HandS.IsInst
import HandS.Codes
import HandS.Walk
import HandS.Defaults
import HandS.Evl
import PySem.Challenge.RW_regrow_k02_order_of_texts
set_option Elab.async false
set_option linter.all false
set_option maxRecDepth 100000
set_option maxHeartbeats 4000000
namespace G
open PySem PySem.Spec PyProof.Rows L2
/-! ### texts by their codes -/
def S (t : List Nat) : V := .str ⟨⟨t⟩⟩
theorem S_inj {a b : List Nat} (h : S a = S b) : a = b := by
  unfold S at h
  injection h with h
  injection h with h
  injection h
theorem S_eq {a b : List Nat} : (S a = S b) = (a = b) := propext ⟨S_inj, fun h => by rw [h]⟩
theorem str_S (x : Str) : V.str x = S x.cps.toList := rfl
/-! ### what stays -/
def Ext (P P' : Hp) : Prop := ∀ a o, P a = some o → P' a = some o
theorem Ext.refl (P : Hp) : Ext P P := fun _ _ h => h
theorem Ext.trans {P P1 P2 : Hp} (a : Ext P P1) (b : Ext P1 P2) : Ext P P2 := fun x o h => b x o (a x o h)
theorem Ext.new {P : Hp} {p : Addr} {o : HO} (h : P p = none) : Ext P (upd P p o) := fun a u e => by
  rw [upd_ne (ne_of_none e h)]
  exact e
theorem Ext.rd {P P' : Hp} {a : Addr} {u : HO} (e : Ext P P') (h : Rd P a u) : Rd P' a u := by
  rcases h with h | ⟨o, h⟩
  · exact Or.inl (e a _ h)
  · exact Or.inr ⟨o, e a _ h⟩
theorem Ext.sql {K : PySem.W.Frag} {P P' : Hp} {a : Addr} {xs : List V} (e : Ext P P') (h : SqL K P a xs) : SqL K P' a xs := by
  rcases h with h | h
  · exact Or.inl (e.rd h)
  · exact Or.inr h
theorem Ext.sqt {K : PySem.W.Frag} {P P' : Hp} {a : Addr} {xs : List V} (e : Ext P P') (h : SqT K P a xs) : SqT K P' a xs := by
  rcases h with h | h
  · exact Or.inl (e.rd h)
  · exact Or.inr h
/-! ### the world: what is frozen (P), the cells that may change (cs) -/
abbrev Cs := List (Addr × HO)
structure Wd (P H : Hp) (cs : Cs) : Prop where
  sub : Ext P H
  nd : (cs.map (·.1)).Nodup
  ok : ∀ p ∈ cs, H p.1 = some p.2 ∧ P p.1 = none
section
variable {P H : Hp} {cs : Cs} {a p : Addr} {o o' : HO} {i : Nat}
theorem Wd.mem (w : Wd P H cs) (h : (a, o) ∈ cs) : H a = some o := (w.ok _ h).1
theorem Wd.get (w : Wd P H cs) (i : Nat) (h : cs[i]? = some (a, o)) : H a = some o := (w.ok _ (List.mem_of_getElem? h)).1
theorem Wd.hd (w : Wd P H ((a, o) :: cs)) : H a = some o := (w.ok _ List.mem_cons_self).1
theorem Wd.pnone (w : Wd P H cs) (hp : H p = none) : P p = none := by
  cases q : P p with
  | none => rfl
  | some u =>
    rw [w.sub p u q] at hp
    cases hp
theorem map_set1 : ∀ (cs : Cs) (i : Nat) (a : Addr) (o o' : HO), cs[i]? = some (a, o) → (cs.set i (a, o')).map (·.1) = cs.map (·.1)
  | [], _, _, _, _, h => by simp at h
  | c :: r, 0, a, o, o', h => by
    have e : c = (a, o) := Option.some.inj h
    subst e
    rfl
  | c :: r, i + 1, a, o, o', h => by
    have ih := map_set1 r i a o o' h
    show c.1 :: (r.set i (a, o')).map (·.1) = c.1 :: r.map (·.1)
    rw [ih]
theorem mem_set1 : ∀ (cs : Cs) (i : Nat) (a : Addr) (o o' : HO), (cs.map (·.1)).Nodup → cs[i]? = some (a, o) → ∀ q ∈ cs.set i (a, o'), q = (a, o') ∨ (q ∈ cs ∧ q.1 ≠ a)
  | [], _, _, _, _, _, h => by simp at h
  | c :: r, 0, a, o, o', nd, h => by
    have e : c = (a, o) := Option.some.inj h
    subst e
    intro q hq
    rcases List.mem_cons.mp hq with z | z
    · exact Or.inl z
    · refine Or.inr ⟨List.mem_cons_of_mem _ z, fun e => ?_⟩
      have nd' : a ∉ r.map (·.1) := (List.nodup_cons.mp nd).1
      exact nd' (e ▸ List.mem_map_of_mem z)
  | c :: r, i + 1, a, o, o', nd, h => by
    intro q hq
    have nd' := List.nodup_cons.mp nd
    rcases List.mem_cons.mp hq with z | z
    · refine Or.inr ⟨z ▸ List.mem_cons_self, fun e => ?_⟩
      have hm : (a, o) ∈ r := List.mem_of_getElem? h
      have : a ∈ r.map (·.1) := List.mem_map_of_mem (f := (·.1)) hm
      rw [← e, z] at this
      exact nd'.1 this
    · rcases mem_set1 r i a o o' nd'.2 h q z with y | ⟨y1, y2⟩
      · exact Or.inl y
      · exact Or.inr ⟨List.mem_cons_of_mem _ y1, y2⟩
theorem Wd.put (w : Wd P H cs) (i : Nat) (o' : HO) (h : cs[i]? = some (a, o)) : Wd P (upd H a o') (cs.set i (a, o')) where
  sub := fun b u e => by
    have hb : b ≠ a := fun z => by
      subst z
      rw [(w.ok _ (List.mem_of_getElem? h)).2] at e
      cases e
    rw [upd_ne hb]
    exact w.sub b u e
  nd := by rw [map_set1 cs i a o o' h]; exact w.nd
  ok := fun q hq => by
    rcases mem_set1 cs i a o o' w.nd h q hq with z | ⟨z1, z2⟩
    · subst z
      exact ⟨upd_same, (w.ok _ (List.mem_of_getElem? h)).2⟩
    · rw [upd_ne z2]
      exact w.ok q z1
/-- a new cell that may change -/
theorem Wd.new (w : Wd P H cs) (hp : H p = none) (o : HO) : Wd P (upd H p o) ((p, o) :: cs) where
  sub := fun b u e => by
    rw [upd_ne (ne_of_none (w.sub b u e) hp)]
    exact w.sub b u e
  nd := by
    refine List.nodup_cons.mpr ⟨fun hm => ?_, w.nd⟩
    obtain ⟨q, hq, e⟩ := List.mem_map.mp hm
    have := (w.ok q hq).1
    rw [show q.1 = p from e, hp] at this
    cases this
  ok := fun q hq => by
    rcases List.mem_cons.mp hq with z | z
    · subst z
      exact ⟨upd_same, w.pnone hp⟩
    · rw [upd_ne (ne_of_none (w.ok q z).1 hp)]
      exact w.ok q z
/-- a cell is frozen -/
theorem Wd.keep (w : Wd P H ((a, o) :: cs)) : Wd (upd P a o) H cs where
  sub := fun b u e => by
    by_cases hb : b = a
    · subst hb
      rw [upd_same] at e
      cases e
      exact w.hd
    · rw [upd_ne hb] at e
      exact w.sub b u e
  nd := (List.nodup_cons.mp w.nd).2
  ok := fun q hq => by
    have n : q.1 ≠ a := fun e => (List.nodup_cons.mp w.nd).1 (show a ∈ cs.map (·.1) from e ▸ List.mem_map_of_mem hq)
    rw [upd_ne n]
    exact w.ok q (List.mem_cons_of_mem _ hq)
theorem Wd.kext (w : Wd P H ((a, o) :: cs)) : Ext P (upd P a o) := Ext.new (w.ok _ List.mem_cons_self).2
/-- a new thing that never changes -/
theorem Wd.frz (w : Wd P H cs) (hp : H p = none) (o : HO) : Wd (upd P p o) (upd H p o) cs := (w.new hp o).keep
theorem Wd.fext (w : Wd P H cs) (hp : H p = none) (o : HO) : Ext P (upd P p o) := Ext.new (w.pnone hp)
theorem Wd.sublist {cs' : Cs} (w : Wd P H cs) (h : cs'.Sublist cs) : Wd P H cs' := ⟨w.sub, w.nd.sublist (h.map _), fun q hq => w.ok q (h.subset hq)⟩
theorem Wd.tl {c : Addr × HO} (w : Wd P H (c :: cs)) : Wd P H cs := w.sublist (List.sublist_cons_self _ _)
theorem Wd.perm {cs' : Cs} (w : Wd P H cs) (h : cs.Perm cs') : Wd P H cs' := ⟨w.sub, (h.map _).nodup_iff.mp w.nd, fun q hq => w.ok q (h.mem_iff.mpr hq)⟩
theorem perm_pull {α : Type} : ∀ (l : List α) (i : Nat) (x : α), l[i]? = some x → l.Perm (x :: l.eraseIdx i)
  | [], _, _, h => by simp at h
  | c :: r, 0, x, h => by
    have e : c = x := Option.some.inj h
    subst e
    exact List.Perm.refl _
  | c :: r, i + 1, x, h => ((perm_pull r i x h).cons c).trans (List.Perm.swap x c _)
theorem Wd.pull (w : Wd P H cs) (i : Nat) (h : cs[i]? = some (a, o)) : Wd P H ((a, o) :: cs.eraseIdx i) := w.perm (perm_pull cs i _ h)
/-- all is frozen that is there -/
theorem Wd.all (H : Hp) : Wd H H [] := ⟨Ext.refl H, List.nodup_nil, fun _ h => by cases h⟩
theorem Wd.sql {K : PySem.W.Frag} {xs : List V} (w : Wd P H cs) (h : SqL K P a xs) : SqL K H a xs := w.sub.sql h
theorem Wd.sqt {K : PySem.W.Frag} {xs : List V} (w : Wd P H cs) (h : SqT K P a xs) : SqT K H a xs := w.sub.sqt h
theorem Wd.lst {K : PySem.W.Frag} {xs : List V} (w : Wd P H cs) (h : P a = some (.lst xs)) : SqL K H a xs := .inl (.inl (w.sub _ _ h))
theorem Wd.tup {K : PySem.W.Frag} {xs : List V} (w : Wd P H cs) (h : P a = some (.tup xs)) : SqT K H a xs := .inl (.inl (w.sub _ _ h))
/-- a cell is lent: frozen for a while -/
def hid (P : Hp) (a : Addr) : Hp := fun b => if b = a then none else P b
theorem hid_same {P : Hp} {a : Addr} : hid P a a = none := by unfold hid; rw [if_pos rfl]
theorem hid_ne {P : Hp} {a b : Addr} (h : b ≠ a) : hid P a b = P b := by unfold hid; rw [if_neg h]
theorem Wd.unlend {P' : Hp} (w : Wd P' H cs) (h : P' a = some o) : Wd (hid P' a) H ((a, o) :: cs) where
  sub := fun b u e => by
    by_cases hb : b = a
    · subst hb
      rw [hid_same] at e
      cases e
    · rw [hid_ne hb] at e
      exact w.sub b u e
  nd := by
    refine List.nodup_cons.mpr ⟨fun hm => ?_, w.nd⟩
    obtain ⟨q, hq, e⟩ := List.mem_map.mp hm
    have := (w.ok q hq).2
    rw [show q.1 = a from e, h] at this
    cases this
  ok := fun q hq => by
    rcases List.mem_cons.mp hq with z | z
    · subst z
      exact ⟨w.sub _ _ h, hid_same⟩
    · refine ⟨(w.ok q z).1, ?_⟩
      have n : q.1 ≠ a := fun e => by
        have := (w.ok q z).2
        rw [e, h] at this
        cases this
      rw [hid_ne n]
      exact (w.ok q z).2
theorem Ext.unlend {P P' : Hp} (h : P a = none) (e : Ext (upd P a o) P') : Ext P (hid P' a) := fun b u q => by
  have hb : b ≠ a := ne_of_none q h
  rw [hid_ne hb]
  exact e b u (by rw [upd_ne hb]; exact q)
end
/-! ### data -/
section
variable {K : PySem.W.Frag} {P P' : Hp}
mutual
theorem dpm (e : Ext P P') : ∀ (d : PyData) (v : V), Dp K P v d → Dp K P' v d
  | .none, _, h => by cases h; exact .non
  | .bool b, _, h => by cases h; exact .bl b
  | .int i, _, h => by cases h; exact .int i
  | .str x, _, h => by cases h; exact .str x
  | .list ds, _, h => by
    cases h with
    | lst hs ha => exact .lst (e.sql hs) (dpmAll e ds _ ha)
  | .tuple ds, _, h => by
    cases h with
    | tup hs ha => exact .tup (e.sqt hs) (dpmAll e ds _ ha)
  | .dict _, _, h => by cases h
theorem dpmAll (e : Ext P P') : ∀ (ds : List PyData) (vs : List V), DpAll K P vs ds → DpAll K P' vs ds
  | [], _, h => by cases h; exact .nil
  | d :: ds, _, h => by
    cases h with
    | cons h1 h2 => exact .cons (dpm e d _ h1) (dpmAll e ds _ h2)
end
end
theorem Dp.mono {K : PySem.W.Frag} {P P' : Hp} {v : V} {d : PyData} (h : Dp K P v d) (e : Ext P P') : Dp K P' v d := dpm e d v h
theorem DpAll.mono {K : PySem.W.Frag} {P P' : Hp} {vs : List V} {ds : List PyData} (h : DpAll K P vs ds) (e : Ext P P') : DpAll K P' vs ds := dpmAll e ds vs h
end G
namespace G
open PySem PySem.Spec PyProof.Rows L2
abbrev cs (s : String) : List Nat := (Str.ofString s).cps.toList
def eS (t : List Nat) : PyData := .str ⟨⟨t⟩⟩
/-! ### tests -/
theorem iteB {b : Bool} {A B : Prop} (h1 : b = true → A) (h2 : b = false → B) : if b = true then A else B := by
  cases b with
  | true => rw [if_pos rfl]; exact h1 rfl
  | false => rw [if_neg Bool.false_ne_true]; exact h2 rfl
theorem ite_t {α : Type} {b : Bool} {x y : α} (h : b = true) : (if b = true then x else y) = x := if_pos h
theorem ite_f {α : Type} {b : Bool} {x y : α} (h : b = false) : (if b = true then x else y) = y := if_neg (by rw [h]; exact Bool.false_ne_true)
/-! ### operators over texts by their codes -/
section
variable {X : Cx}
theorem pe_strS {x : Str} {j : Nat} {pos : Pos} : PE X (.Constant (.str x) j pos) (tC (S x.cps.toList)) := pe_str
def rAdd : R2 := rI0 fun i j => .int (i + j)
def rSub : R2 := rI0 fun i j => .int (i - j)
def rMul : R2 := rI CMul fun i j => .int (i * j)
def rMod : R2 := rI (fun _ j => 0 < j) fun i j => .int (i % j)
def rDiv : R2 := rI CDiv fun i j => .int (i / j)
def rPow : R2 := rI CPow fun i j => .int (i ^ j.toNat)
def rLt : R2 := rI0 fun i j => .bl (decide (i < j))
def rLe : R2 := rI0 fun i j => .bl (decide (i ≤ j))
def rGt : R2 := rI0 fun i j => .bl (decide (j < i))
def rGe : R2 := rI0 fun i j => .bl (decide (j ≤ i))
theorem o_add : OpR X (binaryOp .Add) rAdd := op_add
theorem o_sub : OpR X (binaryOp .Sub) rSub := op_sub
theorem o_mul : OpR X (binaryOp .Mult) rMul := op_mul
theorem o_mod : OpR X (binaryOp .Mod) rMod := op_mod
theorem o_div : OpR X (binaryOp .FloorDiv) rDiv := op_fdiv
theorem o_pow : OpR X (binaryOp .Pow) rPow := op_pow
theorem o_lt : OpR X (compareOp .Lt) rLt := op_lt
theorem o_le : OpR X (compareOp .LtE) rLe := op_le
theorem o_gt : OpR X (compareOp .Gt) rGt := op_gt
theorem o_ge : OpR X (compareOp .GtE) rGe := op_ge
def rAddS : R2 := fun x y H Q => ∃ a b : List Nat, x = S a ∧ y = S b ∧ a.length + b.length ≤ sizeLine ∧ Q (S (a ++ b)) H
theorem S_app (a b : List Nat) : V.str ((⟨⟨a⟩⟩ : Str) ++ (⟨⟨b⟩⟩ : Str)) = S (a ++ b) := by
  show V.str ⟨(⟨a⟩ : Array Nat) ++ (⟨b⟩ : Array Nat)⟩ = V.str ⟨⟨a ++ b⟩⟩
  congr 2
  simp
theorem o_addS : OpR X (binaryOp .Add) rAddS := fun pins s σ H x y v u Q I rx ry h => by
  obtain ⟨a, b, rfl, rfl, hz, q⟩ := h
  exact op_add_str pins s σ H _ _ v u Q I rx ry ⟨_, _, rfl, rfl, hz, by rw [S_app]; exact q⟩
def rEqI : R2 := fun x y H Q => ∃ i j : Int, x = .int i ∧ y = .int j ∧ Q (.bl (decide (i = j))) H
def rNeI : R2 := fun x y H Q => ∃ i j : Int, x = .int i ∧ y = .int j ∧ Q (.bl (!decide (i = j))) H
def rEqB : R2 := fun x y H Q => ∃ i j : Bool, x = .bl i ∧ y = .bl j ∧ Q (.bl (decide (i = j))) H
def rNeB : R2 := fun x y H Q => ∃ i j : Bool, x = .bl i ∧ y = .bl j ∧ Q (.bl (!decide (i = j))) H
def rEqS : R2 := fun x y H Q => ∃ a b : List Nat, x = S a ∧ y = S b ∧ Q (.bl (decide (a = b))) H
def rNeS : R2 := fun x y H Q => ∃ a b : List Nat, x = S a ∧ y = S b ∧ Q (.bl (!decide (a = b))) H
theorem dI (i j : Int) : decide (V.int i = V.int j) = decide (i = j) := decide_eq_decide.mpr ⟨fun h => V.int.inj h, fun h => by rw [h]⟩
theorem dB (i j : Bool) : decide (V.bl i = V.bl j) = decide (i = j) := decide_eq_decide.mpr ⟨fun h => V.bl.inj h, fun h => by rw [h]⟩
theorem dS (i j : List Nat) : decide (S i = S j) = decide (i = j) := decide_eq_decide.mpr ⟨S_inj, fun h => by rw [h]⟩
theorem o_eqI : OpR X (compareOp .Eq) rEqI := fun pins s σ H x y v u Q I rx ry h => by
  obtain ⟨i, j, rfl, rfl, q⟩ := h
  exact op_eq pins s σ H _ _ v u Q I rx ry ⟨rfl, by rw [dI]; exact q⟩
theorem o_neI : OpR X (compareOp .NotEq) rNeI := fun pins s σ H x y v u Q I rx ry h => by
  obtain ⟨i, j, rfl, rfl, q⟩ := h
  exact op_ne pins s σ H _ _ v u Q I rx ry ⟨rfl, by rw [dI]; exact q⟩
theorem o_eqB : OpR X (compareOp .Eq) rEqB := fun pins s σ H x y v u Q I rx ry h => by
  obtain ⟨i, j, rfl, rfl, q⟩ := h
  exact op_eq pins s σ H _ _ v u Q I rx ry ⟨rfl, by rw [dB]; exact q⟩
theorem o_neB : OpR X (compareOp .NotEq) rNeB := fun pins s σ H x y v u Q I rx ry h => by
  obtain ⟨i, j, rfl, rfl, q⟩ := h
  exact op_ne pins s σ H _ _ v u Q I rx ry ⟨rfl, by rw [dB]; exact q⟩
theorem o_eqS : OpR X (compareOp .Eq) rEqS := fun pins s σ H x y v u Q I rx ry h => by
  obtain ⟨i, j, rfl, rfl, q⟩ := h
  exact op_eq pins s σ H _ _ v u Q I rx ry ⟨rfl, by rw [dS]; exact q⟩
theorem o_neS : OpR X (compareOp .NotEq) rNeS := fun pins s σ H x y v u Q I rx ry h => by
  obtain ⟨i, j, rfl, rfl, q⟩ := h
  exact op_ne pins s σ H _ _ v u Q I rx ry ⟨rfl, by rw [dS]; exact q⟩
/-- one sign in a text -/
def rInS : R2 := fun x y H Q => ∃ (c : Nat) (t : List Nat), x = S [c] ∧ y = S t ∧ Q (.bl (decide (c ∈ t))) H
def rNiS : R2 := fun x y H Q => ∃ (c : Nat) (t : List Nat), x = S [c] ∧ y = S t ∧ Q (.bl (!decide (c ∈ t))) H
theorem o_inS : OpR X (compareOp .In) rInS := fun pins s σ H x y v u Q I rx ry h => by
  obtain ⟨c, t, rfl, rfl, q⟩ := h
  exact op_in_sign pins s σ H _ _ v u Q I rx ry ⟨c, _, rfl, rfl, q⟩
theorem o_niS : OpR X (compareOp .NotIn) rNiS := fun pins s σ H x y v u Q I rx ry h => by
  obtain ⟨c, t, rfl, rfl, q⟩ := h
  exact op_notIn_sign pins s σ H _ _ v u Q I rx ry ⟨c, _, rfl, rfl, q⟩
/-- a text in a list or tuple of texts -/
theorem inV_S (t : List Nat) : ∀ ts : List (List Nat), inV (S t) (ts.map S) = decide (t ∈ ts)
  | [] => by simp [inV]
  | a :: r => by
    have ih := inV_S t r
    unfold inV at ih ⊢
    simp only [List.map_cons, List.any_cons, ih]
    rw [Bool.eq_iff_iff]
    have e : eqV (S a) (S t) = true ↔ a = t := by
      constructor
      · intro h
        simp [eqV, S] at h
        first | exact h | simpa using h
      · intro h
        subst h
        simp [eqV, S]
    have e2 : eqV (S t) (S a) = true ↔ a = t := by
      constructor
      · intro h
        simp [eqV, S] at h
        first | exact h.symm | (have := h; simp_all)
      · intro h
        subst h
        simp [eqV, S]
    simp only [Bool.or_eq_true, decide_eq_true_eq, List.mem_cons]
    constructor
    · rintro (h | h)
      · left; first | exact (e.mp h).symm | exact (e2.mp h).symm
      · right; exact h
    · rintro (h | h)
      · left; first | exact e.mpr h.symm | exact e2.mpr h.symm
      · right; exact h
theorem flat_S (ts : List (List Nat)) : (ts.map S).all flatV = true := by
  rw [List.all_eq_true]
  intro x hx
  obtain ⟨t, _, rfl⟩ := List.mem_map.mp hx
  rfl
def rInTS (K : PySem.W.Frag) : R2 := fun x y H Q => ∃ (t : List Nat) (a : Addr) (ts : List (List Nat)), x = S t ∧ y = .ref a ∧ (SqL K H a (ts.map S) ∨ SqT K H a (ts.map S)) ∧ Q (.bl (decide (t ∈ ts))) H
def rNiTS (K : PySem.W.Frag) : R2 := fun x y H Q => ∃ (t : List Nat) (a : Addr) (ts : List (List Nat)), x = S t ∧ y = .ref a ∧ (SqL K H a (ts.map S) ∨ SqT K H a (ts.map S)) ∧ Q (.bl (!decide (t ∈ ts))) H
theorem o_inTS : OpR X (compareOp .In) (rInTS X.K) := fun pins s σ H x y v u Q I rx ry h => by
  obtain ⟨t, a, ts, rfl, rfl, hs, q⟩ := h
  exact op_in_seq pins s σ H _ _ v u Q I rx ry ⟨a, _, rfl, hs, rfl, flat_S ts, by rw [inV_S]; exact q⟩
theorem o_niTS : OpR X (compareOp .NotIn) (rNiTS X.K) := fun pins s σ H x y v u Q I rx ry h => by
  obtain ⟨t, a, ts, rfl, rfl, hs, q⟩ := h
  exact op_notIn_seq pins s σ H _ _ v u Q I rx ry ⟨a, _, rfl, hs, rfl, flat_S ts, by rw [inV_S]; exact q⟩
/-! ### len, items, slices -/
def rLenS : List V → Hp → VK → Prop := fun xs H Q => ∃ t : List Nat, xs = [S t] ∧ t.length ≤ sizeLine ∧ Q (.int t.length) H
theorem c_lenS : CallR X (.builtin "len") rLenS := fun pins s σ H xs us Q I r h => by
  obtain ⟨t, rfl, hz, q⟩ := h
  exact call_len_str pins s σ H _ us Q I r ⟨_, rfl, hz, q⟩
def rLenL (K : PySem.W.Frag) : List V → Hp → VK → Prop := fun xs H Q => ∃ (p : Addr) (ys : List V), xs = [.ref p] ∧ (SqL K H p ys ∨ SqT K H p ys) ∧ Q (.int ys.length) H
theorem c_lenL : CallR X (.builtin "len") (rLenL X.K) := call_len_seq
def rIxT : R2 := fun x y H Q => ∃ (t : List Nat) (i : Int) (c : Nat), x = S t ∧ y = .int i ∧ t.length ≤ sizeLine ∧ atI t i = some c ∧ Q (S [c]) H
theorem i_str : IxR X rIxT := fun value slice pins s σ H x y v u Q I rx ry h hs => by
  obtain ⟨t, i, c, rfl, rfl, hz, ha, q⟩ := h
  exact ix_str value slice pins s σ H _ _ v u Q I rx ry ⟨_, i, c, rfl, rfl, hz, ha, q⟩ hs
theorem atI_getD {α : Type} {t : List α} {i : Int} {d : α} (h : 0 ≤ i ∧ i < t.length) : atI t i = some (t.getD i.toNat d) := by
  obtain ⟨n, rfl⟩ := Int.eq_ofNat_of_zero_le h.1
  have hl : n < t.length := by omega
  refine atI_nat ?_
  rw [Int.toNat_natCast, List.getElem?_eq_getElem hl]
  simp [List.getD, List.getElem?_eq_getElem hl]
theorem atI_mapD {α β : Type} {t : List α} {i : Int} {d : α} {f : α → β} (h : 0 ≤ i ∧ i < t.length) : atI (t.map f) i = some (f (t.getD i.toNat d)) := by
  obtain ⟨n, rfl⟩ := Int.eq_ofNat_of_zero_le h.1
  have hl : n < t.length := by omega
  refine atI_nat ?_
  rw [Int.toNat_natCast, List.getElem?_map, List.getElem?_eq_getElem hl]
  simp [List.getD, List.getElem?_eq_getElem hl]
theorem atI_lastD {t : List Nat} {d : Nat} (h : t ≠ []) : atI t (-1) = some (t.getLastD d) := by
  obtain ⟨r, x, rfl⟩ : ∃ r x, t = r ++ [x] := ⟨t.dropLast, t.getLast h, (List.dropLast_concat_getLast h).symm⟩
  rw [atI_last]
  simp
/-! ### isalpha, isdigit -/
def rAlpha : V → List V → Hp → VK → Prop := fun x xs H Q => ∃ t : List Nat, x = S t ∧ xs = [] ∧ Q (.bl (Txt.isalpha ⟨⟨t⟩⟩)) H
def rDigit : V → List V → Hp → VK → Prop := fun x xs H Q => ∃ t : List Nat, x = S t ∧ xs = [] ∧ Q (.bl (Txt.isdigit ⟨⟨t⟩⟩)) H
theorem m_alpha : MtR X "str.isalpha" rAlpha := fun pins s σ H x xs v us Q I rx rs h => by
  obtain ⟨t, rfl, rfl, q⟩ := h
  exact mt_isalpha pins s σ H _ _ v us Q I rx rs ⟨_, rfl, rfl, trivial, q⟩
theorem m_digit : MtR X "str.isdigit" rDigit := fun pins s σ H x xs v us Q I rx rs h => by
  obtain ⟨t, rfl, rfl, q⟩ := h
  exact mt_isdigit pins s σ H _ _ v us Q I rx rs ⟨_, rfl, rfl, trivial, q⟩
/-! ### join -/
def rJoin (K : PySem.W.Frag) : V → List V → Hp → VK → Prop := fun x xs H Q => ∃ (sep : List Nat) (p : Addr) (ts : List (List Nat)), x = S sep ∧ xs = [.ref p] ∧ (SqL K H p (ts.map S) ∨ SqT K H p (ts.map S)) ∧
  (ts.map List.length).sum + ts.length * sep.length ≤ 16777216 ∧ Q (S (TL.joinL sep ts)) H
theorem map_tl (ts : List (List Nat)) : (ts.map fun t => (⟨⟨t⟩⟩ : Str)).map TL.tl = ts := by
  rw [List.map_map]
  conv => rhs; rw [← List.map_id ts]
  rfl
theorem m_join : MtR X "str.join" (rJoin X.K) := fun pins s σ H x xs v us Q I rx rs h => by
  obtain ⟨sep, p, ts, rfl, rfl, hs, hz, q⟩ := h
  have e1 : ts.map S = (ts.map fun t => (⟨⟨t⟩⟩ : Str)).map V.str := by rw [List.map_map]; rfl
  have e2 : (ts.map fun t => (⟨⟨t⟩⟩ : Str)).map (·.length) = ts.map List.length := by rw [List.map_map]; rfl
  rw [e1] at hs
  refine mt_join pins s σ H _ _ v us Q I rx rs ⟨⟨⟨sep⟩⟩, p, ts.map fun t => (⟨⟨t⟩⟩ : Str), rfl, rfl, hs, ?_, ?_⟩
  · rw [e2, List.length_map]
    exact hz
  · have e3 : V.str (Txt.join ⟨⟨sep⟩⟩ (ts.map fun t => (⟨⟨t⟩⟩ : Str))) = S (TL.joinL sep ts) := by
      have := TL.tl_join ⟨⟨sep⟩⟩ (ts.map fun t => (⟨⟨t⟩⟩ : Str))
      rw [map_tl] at this
      rw [TL.join_eq]
      show S (TL.tl (Str.join ⟨⟨sep⟩⟩ (ts.map fun t => (⟨⟨t⟩⟩ : Str)))) = S (TL.joinL sep ts)
      rw [this]
    rw [e3]
    exact q
end
/-! ### data: opened -/
section
variable {K : PySem.W.Frag} {P : Hp} {v : V}
theorem dp_str {t : List Nat} (h : Dp K P v (eS t)) : v = S t := by cases h; rfl
theorem dp_int {i : Int} (h : Dp K P v (.int i)) : v = .int i := by cases h; rfl
theorem dp_bl {i : Bool} (h : Dp K P v (.bool i)) : v = .bl i := by cases h; rfl
theorem dp_non (h : Dp K P v .none) : v = .non := by cases h; rfl
theorem pd_str (t : List Nat) : Dp K P (S t) (eS t) := .str _
theorem pd_int (i : Int) : Dp K P (.int i) (.int i) := .int _
theorem pd_bl (i : Bool) : Dp K P (.bl i) (.bool i) := .bl _
theorem pd_non : Dp K P .non .none := .non
theorem dp_list {ds : List PyData} (h : Dp K P v (.list ds)) : ∃ a vs, v = .ref a ∧ SqL K P a vs ∧ DpAll K P vs ds := by
  cases h with
  | lst hs ha => exact ⟨_, _, rfl, hs, ha⟩
theorem dp_tup {ds : List PyData} (h : Dp K P v (.tuple ds)) : ∃ a vs, v = .ref a ∧ SqT K P a vs ∧ DpAll K P vs ds := by
  cases h with
  | tup hs ha => exact ⟨_, _, rfl, hs, ha⟩
theorem dpa_nil {vs : List V} (h : DpAll K P vs []) : vs = [] := by cases h; rfl
theorem dpa_cons {vs : List V} {d : PyData} {ds : List PyData} (h : DpAll K P vs (d :: ds)) : ∃ u us, vs = u :: us ∧ Dp K P u d ∧ DpAll K P us ds := by
  cases h with
  | cons h1 h2 => exact ⟨_, _, rfl, h1, h2⟩
theorem dp_tup2 {d1 d2 : PyData} (h : Dp K P v (.tuple [d1, d2])) : ∃ a v1 v2, v = .ref a ∧ SqT K P a [v1, v2] ∧ Dp K P v1 d1 ∧ Dp K P v2 d2 := by
  obtain ⟨a, vs, rfl, hs, ha⟩ := dp_tup h
  obtain ⟨v1, vs, rfl, h1, ha⟩ := dpa_cons ha
  obtain ⟨v2, vs, rfl, h2, ha⟩ := dpa_cons ha
  obtain rfl := dpa_nil ha
  exact ⟨a, v1, v2, rfl, hs, h1, h2⟩
theorem dp_tup3 {d1 d2 d3 : PyData} (h : Dp K P v (.tuple [d1, d2, d3])) : ∃ a v1 v2 v3, v = .ref a ∧ SqT K P a [v1, v2, v3] ∧ Dp K P v1 d1 ∧ Dp K P v2 d2 ∧ Dp K P v3 d3 := by
  obtain ⟨a, vs, rfl, hs, ha⟩ := dp_tup h
  obtain ⟨v1, vs, rfl, h1, ha⟩ := dpa_cons ha
  obtain ⟨v2, vs, rfl, h2, ha⟩ := dpa_cons ha
  obtain ⟨v3, vs, rfl, h3, ha⟩ := dpa_cons ha
  obtain rfl := dpa_nil ha
  exact ⟨a, v1, v2, v3, rfl, hs, h1, h2, h3⟩
theorem dp_tup4 {d1 d2 d3 d4 : PyData} (h : Dp K P v (.tuple [d1, d2, d3, d4])) : ∃ a v1 v2 v3 v4, v = .ref a ∧ SqT K P a [v1, v2, v3, v4] ∧ Dp K P v1 d1 ∧ Dp K P v2 d2 ∧ Dp K P v3 d3 ∧ Dp K P v4 d4 := by
  obtain ⟨a, vs, rfl, hs, ha⟩ := dp_tup h
  obtain ⟨v1, vs, rfl, h1, ha⟩ := dpa_cons ha
  obtain ⟨v2, vs, rfl, h2, ha⟩ := dpa_cons ha
  obtain ⟨v3, vs, rfl, h3, ha⟩ := dpa_cons ha
  obtain ⟨v4, vs, rfl, h4, ha⟩ := dpa_cons ha
  obtain rfl := dpa_nil ha
  exact ⟨a, v1, v2, v3, v4, rfl, hs, h1, h2, h3, h4⟩
/-- a list of scalars is known by its values -/
theorem dpa_map {α : Type} {f : α → V} {e : α → PyData} (hf : ∀ (v : V) (x : α), Dp K P v (e x) → v = f x) : ∀ {xs : List α} {vs : List V}, DpAll K P vs (xs.map e) → vs = xs.map f
  | [], _, h => dpa_nil h
  | x :: r, _, h => by
    obtain ⟨u, us, rfl, h1, h2⟩ := dpa_cons h
    rw [hf u x h1, dpa_map hf h2]
    rfl
theorem dpa_strs {ts : List (List Nat)} {vs : List V} (h : DpAll K P vs (ts.map eS)) : vs = ts.map S := dpa_map (fun _ _ h => dp_str h) h
theorem pda_map {α : Type} {f : α → V} {e : α → PyData} (hf : ∀ x : α, Dp K P (f x) (e x)) : ∀ xs : List α, DpAll K P (xs.map f) (xs.map e)
  | [] => .nil
  | x :: r => .cons (hf x) (pda_map hf r)
theorem pda_strs (ts : List (List Nat)) : DpAll K P (ts.map S) (ts.map eS) := pda_map (fun t => pd_str t) ts
theorem dpa_len : ∀ {ds : List PyData} {vs : List V}, DpAll K P vs ds → vs.length = ds.length
  | [], _, h => by rw [dpa_nil h]; rfl
  | d :: ds, _, h => by
    obtain ⟨u, us, rfl, h1, h2⟩ := dpa_cons h
    rw [List.length_cons, List.length_cons, dpa_len h2]
theorem dpa_app : ∀ {ds es : List PyData} {vs us : List V}, DpAll K P vs ds → DpAll K P us es → DpAll K P (vs ++ us) (ds ++ es)
  | [], _, _, _, h, h' => by
    rw [dpa_nil h]
    exact h'
  | d :: ds, _, _, _, h, h' => by
    obtain ⟨u, us, rfl, h1, h2⟩ := dpa_cons h
    exact .cons h1 (dpa_app h2 h')
theorem dpa_one {d : PyData} (h : Dp K P v d) : DpAll K P [v] [d] := .cons h .nil
theorem dpa_get {α : Type} {e : α → PyData} : ∀ {xs : List α} {vs : List V} {i : Nat} {v : V}, DpAll K P vs (xs.map e) → vs[i]? = some v → ∃ x, xs[i]? = some x ∧ Dp K P v (e x) ∧ xs.drop i = x :: xs.drop (i + 1)
  | [], _, i, v, h, hi => by
    rw [dpa_nil h] at hi
    simp at hi
  | x :: r, _, 0, v, h, hi => by
    obtain ⟨u, us, rfl, h1, h2⟩ := dpa_cons h
    cases hi
    exact ⟨x, rfl, h1, rfl⟩
  | x :: r, _, i + 1, v, h, hi => by
    obtain ⟨u, us, rfl, h1, h2⟩ := dpa_cons h
    exact dpa_get (xs := r) (vs := us) (i := i) (v := v) h2 hi
theorem dpa_at {α : Type} {e : α → PyData} {xs : List α} {vs : List V} {i : Int} {d : α} (h : DpAll K P vs (xs.map e)) (hi : 0 ≤ i ∧ i < xs.length) : ∃ v, atI vs i = some v ∧ Dp K P v (e (xs.getD i.toNat d)) := by
  obtain ⟨n, rfl⟩ := Int.eq_ofNat_of_zero_le hi.1
  have hl : n < xs.length := by omega
  have hl2 : n < vs.length := by rw [dpa_len h, List.length_map]; exact hl
  obtain ⟨x, hx, hd, _⟩ := dpa_get (i := n) h (List.getElem?_eq_getElem hl2)
  refine ⟨_, atI_nat (List.getElem?_eq_getElem hl2), ?_⟩
  rw [Int.toNat_natCast]
  have : xs.getD n d = x := by
    rw [List.getD, hx]
    rfl
  rw [this]
  exact hd
end
theorem get_map {α : Type} {f : α → V} : ∀ {xs : List α} {i : Nat} {v : V}, (xs.map f)[i]? = some v → ∃ x, xs[i]? = some x ∧ v = f x ∧ xs.drop i = x :: xs.drop (i + 1)
  | [], _, _, h => by simp at h
  | x :: r, 0, v, h => ⟨x, rfl, (Option.some.inj h).symm, rfl⟩
  | x :: r, i + 1, v, h => get_map (xs := r) (i := i) (v := v) h
theorem get_drop {α : Type} : ∀ {xs : List α} {i : Nat} {v : α}, xs[i]? = some v → xs.drop i = v :: xs.drop (i + 1)
  | [], _, _, h => by simp at h
  | x :: r, 0, v, h => by
    have e : x = v := Option.some.inj h
    subst e
    rfl
  | x :: r, i + 1, v, h => get_drop (xs := r) (i := i) (v := v) h
theorem sz {n : Nat} (h : n ≤ 1000000) : n ≤ sizeLine := Nat.le_trans h (by decide)
theorem szl {n : Nat} (h : n < 1000000) : n < sizeLine := Nat.lt_of_lt_of_le h (by decide)
end G
namespace G
open PySem PySem.Spec PyProof.Rows L2
section
variable {X : Cx}
abbrev rIxT1 : R2 := rIxT
def rLenM (K : PySem.W.Frag) : List V → Hp → VK → Prop := fun xs H Q => ∃ (p : Addr) (ys : List V) (n : Nat), xs = [.ref p] ∧ SqL K H p ys ∧ ys.length = n ∧ Q (.int n) H
theorem c_lenM : CallR X (.builtin "len") (rLenM X.K) := fun pins s σ H xs us Q I r h => by
  obtain ⟨p, ys, n, rfl, hs, rfl, q⟩ := h
  exact call_len_seq pins s σ H _ us Q I r ⟨p, ys, rfl, .inl hs, q⟩
def rInt : List V → Hp → VK → Prop := fun xs H Q => (∃ i, xs = [.int i] ∧ Q (.int i) H) ∨ ∃ k, xs = [.bl k] ∧ Q (.int (if k then 1 else 0)) H
theorem c_int : CallR X (.type "int") rInt := call_int1
end
/-- a def of the module, by its promise -/
structure Cal (P : Program) (w : World) (K : PySem.W.Frag) (mg : Str → Option Value) (base : Heap) (k : Nat) (x : Str) (sp : Sp) : Prop where
  ex : ∃ (f : Addr) (fd : FuncData) (ps : List Str), FnOk P w K mg base CX0 k f fd ps sp ∧ mg x = some (.ref f) ∧ PySem.W.keepIn K (.ref f) = true ∧ Binds K fd ps []
section
variable {X : Cx}
theorem pe_c {k j : Nat} {x : Str} {sp : Sp} {p pos : Pos} {e : Expr} {es : List Expr} {t : TA} (c : Cal X.prog X.w X.K X.mg X.base k x sp) (hr : Room j X.A) (hk : k ≤ j) (hg : Gl X x) (ha : PA X (e :: es) t)
    (hdb : (x == ("__debug__" : Str)) = false := by decide) (he : starEach (e :: es) X.env = (false, eval e X.env) :: starEach es X.env := by rfl) (hpl : (backTo pos (starEach es X.env)).any (·.1) = false := by rfl) :
    PE X (.Call (.Name x p) (e :: es) [] pos) (tCall sp [] E0 t) := by
  obtain ⟨f, fd, ps, F, hm, kp, b⟩ := c.ex
  exact pe_call F (hr.mono hk) hg hm kp b .nil pass0 ha hdb he hpl
theorem pe_c0 {k j : Nat} {x : Str} {sp : Sp} {p pos : Pos} (c : Cal X.prog X.w X.K X.mg X.base k x sp) (hr : Room j X.A) (hk : k ≤ j) (hg : Gl X x) (hdb : (x == ("__debug__" : Str)) = false := by decide) : PE X (.Call (.Name x p) [] [] pos) (tCall sp [] E0 tNil) := by
  obtain ⟨f, fd, ps, F, hm, kp, b⟩ := c.ex
  exact pe_call0 F (hr.mono hk) hg hm kp b .nil pass0 hdb
def rMulS : R2 := fun x y H Q => ∃ (a : List Nat) (n : Int), x = S a ∧ y = .int n ∧ (0 ≤ n ∧ n ≤ 1000) ∧ a.length * n.toNat ≤ sizeLine ∧ Q (S (List.replicate n.toNat a).flatten) H
end
theorem q_cutM {D : Ends} {σ : L2.St} {H : Hp} {tu tz : TS} (M : L2.St → Hp → Prop) (h : tu { D with nx := M } σ H) (k : ∀ σ' H', M σ' H' → tz D σ' H') : Evl.tCut tu tz D σ H := ⟨M, h, k⟩
/-! ### turns -/
theorem range_drop {n i : Nat} (h : i < n) : (List.range n).drop i = i :: (List.range n).drop (i + 1) := get_drop (by
  rw [List.getElem?_eq_getElem (by rw [List.length_range]; exact h)]
  simp)
theorem drop_range_all {n : Nat} : (List.range n).drop n = [] := List.drop_of_length_le (by rw [List.length_range]; exact Nat.le_refl _)
theorem take_range_all {n : Nat} : (List.range n).take n = List.range n := List.take_of_length_le (by rw [List.length_range]; exact Nat.le_refl _)
theorem str_drop {t : List Nat} {i c : Nat} (h : ((⟨⟨t⟩⟩ : Str).cps)[i]? = some c) : t.drop i = c :: t.drop (i + 1) := get_drop (by simpa using h)
theorem str_mem {t : List Nat} {i c : Nat} (h : ((⟨⟨t⟩⟩ : Str).cps)[i]? = some c) : c ∈ t := List.mem_of_getElem? (l := t) (i := i) (by simpa using h)
theorem drop_str_all {t : List Nat} : t.drop (⟨⟨t⟩⟩ : Str).cps.size = [] := List.drop_of_length_le (Nat.le_refl _)
theorem take_str_all {t : List Nat} : t.take (⟨⟨t⟩⟩ : Str).cps.size = t := List.take_of_length_le (Nat.le_refl _)
theorem str_bnd {t : List Nat} {n : Nat} (h : t.length ≤ n) : (⟨⟨t⟩⟩ : Str).cps.size ≤ n := h
section
variable {K : PySem.W.Frag} {P : Hp} {vs : List V} {α : Type} {e : α → PyData} {xs : List α}
theorem drop_dpa_all (h : DpAll K P vs (xs.map e)) : xs.drop vs.length = [] := List.drop_of_length_le (by rw [dpa_len h, List.length_map]; exact Nat.le_refl _)
theorem take_dpa_all (h : DpAll K P vs (xs.map e)) : xs.take vs.length = xs := List.take_of_length_le (by rw [dpa_len h, List.length_map]; exact Nat.le_refl _)
theorem dpa_bnd {n : Nat} (h : DpAll K P vs (xs.map e)) (hn : xs.length ≤ n) : vs.length ≤ n := by
  rw [dpa_len h, List.length_map]
  exact hn
theorem dpa_snoc {v : V} {x : α} (h : DpAll K P vs (xs.map e)) (hx : Dp K P v (e x)) : DpAll K P (vs ++ [v]) ((xs ++ [x]).map e) := by
  rw [List.map_append]
  exact dpa_app h (dpa_one hx)
end
section
variable {α β : Type} {xs : List α} {i : Nat} {x : α} {f : α → β} {p : α → Bool}
theorem take_snoc (h : xs.drop i = x :: xs.drop (i + 1)) : xs.take (i + 1) = xs.take i ++ [x] := by
  have hl : i < xs.length := by
    have := congrArg List.length h
    simp only [List.length_drop, List.length_cons] at this
    omega
  have hx : xs[i]? = some x := by
    have := congrArg List.head? h
    rw [List.head?_drop] at this
    exact this
  rw [List.take_add_one, hx]
  rfl
theorem take_snoc_map (h : xs.drop i = x :: xs.drop (i + 1)) : (xs.take (i + 1)).map f = (xs.take i).map f ++ [f x] := by
  rw [take_snoc h, List.map_append]
  rfl
theorem take_snoc_filter (h : xs.drop i = x :: xs.drop (i + 1)) (hp : p x = true) : ((xs.take (i + 1)).filter p).map f = ((xs.take i).filter p).map f ++ [f x] := by
  rw [take_snoc h, List.filter_append, List.map_append, List.filter_cons, if_pos hp]
  rfl
theorem take_snoc_filter_no (h : xs.drop i = x :: xs.drop (i + 1)) (hp : p x = false) : ((xs.take (i + 1)).filter p).map f = ((xs.take i).filter p).map f := by
  rw [take_snoc h, List.filter_append, List.map_append, List.filter_cons, if_neg (by rw [hp]; exact Bool.false_ne_true)]
  simp
theorem len_tm : ((xs.take i).map f).length ≤ i := by
  rw [List.length_map, List.length_take]
  exact Nat.min_le_left _ _
theorem len_tf : (((xs.take i).filter p).map f).length ≤ i := by
  rw [List.length_map]
  refine Nat.le_trans (List.length_filter_le _ _) ?_
  rw [List.length_take]
  exact Nat.min_le_left _ _
end
theorem sum_le {ts : List (List Nat)} {c : Nat} (h : ∀ t ∈ ts, t.length ≤ c) : (ts.map List.length).sum ≤ ts.length * c := by
  induction ts with
  | nil => simp
  | cons t r ih =>
    rw [List.map_cons, List.sum_cons, List.length_cons, Nat.succ_mul]
    have h1 := h t List.mem_cons_self
    have h2 := ih fun u hu => h u (List.mem_cons_of_mem _ hu)
    omega
theorem join_ok {ts : List (List Nat)} {sep : List Nat} (n c : Nat) (h : ∀ t ∈ ts, t.length ≤ c) (hn : ts.length ≤ n) (hb : n * (c + sep.length) ≤ 16777216) : (ts.map List.length).sum + ts.length * sep.length ≤ 16777216 := by
  have h1 := sum_le h
  have h2 : ts.length * c + ts.length * sep.length ≤ n * (c + sep.length) := by
    rw [← Nat.mul_add]
    exact Nat.mul_le_mul_right _ hn
  omega
theorem one_map {xs : List Nat} : ∀ t ∈ xs.map (fun c => ([c] : List Nat)), t.length ≤ 1 := fun t ht => by
  obtain ⟨c, _, rfl⟩ := List.mem_map.mp ht
  exact Nat.le_refl _
theorem joinL_nil : ∀ ts : List (List Nat), TL.joinL [] ts = ts.flatten
  | [] => rfl
  | [t] => by simp [TL.joinL]
  | t :: u :: r => by
    have ih := joinL_nil (u :: r)
    show t ++ ([] ++ TL.joinL [] (u :: r)) = (t :: u :: r).flatten
    rw [ih]
    rfl
/-! ### the draws -/
structure Box where
  i : Nat
  acc : Int
  seed : Int
def boxO (l : Addr) (b : Box) : HO := .lst [.ref l, .int b.i, .int b.acc, .int b.seed]
def take1 (ns : List Int) (b : Box) : Box :=
  if (decide (b.acc < 2) && decide ((b.i : Int) < ns.length)) = true then
    { i := b.i + 1, seed := (b.seed * 48271 + ns.getD b.i 0 % 2147483629 * 69621 + 11) % 2147483647, acc := if decide (10 ^ 18 ≤ ns.getD b.i 0) = true then ns.getD b.i 0 - 10 ^ 18 else b.acc }
  else b
def m_take (ns : List Int) (b : Box) (n : Int) : Int × Box :=
  if decide (1 < (take1 ns b).acc) = true then ((take1 ns b).acc % n, { take1 ns b with acc := (take1 ns b).acc / n })
  else (((take1 ns b).seed * 48271 + 12345) % 2147483647 / 2048 % n, { take1 ns b with seed := ((take1 ns b).seed * 48271 + 12345) % 2147483647 })
theorem take_rng (ns : List Int) (b : Box) {n : Int} (h : 0 < n) : 0 ≤ (m_take ns b n).1 ∧ (m_take ns b n).1 < n := by
  unfold m_take
  split
  · exact ⟨Int.emod_nonneg _ (by omega), Int.emod_lt_of_pos _ h⟩
  · exact ⟨Int.emod_nonneg _ (by omega), Int.emod_lt_of_pos _ h⟩
end G
namespace G
open PySem PySem.Spec PyProof.Rows L2
/-! ### _law_take: its reading -/
abbrev ixB (K : PySem.W.Frag) (i : Int) : TE := tOp (rIxL K) (tVar 0) (tC (V.int i))
def tTakeR (K : PySem.W.Frag) : TS :=
  tSeq (tIfS (tAnd (tTest (tOp rLt (ixB K 2) (tC (V.int 2)))) (tTest (tOp rLt (ixB K 1) (tCB (rLenL K) (tCons (ixB K 0) tNil)))))
    (tSeq (tAsg (tOp (rIxL K) (ixB K 0) (ixB K 1)) (gName 2))
    (tSeq (tAsg (tOp rAdd (ixB K 1) (tC (V.int 1))) (gSub (tVar 0) (tC (V.int 1)) rSetL))
    (tSeq (tAsg (tOp rMod (tCB rInt (tCons (tOp rAdd (tOp rAdd (tOp rMul (ixB K 3) (tC (V.int 48271))) (tOp rMul (tOp rMod (tCB rInt (tCons (tVar 2) tNil)) (tC (V.int 2147483629))) (tC (V.int 69621)))) (tC (V.int 11))) tNil)) (tC (V.int 2147483647))) (gSub (tVar 0) (tC (V.int 3)) rSetL))
    (tIfS (tTest (tOp rGe (tVar 2) (tOp rPow (tC (V.int 10)) (tC (V.int 18))))) (tAsg (tOp rSub (tVar 2) (tOp rPow (tC (V.int 10)) (tC (V.int 18)))) (gSub (tVar 0) (tC (V.int 2)) rSetL)) tNext)))) tNext)
  (tSeq (tIfS (tTest (tOp rGt (ixB K 2) (tC (V.int 1))))
    (tSeq (tAsg (tOp rMod (tCB rInt (tCons (ixB K 2) tNil)) (tVar 1)) (gName 3))
    (tSeq (tAsg (tOp rDiv (ixB K 2) (tVar 1)) (gSub (tVar 0) (tC (V.int 2)) rSetL)) (tRet (tVar 3)))) tNext)
  (tSeq (tAsg (tOp rMod (tCB rInt (tCons (tOp rAdd (tOp rMul (ixB K 3) (tC (V.int 48271))) (tC (V.int 12345))) tNil)) (tC (V.int 2147483647))) (gSub (tVar 0) (tC (V.int 3)) rSetL))
  (tRet (tOp rMod (tCB rInt (tCons (tOp rDiv (ixB K 3) (tC (V.int 2048))) tNil)) (tVar 1)))))
def takeE (b : Box) (n : Int) : Int × Box := if decide (1 < b.acc) = true then (b.acc % n, { b with acc := b.acc / n }) else ((b.seed * 48271 + 12345) % 2147483647 / 2048 % n, { b with seed := (b.seed * 48271 + 12345) % 2147483647 })
section
variable {K : PySem.W.Frag}
/-- the rest of _law_take, once the first if is behind -/
theorem take_rest {P H : Hp} {cs0 : Cs} {a l : Addr} {b : Box} {n : Int} {Q : VK} {x : Option V} (w : Wd P H ((a, boxO l b) :: cs0)) (n0 : 0 < n) (n1 : n < 1000000)
    (q : ∀ H1, Wd P H1 ((a, boxO l (takeE b n).2) :: cs0) →
      Q (.int (takeE b n).1) H1) :
    (tSeq (tIfS (tTest (tOp rGt (ixB K 2) (tC (V.int 1))))
    (tSeq (tAsg (tOp rMod (tCB rInt (tCons (ixB K 2) tNil)) (tVar 1)) (gName 3))
    (tSeq (tAsg (tOp rDiv (ixB K 2) (tVar 1)) (gSub (tVar 0) (tC (V.int 2)) rSetL)) (tRet (tVar 3)))) tNext)
  (tSeq (tAsg (tOp rMod (tCB rInt (tCons (tOp rAdd (tOp rMul (ixB K 3) (tC (V.int 48271))) (tC (V.int 12345))) tNil)) (tC (V.int 2147483647))) (gSub (tVar 0) (tC (V.int 3)) rSetL))
  (tRet (tOp rMod (tCB rInt (tCons (tOp rDiv (ixB K 3) (tC (V.int 2048))) tNil)) (tVar 1))))) { nx := fun _ H1 => Q .non H1, rt := Q } [some (.ref a), some (.int n), x, none] H := by
  refine ⟨_, rfl, a, _, 2, _, rfl, rfl, .inl (.inl w.hd), rfl, _, _, rfl, rfl, _, rfl, ?_⟩
  refine iteB (fun hb => ?_) (fun hb => ?_)
  · have eE : takeE b n = (b.acc % n, { b with acc := b.acc / n }) := by unfold takeE; rw [if_pos hb]
    rw [eE] at q
    refine ⟨_, rfl, a, _, 2, _, rfl, rfl, .inl (.inl w.hd), rfl, ?_⟩
    refine Or.inl ⟨_, rfl, _, rfl, _, _, rfl, rfl, n0, ?_⟩
    refine ⟨_, rfl, a, _, 2, _, rfl, rfl, .inl (.inl w.hd), rfl, _, rfl, _, _, rfl, rfl, ⟨n0, by omega⟩, _, rfl, a, _, 2, 2, rfl, rfl, w.hd, rfl, _, rfl, ?_⟩
    exact q _ (w.put 0 _ rfl)
  · have eE : takeE b n = ((b.seed * 48271 + 12345) % 2147483647 / 2048 % n, { b with seed := (b.seed * 48271 + 12345) % 2147483647 }) := by unfold takeE; rw [if_neg (by rw [show decide (1 < b.acc) = false from hb]; exact Bool.false_ne_true)]
    rw [eE] at q
    refine ⟨_, rfl, a, _, 3, _, rfl, rfl, .inl (.inl w.hd), rfl, _, _, rfl, rfl, .inr ⟨by decide, by decide⟩, _, _, rfl, rfl, ?_⟩
    refine Or.inl ⟨_, rfl, _, _, rfl, rfl, (by decide : (0 : Int) < 2147483647), _, rfl, a, _, 3, 3, rfl, rfl, w.hd, rfl, ?_⟩
    have w2 := w.put 0 (boxO l { b with seed := (b.seed * 48271 + 12345) % 2147483647 }) rfl
    refine ⟨_, rfl, a, _, 3, _, rfl, rfl, .inl (.inl w2.hd), rfl, _, _, rfl, rfl, ⟨by decide, by decide⟩, ?_⟩
    refine Or.inl ⟨_, rfl, _, rfl, _, _, rfl, rfl, n0, ?_⟩
    exact q _ w2
theorem rd_takeR {P H : Hp} {cs0 : Cs} {a l : Addr} {ns : List Int} {b : Box} {n : Int} {Q : VK} (w : Wd P H ((a, boxO l b) :: cs0)) (hl : SqL K P l (ns.map V.int)) (n0 : 0 < n) (n1 : n < 1000000)
    (q : ∀ H1, Wd P H1 ((a, boxO l (m_take ns b n).2) :: cs0) → Q (.int (m_take ns b n).1) H1) : tTakeR K { nx := fun _ H1 => Q .non H1, rt := Q } [some (.ref a), some (.int n), none, none] H := by
  have em : m_take ns b n = takeE (take1 ns b) n := rfl
  rw [em] at q
  have hB : ∀ Q' : Bool → Hp → Prop, Q' (decide (b.acc < 2) && decide ((b.i : Int) < ns.length)) H → (tAnd (tTest (tOp rLt (ixB K 2) (tC (V.int 2)))) (tTest (tOp rLt (ixB K 1) (tCB (rLenL K) (tCons (ixB K 0) tNil))))) [some (.ref a), some (.int n), none, none] H Q' := by
    intro Q' hQ
    refine ⟨_, rfl, a, _, 2, _, rfl, rfl, .inl (.inl w.hd), rfl, _, _, rfl, rfl, _, rfl, ?_⟩
    refine iteB (fun h1 => ?_) (fun h1 => ?_)
    · rw [h1, Bool.true_and] at hQ
      refine ⟨_, rfl, a, _, 1, _, rfl, rfl, .inl (.inl w.hd), rfl, _, rfl, a, _, 0, _, rfl, rfl, .inl (.inl w.hd), rfl, l, _, rfl, .inl (w.sql hl), _, _, rfl, rfl, _, rfl, ?_⟩
      rw [List.length_map]
      exact hQ
    · rw [h1, Bool.false_and] at hQ
      exact hQ
  refine hB _ ?_
  refine iteB (fun h1 => ?_) (fun h1 => ?_)
  · have e1 : take1 ns b = { i := b.i + 1, seed := (b.seed * 48271 + ns.getD b.i 0 % 2147483629 * 69621 + 11) % 2147483647, acc := if decide (10 ^ 18 ≤ ns.getD b.i 0) = true then ns.getD b.i 0 - 10 ^ 18 else b.acc } := by
      unfold take1
      rw [if_pos h1]
    rw [e1] at q
    rw [Bool.and_eq_true, decide_eq_true_eq, decide_eq_true_eq] at h1
    have hat : atI (ns.map V.int) (b.i : Int) = some (V.int (ns.getD b.i 0)) := by
      have := atI_mapD (t := ns) (i := (b.i : Int)) (d := 0) (f := V.int) ⟨by omega, h1.2⟩
      rw [Int.toNat_natCast] at this
      exact this
    refine ⟨_, rfl, a, _, 0, _, rfl, rfl, .inl (.inl w.hd), rfl, _, rfl, a, _, 1, _, rfl, rfl, .inl (.inl w.hd), rfl, l, _, _, _, rfl, rfl, w.sql hl, hat, ?_⟩
    refine ⟨_, rfl, a, _, 1, _, rfl, rfl, .inl (.inl w.hd), rfl, _, _, rfl, rfl, _, rfl, a, _, 1, 1, rfl, rfl, w.hd, rfl, ?_⟩
    have w2 := w.put 0 (boxO l { b with i := b.i + 1 }) rfl
    have w2' : Wd P (upd H a (HO.lst [.ref l, .int ((b.i : Int) + 1), .int b.acc, .int b.seed])) ((a, boxO l { b with i := b.i + 1 }) :: cs0) := w2
    refine ⟨_, rfl, a, _, 3, _, rfl, rfl, .inl (.inl w2'.hd), rfl, _, _, rfl, rfl, .inr ⟨by decide, by decide⟩, _, rfl, ?_⟩
    refine Or.inl ⟨_, rfl, _, _, rfl, rfl, (by decide : (0 : Int) < 2147483629), _, _, rfl, rfl, .inr ⟨by decide, by decide⟩, _, _, rfl, rfl, _, _, rfl, rfl, ?_⟩
    refine Or.inl ⟨_, rfl, _, _, rfl, rfl, (by decide : (0 : Int) < 2147483647), _, rfl, a, _, 3, 3, rfl, rfl, w2'.hd, rfl, ?_⟩
    have w3 := w2'.put 0 (boxO l { i := b.i + 1, acc := b.acc, seed := (b.seed * 48271 + ns.getD b.i 0 % 2147483629 * 69621 + 11) % 2147483647 }) rfl
    refine ⟨_, rfl, _, _, rfl, rfl, ⟨by decide, by decide, by decide⟩, _, _, rfl, rfl, _, rfl, ?_⟩
    refine iteB (fun h2 => ?_) (fun h2 => ?_)
    · have h2' : decide ((10 : Int) ^ 18 ≤ ns.getD b.i 0) = true := h2
      rw [h2', if_pos rfl] at q
      refine ⟨_, rfl, _, _, rfl, rfl, ⟨by decide, by decide, by decide⟩, _, _, rfl, rfl, _, rfl, a, _, 2, 2, rfl, rfl, w3.hd, rfl, ?_⟩
      have w4 := w3.put 0 (boxO l { i := b.i + 1, acc := ns.getD b.i 0 - 10 ^ 18, seed := (b.seed * 48271 + ns.getD b.i 0 % 2147483629 * 69621 + 11) % 2147483647 }) rfl
      exact take_rest w4 n0 n1 q
    · have h2' : decide ((10 : Int) ^ 18 ≤ ns.getD b.i 0) = false := h2
      rw [h2', if_neg Bool.false_ne_true] at q
      exact take_rest w3 n0 n1 q
  · have e1 : take1 ns b = b := by
      unfold take1
      rw [if_neg (by rw [h1]; exact Bool.false_ne_true)]
    rw [e1] at q
    exact take_rest w n0 n1 q
end
/-! ### _law_box: its reading -/
def absL (ns : List Int) : List Int := (cutT0 ns).map fun i => if i < 0 then -i else i
where cutT0 (ns : List Int) : List Int := ns.take 63
def box0 : Box := ⟨0, 1, 7⟩
def tBoxR (K : PySem.W.Frag) : TS :=
  tRet (tLst (tCons (tLc (iList K (tSl (rSlL K) (tVar 0) tNoPart (tPart (tC (V.int 63))))) (gName 1) tYes (tCB (fun xs H Q => ∃ i, xs = [.int i] ∧ Q (.int (if i < 0 then -i else i)) H) (tCons (tVar 1) tNil)) [1]) (tCons (tC (V.int 0)) (tCons (tC (V.int 1)) (tCons (tC (V.int 7)) tNil)))))
theorem cut63 (ns : List Int) (h : ns.length ≤ 63) : cutV (ns.map V.int) none (some 63) = ns.map V.int := by
  unfold cutV
  rw [HT.sIx_none, List.drop_zero]
  refine List.take_of_length_le ?_
  rw [Nat.sub_zero, List.length_map]
  rw [show HT.sIx ns.length ns.length (some 63) = min 63 ns.length from HT.sIx_nat ns.length ns.length 63]
  omega
theorem rd_boxR {K : PySem.W.Frag} {P H : Hp} {cs0 : Cs} {a : Addr} {ns : List Int} {Q : VK} (w : Wd P H cs0) (hl : SqL K P a (ns.map V.int)) (hlen : ns.length ≤ 63)
    (q : ∀ (H1 P1 : Hp) (p l : Addr), Ext P P1 → Wd P1 H1 ((p, boxO l box0) :: cs0) → SqL K P1 l ((absL ns).map V.int) → Q (.ref p) H1) : tBoxR K { nx := fun _ H1 => Q .non H1, rt := Q } [some (.ref a), none] H := by
  refine ⟨_, rfl, 63, rfl, a, _, rfl, w.sql hl, fun c nc => ?_⟩
  rw [cut63 ns hlen]
  have w1 := w.frz nc (HO.lst (ns.map V.int))
  have e1 := w.fext nc (HO.lst (ns.map V.int))
  have hc : (upd P c (HO.lst (ns.map V.int))) c = some (HO.lst (ns.map V.int)) := upd_same
  generalize upd H c (HO.lst (ns.map V.int)) = H2 at w1 ⊢
  generalize upd P c (HO.lst (ns.map V.int)) = P2 at w1 e1 hc
  refine ⟨c, rfl, ⟨_, w1.lst hc⟩, fun D nD => ?_⟩
  refine lc_it (walk_list (K := K) (a := c) (xs := ns.map V.int)) (fun i H1 => Wd P2 H1 ((D, HO.lst (((ns.take i).map fun i => if i < 0 then -i else i).map V.int)) :: cs0)) (w1.new nD _) (fun i H1 _ w2 => w2.lst hc) ?_ ?_
  · rintro i x H1 H3 hi w2 y
    obtain ⟨eH, hx⟩ := y
    rw [eH]
    obtain ⟨z, hz, rfl, eD⟩ := get_map hx
    refine ⟨rfl, ?_⟩
    refine ⟨_, rfl, _, rfl, _, w2.hd, ?_, ?_⟩
    · rw [List.length_map, List.length_map, List.length_take]
      exact szl (by omega)
    · have w3 := w2.put 0 (HO.lst (((ns.take i).map fun i => if i < 0 then -i else i).map V.int ++ [V.int (if z < 0 then -z else z)])) rfl
      have e2 : ((ns.take (i + 1)).map fun i => if i < 0 then -i else i).map V.int = ((ns.take i).map fun i => if i < 0 then -i else i).map V.int ++ [V.int (if z < 0 then -z else z)] := by
        rw [take_snoc_map eD, List.map_append]
        rfl
      show Wd P2 _ ((D, HO.lst (((ns.take (i + 1)).map fun i => if i < 0 then -i else i).map V.int)) :: cs0)
      rw [e2]
      exact w3
  · rintro H3 w2
    rw [List.length_map, List.take_of_length_le (Nat.le_refl _)] at w2
    have w3 := w2.keep
    have e3 := w2.kext
    have hD : (upd P2 D (HO.lst ((ns.map fun i => if i < 0 then -i else i).map V.int))) D = some (HO.lst ((ns.map fun i => if i < 0 then -i else i).map V.int)) := upd_same
    generalize upd P2 D (HO.lst ((ns.map fun i => if i < 0 then -i else i).map V.int)) = P3 at w3 e3 hD
    refine ⟨(by show 4 ≤ sizeLine; decide), fun p np => ?_⟩
    refine q _ P3 p D (e1.trans e3) (w3.new np _) (.inl (.inl ?_))
    unfold absL absL.cutT0
    rw [List.take_of_length_le hlen]
    exact hD
theorem snoc_all {α : Type} {p : α → Prop} {l : List α} {x : α} (h : ∀ t ∈ l, p t) (hx : p x) : ∀ t ∈ l ++ [x], p t := fun t ht => by
  rcases List.mem_append.mp ht with z | z
  · exact h t z
  · rw [List.mem_singleton.mp z]; exact hx
section
variable {X : Cx}
theorem pe_gc {x : Str} {v : V} {pos : Pos} (hg : Gl X x) (h : ∃ u, X.mg x = some u ∧ RelV v u) (hd : (x == ("__debug__" : Str)) = false := by decide) : PE X (.Name x pos) (tC v) := by
  obtain ⟨u, h1, h2⟩ := h
  exact pe_glob hg h1 h2 hd
end
theorem walk_range0 {n : Nat} : Walk (Itr 0 n) n (fun _ => True) (fun i H x H' => H' = H ∧ x = V.int (i : Int)) := walk_range.mono (fun _ h => h) fun i H x H' _ _ y => ⟨y.1, by rw [y.2]; show V.int (0 + (i : Int)) = _; rw [Int.zero_add]⟩
/-! ### cuts -/
def cutT {α : Type} (t : List α) (lo hi : Option Int) : List α := (t.drop (HT.sIx t.length 0 lo)).take (HT.sIx t.length t.length hi - HT.sIx t.length 0 lo)
theorem cutT_len {α : Type} (t : List α) (lo hi : Option Int) : (cutT t lo hi).length ≤ t.length := by
  unfold cutT
  rw [List.length_take, List.length_drop]
  omega
def rSlT1 : V → Option Int → Option Int → Hp → VK → Prop := fun x lo hi H Q => ∃ t : List Nat, x = S t ∧ t.length ≤ sizeLine ∧ Q (S (cutT t lo hi)) H
theorem s_strT {X : Cx} : SlR X rSlT1 := fun pins s σ H x v vl vu lo hi sl Q I rx hs pl pu h => by
  obtain ⟨t, rfl, hz, q⟩ := h
  exact sl_str pins s σ H _ v vl vu lo hi sl Q I rx hs pl pu ⟨_, rfl, hz, q⟩
theorem joinL_len {ts : List (List Nat)} {c : Nat} (h : ∀ t ∈ ts, t.length ≤ c) : (TL.joinL (cs "") ts).length ≤ ts.length * c := by
  rw [show cs "" = [] from by decide, joinL_nil]
  induction ts with
  | nil => simp
  | cons t r ih =>
    rw [List.flatten_cons, List.length_append, List.length_cons, Nat.succ_mul]
    have h1 := h t List.mem_cons_self
    have h2 := ih fun u hu => h u (List.mem_cons_of_mem _ hu)
    omega
end G
namespace G
open PySem PySem.Spec PyProof.Rows L2
/-- what the row asks of law -/
def spL (K : PySem.W.Frag) : Sp := fun vs H Q _ => ∃ (a : Addr) (ns : List Int), vs = [.ref a] ∧ SqL K H a (ns.map V.int) ∧ ns.length ≤ 63 ∧ ∀ H1, Q (.bl true) H1
theorem sqt_strs {K : PySem.W.Frag} {a : Addr} {o : Obj} {its : Array Value} {n : Nat} {xs : List V} (h1 : K.lookup a = some o) (h2 : o.cls = .type "tuple") (h3 : o.data = .seq its n) (h4 : its.size ≤ sizeLine) (h5 : Vals xs its.toList) (H : Hp) : SqT K H a xs :=
  .inr ⟨o, its, n, h1, h2, h3, h4, h5⟩
end G
namespace G
open PySem PySem.Spec PyProof.Rows L2
/-- a def whose last parameter is keyword-only: called with it, called without it (dv its default) -/
structure CalK (P : Program) (w : World) (K : PySem.W.Frag) (mg : Str → Option Value) (base : Heap) (k : Nat) (x : Str) (sp : Sp) (n : Nat) (kw : Str) (dv : V) : Prop where
  ex : ∃ (f : Addr) (fd : FuncData) (ps : List Str), FnOk P w K mg base CX0 k f fd ps sp ∧ mg x = some (.ref f) ∧ PySem.W.keepIn K (.ref f) = true ∧ KBn K fd ps n [kw] (fun us ws => us ++ ws) (fun vs zs => vs ++ zs) ∧ ∃ ds, Vals [dv] ds ∧ Binds K fd ps ds
section
variable {X : Cx} {k j n : Nat} {x kw : Str} {dv : V} {sp : Sp} {p pos : Pos} {e : Expr} {es : List Expr} {t tk : TA} {kws : List Keyword}
theorem pe_ck (c : CalK X.prog X.w X.K X.mg X.base k x sp n kw dv) (hr : Room j X.A) (hk : k ≤ j) (hg : Gl X x) (ha : PA X (e :: es) t) (hkw : PK X kws tk)
    (hall : (backToKw pos (keywordEach kws X.env)).all (·.1.isSome) = true := by rfl) (hks : (backToKw pos (keywordEach kws X.env)).filterMap (·.1) = [kw] := by rfl)
    (hdb : (x == ("__debug__" : Str)) = false := by decide) (he : starEach (e :: es) X.env = (false, eval e X.env) :: starEach es X.env := by rfl)
    (hpl : ((backTo pos (starEach (e :: es) X.env)).any (·.1) || (backToKw pos (keywordEach kws X.env)).any (·.1.isNone)) = false := by rfl) :
    PE X (.Call (.Name x p) (e :: es) kws pos) (tCallN n 1 sp (fun vs zs => vs ++ zs) E0 t tk) := by
  obtain ⟨f, fd, ps, F, hm, kp, b, _⟩ := c.ex
  exact pe_callN F (hr.mono hk) hg hm kp b pass0 ha hkw hall hks hdb he hpl
theorem pe_cd (c : CalK X.prog X.w X.K X.mg X.base k x sp n kw dv) (hr : Room j X.A) (hk : k ≤ j) (hg : Gl X x) (ha : PA X (e :: es) t)
    (hdb : (x == ("__debug__" : Str)) = false := by decide) (he : starEach (e :: es) X.env = (false, eval e X.env) :: starEach es X.env := by rfl) (hpl : (backTo pos (starEach es X.env)).any (·.1) = false := by rfl) :
    PE X (.Call (.Name x p) (e :: es) [] pos) (tCall sp [dv] E0 t) := by
  obtain ⟨f, fd, ps, F, hm, kp, _, ds, d, b⟩ := c.ex
  exact pe_call F (hr.mono hk) hg hm kp b d pass0 ha hdb he hpl
end
/-- two ways meet -/
theorem q_join {D : Ends} {σ : L2.St} {H : Hp} {tu tz : TS} (M : L2.St → Hp → Prop) (h : tu { D with nx := M } σ H) (k : ∀ σ' H', M σ' H' → tz D σ' H') : Evl.tCut tu tz D σ H := ⟨M, h, k⟩
end G
/-- a join of ways: k is what follows -/
def G.jn {α β : Type} (k : α) (f : α → β) : β := f k
namespace G
open PySem PySem.Spec PyProof.Rows L2
section
variable {K : PySem.W.Frag} {x qual kw : Str} {st : Stmt} {f : Addr} {fd : FuncData} {ps : List Str} {n : Nat} {dv : V}
theorem kbn_of (F : Fun K x qual st f fd)
    (h : ∀ (kV doc pm : Value) (an : Option Addr) (cdv ct : Value) (us ws : List Value), us.length = n → ws.length = 1 → bindArgs (PySem.W.fnOf x qual (defArgs st) (defBody st) (defScope st) .none kV doc pm an cdv ct) ⟨us, [kw].zip ws⟩ = pure (ps.zip (us ++ ws))) :
    KBn K fd ps n [kw] (fun us ws => us ++ ws) (fun vs zs => vs ++ zs) := by
  obtain ⟨oc, od, kV, doc, pm, an, cdv, ct, osl, rfl, lk, hcd⟩ := F.ex
  exact ⟨fun s us ws _ h1 h2 => .of_eq (h kV doc pm an cdv ct us ws h1 h2), fun r1 r2 => r1.append r2⟩
theorem kwd_of {oc doc pm cdv ct : Value} {od an : Option Addr} {D : Addr} {osl : Array (Option Value)} (l : K.lookup f = some ⟨oc, od, .func (PySem.W.fnOf x qual (defArgs st) (defBody st) (defScope st) .none (.ref D) doc pm an cdv ct), osl⟩)
    (c : PySem.W.codeIn K cdv qual = true) (k : PySem.W.keepIn K (.ref f) = true) (hq : ∃ u, PySem.W.nsIn K D kw = some (some u) ∧ RelV dv u) (hn : n + 1 = ps.length)
    (h : ∀ (D : Addr) (doc pm : Value) (an : Option Addr) (cdv ct : Value) (us ks : List Value), us.length = n → ks.length = 1 →
      KwChain D ([kw].zip ks) (bindArgs (PySem.W.fnOf x qual (defArgs st) (defBody st) (defScope st) .none (.ref D) doc pm an cdv ct) ⟨us, []⟩) (ps.zip (us ++ ks))) :
    ∃ ds, Vals [dv] ds ∧ Binds K (PySem.W.fnOf x qual (defArgs st) (defBody st) (defScope st) .none (.ref D) doc pm an cdv ct) ps ds := by
  refine FunD.binds0 (kws := [(kw, dv)]) (x := x) (qual := qual) (params := defArgs st) (body := defBody st) (scope := defScope st) (f := f) ⟨⟨oc, od, .none, .ref D, doc, pm, an, cdv, ct, osl, rfl, l, c, .inl ⟨rfl, rfl⟩, .inr ⟨D, rfl, fun q hm => ?_⟩⟩, k⟩ n (by intro z; cases z) hn h
  rw [List.mem_singleton.mp hm]
  exact hq
end
theorem getD_len {l : List (List Nat)} {c : Nat} (h : ∀ t ∈ l, t.length ≤ c) (i : Nat) : (l.getD i []).length ≤ c := by
  rw [List.getD]
  cases e : l[i]? with
  | none => exact Nat.zero_le _
  | some t => exact h t (List.mem_of_getElem? e)
end G
namespace G
open PySem PyProof.Rows L2
/-! ### the order of tuples of ints and texts -/
inductive Sc where
  | i (n : Int)
  | t (x : List Nat)
  deriving DecidableEq
def Sc.v : Sc → V
  | .i n => .int n
  | .t x => S x
def Sc.lt : Sc → Sc → Bool
  | .i a, .i b => decide (a < b)
  | .t a, .t b => decide (a < b)
  | _, _ => false
def Sc.like : Sc → Sc → Bool
  | .i _, .i _ => true
  | .t _, .t _ => true
  | _, _ => false
def lexSc : List Sc → List Sc → Bool
  | [], [] => false
  | [], _ :: _ => true
  | _ :: _, [] => false
  | x :: xs, y :: ys => if x = y then lexSc xs ys else x.lt y
def likeSc : List Sc → List Sc → Bool
  | x :: xs, y :: ys => x.like y && likeSc xs ys
  | _, _ => true
abbrev ScAre : List Sc → List Value → Prop := Paired fun k u => RelV k.v u
theorem eqAt_sc (A : Around) (s : Shared) {x y : Sc} {u v : Value} (hx : RelV x.v u) (hy : RelV y.v v) (hl : x.like y = true) : ∃ e, SeqAt.EqAt A s u v e ∧ (e = true ↔ x = y) := by
  cases x with
  | i a =>
    cases y with
    | i c =>
      obtain ⟨t, rfl⟩ := hx
      obtain ⟨t', rfl⟩ := hy
      exact ⟨(a == c), SeqAt.EqAt.int_int a t c t', by simp⟩
    | t c => cases hl
  | t a =>
    cases y with
    | i c => cases hl
    | t c =>
      obtain ⟨t, rfl⟩ := hx
      obtain ⟨t', rfl⟩ := hy
      refine ⟨_, SeqAt.EqAt.str_str _ t _ t', ?_⟩
      simp
theorem rcLt_sc (A : Around) (s : Shared) {x y : Sc} {u v : Value} (hx : RelV x.v u) (hy : RelV y.v v) (hl : x.like y = true) (prog : Program) (w : World) (E : Value → Shared → Prop) (Q : Value → Shared → Prop) (h : Q (.bool (x.lt y)) s) :
    wpAny (model prog w) A (richCompare .Lt u v) Q E s := by
  cases x with
  | i a =>
    cases y with
    | i c =>
      obtain ⟨t, rfl⟩ := hx
      obtain ⟨t', rfl⟩ := hy
      exact (PyProof.Rows.lt_int h : wpAny (model prog w) A (compareOp .Lt (.int a t) (.int c t')) Q E s)
    | t c => cases hl
  | t a =>
    cases y with
    | i c => cases hl
    | t c =>
      obtain ⟨t, rfl⟩ := hx
      obtain ⟨t', rfl⟩ := hy
      exact (lt_str h : wpAny (model prog w) A (compareOp .Lt (.str ⟨⟨a⟩⟩ t) (.str ⟨⟨c⟩⟩ t')) Q E s)
section
open PySem.SeqAt
open PySem.AutoSeq1 (wpAny_loadPart')
open PySem.MeetsSeq PySem.MeetsSeq2 PySem.MeetsSeq3
theorem tuple_lt_sc (l b : Addr) (items items2 : Array Value) (n n2 : Nat) (dd dd2 : Option Addr) (sl sl2 : Array (Option Value)) (ns ms : List Sc) (hi : ScAre ns items.toList) (hj : ScAre ms items2.toList) (hk : likeSc ns ms = true) :
    Meets (Builtin.«tuple.__lt__» ⟨[.ref l, .ref b], []⟩)
      (fun _ R s => s.heap.get? l = some { cls := .type "tuple", dict := dd, data := .seq items n, slots := sl } ∧ s.heap.get? b = some { cls := .type "tuple", dict := dd2, data := .seq items2 n2, slots := sl2 } ∧
        R (.ok (.ret (.bool (lexSc ns ms)))) s) :=
  .of_wp fun prog w A R s h => by
    obtain ⟨hp, g, d, tk, os⟩ := s; obtain ⟨hl, hb, h⟩ := h
    have f2 := AutoSeq1.sub_tuple_tuple
    have z1 : items.size = ns.length := by rw [hi.length]; simp
    have z2 : items2.size = ms.length := by rw [hj.length]; simp
    wp_walk using wpAny_loadPart' hl, wpAny_loadPart' hb, wpAny_forIn_list _ (fun rest b s' => b.1 = none ∧ s' = ⟨hp, g, d, tk, os⟩ ∧ ∃ (vs ws : List Value) (ns' ms' : List Sc), rest = vs.zip ws ∧
      ScAre ns' vs ∧ ScAre ms' ws ∧ likeSc ns' ms' = true ∧ ns'.length + items2.size = ms'.length + items.size ∧ R (.ok (.ret (.bool (lexSc ns' ms')))) ⟨hp, g, d, tk, os⟩) _
    case turn =>
      rintro ⟨y, x⟩ rest b s' ⟨hb', rfl, vs, ws, ns', ms', hz, hvi, hwi, hlk, hlen, hR⟩
      cases hvi with
      | nil => rw [List.zip_nil_left] at hz; cases hz
      | cons ra hvi' =>
        cases hwi with
        | nil => rw [List.zip_nil_right] at hz; cases hz
        | cons rc hwi' =>
          rw [List.zip_cons_cons] at hz
          injection hz with hyx hrest
          injection hyx with hy hx
          subst hy hx
          rw [lexSc] at hR
          rw [likeSc, Bool.and_eq_true] at hlk
          simp only [List.length_cons] at hlen
          obtain ⟨e, he, hiff⟩ := eqAt_sc A.in1 ⟨hp, g, d, tk, os⟩ ra rc hlk.1
          refine wpAny_bind (he prog w _ _ ?_)
          cases e with
          | true =>
            rw [if_pos (hiff.mp rfl)] at hR
            wp_walk
            exact ⟨rfl, rfl, _, _, _, _, hrest, hvi', hwi', hlk.2, by omega, hR⟩
          | false =>
            rw [if_neg (fun q => absurd (hiff.mpr q) Bool.false_ne_true)] at hR
            have hri := rcLt_sc A.in1 ⟨hp, g, d, tk, os⟩ ra rc hlk.1 prog w
            wp_walk using hri
            exact ⟨_, rfl, by simpa using hR⟩
    case fin =>
      rintro ⟨b1, b2⟩ s' ⟨hb', rfl, vs, ws, ns', ms', hz, hvi, hwi, hlk, hlen, hR⟩
      simp only at hb'
      subst hb'
      have hv : lexSc ns' ms' = decide (items.size < items2.size) := by
        cases hvi with
        | nil =>
          cases hwi with
          | nil =>
            simp only [List.length_nil] at hlen
            rw [lexSc]
            exact (decide_eq_false (by omega)).symm
          | cons rc hw =>
            simp only [List.length_nil, List.length_cons] at hlen
            rw [lexSc]
            exact (decide_eq_true (by omega)).symm
        | cons ra hv =>
          cases hwi with
          | nil =>
            simp only [List.length_nil, List.length_cons] at hlen
            rw [lexSc]
            exact (decide_eq_false (by omega)).symm
          | cons rc hw =>
            rw [List.zip_cons_cons] at hz
            cases hz
      rw [hv] at hR
      wp_walk
      exact ⟨_, rfl, by simpa [Builtin.Tuple.tupleCompareSizes] using hR⟩
    case h =>
      exact ⟨rfl, rfl, items.toList, items2.toList, ns, ms, rfl, hi, hj, hk, by omega, h⟩
end
section
variable {prog : Program} {w : World} {A : Around} {E : Value → Shared → Prop} {s : Shared}
theorem lt_tupSc {l b : Addr} {items items2 : Array Value} {ns ms : List Sc} {Q : Value → Shared → Prop} (hl : IsTup s.heap l items) (hb : IsTup s.heap b items2) (hi : ScAre ns items.toList) (hj : ScAre ms items2.toList) (hk : likeSc ns ms = true)
    (hu : A.units < cLine) (h : Q (.bool (lexSc ns ms)) s) : wpAny (model prog w) A (compareOp .Lt (.ref l) (.ref b)) Q E s := by
  obtain ⟨⟨cls, dd, data, sl⟩, ho, hc, n, hd⟩ := id hl
  obtain ⟨⟨cls2, dd2, data2, sl2⟩, ho2, hc2, n2, hd2⟩ := id hb
  simp only at hc hd hc2 hd2
  subst hc hd hc2 hd2
  exact richCompare_meets_room (op := .Lt) ⟨_, ho, rfl⟩ ⟨_, ho2, rfl⟩ PySem.F.slot_tuple_lt PySem.F.entry_tuple_lt (PySem.F.args_tuple_lt_2 _ _) (tuple_lt_sc l b items items2 n n2 dd dd2 sl sl2 ns ms hi hj hk)
    ⟨ho, ho2, show Value.bool (lexSc ns ms) ≠ Value.notImplemented ∧ Q (.bool (lexSc ns ms)) s from ⟨(fun x => nomatch x), h⟩⟩ hu
end
section
variable {X : Cx}
def rLtSc (K : PySem.W.Frag) : R2 := fun x y H Q => ∃ (a b : Addr) (ns ms : List Sc), x = .ref a ∧ y = .ref b ∧ SqT K H a (ns.map Sc.v) ∧ SqT K H b (ms.map Sc.v) ∧ likeSc ns ms = true ∧ Q (.bl (lexSc ns ms)) H
theorem scAre_of : ∀ {ns : List Sc} {us : List Value}, Vals (ns.map Sc.v) us → ScAre ns us
  | [], _, h => by cases h; exact .nil
  | n :: r, _, h => by
    cases h with
    | cons h1 h2 => exact .cons h1 (scAre_of h2)
theorem o_ltSc (hu : X.A.units < cLine) : OpR X (compareOp .Lt) (rLtSc X.K) := by
  intro pins s σ H x y v u Q I rx ry h
  obtain ⟨a, b, ns, ms, rfl, rfl, h1, h2, hk, q⟩ := h
  cases rx
  cases ry
  obtain ⟨its1, r1, p1, _⟩ := I.tuple h1
  obtain ⟨its2, r2, p2, _⟩ := I.tuple h2
  exact lt_tupSc p1 p2 (scAre_of (by simpa using r1)) (scAre_of (by simpa using r2)) hk hu ⟨.bl (lexSc ns ms), H, I, rfl, q⟩
def rLtS : R2 := fun x y H Q => ∃ a b : List Nat, x = S a ∧ y = S b ∧ Q (.bl (decide (a < b))) H
theorem o_ltS : OpR X (compareOp .Lt) rLtS := fun pins s σ H x y v u Q I rx ry h => by
  obtain ⟨a, b, rfl, rfl, q⟩ := h
  exact op_lt_str pins s σ H _ _ v u Q I rx ry ⟨_, _, rfl, rfl, q⟩
end
end G
namespace G
open PySem L2
def eT1 {A : Type} (f : A → PyData) (p : A) : PyData := .tuple [f p]
def eT2 {A B : Type} (f : A → PyData) (g : B → PyData) (p : A × B) : PyData := .tuple [f p.1, g p.2]
def eT3 {A B C : Type} (f : A → PyData) (g : B → PyData) (h : C → PyData) (p : A × B × C) : PyData := .tuple [f p.1, g p.2.1, h p.2.2]
def eT4 {A B C D : Type} (f : A → PyData) (g : B → PyData) (h : C → PyData) (k : D → PyData) (p : A × B × C × D) : PyData := .tuple [f p.1, g p.2.1, h p.2.2.1, k p.2.2.2]
def eT5 {A B C D E : Type} (f : A → PyData) (g : B → PyData) (h : C → PyData) (k : D → PyData) (l : E → PyData) (p : A × B × C × D × E) : PyData := .tuple [f p.1, g p.2.1, h p.2.2.1, k p.2.2.2.1, l p.2.2.2.2]
end G
namespace G
open PySem L2
theorem dpa_atN {K : PySem.W.Frag} {P : Hp} {A : Type} {e : A → PyData} {xs : List A} {vs : List V} {n : Nat} {d : A} (h : DpAll K P vs (xs.map e)) (hi : n < xs.length) : ∃ v, atI vs (n : Int) = some v ∧ Dp K P v (e (xs.getD n d)) := by
  obtain ⟨v, h1, h2⟩ := dpa_at (i := (n : Int)) (d := d) h ⟨by omega, by omega⟩
  rw [Int.toNat_natCast] at h2
  exact ⟨v, h1, h2⟩
theorem len_pos {t : List Nat} (h : ¬ t = cs "") : 0 < t.length := by
  cases t with
  | nil => exact absurd (by decide) h
  | cons a r => exact Nat.zero_lt_succ _
theorem len_zero {t : List Nat} (h : t = cs "") : t.length = 0 := by
  rw [h]
  decide
end G
namespace G
open PySem PySem.Spec PyProof.Rows L2

def topS (i : Nat) : Stmt := PySem.Challenge.pw_regrow_k02_order_of_texts.main.body.getD i (.Pass ⟨0, 0, 0, 0⟩)
abbrev s_take : Stmt := topS 4
abbrev s_box : Stmt := topS 3
abbrev s_signs : Stmt := topS 5
abbrev s_sign : Stmt := topS 6
abbrev s_comes_before : Stmt := topS 1
abbrev s_text : Stmt := topS 7
abbrev s_before : Stmt := topS 8
abbrev s_law : Stmt := topS 9
structure GA where
  z0 : Addr
structure Fa (K : PySem.W.Frag) (G : GA) : Prop where
  tr : True
structure Tx (K : PySem.W.Frag) (G : GA) (mg : Str → Option Value) : Prop where
  fa : Fa K G
  d_take : ∃ f fd, Fun K "_law_take" "_law_take" s_take f fd ∧ Binds K fd ["_law_box_here", "_law_size"] [] ∧ mg "_law_take" = some (.ref f)
  d_box : ∃ f fd, Fun K "_law_box" "_law_box" s_box f fd ∧ Binds K fd ["_law_script"] [] ∧ mg "_law_box" = some (.ref f)
  d_signs : ∃ f fd, Fun K "_law_signs" "_law_signs" s_signs f fd ∧ Binds K fd [] [] ∧ mg "_law_signs" = some (.ref f)
  d_sign : ∃ f fd, Fun K "_law_sign" "_law_sign" s_sign f fd ∧ Binds K fd ["_law_box_here"] [] ∧ mg "_law_sign" = some (.ref f)
  d_comes_before : ∃ f fd, Fun K "comes_before" "comes_before" s_comes_before f fd ∧ Binds K fd ["first", "second"] [] ∧ mg "comes_before" = some (.ref f)
  d_text : ∃ f fd, Fun K "_law_text" "_law_text" s_text f fd ∧ Binds K fd ["_law_box_here", "_law_pieces", "_law_limit"] [] ∧ mg "_law_text" = some (.ref f)
  d_before : ∃ f fd, Fun K "_law_before" "_law_before" s_before f fd ∧ Binds K fd ["_law_first", "_law_second"] [] ∧ mg "_law_before" = some (.ref f)
  d_law : ∃ f fd, Fun K "law" "law" s_law f fd ∧ Binds K fd ["_law_script"] [] ∧ mg "law" = some (.ref f)
  z_abs : mg "abs" = none
  z_bool : mg "bool" = none
  z_int : mg "int" = none
  z_isinstance : mg "isinstance" = none
  z_len : mg "len" = none
  z_range : mg "range" = none

def sp_take (K : PySem.W.Frag) (G : GA) : Sp := fun vs H Q _ => ∃ (P : Hp) (cs0 : Cs) (a l : Addr) (ns : List Int) (b : Box) (n : Int), vs = [.ref a, .int n] ∧ Wd P H ((a, boxO l b) :: cs0) ∧ SqL K P l (ns.map V.int) ∧ 0 < n ∧ n < 1000000 ∧
  ∀ (H1 P1 : Hp), Ext P P1 → Wd P1 H1 ((a, boxO l (m_take ns b n).2) :: cs0) → Q (.int (m_take ns b n).1) H1
theorem sc_take : FnScope ["_law_box_here", "_law_size", "_law_cell", "_law_digit"] ["_law_box_here", "_law_size"] (defScope s_take) := ⟨rfl, rfl, rfl, by decide +kernel, rfl, by decide +kernel, by decide +kernel⟩
theorem c_take {P : Program} {w : World} {K : PySem.W.Frag} {mg : Str → Option Value} {base : Heap} {G : GA} (T : Tx K G mg) : Cal P w K mg base 1 "_law_take" (sp_take K G) := by
  obtain ⟨f, fd, F, b, g⟩ := T.d_take
  refine ⟨f, fd, _, F.ok sc_take (fun vs H Q E h => ?_) (fun cdv A outer s H vs Q E hr h => ⟨tTakeR K, ?_, ?_⟩), g, F.kp, b⟩
  · obtain ⟨_, _, _, _, _, _, _, rfl, _⟩ := h
    rfl
  · exact pss_cons (ps_if (PW.pt (pw_and (pt_cmpR o_lt (pe_ix ix_list (pv 0) pe_int (fun _ _ => rfl)) pe_int (nomark _)) (pw_and1 (pt_cmpR o_lt (pe_ix ix_list (pv 0) pe_int (fun _ _ => rfl)) (pe_callB c_lenL (by rfl) T.z_len PySem.boot_len (pa_cons (pe_ix ix_list (pv 0) pe_int (fun _ _ => rfl)) pa_nil)) (nomark _)))))
        (pss_cons (ps_set (i := 2) sc_take.nd rfl (.inl rfl) (pe_ix ix_list (pe_ix ix_list (pv 0) pe_int (fun _ _ => rfl)) (pe_ix ix_list (pv 0) pe_int (fun _ _ => rfl)) (fun _ _ => rfl)))
        (pss_cons (ps_asg (pe_op o_add (pe_ix ix_list (pv 0) pe_int (fun _ _ => rfl)) pe_int) (pg_sub (pv 0) pe_int set_list))
        (pss_cons (ps_asg (pe_op o_mod (pe_callTy c_int (by rfl) T.z_int (by decide +kernel) (pa_cons (pe_op o_add (pe_op o_add (pe_op o_mul (pe_ix ix_list (pv 0) pe_int (fun _ _ => rfl)) pe_int) (pe_op o_mul (pe_op o_mod (pe_callTy c_int (by rfl) T.z_int (by decide +kernel) (pa_cons (pv 2) pa_nil)) pe_int) pe_int)) pe_int) pa_nil)) pe_int) (pg_sub (pv 0) pe_int set_list))
        (pss_one (ps_if (pt_cmpR o_ge (pv 2) (pe_op o_pow pe_int pe_int) (nomark _)) (pss_one (ps_asg (pe_op o_sub (pv 2) (pe_op o_pow pe_int pe_int)) (pg_sub (pv 0) pe_int set_list))) pss_nil)))))
        pss_nil)
      (pss_cons (ps_if (pt_cmpR o_gt (pe_ix ix_list (pv 0) pe_int (fun _ _ => rfl)) pe_int (nomark _))
        (pss_cons (ps_set (i := 3) sc_take.nd rfl (.inl rfl) (pe_op o_mod (pe_callTy c_int (by rfl) T.z_int (by decide +kernel) (pa_cons (pe_ix ix_list (pv 0) pe_int (fun _ _ => rfl)) pa_nil)) (pv 1)))
        (pss_cons (ps_asg (pe_op o_div (pe_ix ix_list (pv 0) pe_int (fun _ _ => rfl)) (pv 1)) (pg_sub (pv 0) pe_int set_list))
        (pss_one (ps_ret (pv 3))))) pss_nil)
      (pss_cons (ps_asg (pe_op o_mod (pe_callTy c_int (by rfl) T.z_int (by decide +kernel) (pa_cons (pe_op o_add (pe_op o_mul (pe_ix ix_list (pv 0) pe_int (fun _ _ => rfl)) pe_int) pe_int) pa_nil)) pe_int) (pg_sub (pv 0) pe_int set_list))
      (pss_one (ps_ret (pe_op o_mod (pe_callTy c_int (by rfl) T.z_int (by decide +kernel) (pa_cons (pe_op o_div (pe_ix ix_list (pv 0) pe_int (fun _ _ => rfl)) pe_int) pa_nil)) (pv 1))))))
  · obtain ⟨P, cs0, a, l, ns, b, n, rfl, w, hl, n0, n1, q⟩ := h
    exact rd_takeR w hl n0 n1 (fun H1 w1 => q H1 P (Ext.refl _) w1)
def sp_box (K : PySem.W.Frag) (G : GA) : Sp := fun vs H Q _ => ∃ (P : Hp) (cs0 : Cs) (a : Addr) (ns : List Int), vs = [.ref a] ∧ Wd P H cs0 ∧ SqL K P a (ns.map V.int) ∧ ns.length ≤ 63 ∧
  ∀ (H1 P1 : Hp) (p l : Addr), Ext P P1 → Wd P1 H1 ((p, boxO l box0) :: cs0) → SqL K P1 l ((absL ns).map V.int) → Q (.ref p) H1
theorem sc_box : FnScope ["_law_script", "_law_cell"] ["_law_script"] (defScope s_box) := ⟨rfl, rfl, rfl, by decide +kernel, rfl, by decide +kernel, by decide +kernel⟩
theorem c_box {P : Program} {w : World} {K : PySem.W.Frag} {mg : Str → Option Value} {base : Heap} {G : GA} (T : Tx K G mg) : Cal P w K mg base 1 "_law_box" (sp_box K G) := by
  obtain ⟨f, fd, F, b, g⟩ := T.d_box
  refine ⟨f, fd, _, F.ok sc_box (fun vs H Q E h => ?_) (fun cdv A outer s H vs Q E hr h => ⟨tBoxR K, ?_, ?_⟩), g, F.kp, b⟩
  · obtain ⟨_, _, _, _, rfl, _⟩ := h
    rfl
  · exact pss_one (ps_ret (pe_lst (pa_cons (pe_lc (own := [("_law_cell", 1)]) rfl sc_box.nd (pi_list (pe_slice sl_list (pv 0) po_none (po_some pe_int))) (blkOk_by (N := ["_law_script", "_law_cell"]) (sc := defScope s_box) (by decide +kernel)) (fun _ _ _ _ _ => pg_name (i := 1) sc_box.nd rfl (Or.inl rfl)) (fun _ _ _ _ _ => pts_nil) (fun _ _ _ _ _ => pe_callB call_abs (by rfl) T.z_abs (by decide +kernel) (pa_cons (pv 1) pa_nil))) (pa_cons pe_int (pa_cons pe_int (pa_cons pe_int pa_nil))))))
  · obtain ⟨P, cs0, a, ns, rfl, w, hl, hlen, q⟩ := h
    exact rd_boxR w hl hlen q

def m_signs  : (List Nat) :=
  ((cs " !\"#$&'()*+,-./0123456789:;<=>?@ABCDEFGHIJKLMNOPQRSTUVWXYZ") ++ (cs "[\\]^_`abcdefghijklmnopqrstuvwxyz{|}~"))
def sp_signs (K : PySem.W.Frag) (G : GA) : Sp := fun vs H Q _ => ∃ (P : Hp) (cs0 : Cs) , vs = [] ∧ Wd P H cs0 ∧ ∀ (H1 P1 : Hp), Ext P P1 → Wd P1 H1 cs0 → Q (S m_signs) H1
def t_signs (K : PySem.W.Frag) (G : GA) : TS := (tSeq (tAsg (tC (S (cs " !\"#$&'()*+,-./0123456789:;<=>?@ABCDEFGHIJKLMNOPQRSTUVWXYZ"))) (gName 0)) (tRet (tOp rAddS (tVar 0) (tC (S (cs "[\\]^_`abcdefghijklmnopqrstuvwxyz{|}~"))))))
theorem sc_signs : FnScope ["_law_every"] [] (defScope s_signs) := ⟨rfl, rfl, rfl, by decide +kernel, rfl, by decide +kernel, by decide +kernel⟩
theorem rd_signs {K : PySem.W.Frag} {G : GA} (F : Fa K G) (vs : List V) (H : Hp) (Q : VK) (E : XK) (h : sp_signs K G vs H Q E) : t_signs K G { nx := fun _ H1 => Q .non H1, rt := Q } (L2.start ["_law_every"] vs) H := by
  obtain ⟨P, cs0, rfl, w, q⟩ := h
  generalize eR : m_signs = R0 at q
  unfold m_signs at eR
  try dsimp only at eR
  refine ⟨_, rfl, _, _, rfl, rfl, (sz (by have hc0 : (cs " !\"#$&'()*+,-./0123456789:;<=>?@ABCDEFGHIJKLMNOPQRSTUVWXYZ").length = 58 := (by decide); have hc1 : (cs "[\\]^_`abcdefghijklmnopqrstuvwxyz{|}~").length = 36 := (by decide); (try simp only [List.length_append, List.length_cons, List.length_nil, List.length_map]); omega)), ?_⟩
  subst eR
  exact q H P (Ext.refl _) w
theorem fn_signs {P : Program} {w : World} {K : PySem.W.Frag} {mg : Str → Option Value} {base : Heap} {G : GA} {f : Addr} {fd : FuncData} (T : Tx K G mg) (F : Fun K "_law_signs" "_law_signs" s_signs f fd) : FnOk P w K mg base CX0 1 f fd [] (sp_signs K G) := by
  refine F.ok sc_signs (fun vs H Q E h => ?_) (fun cdv A outer s H vs Q E hr h => ⟨t_signs K G, ?_, rd_signs T.fa vs H Q E h⟩)
  · obtain ⟨_, _, rfl, _⟩ := h
    rfl
  · exact (pss_cons (ps_set (i := 0) sc_signs.nd rfl (.inl rfl) pe_strS) (pss_one (ps_ret (pe_op o_addS (pv 0) pe_strS))))
theorem c_signs {P : Program} {w : World} {K : PySem.W.Frag} {mg : Str → Option Value} {base : Heap} {G : GA} (T : Tx K G mg) : Cal P w K mg base 1 "_law_signs" (sp_signs K G) := by
  obtain ⟨f, fd, F, b, g⟩ := T.d_signs
  exact ⟨f, fd, _, fn_signs T F, g, F.kp, b⟩

theorem signs_len : m_signs.length = 94 := by decide
def m_sign (ns : List Int) (boxhere1 : Box) : (Nat × Box) :=
  (let t1 := (m_take ns boxhere1 94); (m_signs.getD (t1.1).toNat 0, t1.2))
def sp_sign (K : PySem.W.Frag) (G : GA) : Sp := fun vs H Q _ => ∃ (P : Hp) (cs0 : Cs) (aboxhere1 lboxhere1 : Addr) (ns : List Int) (boxhere1 : Box), vs = [V.ref aboxhere1] ∧ Wd P H ((aboxhere1, (boxO lboxhere1 boxhere1)) :: cs0) ∧ SqL K P lboxhere1 (ns.map V.int) ∧ ∀ (H1 P1 : Hp), Ext P P1 → Wd P1 H1 ((aboxhere1, (boxO lboxhere1 (m_sign ns boxhere1).2)) :: cs0) → Q (S [(m_sign ns boxhere1).1]) H1
def t_sign (K : PySem.W.Frag) (G : GA) : TS := (tRet (tOp rIxT1 (tCall (sp_signs K G) [] E0 tNil) (tCall (sp_take K G) [] E0 (tCons (tVar 0) (tCons (tC (V.int 94)) tNil)))))
theorem sc_sign : FnScope ["_law_box_here"] ["_law_box_here"] (defScope s_sign) := ⟨rfl, rfl, rfl, by decide +kernel, rfl, by decide +kernel, by decide +kernel⟩
theorem rd_sign {K : PySem.W.Frag} {G : GA} (F : Fa K G) (vs : List V) (H : Hp) (Q : VK) (E : XK) (h : sp_sign K G vs H Q E) : t_sign K G { nx := fun _ H1 => Q .non H1, rt := Q } (L2.start ["_law_box_here"] vs) H := by
  obtain ⟨P, cs0, aboxhere1, lboxhere1, ns, boxhere1, rfl, w, hl, q⟩ := h
  generalize eR : (m_sign ns boxhere1) = R0 at q
  unfold m_sign at eR
  try dsimp only at eR
  refine ⟨P, ((aboxhere1, (boxO lboxhere1 boxhere1)) :: cs0), rfl, w, fun H1 P1 e1 w1 => ?_⟩
  replace hl := Ext.sql e1 hl
  have hp1 := signs_len
  refine ⟨_, rfl, P1, (cs0), aboxhere1, lboxhere1, ns, boxhere1, 94, rfl, w1, hl, (by decide), (by decide), fun H2 P2 e2 w2 => ?_⟩
  replace hl := Ext.sql e2 hl
  have hp2 := take_rng ns boxhere1 (n := 94) (by decide)
  generalize et1 : (m_take ns boxhere1 94) = t1 at w2 hp2 eR ⊢
  refine ⟨_, _, _, rfl, rfl, (sz (by (try simp only [List.length_append, List.length_cons, List.length_nil, List.length_map]); omega)), (atI_getD (d := 0) (by (try simp only [List.length_append, List.length_cons, List.length_nil, List.length_map]); omega)), ?_⟩
  subst eR
  exact q H2 P2 (e1.trans e2) w2
theorem fn_sign {P : Program} {w : World} {K : PySem.W.Frag} {mg : Str → Option Value} {base : Heap} {G : GA} {f : Addr} {fd : FuncData} (T : Tx K G mg) (F : Fun K "_law_sign" "_law_sign" s_sign f fd) : FnOk P w K mg base CX0 2 f fd ["_law_box_here"] (sp_sign K G) := by
  refine F.ok sc_sign (fun vs H Q E h => ?_) (fun cdv A outer s H vs Q E hr h => ⟨t_sign K G, ?_, rd_sign T.fa vs H Q E h⟩)
  · obtain ⟨_, _, _, _, _, _, rfl, _⟩ := h
    rfl
  · exact (pss_one (ps_ret (pe_ix i_str (pe_c0 (c_signs T) hr (by decide) (by rfl)) (pe_c (c_take T) hr (by decide) (by rfl) (pa_cons (pv 0) (pa_cons pe_int pa_nil))) (fun _ _ => rfl))))
theorem c_sign {P : Program} {w : World} {K : PySem.W.Frag} {mg : Str → Option Value} {base : Heap} {G : GA} (T : Tx K G mg) : Cal P w K mg base 2 "_law_sign" (sp_sign K G) := by
  obtain ⟨f, fd, F, b, g⟩ := T.d_sign
  exact ⟨f, fd, _, fn_sign T F, g, F.kp, b⟩

def m_comes_before (first1 : (List Nat)) (second1 : (List Nat)) : Bool :=
  (lexSc [Sc.i (first1.length : Int), Sc.t first1] [Sc.i (second1.length : Int), Sc.t second1])
def sp_comes_before (K : PySem.W.Frag) (G : GA) : Sp := fun vs H Q _ => ∃ (P : Hp) (cs0 : Cs) (first1 : (List Nat)) (second1 : (List Nat)), vs = [(S first1), (S second1)] ∧ Wd P H cs0 ∧ (first1.length ≤ 100000) ∧ (second1.length ≤ 100000) ∧ ∀ (H1 P1 : Hp), Ext P P1 → Wd P1 H1 cs0 → Q (V.bl (m_comes_before first1 second1)) H1
def t_comes_before (K : PySem.W.Frag) (G : GA) : TS := (tRet (tOp (rLtSc K) (tTup (tCons (tCB rLenS (tCons (tVar 0) tNil)) (tCons (tVar 0) tNil))) (tTup (tCons (tCB rLenS (tCons (tVar 1) tNil)) (tCons (tVar 1) tNil)))))
theorem sc_comes_before : FnScope ["first", "second"] ["first", "second"] (defScope s_comes_before) := ⟨rfl, rfl, rfl, by decide +kernel, rfl, by decide +kernel, by decide +kernel⟩
theorem rd_comes_before {K : PySem.W.Frag} {G : GA} (F : Fa K G) (vs : List V) (H : Hp) (Q : VK) (E : XK) (h : sp_comes_before K G vs H Q E) : t_comes_before K G { nx := fun _ H1 => Q .non H1, rt := Q } (L2.start ["first", "second"] vs) H := by
  obtain ⟨P, cs0, first1, second1, rfl, w, hpre0, hpre1, q⟩ := h
  generalize eR : (m_comes_before first1 second1) = R0 at q
  unfold m_comes_before at eR
  try dsimp only at eR
  refine ⟨_, rfl, _, rfl, (sz (by (try simp only [List.length_append, List.length_cons, List.length_nil, List.length_map]); omega)), _, rfl, (by show 2 ≤ sizeLine; decide), fun p1 np1 => ?_⟩
  have e1 := w.fext np1 (HO.tup ([(V.int (first1.length : Int)), (S first1)] : List V))
  have w1 := w.frz np1 (HO.tup ([(V.int (first1.length : Int)), (S first1)] : List V))
  have fq1 : upd P p1 (HO.tup ([(V.int (first1.length : Int)), (S first1)] : List V)) p1 = some (HO.tup ([(V.int (first1.length : Int)), (S first1)] : List V)) := upd_same
  generalize upd H p1 (HO.tup ([(V.int (first1.length : Int)), (S first1)] : List V)) = H1 at w1 ⊢
  generalize upd P p1 (HO.tup ([(V.int (first1.length : Int)), (S first1)] : List V)) = P1 at w1 e1 fq1
  have sq1 : SqT K P1 p1 ([(V.int (first1.length : Int)), (S first1)] : List V) := .inl (.inl fq1)
  refine ⟨_, rfl, _, rfl, (sz (by (try simp only [List.length_append, List.length_cons, List.length_nil, List.length_map]); omega)), _, rfl, (by show 2 ≤ sizeLine; decide), fun p2 np2 => ?_⟩
  have e2 := w1.fext np2 (HO.tup ([(V.int (second1.length : Int)), (S second1)] : List V))
  have w2 := w1.frz np2 (HO.tup ([(V.int (second1.length : Int)), (S second1)] : List V))
  have fq2 : upd P1 p2 (HO.tup ([(V.int (second1.length : Int)), (S second1)] : List V)) p2 = some (HO.tup ([(V.int (second1.length : Int)), (S second1)] : List V)) := upd_same
  generalize upd H1 p2 (HO.tup ([(V.int (second1.length : Int)), (S second1)] : List V)) = H2 at w2 ⊢
  generalize upd P1 p2 (HO.tup ([(V.int (second1.length : Int)), (S second1)] : List V)) = P2 at w2 e2 fq2
  replace sq1 := Ext.sqt e2 sq1
  have sq2 : SqT K P2 p2 ([(V.int (second1.length : Int)), (S second1)] : List V) := .inl (.inl fq2)
  refine ⟨p1, p2, [Sc.i (first1.length : Int), Sc.t first1], [Sc.i (second1.length : Int), Sc.t second1], rfl, rfl, (w2.sqt sq1), (w2.sqt sq2), rfl, ?_⟩
  subst eR
  exact q H2 P2 (e1.trans e2) w2
theorem fn_comes_before {P : Program} {w : World} {K : PySem.W.Frag} {mg : Str → Option Value} {base : Heap} {G : GA} {f : Addr} {fd : FuncData} (T : Tx K G mg) (F : Fun K "comes_before" "comes_before" s_comes_before f fd) : FnOk P w K mg base CX0 1 f fd ["first", "second"] (sp_comes_before K G) := by
  refine F.ok sc_comes_before (fun vs H Q E h => ?_) (fun cdv A outer s H vs Q E hr h => ⟨t_comes_before K G, ?_, rd_comes_before T.fa vs H Q E h⟩)
  · obtain ⟨_, _, _, _, rfl, _⟩ := h
    rfl
  · exact (pss_one (ps_ret (pe_cmpR (o_ltSc hr.units0) (pe_tup (pa_cons (pe_callB c_lenS (by rfl) T.z_len PySem.boot_len (pa_cons (pv 0) pa_nil)) (pa_cons (pv 0) pa_nil))) (pe_tup (pa_cons (pe_callB c_lenS (by rfl) T.z_len PySem.boot_len (pa_cons (pv 1) pa_nil)) (pa_cons (pv 1) pa_nil))) (nomark _))))
theorem c_comes_before {P : Program} {w : World} {K : PySem.W.Frag} {mg : Str → Option Value} {base : Heap} {G : GA} (T : Tx K G mg) : Cal P w K mg base 1 "comes_before" (sp_comes_before K G) := by
  obtain ⟨f, fd, F, b, g⟩ := T.d_comes_before
  exact ⟨f, fd, _, fn_comes_before T F, g, F.kp, b⟩

def lp_text_1 (ns : List Int) (pieces1 : (List (List Nat))) (k : (List Nat) → Box → ((List Nat) × Box)) : List Nat → (List Nat) → Box → ((List Nat) × Box)
  | [], texthere1, b1 => k texthere1 b1
  | i1 :: rest, texthere1, b1 => (let t2 := (m_take ns b1 5); (if (decide (t2.1 = 0)) then (let t3 := (m_sign ns t2.2); lp_text_1 ns pieces1 k rest (texthere1 ++ ([t3.1] : List Nat)) t3.2) else (let t4 := (m_take ns t2.2 (pieces1.length : Int)); lp_text_1 ns pieces1 k rest (texthere1 ++ (pieces1.getD (t4.1).toNat [])) t4.2)))
def m_text (ns : List Int) (boxhere1 : Box) (pieces1 : (List (List Nat))) (limit1 : Int) : ((List Nat) × Box) :=
  (let t1 := (m_take ns boxhere1 (limit1 + 1)); ((lp_text_1 ns pieces1) (fun (texthere2 : (List Nat)) (b2 : Box) => (texthere2, b2)) (List.range (t1.1).toNat) (cs "") t1.2))
def sp_text (K : PySem.W.Frag) (G : GA) : Sp := fun vs H Q _ => ∃ (P : Hp) (cs0 : Cs) (aboxhere1 lboxhere1 : Addr) (ns : List Int) (boxhere1 : Box) (vpieces1 : V) (pieces1 : (List (List Nat))) (limit1 : Int), vs = [V.ref aboxhere1, vpieces1, (V.int limit1)] ∧ Wd P H ((aboxhere1, (boxO lboxhere1 boxhere1)) :: cs0) ∧ SqL K P lboxhere1 (ns.map V.int) ∧ Dp K P vpieces1 (PyData.list (pieces1.map eS)) ∧ (0 < pieces1.length ∧ pieces1.length ≤ 1000) ∧ (∀ t ∈ pieces1, t.length ≤ 12) ∧ (0 ≤ limit1 ∧ limit1 ≤ 100) ∧ ∀ (H1 P1 : Hp), Ext P P1 → Wd P1 H1 ((aboxhere1, (boxO lboxhere1 (m_text ns boxhere1 pieces1 limit1).2)) :: cs0) → Q (S (m_text ns boxhere1 pieces1 limit1).1) H1
def t_text (K : PySem.W.Frag) (G : GA) : TS := (tSeq (tAsg (tC (S (cs ""))) (gName 3)) (tSeq (tFor (iRng1 (tCons (tCall (sp_take K G) [] E0 (tCons (tVar 0) (tCons (tOp rAdd (tVar 2) (tC (V.int 1))) tNil))) tNil)) (gName 4) (tIfS (tTest (tOp rEqI (tCall (sp_take K G) [] E0 (tCons (tVar 0) (tCons (tC (V.int 5)) tNil))) (tC (V.int 0)))) (tAsg (tOp rAddS (tVar 3) (tCall (sp_sign K G) [] E0 (tCons (tVar 0) tNil))) (gName 3)) (tAsg (tOp rAddS (tVar 3) (tOp (rIxL K) (tVar 1) (tCall (sp_take K G) [] E0 (tCons (tVar 0) (tCons (tCB (rLenM K) (tCons (tVar 1) tNil)) tNil))))) (gName 3)))) (tRet (tVar 3))))
theorem sc_text : FnScope ["_law_box_here", "_law_pieces", "_law_limit", "_law_text_here", "_law_k"] ["_law_box_here", "_law_pieces", "_law_limit"] (defScope s_text) := ⟨rfl, rfl, rfl, by decide +kernel, rfl, by decide +kernel, by decide +kernel⟩
theorem rd_text {K : PySem.W.Frag} {G : GA} (F : Fa K G) (vs : List V) (H : Hp) (Q : VK) (E : XK) (h : sp_text K G vs H Q E) : t_text K G { nx := fun _ H1 => Q .non H1, rt := Q } (L2.start ["_law_box_here", "_law_pieces", "_law_limit", "_law_text_here", "_law_k"] vs) H := by
  obtain ⟨P, cs0, aboxhere1, lboxhere1, ns, boxhere1, vpieces1, pieces1, limit1, rfl, w, hl, hdpieces1, hpre0, hpre1, hpre2, q⟩ := h
  generalize eR : (m_text ns boxhere1 pieces1 limit1) = R0 at q
  unfold m_text at eR
  try dsimp only at eR
  obtain ⟨a1, vs1, rfl, sq1, al1⟩ := dp_list hdpieces1
  refine ⟨_, rfl, _, rfl, _, _, rfl, rfl, P, (cs0), aboxhere1, lboxhere1, ns, boxhere1, (limit1 + 1), rfl, w, hl, (by omega), (by omega), fun H1 P1 e1 w1 => ?_⟩
  replace hl := Ext.sql e1 hl
  replace sq1 := Ext.sql e1 sq1
  replace al1 := DpAll.mono al1 e1
  have hp1 := take_rng ns boxhere1 (n := (limit1 + 1)) (by omega)
  generalize et1 : (m_take ns boxhere1 (limit1 + 1)) = t1 at w1 hp1 eR ⊢
  generalize hkl1 : (fun (texthere2 : (List Nat)) (b2 : Box) => (texthere2, b2)) = kl1 at eR
  refine ⟨_, rfl, (by omega), (by omega), for_it walk_range0 (fun i σz Hz => ∃ (Pz : Hp) (zz0 : (List Nat)) (zz1 : Box) (yz0 : Option V), Ext P1 Pz ∧ σz = [some (V.ref aboxhere1), some (.ref a1), some (V.int limit1), some (S zz0), yz0] ∧ Wd Pz Hz ((aboxhere1, (boxO lboxhere1 zz1)) :: cs0) ∧ (zz0.length ≤ i * 12) ∧ (lp_text_1 ns pieces1) kl1 ((List.range (t1.1).toNat).drop i) zz0 zz1 = R0) ?_ ?_ ?_ ?_⟩
  · exact ⟨P1, (cs ""), t1.2, none, (Ext.refl _), rfl, w1, (by decide), eR⟩
  · rintro i σz Hz _ ⟨Pz, zz0, zz1, yz0, ee, rfl, ww, _⟩
    trivial
  · rintro i1 x1 _ H2 H3 hi1 ⟨P2, texthere1, b1, y2, e2, rfl, w2, hinv1, eR⟩ y1
    replace hl := Ext.sql e2 hl
    replace sq1 := Ext.sql e2 sq1
    replace al1 := DpAll.mono al1 e2
    obtain ⟨eH1, hx1⟩ := y1
    rw [eH1]
    subst hx1
    have eD1 := range_drop (n := (t1.1).toNat) (i := i1) (by assumption)
    rw [eD1] at eR
    rw [lp_text_1] at eR
    try dsimp only at eR
    refine ⟨_, rfl, P2, (cs0), aboxhere1, lboxhere1, ns, b1, 5, rfl, w2, hl, (by decide), (by decide), fun H4 P3 e3 w3 => ?_⟩
    replace hl := Ext.sql e3 hl
    replace sq1 := Ext.sql e3 sq1
    replace al1 := DpAll.mono al1 e3
    have hp2 := take_rng ns b1 (n := 5) (by decide)
    generalize et2 : (m_take ns b1 5) = t2 at w3 hp2 eR ⊢
    refine ⟨_, _, rfl, rfl, _, rfl, ?_⟩
    refine iteB (fun hb1 => ?_) (fun hb1 => ?_)
    · rw [ite_t hb1] at eR
      have hb1p := of_decide_eq_true hb1
      refine ⟨_, rfl, _, rfl, P3, (cs0), aboxhere1, lboxhere1, ns, t2.2, rfl, w3, hl, fun H5 P4 e4 w4 => ?_⟩
      replace hl := Ext.sql e4 hl
      replace sq1 := Ext.sql e4 sq1
      replace al1 := DpAll.mono al1 e4
      generalize et3 : (m_sign ns t2.2) = t3 at w4 eR ⊢
      refine ⟨_, _, rfl, rfl, (sz (by (try simp only [List.length_append, List.length_cons, List.length_nil, List.length_map]); omega)), ?_⟩
      exact ⟨P4, (texthere1 ++ ([t3.1] : List Nat)), t3.2, (some (V.int ((i1 : Nat) : Int))), ((e2.trans e3).trans e4), rfl, w4, (by (try simp only [List.length_append, List.length_cons, List.length_nil]); omega), eR⟩
    · rw [ite_f hb1] at eR
      have hb1p := of_decide_eq_false hb1
      refine ⟨_, rfl, _, rfl, _, rfl, _, rfl, a1, vs1, (pieces1.length), rfl, (w3.sql sq1), (by rw [dpa_len al1, List.length_map]), P3, (cs0), aboxhere1, lboxhere1, ns, t2.2, (pieces1.length : Int), rfl, w3, hl, (by omega), (by omega), fun H6 P5 e5 w5 => ?_⟩
      replace hl := Ext.sql e5 hl
      replace sq1 := Ext.sql e5 sq1
      replace al1 := DpAll.mono al1 e5
      have hp3 := take_rng ns t2.2 (n := (pieces1.length : Int)) (by omega)
      generalize et4 : (m_take ns t2.2 (pieces1.length : Int)) = t4 at w5 hp3 eR ⊢
      obtain ⟨v1, hat1, hd1⟩ := dpa_at (i := t4.1) (d := []) al1 (by (try simp only [List.length_append, List.length_cons, List.length_nil, List.length_map]); omega)
      obtain rfl := dp_str hd1
      have hgl1 := getD_len hpre1 (t4.1).toNat
      refine ⟨a1, _, _, _, rfl, rfl, (w5.sql sq1), hat1, _, _, rfl, rfl, (sz (by (try simp only [List.length_append, List.length_cons, List.length_nil, List.length_map]); omega)), ?_⟩
      exact ⟨P5, (texthere1 ++ (pieces1.getD (t4.1).toNat [])), t4.2, (some (V.int ((i1 : Nat) : Int))), ((e2.trans e3).trans e5), rfl, w5, (by (try simp only [List.length_append, List.length_cons, List.length_nil]); omega), eR⟩
  rintro _ H7 ⟨P6, texthere2, b2, y3, e6, rfl, w6, hinv1, eR⟩
  rw [drop_range_all, lp_text_1] at eR
  subst hkl1
  try dsimp only at eR
  replace hl := Ext.sql e6 hl
  replace sq1 := Ext.sql e6 sq1
  replace al1 := DpAll.mono al1 e6
  refine ⟨_, rfl, ?_⟩
  subst eR
  exact q H7 P6 (e1.trans e6) w6
theorem fn_text {P : Program} {w : World} {K : PySem.W.Frag} {mg : Str → Option Value} {base : Heap} {G : GA} {f : Addr} {fd : FuncData} (T : Tx K G mg) (F : Fun K "_law_text" "_law_text" s_text f fd) : FnOk P w K mg base CX0 3 f fd ["_law_box_here", "_law_pieces", "_law_limit"] (sp_text K G) := by
  refine F.ok sc_text (fun vs H Q E h => ?_) (fun cdv A outer s H vs Q E hr h => ⟨t_text K G, ?_, rd_text T.fa vs H Q E h⟩)
  · obtain ⟨_, _, _, _, _, _, _, _, _, rfl, _⟩ := h
    rfl
  · exact (pss_cons (ps_set (i := 3) sc_text.nd rfl (.inl rfl) pe_strS) (pss_cons (ps_for PassesOwn.never rfl (pi_range1 (by rfl) T.z_range (pa_cons (pe_c (c_take T) hr (by decide) (by rfl) (pa_cons (pv 0) (pa_cons (pe_op o_add (pv 2) pe_int) pa_nil))) pa_nil)) (pg_name (i := 4) sc_text.nd rfl (Or.inl rfl)) (pss_one (ps_if (pt_cmpR o_eqI (pe_c (c_take T) hr (by decide) (by rfl) (pa_cons (pv 0) (pa_cons pe_int pa_nil))) pe_int (nomark _)) (pss_one (ps_set (i := 3) sc_text.nd rfl (.inl rfl) (pe_op o_addS (pv 3) (pe_c (c_sign T) hr (by decide) (by rfl) (pa_cons (pv 0) pa_nil))))) (pss_one (ps_set (i := 3) sc_text.nd rfl (.inl rfl) (pe_op o_addS (pv 3) (pe_ix ix_list (pv 1) (pe_c (c_take T) hr (by decide) (by rfl) (pa_cons (pv 0) (pa_cons (pe_callB c_lenM (by rfl) T.z_len PySem.boot_len (pa_cons (pv 1) pa_nil)) pa_nil))) (fun _ _ => rfl)))))))) (pss_one (ps_ret (pv 3)))))
theorem c_text {P : Program} {w : World} {K : PySem.W.Frag} {mg : Str → Option Value} {base : Heap} {G : GA} (T : Tx K G mg) : Cal P w K mg base 3 "_law_text" (sp_text K G) := by
  obtain ⟨f, fd, F, b, g⟩ := T.d_text
  exact ⟨f, fd, _, fn_text T F, g, F.kp, b⟩

theorem lp_text_len (ns : List Int) (ps : List (List Nat)) (c : Nat) (hp : ∀ t ∈ ps, t.length ≤ c) (h1 : 1 ≤ c) : ∀ (l : List Nat) (t : List Nat) (b : Box), (lp_text_1 ns ps (fun t b => (t, b)) l t b).1.length ≤ t.length + l.length * c
  | [], t, b => by rw [lp_text_1]; simp
  | i :: r, t, b => by
    rw [lp_text_1]
    dsimp only
    rw [List.length_cons, Nat.succ_mul]
    split
    · refine Nat.le_trans (lp_text_len ns ps c hp h1 r _ _) ?_
      rw [List.length_append, List.length_singleton]
      omega
    · refine Nat.le_trans (lp_text_len ns ps c hp h1 r _ _) ?_
      rw [List.length_append]
      have := getD_len hp (m_take ns (m_take ns b 5).2 (ps.length : Int)).1.toNat
      omega
theorem text_len (ns : List Int) (b : Box) (ps : List (List Nat)) (n : Int) {c : Nat} (hp : ∀ t ∈ ps, t.length ≤ c) (h1 : 1 ≤ c) (h0 : 0 ≤ n) : (m_text ns b ps n).1.length ≤ n.toNat * c := by
  unfold m_text
  dsimp only
  have h := lp_text_len ns ps c hp h1 (List.range (m_take ns b (n + 1)).1.toNat) (cs "") (m_take ns b (n + 1)).2
  have h2 := take_rng ns b (n := n + 1) (by omega)
  rw [List.length_range] at h
  have h3 : (m_take ns b (n + 1)).1.toNat * c ≤ n.toNat * c := Nat.mul_le_mul_right _ (by omega)
  have h4 : (cs "").length = 0 := by decide
  omega

def m_before (first1 : (List Nat)) (second1 : (List Nat)) : Bool :=
  ((decide ((first1.length : Int) < (second1.length : Int))) || ((decide ((first1.length : Int) = (second1.length : Int))) && (decide (first1 < second1))))
def sp_before (K : PySem.W.Frag) (G : GA) : Sp := fun vs H Q _ => ∃ (P : Hp) (cs0 : Cs) (first1 : (List Nat)) (second1 : (List Nat)), vs = [(S first1), (S second1)] ∧ Wd P H cs0 ∧ (first1.length ≤ 100000) ∧ (second1.length ≤ 100000) ∧ ∀ (H1 P1 : Hp), Ext P P1 → Wd P1 H1 cs0 → Q (V.bl (m_before first1 second1)) H1
def t_before (K : PySem.W.Frag) (G : GA) : TS := (tRet (tOrV (tOp rLt (tCB rLenS (tCons (tVar 0) tNil)) (tCB rLenS (tCons (tVar 1) tNil))) (tAndV (tOp rEqI (tCB rLenS (tCons (tVar 0) tNil)) (tCB rLenS (tCons (tVar 1) tNil))) (tOp rLtS (tVar 0) (tVar 1)))))
theorem sc_before : FnScope ["_law_first", "_law_second"] ["_law_first", "_law_second"] (defScope s_before) := ⟨rfl, rfl, rfl, by decide +kernel, rfl, by decide +kernel, by decide +kernel⟩
theorem rd_before {K : PySem.W.Frag} {G : GA} (F : Fa K G) (vs : List V) (H : Hp) (Q : VK) (E : XK) (h : sp_before K G vs H Q E) : t_before K G { nx := fun _ H1 => Q .non H1, rt := Q } (L2.start ["_law_first", "_law_second"] vs) H := by
  obtain ⟨P, cs0, first1, second1, rfl, w, hpre0, hpre1, q⟩ := h
  generalize eR : (m_before first1 second1) = R0 at q
  unfold m_before at eR
  try dsimp only at eR
  have hB1 : ∀ Q : VK, (∀ Hz Pz, Ext P Pz → Wd Pz Hz cs0 → Q (V.bl ((decide ((first1.length : Int) < (second1.length : Int))) || ((decide ((first1.length : Int) = (second1.length : Int))) && (decide (first1 < second1))))) Hz) → (tOrV (tOp rLt (tCB rLenS (tCons (tVar 0) tNil)) (tCB rLenS (tCons (tVar 1) tNil))) (tAndV (tOp rEqI (tCB rLenS (tCons (tVar 0) tNil)) (tCB rLenS (tCons (tVar 1) tNil))) (tOp rLtS (tVar 0) (tVar 1)))) [some (S first1), some (S second1)] H Q := by
    intro Q hQ
    refine ⟨_, rfl, _, rfl, (sz (by (try simp only [List.length_append, List.length_cons, List.length_nil, List.length_map]); omega)), _, rfl, _, rfl, (sz (by (try simp only [List.length_append, List.length_cons, List.length_nil, List.length_map]); omega)), _, _, rfl, rfl, _, rfl, ?_⟩
    refine iteB (fun hb1 => ?_) (fun hb1 => ?_)
    · have hq1 := hQ H P (Ext.refl _) w
      rw [hb1, Bool.true_or] at hq1
      exact hq1
    · have hB2 : ∀ Q : VK, (∀ Hz Pz, Ext P Pz → Wd Pz Hz cs0 → Q (V.bl ((decide ((first1.length : Int) = (second1.length : Int))) && (decide (first1 < second1)))) Hz) → (tAndV (tOp rEqI (tCB rLenS (tCons (tVar 0) tNil)) (tCB rLenS (tCons (tVar 1) tNil))) (tOp rLtS (tVar 0) (tVar 1))) [some (S first1), some (S second1)] H Q := by
        intro Q hQ
        refine ⟨_, rfl, _, rfl, (sz (by (try simp only [List.length_append, List.length_cons, List.length_nil, List.length_map]); omega)), _, rfl, _, rfl, (sz (by (try simp only [List.length_append, List.length_cons, List.length_nil, List.length_map]); omega)), _, _, rfl, rfl, _, rfl, ?_⟩
        refine iteB (fun hb2 => ?_) (fun hb2 => ?_)
        · refine ⟨_, rfl, _, rfl, _, _, rfl, rfl, ?_⟩
          have hq2 := hQ H P (Ext.refl _) w
          rw [hb2, Bool.true_and] at hq2
          exact hq2
        · have hq3 := hQ H P (Ext.refl _) w
          rw [hb2, Bool.false_and] at hq3
          exact hq3
      refine hB2 _ fun H1 P1 e1 w1 => ?_
      have hq4 := hQ H1 P1 e1 w1
      rw [hb1, Bool.false_or] at hq4
      exact hq4
  refine hB1 _ fun H2 P2 e2 w2 => ?_
  subst eR
  exact q H2 P2 e2 w2
theorem fn_before {P : Program} {w : World} {K : PySem.W.Frag} {mg : Str → Option Value} {base : Heap} {G : GA} {f : Addr} {fd : FuncData} (T : Tx K G mg) (F : Fun K "_law_before" "_law_before" s_before f fd) : FnOk P w K mg base CX0 1 f fd ["_law_first", "_law_second"] (sp_before K G) := by
  refine F.ok sc_before (fun vs H Q E h => ?_) (fun cdv A outer s H vs Q E hr h => ⟨t_before K G, ?_, rd_before T.fa vs H Q E h⟩)
  · obtain ⟨_, _, _, _, rfl, _⟩ := h
    rfl
  · exact (pss_one (ps_ret (pe_or (pe_cmpR o_lt (pe_callB c_lenS (by rfl) T.z_len PySem.boot_len (pa_cons (pv 0) pa_nil)) (pe_callB c_lenS (by rfl) T.z_len PySem.boot_len (pa_cons (pv 1) pa_nil)) (nomark _)) (pe_one (pe_and (pe_cmpR o_eqI (pe_callB c_lenS (by rfl) T.z_len PySem.boot_len (pa_cons (pv 0) pa_nil)) (pe_callB c_lenS (by rfl) T.z_len PySem.boot_len (pa_cons (pv 1) pa_nil)) (nomark _)) (pe_one (pe_cmpR o_ltS (pv 0) (pv 1) (nomark _))))))))
theorem c_before {P : Program} {w : World} {K : PySem.W.Frag} {mg : Str → Option Value} {base : Heap} {G : GA} (T : Tx K G mg) : Cal P w K mg base 1 "_law_before" (sp_before K G) := by
  obtain ⟨f, fd, F, b, g⟩ := T.d_before
  exact ⟨f, fd, _, fn_before T F, g, F.kp, b⟩

def lp_law_3  (k : Bool) : List Bool → Bool
  | [] => k 
  | it1 :: rest => (if (!true) then false else lp_law_3 k rest )
def m_law (ns : List Int) : Bool :=
  (let t1 := (m_text ns box0 ([(cs "a"), (cs "A"), (cs "0"), (cs "~"), (cs " "), (cs "b")] : List (List Nat)) 10); (let t2 := (m_take ns t1.2 3); (jn (fun (second1 : (List Nat)) (b1 : Box) => (jn (fun (second2 : (List Nat)) (b2 : Box) => (lp_law_3 ((if ((!(decide ((([(m_comes_before t1.1 second2), (m_comes_before second2 t1.1)] : List Bool).getD 0 false) = (m_before t1.1 second2)))) || (!(decide ((([(m_comes_before t1.1 second2), (m_comes_before second2 t1.1)] : List Bool).getD 1 false) = (m_before second2 t1.1))))) then false else (decide ((decide (t1.1 = second2)) = ((!(([(m_comes_before t1.1 second2), (m_comes_before second2 t1.1)] : List Bool).getD 0 false)) && (!(([(m_comes_before t1.1 second2), (m_comes_before second2 t1.1)] : List Bool).getD 1 false))))))) ([(m_comes_before t1.1 second2), (m_comes_before second2 t1.1)] : List Bool) )) (fun (kj2 : (List Nat) → Box → Bool) => (if ((decide (t2.1 = 1)) && (!(decide (t1.1 = (cs ""))))) then (let t4 := (m_take ns b1 (t1.1.length : Int)); (let t5 := (m_sign ns t4.2); kj2 (((cutT t1.1 none (some t4.1)) ++ ([t5.1] : List Nat)) ++ (cutT t1.1 (some (t4.1 + 1)) none)) t5.2)) else kj2 second1 b1)))) (fun (kj1 : (List Nat) → Box → Bool) => (if (decide (t2.1 = 0)) then (let t3 := (m_text ns t2.2 ([(cs "a"), (cs "A"), (cs "0"), (cs "~"), (cs " "), (cs "b")] : List (List Nat)) 10); kj1 t3.1 t3.2) else kj1 t1.1 t2.2)))))
def sp_law (K : PySem.W.Frag) (G : GA) : Sp := fun vs H Q _ => ∃ (P : Hp) (cs0 : Cs) (ascr : Addr) (ns0 : List Int), vs = [V.ref ascr] ∧ Wd P H cs0 ∧ SqL K P ascr (ns0.map V.int) ∧ ns0.length ≤ 63 ∧ ∀ (H1 P1 : Hp), Ext P P1 → Wd P1 H1 cs0 → Q (V.bl (m_law (absL ns0))) H1
def t_law (K : PySem.W.Frag) (G : GA) : TS := (tSeq (tAsg (tCall (sp_box K G) [] E0 (tCons (tVar 0) tNil)) (gName 1)) (tSeq (tAsg (tLst (tCons (tC (S (cs "a"))) (tCons (tC (S (cs "A"))) (tCons (tC (S (cs "0"))) (tCons (tC (S (cs "~"))) (tCons (tC (S (cs " "))) (tCons (tC (S (cs "b"))) tNil))))))) (gName 2)) (tSeq (tAsg (tCall (sp_text K G) [] E0 (tCons (tVar 1) (tCons (tVar 2) (tCons (tC (V.int 10)) tNil)))) (gName 3)) (tSeq (tAsg (tCall (sp_take K G) [] E0 (tCons (tVar 1) (tCons (tC (V.int 3)) tNil))) (gName 4)) (tSeq (tAsg (tVar 3) (gName 5)) (Evl.tCut (tIfS (tTest (tOp rEqI (tVar 4) (tC (V.int 0)))) (tAsg (tCall (sp_text K G) [] E0 (tCons (tVar 1) (tCons (tVar 2) (tCons (tC (V.int 10)) tNil)))) (gName 5)) tNext) (Evl.tCut (tIfS (tAnd (tTest (tOp rEqI (tVar 4) (tC (V.int 1)))) (tTest (tOp rNeS (tVar 3) (tC (S (cs "")))))) (tSeq (tAsg (tCall (sp_take K G) [] E0 (tCons (tVar 1) (tCons (tCB rLenS (tCons (tVar 3) tNil)) tNil))) (gName 6)) (tAsg (tOp rAddS (tOp rAddS (tSl rSlT1 (tVar 3) tNoPart (tPart (tVar 6))) (tCall (sp_sign K G) [] E0 (tCons (tVar 1) tNil))) (tSl rSlT1 (tVar 3) (tPart (tOp rAdd (tVar 6) (tC (V.int 1)))) tNoPart)) (gName 5))) tNext) (tSeq (tAsg (tLst (tCons (tCall (sp_comes_before K G) [] E0 (tCons (tVar 3) (tCons (tVar 5) tNil))) (tCons (tCall (sp_comes_before K G) [] E0 (tCons (tVar 5) (tCons (tVar 3) tNil))) tNil))) (gName 7)) (tSeq (tFor (iList K (tVar 7)) (gName 8) (tIfS (tNot (tB (tCB (rIsi K) (tCons (tVar 8) (tCons (tC (V.ty "bool")) tNil))))) (tRet (tC (V.bl false))) tNext)) (tSeq (tIfS (tOr (tTest (tOp rNeB (tOp (rIxL K) (tVar 7) (tC (V.int 0))) (tCall (sp_before K G) [] E0 (tCons (tVar 3) (tCons (tVar 5) tNil))))) (tTest (tOp rNeB (tOp (rIxL K) (tVar 7) (tC (V.int 1))) (tCall (sp_before K G) [] E0 (tCons (tVar 5) (tCons (tVar 3) tNil)))))) (tRet (tC (V.bl false))) tNext) (tRet (tOp rEqB (tOp rEqS (tVar 3) (tVar 5)) (tAndV (tNotV (tOp (rIxL K) (tVar 7) (tC (V.int 0)))) (tNotV (tOp (rIxL K) (tVar 7) (tC (V.int 1)))))))))))))))))
theorem sc_law : FnScope ["_law_script", "_law_box_here", "_law_pieces", "_law_first", "_law_way", "_law_second", "_law_at", "_law_actual", "_law_one"] ["_law_script"] (defScope s_law) := ⟨rfl, rfl, rfl, by decide +kernel, rfl, by decide +kernel, by decide +kernel⟩
theorem rd_law {K : PySem.W.Frag} {G : GA} (F : Fa K G) (vs : List V) (H : Hp) (Q : VK) (E : XK) (h : sp_law K G vs H Q E) : t_law K G { nx := fun _ H1 => Q .non H1, rt := Q } (L2.start ["_law_script", "_law_box_here", "_law_pieces", "_law_first", "_law_way", "_law_second", "_law_at", "_law_actual", "_law_one"] vs) H := by
  obtain ⟨P, cs0, ascr, ns0, rfl, w, hl0, hlen0, q⟩ := h
  generalize eR : (m_law (absL ns0)) = R0 at q
  unfold m_law at eR
  try dsimp only at eR
  refine ⟨_, rfl, P, (cs0), ascr, ns0, rfl, w, hl0, hlen0, fun H1 P1 p1 l1 e1 w1 hl => ?_⟩
  generalize absL ns0 = ns at hl eR q
  replace hl0 := Ext.sql e1 hl0
  refine ⟨(by show 6 ≤ sizeLine; decide), fun p2 np1 => ?_⟩
  have al1 : DpAll K P1 ([(S (cs "a")), (S (cs "A")), (S (cs "0")), (S (cs "~")), (S (cs " ")), (S (cs "b"))] : List V) (([(cs "a"), (cs "A"), (cs "0"), (cs "~"), (cs " "), (cs "b")] : List (List Nat)).map eS) := (DpAll.cons (pd_str _) (DpAll.cons (pd_str _) (DpAll.cons (pd_str _) (DpAll.cons (pd_str _) (DpAll.cons (pd_str _) (DpAll.cons (pd_str _) DpAll.nil))))))
  have e2 := w1.fext np1 (HO.lst ([(S (cs "a")), (S (cs "A")), (S (cs "0")), (S (cs "~")), (S (cs " ")), (S (cs "b"))] : List V))
  have w2 := w1.frz np1 (HO.lst ([(S (cs "a")), (S (cs "A")), (S (cs "0")), (S (cs "~")), (S (cs " ")), (S (cs "b"))] : List V))
  have fq1 : upd P1 p2 (HO.lst ([(S (cs "a")), (S (cs "A")), (S (cs "0")), (S (cs "~")), (S (cs " ")), (S (cs "b"))] : List V)) p2 = some (HO.lst ([(S (cs "a")), (S (cs "A")), (S (cs "0")), (S (cs "~")), (S (cs " ")), (S (cs "b"))] : List V)) := upd_same
  generalize upd H1 p2 (HO.lst ([(S (cs "a")), (S (cs "A")), (S (cs "0")), (S (cs "~")), (S (cs " ")), (S (cs "b"))] : List V)) = H2 at w2 ⊢
  generalize upd P1 p2 (HO.lst ([(S (cs "a")), (S (cs "A")), (S (cs "0")), (S (cs "~")), (S (cs " ")), (S (cs "b"))] : List V)) = P2 at w2 e2 fq1
  replace hl := Ext.sql e2 hl
  replace al1 := DpAll.mono al1 e2
  have sq1 : SqL K P2 p2 ([(S (cs "a")), (S (cs "A")), (S (cs "0")), (S (cs "~")), (S (cs " ")), (S (cs "b"))] : List V) := .inl (.inl fq1)
  refine ⟨_, rfl, _, rfl, P2, (cs0), p1, l1, ns, box0, (.ref p2), ([(cs "a"), (cs "A"), (cs "0"), (cs "~"), (cs " "), (cs "b")] : List (List Nat)), 10, rfl, w2, hl, (Dp.lst sq1 al1), (by decide), (by decide), (by decide), fun H3 P3 e3 w3 => ?_⟩
  replace hl := Ext.sql e3 hl
  replace al1 := DpAll.mono al1 e3
  replace sq1 := Ext.sql e3 sq1
  have hp1 := text_len ns box0 ([(cs "a"), (cs "A"), (cs "0"), (cs "~"), (cs " "), (cs "b")] : List (List Nat)) 10 (c := 12) (by first | assumption | decide) (by decide) (by decide)
  generalize et1 : (m_text ns box0 ([(cs "a"), (cs "A"), (cs "0"), (cs "~"), (cs " "), (cs "b")] : List (List Nat)) 10) = t1 at w3 hp1 eR ⊢
  refine ⟨_, rfl, P3, (cs0), p1, l1, ns, t1.2, 3, rfl, w3, hl, (by decide), (by decide), fun H4 P4 e4 w4 => ?_⟩
  replace hl := Ext.sql e4 hl
  replace al1 := DpAll.mono al1 e4
  replace sq1 := Ext.sql e4 sq1
  have hp2 := take_rng ns t1.2 (n := 3) (by decide)
  generalize et2 : (m_take ns t1.2 3) = t2 at w4 hp2 eR ⊢
  refine ⟨_, rfl, ?_⟩
  generalize hkj1 : (fun (second1 : (List Nat)) (b1 : Box) => (jn (fun (second2 : (List Nat)) (b2 : Box) => (lp_law_3 ((if ((!(decide ((([(m_comes_before t1.1 second2), (m_comes_before second2 t1.1)] : List Bool).getD 0 false) = (m_before t1.1 second2)))) || (!(decide ((([(m_comes_before t1.1 second2), (m_comes_before second2 t1.1)] : List Bool).getD 1 false) = (m_before second2 t1.1))))) then false else (decide ((decide (t1.1 = second2)) = ((!(([(m_comes_before t1.1 second2), (m_comes_before second2 t1.1)] : List Bool).getD 0 false)) && (!(([(m_comes_before t1.1 second2), (m_comes_before second2 t1.1)] : List Bool).getD 1 false))))))) ([(m_comes_before t1.1 second2), (m_comes_before second2 t1.1)] : List Bool) )) (fun (kj2 : (List Nat) → Box → Bool) => (if ((decide (t2.1 = 1)) && (!(decide (t1.1 = (cs ""))))) then (let t4 := (m_take ns b1 (t1.1.length : Int)); (let t5 := (m_sign ns t4.2); kj2 (((cutT t1.1 none (some t4.1)) ++ ([t5.1] : List Nat)) ++ (cutT t1.1 (some (t4.1 + 1)) none)) t5.2)) else kj2 second1 b1)))) = kj1 at eR
  unfold jn at eR
  try dsimp only at eR
  refine q_join (fun σz Hz => ∃ (Pz : Hp) (zz0 : (List Nat)) (zz1 : Box), Ext P4 Pz ∧ σz = [some (V.ref ascr), some (V.ref p1), some (.ref p2), some (S t1.1), some (V.int t2.1), some (S zz0), none, none, none] ∧ Wd Pz Hz ((p1, (boxO l1 zz1)) :: cs0) ∧ (zz0.length ≤ 120) ∧ kj1 zz0 zz1 = R0) ?_ ?_
  · refine ⟨_, rfl, _, _, rfl, rfl, _, rfl, ?_⟩
    refine iteB (fun hb1 => ?_) (fun hb1 => ?_)
    · rw [ite_t hb1] at eR
      have hb1p := of_decide_eq_true hb1
      refine ⟨_, rfl, _, rfl, P4, (cs0), p1, l1, ns, t2.2, (.ref p2), ([(cs "a"), (cs "A"), (cs "0"), (cs "~"), (cs " "), (cs "b")] : List (List Nat)), 10, rfl, w4, hl, (Dp.lst sq1 al1), (by decide), (by decide), (by decide), fun H5 P5 e5 w5 => ?_⟩
      replace hl := Ext.sql e5 hl
      replace al1 := DpAll.mono al1 e5
      replace sq1 := Ext.sql e5 sq1
      have hp3 := text_len ns t2.2 ([(cs "a"), (cs "A"), (cs "0"), (cs "~"), (cs " "), (cs "b")] : List (List Nat)) 10 (c := 12) (by first | assumption | decide) (by decide) (by decide)
      generalize et3 : (m_text ns t2.2 ([(cs "a"), (cs "A"), (cs "0"), (cs "~"), (cs " "), (cs "b")] : List (List Nat)) 10) = t3 at w5 hp3 eR ⊢
      exact ⟨P5, t3.1, t3.2, e5, rfl, w5, (by omega), eR⟩
    · rw [ite_f hb1] at eR
      have hb1p := of_decide_eq_false hb1
      exact ⟨P4, t1.1, t2.2, (Ext.refl _), rfl, w4, (by omega), eR⟩
  rintro _ H6 ⟨P6, second1, b1, e6, rfl, w6, hinvj1, eR⟩
  subst hkj1
  try dsimp only at eR
  replace hl := Ext.sql e6 hl
  replace al1 := DpAll.mono al1 e6
  replace sq1 := Ext.sql e6 sq1
  generalize hkj2 : (fun (second2 : (List Nat)) (b2 : Box) => (lp_law_3 ((if ((!(decide ((([(m_comes_before t1.1 second2), (m_comes_before second2 t1.1)] : List Bool).getD 0 false) = (m_before t1.1 second2)))) || (!(decide ((([(m_comes_before t1.1 second2), (m_comes_before second2 t1.1)] : List Bool).getD 1 false) = (m_before second2 t1.1))))) then false else (decide ((decide (t1.1 = second2)) = ((!(([(m_comes_before t1.1 second2), (m_comes_before second2 t1.1)] : List Bool).getD 0 false)) && (!(([(m_comes_before t1.1 second2), (m_comes_before second2 t1.1)] : List Bool).getD 1 false))))))) ([(m_comes_before t1.1 second2), (m_comes_before second2 t1.1)] : List Bool) )) = kj2 at eR
  unfold jn at eR
  try dsimp only at eR
  refine q_join (fun σz Hz => ∃ (Pz : Hp) (zz0 : (List Nat)) (zz1 : Box) (yz0 : Option V), Ext P6 Pz ∧ σz = [some (V.ref ascr), some (V.ref p1), some (.ref p2), some (S t1.1), some (V.int t2.1), some (S zz0), yz0, none, none] ∧ Wd Pz Hz ((p1, (boxO l1 zz1)) :: cs0) ∧ (zz0.length ≤ 400) ∧ kj2 zz0 zz1 = R0) ?_ ?_
  · have hB1 : ∀ Q : (Bool → Hp → Prop), (∀ Hz Pz, Ext P6 Pz → Wd Pz Hz ((p1, (boxO l1 b1)) :: cs0) → Q ((decide (t2.1 = 1)) && (!(decide (t1.1 = (cs ""))))) Hz) → (tAnd (tTest (tOp rEqI (tVar 4) (tC (V.int 1)))) (tTest (tOp rNeS (tVar 3) (tC (S (cs "")))))) [some (V.ref ascr), some (V.ref p1), some (.ref p2), some (S t1.1), some (V.int t2.1), some (S second1), none, none, none] H6 Q := by
      intro Q hQ
      refine ⟨_, rfl, _, _, rfl, rfl, _, rfl, ?_⟩
      refine iteB (fun hb2 => ?_) (fun hb2 => ?_)
      · refine ⟨_, rfl, _, _, rfl, rfl, _, rfl, ?_⟩
        have hq1 := hQ H6 P6 (Ext.refl _) w6
        rw [hb2, Bool.true_and] at hq1
        exact hq1
      · have hq2 := hQ H6 P6 (Ext.refl _) w6
        rw [hb2, Bool.false_and] at hq2
        exact hq2
    refine hB1 _ fun H7 P7 e7 w7 => ?_
    replace hl := Ext.sql e7 hl
    replace al1 := DpAll.mono al1 e7
    replace sq1 := Ext.sql e7 sq1
    refine iteB (fun hb3 => ?_) (fun hb3 => ?_)
    · rw [ite_t hb3] at eR
      have hb3p := hb3
      try simp only [Bool.and_eq_true, Bool.or_eq_true, Bool.not_eq_true', Bool.and_eq_false_iff, Bool.or_eq_false_iff, Bool.not_eq_false', decide_eq_true_eq, decide_eq_false_iff_not] at hb3p
      have hb3l := len_pos (t := t1.1) (by first | exact hb3p | exact hb3p.1 | exact hb3p.2 | exact hb3p.2.1 | assumption)
      refine ⟨_, rfl, _, rfl, _, rfl, (sz (by (try simp only [List.length_append, List.length_cons, List.length_nil, List.length_map]); omega)), P7, (cs0), p1, l1, ns, b1, (t1.1.length : Int), rfl, w7, hl, (by omega), (by omega), fun H8 P8 e8 w8 => ?_⟩
      replace hl := Ext.sql e8 hl
      replace al1 := DpAll.mono al1 e8
      replace sq1 := Ext.sql e8 sq1
      have hp4 := take_rng ns b1 (n := (t1.1.length : Int)) (by omega)
      generalize et4 : (m_take ns b1 (t1.1.length : Int)) = t4 at w8 hp4 eR ⊢
      have hcl1 := cutT_len t1.1 none (some t4.1)
      refine ⟨_, rfl, _, rfl, _, rfl, _, rfl, (sz (by (try simp only [List.length_append, List.length_cons, List.length_nil, List.length_map]); omega)), _, rfl, P8, (cs0), p1, l1, ns, t4.2, rfl, w8, hl, fun H9 P9 e9 w9 => ?_⟩
      replace hl := Ext.sql e9 hl
      replace al1 := DpAll.mono al1 e9
      replace sq1 := Ext.sql e9 sq1
      generalize et5 : (m_sign ns t4.2) = t5 at w9 eR ⊢
      have hcl2 := cutT_len t1.1 (some (t4.1 + 1)) none
      refine ⟨_, _, rfl, rfl, (sz (by (try simp only [List.length_append, List.length_cons, List.length_nil, List.length_map]); omega)), _, rfl, _, rfl, _, _, rfl, rfl, _, rfl, _, rfl, (sz (by (try simp only [List.length_append, List.length_cons, List.length_nil, List.length_map]); omega)), _, _, rfl, rfl, (sz (by (try simp only [List.length_append, List.length_cons, List.length_nil, List.length_map]); omega)), ?_⟩
      exact ⟨P9, (((cutT t1.1 none (some t4.1)) ++ ([t5.1] : List Nat)) ++ (cutT t1.1 (some (t4.1 + 1)) none)), t5.2, (some (V.int t4.1)), ((e7.trans e8).trans e9), rfl, w9, (by (try simp only [List.length_append, List.length_cons, List.length_nil]); omega), eR⟩
    · rw [ite_f hb3] at eR
      have hb3p := hb3
      try simp only [Bool.and_eq_true, Bool.or_eq_true, Bool.not_eq_true', Bool.and_eq_false_iff, Bool.or_eq_false_iff, Bool.not_eq_false', decide_eq_true_eq, decide_eq_false_iff_not] at hb3p
      have hb3l := True.intro
      exact ⟨P7, second1, b1, none, e7, rfl, w7, (by (try simp only [List.length_append, List.length_cons, List.length_nil]); omega), eR⟩
  rintro _ H10 ⟨P10, second2, b2, y1, e10, rfl, w10, hinvj2, eR⟩
  subst hkj2
  try dsimp only at eR
  replace hl := Ext.sql e10 hl
  replace al1 := DpAll.mono al1 e10
  replace sq1 := Ext.sql e10 sq1
  refine ⟨_, rfl, _, rfl, P10, ((p1, (boxO l1 b2)) :: cs0), t1.1, second2, rfl, w10, (by (try simp only [List.length_append, List.length_cons, List.length_nil, List.length_map]); omega), (by (try simp only [List.length_append, List.length_cons, List.length_nil, List.length_map]); omega), fun H11 P11 e11 w11 => ?_⟩
  replace hl := Ext.sql e11 hl
  replace al1 := DpAll.mono al1 e11
  replace sq1 := Ext.sql e11 sq1
  refine ⟨_, rfl, _, rfl, P11, ((p1, (boxO l1 b2)) :: cs0), second2, t1.1, rfl, w11, (by (try simp only [List.length_append, List.length_cons, List.length_nil, List.length_map]); omega), (by (try simp only [List.length_append, List.length_cons, List.length_nil, List.length_map]); omega), fun H12 P12 e12 w12 => ?_⟩
  replace hl := Ext.sql e12 hl
  replace al1 := DpAll.mono al1 e12
  replace sq1 := Ext.sql e12 sq1
  refine ⟨(by show 2 ≤ sizeLine; decide), fun p3 np2 => ?_⟩
  have al2 : DpAll K P12 ([(V.bl (m_comes_before t1.1 second2)), (V.bl (m_comes_before second2 t1.1))] : List V) (([(m_comes_before t1.1 second2), (m_comes_before second2 t1.1)] : List Bool).map PyData.bool) := (DpAll.cons (pd_bl _) (DpAll.cons (pd_bl _) DpAll.nil))
  have e13 := w12.fext np2 (HO.lst ([(V.bl (m_comes_before t1.1 second2)), (V.bl (m_comes_before second2 t1.1))] : List V))
  have w13 := w12.frz np2 (HO.lst ([(V.bl (m_comes_before t1.1 second2)), (V.bl (m_comes_before second2 t1.1))] : List V))
  have fq2 : upd P12 p3 (HO.lst ([(V.bl (m_comes_before t1.1 second2)), (V.bl (m_comes_before second2 t1.1))] : List V)) p3 = some (HO.lst ([(V.bl (m_comes_before t1.1 second2)), (V.bl (m_comes_before second2 t1.1))] : List V)) := upd_same
  generalize upd H12 p3 (HO.lst ([(V.bl (m_comes_before t1.1 second2)), (V.bl (m_comes_before second2 t1.1))] : List V)) = H13 at w13 ⊢
  generalize upd P12 p3 (HO.lst ([(V.bl (m_comes_before t1.1 second2)), (V.bl (m_comes_before second2 t1.1))] : List V)) = P13 at w13 e13 fq2
  replace hl := Ext.sql e13 hl
  replace al1 := DpAll.mono al1 e13
  replace sq1 := Ext.sql e13 sq1
  replace al2 := DpAll.mono al2 e13
  have sq2 : SqL K P13 p3 ([(V.bl (m_comes_before t1.1 second2)), (V.bl (m_comes_before second2 t1.1))] : List V) := .inl (.inl fq2)
  generalize hkl3 : ((if ((!(decide ((([(m_comes_before t1.1 second2), (m_comes_before second2 t1.1)] : List Bool).getD 0 false) = (m_before t1.1 second2)))) || (!(decide ((([(m_comes_before t1.1 second2), (m_comes_before second2 t1.1)] : List Bool).getD 1 false) = (m_before second2 t1.1))))) then false else (decide ((decide (t1.1 = second2)) = ((!(([(m_comes_before t1.1 second2), (m_comes_before second2 t1.1)] : List Bool).getD 0 false)) && (!(([(m_comes_before t1.1 second2), (m_comes_before second2 t1.1)] : List Bool).getD 1 false))))))) = kl3 at eR
  refine ⟨_, rfl, p3, rfl, ⟨_, (w13.sql sq2)⟩, for_it (walk_list (K := K) (a := p3) (xs := ([(V.bl (m_comes_before t1.1 second2)), (V.bl (m_comes_before second2 t1.1))] : List V))) (fun i σz Hz => ∃ (Pz : Hp) (yz0 : Option V), Ext P13 Pz ∧ σz = [some (V.ref ascr), some (V.ref p1), some (.ref p2), some (S t1.1), some (V.int t2.1), some (S second2), y1, some (.ref p3), yz0] ∧ Wd Pz Hz ((p1, (boxO l1 b2)) :: cs0) ∧ lp_law_3 kl3 (([(m_comes_before t1.1 second2), (m_comes_before second2 t1.1)] : List Bool).drop i)  = R0) ?_ ?_ ?_ ?_⟩
  · exact ⟨P13, none, (Ext.refl _), rfl, w13, eR⟩
  · rintro i σz Hz _ ⟨Pz, yz0, ee, rfl, ww, _⟩
    exact ww.sql (Ext.sql ee sq2)
  · rintro i1 x1 _ H14 H15 hi1 ⟨P14, y3, e14, rfl, w14, eR⟩ y2
    replace hl := Ext.sql e14 hl
    replace al1 := DpAll.mono al1 e14
    replace sq1 := Ext.sql e14 sq1
    replace al2 := DpAll.mono al2 e14
    replace sq2 := Ext.sql e14 sq2
    obtain ⟨eH1, hx1⟩ := y2
    rw [eH1]
    obtain ⟨it1, memit1, hd1, eD1⟩ := dpa_get al2 hx1
    replace memit1 : it1 ∈ ([(m_comes_before t1.1 second2), (m_comes_before second2 t1.1)] : List Bool) := List.mem_of_getElem? memit1
    obtain rfl := dp_bl hd1
    rw [eD1] at eR
    rw [lp_law_3] at eR
    try dsimp only at eR
    refine ⟨_, rfl, _, _, (.type "bool"), (.type "bool"), true, rfl, (.ty _), (.base (.bl _)), (kit_ty (by decide +kernel)), _, rfl, ?_⟩
    refine iteB (fun hb4 => ?_) (fun hb4 => ?_)
    · rw [ite_t hb4] at eR
      subst eR
      exact q H14 P14 (((((((((e1.trans e2).trans e3).trans e4).trans e6).trans e10).trans e11).trans e12).trans e13).trans e14) (w14.pull 0 rfl).tl
    · rw [ite_f hb4] at eR
      exact ⟨P14, (some (V.bl it1)), e14, rfl, w14, eR⟩
  rintro _ H16 ⟨P15, y4, e15, rfl, w15, eR⟩
  rw [drop_dpa_all al2, lp_law_3] at eR
  subst hkl3
  try dsimp only at eR
  replace hl := Ext.sql e15 hl
  replace al1 := DpAll.mono al1 e15
  replace sq1 := Ext.sql e15 sq1
  replace al2 := DpAll.mono al2 e15
  replace sq2 := Ext.sql e15 sq2
  have hB2 : ∀ Q : (Bool → Hp → Prop), (∀ Hz Pz, Ext P15 Pz → Wd Pz Hz ((p1, (boxO l1 b2)) :: cs0) → Q ((!(decide ((([(m_comes_before t1.1 second2), (m_comes_before second2 t1.1)] : List Bool).getD 0 false) = (m_before t1.1 second2)))) || (!(decide ((([(m_comes_before t1.1 second2), (m_comes_before second2 t1.1)] : List Bool).getD 1 false) = (m_before second2 t1.1))))) Hz) → (tOr (tTest (tOp rNeB (tOp (rIxL K) (tVar 7) (tC (V.int 0))) (tCall (sp_before K G) [] E0 (tCons (tVar 3) (tCons (tVar 5) tNil))))) (tTest (tOp rNeB (tOp (rIxL K) (tVar 7) (tC (V.int 1))) (tCall (sp_before K G) [] E0 (tCons (tVar 5) (tCons (tVar 3) tNil)))))) [some (V.ref ascr), some (V.ref p1), some (.ref p2), some (S t1.1), some (V.int t2.1), some (S second2), y1, some (.ref p3), y4] H16 Q := by
    intro Q hQ
    obtain ⟨v1, hat1, hd2⟩ := dpa_atN (n := 0) (d := false) al2 (by (try simp only [List.length_append, List.length_cons, List.length_nil, List.length_map]); omega)
    obtain rfl := dp_bl hd2
    refine ⟨_, rfl, p3, _, _, _, rfl, rfl, (w15.sql sq2), hat1, _, rfl, _, rfl, P15, ((p1, (boxO l1 b2)) :: cs0), t1.1, second2, rfl, w15, (by (try simp only [List.length_append, List.length_cons, List.length_nil, List.length_map]); omega), (by (try simp only [List.length_append, List.length_cons, List.length_nil, List.length_map]); omega), fun H17 P16 e16 w16 => ?_⟩
    replace hl := Ext.sql e16 hl
    replace al1 := DpAll.mono al1 e16
    replace sq1 := Ext.sql e16 sq1
    replace al2 := DpAll.mono al2 e16
    replace sq2 := Ext.sql e16 sq2
    refine ⟨_, _, rfl, rfl, _, rfl, ?_⟩
    refine iteB (fun hb5 => ?_) (fun hb5 => ?_)
    · have hq3 := hQ H17 P16 e16 w16
      rw [hb5, Bool.true_or] at hq3
      exact hq3
    · obtain ⟨v2, hat2, hd3⟩ := dpa_atN (n := 1) (d := false) al2 (by (try simp only [List.length_append, List.length_cons, List.length_nil, List.length_map]); omega)
      obtain rfl := dp_bl hd3
      refine ⟨_, rfl, p3, _, _, _, rfl, rfl, (w16.sql sq2), hat2, _, rfl, _, rfl, P16, ((p1, (boxO l1 b2)) :: cs0), second2, t1.1, rfl, w16, (by (try simp only [List.length_append, List.length_cons, List.length_nil, List.length_map]); omega), (by (try simp only [List.length_append, List.length_cons, List.length_nil, List.length_map]); omega), fun H18 P17 e17 w17 => ?_⟩
      replace hl := Ext.sql e17 hl
      replace al1 := DpAll.mono al1 e17
      replace sq1 := Ext.sql e17 sq1
      replace al2 := DpAll.mono al2 e17
      replace sq2 := Ext.sql e17 sq2
      refine ⟨_, _, rfl, rfl, _, rfl, ?_⟩
      have hq4 := hQ H18 P17 (e16.trans e17) w17
      rw [hb5, Bool.false_or] at hq4
      exact hq4
  refine hB2 _ fun H19 P18 e18 w18 => ?_
  replace hl := Ext.sql e18 hl
  replace al1 := DpAll.mono al1 e18
  replace sq1 := Ext.sql e18 sq1
  replace al2 := DpAll.mono al2 e18
  replace sq2 := Ext.sql e18 sq2
  refine iteB (fun hb6 => ?_) (fun hb6 => ?_)
  · rw [ite_t hb6] at eR
    have hb6p := hb6
    try simp only [Bool.and_eq_true, Bool.or_eq_true, Bool.not_eq_true', Bool.and_eq_false_iff, Bool.or_eq_false_iff, Bool.not_eq_false', decide_eq_true_eq, decide_eq_false_iff_not] at hb6p
    subst eR
    exact q H19 P18 ((((((((((e1.trans e2).trans e3).trans e4).trans e6).trans e10).trans e11).trans e12).trans e13).trans e15).trans e18) (w18.pull 0 rfl).tl
  · rw [ite_f hb6] at eR
    have hb6p := hb6
    try simp only [Bool.and_eq_true, Bool.or_eq_true, Bool.not_eq_true', Bool.and_eq_false_iff, Bool.or_eq_false_iff, Bool.not_eq_false', decide_eq_true_eq, decide_eq_false_iff_not] at hb6p
    refine ⟨_, rfl, _, rfl, _, _, rfl, rfl, ?_⟩
    have hB3 : ∀ Q : VK, (∀ Hz Pz, Ext P18 Pz → Wd Pz Hz ((p1, (boxO l1 b2)) :: cs0) → Q (V.bl ((!(([(m_comes_before t1.1 second2), (m_comes_before second2 t1.1)] : List Bool).getD 0 false)) && (!(([(m_comes_before t1.1 second2), (m_comes_before second2 t1.1)] : List Bool).getD 1 false)))) Hz) → (tAndV (tNotV (tOp (rIxL K) (tVar 7) (tC (V.int 0)))) (tNotV (tOp (rIxL K) (tVar 7) (tC (V.int 1))))) [some (V.ref ascr), some (V.ref p1), some (.ref p2), some (S t1.1), some (V.int t2.1), some (S second2), y1, some (.ref p3), y4] H19 Q := by
      intro Q hQ
      obtain ⟨v3, hat3, hd4⟩ := dpa_atN (n := 0) (d := false) al2 (by (try simp only [List.length_append, List.length_cons, List.length_nil, List.length_map]); omega)
      obtain rfl := dp_bl hd4
      refine ⟨_, rfl, p3, _, _, _, rfl, rfl, (w18.sql sq2), hat3, _, rfl, _, rfl, ?_⟩
      refine iteB (fun hb7 => ?_) (fun hb7 => ?_)
      · obtain ⟨v4, hat4, hd5⟩ := dpa_atN (n := 1) (d := false) al2 (by (try simp only [List.length_append, List.length_cons, List.length_nil, List.length_map]); omega)
        obtain rfl := dp_bl hd5
        refine ⟨_, rfl, p3, _, _, _, rfl, rfl, (w18.sql sq2), hat4, _, rfl, ?_⟩
        have hq5 := hQ H19 P18 (Ext.refl _) w18
        rw [hb7, Bool.true_and] at hq5
        exact hq5
      · have hq6 := hQ H19 P18 (Ext.refl _) w18
        rw [hb7, Bool.false_and] at hq6
        exact hq6
    refine hB3 _ fun H20 P19 e19 w19 => ?_
    replace hl := Ext.sql e19 hl
    replace al1 := DpAll.mono al1 e19
    replace sq1 := Ext.sql e19 sq1
    replace al2 := DpAll.mono al2 e19
    replace sq2 := Ext.sql e19 sq2
    refine ⟨_, _, rfl, rfl, ?_⟩
    subst eR
    exact q H20 P19 (((((((((((e1.trans e2).trans e3).trans e4).trans e6).trans e10).trans e11).trans e12).trans e13).trans e15).trans e18).trans e19) (w19.pull 0 rfl).tl
theorem fn_law {P : Program} {w : World} {K : PySem.W.Frag} {mg : Str → Option Value} {base : Heap} {G : GA} {f : Addr} {fd : FuncData} (T : Tx K G mg) (F : Fun K "law" "law" s_law f fd) : FnOk P w K mg base CX0 4 f fd ["_law_script"] (sp_law K G) := by
  refine F.ok sc_law (fun vs H Q E h => ?_) (fun cdv A outer s H vs Q E hr h => ⟨t_law K G, ?_, rd_law T.fa vs H Q E h⟩)
  · obtain ⟨_, _, _, _, rfl, _⟩ := h
    rfl
  · exact (pss_cons (ps_set (i := 1) sc_law.nd rfl (.inl rfl) (pe_c (c_box T) hr (by decide) (by rfl) (pa_cons (pv 0) pa_nil))) (pss_cons (ps_set (i := 2) sc_law.nd rfl (.inl rfl) (pe_lst (pa_cons pe_strS (pa_cons pe_strS (pa_cons pe_strS (pa_cons pe_strS (pa_cons pe_strS (pa_cons pe_strS pa_nil)))))))) (pss_cons (ps_set (i := 3) sc_law.nd rfl (.inl rfl) (pe_c (c_text T) hr (by decide) (by rfl) (pa_cons (pv 1) (pa_cons (pv 2) (pa_cons pe_int pa_nil))))) (pss_cons (ps_set (i := 4) sc_law.nd rfl (.inl rfl) (pe_c (c_take T) hr (by decide) (by rfl) (pa_cons (pv 1) (pa_cons pe_int pa_nil)))) (pss_cons (ps_set (i := 5) sc_law.nd rfl (.inl rfl) (pv 3)) (Evl.pss_cut (ps_if (pt_cmpR o_eqI (pv 4) pe_int (nomark _)) (pss_one (ps_set (i := 5) sc_law.nd rfl (.inl rfl) (pe_c (c_text T) hr (by decide) (by rfl) (pa_cons (pv 1) (pa_cons (pv 2) (pa_cons pe_int pa_nil)))))) pss_nil) (Evl.pss_cut (ps_if (PW.pt (pw_and (pt_cmpR o_eqI (pv 4) pe_int (nomark _)) (pw_and1 (pt_cmpR o_neS (pv 3) pe_strS (nomark _))))) (pss_cons (ps_set (i := 6) sc_law.nd rfl (.inl rfl) (pe_c (c_take T) hr (by decide) (by rfl) (pa_cons (pv 1) (pa_cons (pe_callB c_lenS (by rfl) T.z_len PySem.boot_len (pa_cons (pv 3) pa_nil)) pa_nil)))) (pss_one (ps_set (i := 5) sc_law.nd rfl (.inl rfl) (pe_op o_addS (pe_op o_addS (pe_slice s_strT (pv 3) po_none (po_some (pv 6))) (pe_c (c_sign T) hr (by decide) (by rfl) (pa_cons (pv 1) pa_nil))) (pe_slice s_strT (pv 3) (po_some (pe_op o_add (pv 6) pe_int)) po_none))))) pss_nil) (pss_cons (ps_set (i := 7) sc_law.nd rfl (.inl rfl) (pe_lst (pa_cons (pe_c (c_comes_before T) hr (by decide) (by rfl) (pa_cons (pv 3) (pa_cons (pv 5) pa_nil))) (pa_cons (pe_c (c_comes_before T) hr (by decide) (by rfl) (pa_cons (pv 5) (pa_cons (pv 3) pa_nil))) pa_nil)))) (pss_cons (ps_for PassesOwn.never rfl (pi_list (pv 7)) (pg_name (i := 8) sc_law.nd rfl (Or.inl rfl)) (pss_one (ps_if (pt_not (pt_val (pe_callB call_isi (by rfl) T.z_isinstance (by decide +kernel) (pa_cons (pv 8) (pa_cons (pe_bltn (v := V.ty "bool") (by rfl) T.z_bool (by decide +kernel) rfl) pa_nil))))) (pss_one (ps_ret pe_bl)) pss_nil))) (pss_cons (ps_if (PW.pt (pw_or (pt_cmpR o_neB (pe_ix ix_list (pv 7) pe_int (fun _ _ => rfl)) (pe_c (c_before T) hr (by decide) (by rfl) (pa_cons (pv 3) (pa_cons (pv 5) pa_nil))) (nomark _)) (pw_or1 (pt_cmpR o_neB (pe_ix ix_list (pv 7) pe_int (fun _ _ => rfl)) (pe_c (c_before T) hr (by decide) (by rfl) (pa_cons (pv 5) (pa_cons (pv 3) pa_nil))) (nomark _))))) (pss_one (ps_ret pe_bl)) pss_nil) (pss_one (ps_ret (pe_cmpR o_eqB (pe_cmpR o_eqS (pv 3) (pv 5) (nomark _)) (pe_and (pe_not (pe_ix ix_list (pv 7) pe_int (fun _ _ => rfl))) (pe_one (pe_not (pe_ix ix_list (pv 7) pe_int (fun _ _ => rfl))))) (nomark _))))))))))))))
theorem c_law {P : Program} {w : World} {K : PySem.W.Frag} {mg : Str → Option Value} {base : Heap} {G : GA} (T : Tx K G mg) : Cal P w K mg base 4 "law" (sp_law K G) := by
  obtain ⟨f, fd, F, b, g⟩ := T.d_law
  exact ⟨f, fd, _, fn_law T F, g, F.kp, b⟩

theorem lt_tri : ∀ a b : List Nat, a < b ∨ a = b ∨ b < a
  | [], [] => .inr (.inl rfl)
  | [], y :: b => .inl (List.nil_lt_cons y b)
  | x :: a, [] => .inr (.inr (List.nil_lt_cons x a))
  | x :: a, y :: b => by
    rw [List.cons_lt_cons_iff, List.cons_lt_cons_iff]
    rcases Nat.lt_trichotomy x y with h | h | h
    · exact .inl (.inl h)
    · subst h
      rcases lt_tri a b with h | h | h
      · exact .inl (.inr ⟨rfl, h⟩)
      · exact .inr (.inl (by rw [h]))
      · exact .inr (.inr (.inr ⟨rfl, h⟩))
    · exact .inr (.inr (.inl h))
theorem lt_irr : ∀ a : List Nat, ¬ a < a
  | [] => List.not_lt_nil []
  | x :: a => by
    rw [List.cons_lt_cons_iff]
    rintro (h | ⟨_, h⟩)
    · exact Nat.lt_irrefl _ h
    · exact lt_irr a h
theorem cb_eq (a b : List Nat) : m_comes_before a b = m_before a b := by
  unfold m_comes_before m_before
  show (if Sc.i (a.length : Int) = Sc.i (b.length : Int) then (if Sc.t a = Sc.t b then false else decide (a < b)) else decide ((a.length : Int) < (b.length : Int))) = _
  by_cases h : (a.length : Int) = (b.length : Int)
  · rw [if_pos (by rw [h]), decide_eq_false (show ¬ ((a.length : Int) < (b.length : Int)) by omega), decide_eq_true h, Bool.false_or, Bool.true_and]
    by_cases e : a = b
    · rw [if_pos (by rw [e]), e, decide_eq_false (lt_irr b)]
    · rw [if_neg (fun q => e (Sc.t.inj q))]
  · rw [if_neg (fun q => h (Sc.i.inj q)), decide_eq_false h, Bool.false_and, Bool.or_false]
theorem fin_eq (a b : List Nat) : decide (decide (a = b) = (!m_before a b && !m_before b a)) = true := by
  refine decide_eq_true ?_
  unfold m_before
  by_cases e : a = b
  · subst e
    rw [decide_eq_true rfl, decide_eq_false (show ¬ ((a.length : Int) < (a.length : Int)) by omega), decide_eq_false (lt_irr a)]
    simp
  · rw [decide_eq_false e]
    rcases Int.lt_trichotomy (a.length : Int) (b.length : Int) with h | h | h
    · rw [decide_eq_true h]
      simp
    · rcases lt_tri a b with q | q | q
      · rw [decide_eq_true h, decide_eq_true q]
        simp
      · exact absurd q e
      · rw [decide_eq_true h.symm, decide_eq_true q]
        simp
    · rw [decide_eq_true h]
      simp
theorem lp_true (k : Bool) (hk : k = true) : ∀ l : List Bool, lp_law_3 k l = true
  | [] => by rw [lp_law_3]; exact hk
  | x :: r => by
    rw [lp_law_3]
    rw [if_neg (by decide)]
    exact lp_true k hk r
theorem tail (a b : List Nat) : lp_law_3 ((if ((!(decide ((([(m_comes_before a b), (m_comes_before b a)] : List Bool).getD 0 false) = (m_before a b)))) || (!(decide ((([(m_comes_before a b), (m_comes_before b a)] : List Bool).getD 1 false) = (m_before b a))))) then false else (decide ((decide (a = b)) = ((!(([(m_comes_before a b), (m_comes_before b a)] : List Bool).getD 0 false)) && (!(([(m_comes_before a b), (m_comes_before b a)] : List Bool).getD 1 false))))))) ([(m_comes_before a b), (m_comes_before b a)] : List Bool) = true := by
  refine lp_true _ ?_ _
  rw [cb_eq, cb_eq]
  show (if ((!decide (m_before a b = m_before a b)) || (!decide (m_before b a = m_before b a))) = true then false else decide (decide (a = b) = (!m_before a b && !m_before b a))) = true
  rw [decide_eq_true rfl, decide_eq_true rfl, if_neg (by decide)]
  exact fin_eq a b
theorem law_true (ns : List Int) (h : ns.length ≤ 63) : m_law (absL ns) = true := by
  unfold m_law jn
  dsimp only
  split
  · split
    · exact tail _ _
    · exact tail _ _
  · split
    · exact tail _ _
    · exact tail _ _

theorem all_mk {l : PySem.W.OpenLaw} {w : World} {K : PySem.W.Frag} {h : Heap} {mg : Str → Option Value} {fa : Addr} (X : K.In h) (Gh : h.Ns mainGlobals mg) (hfa : mg "law" = some (.ref fa))
    {f_take f_box f_signs f_sign f_comes_before f_text f_before f_law : Addr} {od_take an_take od_box an_box od_signs an_signs od_sign an_sign od_comes_before an_comes_before od_text an_text od_before an_before od_law an_law : Option Addr} {sl_take sl_box sl_signs sl_sign sl_comes_before sl_text sl_before sl_law : Array (Option Value)} {oc_take kV_take dc_take pm_take cd_take ct_take oc_box kV_box dc_box pm_box cd_box ct_box oc_signs kV_signs dc_signs pm_signs cd_signs ct_signs oc_sign kV_sign dc_sign pm_sign cd_sign ct_sign oc_comes_before kV_comes_before dc_comes_before pm_comes_before cd_comes_before ct_comes_before oc_text kV_text dc_text pm_text cd_text ct_text oc_before kV_before dc_before pm_before cd_before ct_before oc_law kV_law dc_law pm_law cd_law ct_law : Value}
    (a_take : PySem.W.nsIn K mainGlobals "_law_take" = some (some (.ref f_take))) (l_take : K.lookup f_take = some ⟨oc_take, od_take, .func (PySem.W.fnOf "_law_take" "_law_take" (defArgs s_take) (defBody s_take) (defScope s_take) .none kV_take dc_take pm_take an_take cd_take ct_take), sl_take⟩) (c_take : PySem.W.codeIn K cd_take "_law_take" = true) (k_take : PySem.W.keepIn K (.ref f_take) = true)
    (a_box : PySem.W.nsIn K mainGlobals "_law_box" = some (some (.ref f_box))) (l_box : K.lookup f_box = some ⟨oc_box, od_box, .func (PySem.W.fnOf "_law_box" "_law_box" (defArgs s_box) (defBody s_box) (defScope s_box) .none kV_box dc_box pm_box an_box cd_box ct_box), sl_box⟩) (c_box : PySem.W.codeIn K cd_box "_law_box" = true) (k_box : PySem.W.keepIn K (.ref f_box) = true)
    (a_signs : PySem.W.nsIn K mainGlobals "_law_signs" = some (some (.ref f_signs))) (l_signs : K.lookup f_signs = some ⟨oc_signs, od_signs, .func (PySem.W.fnOf "_law_signs" "_law_signs" (defArgs s_signs) (defBody s_signs) (defScope s_signs) .none kV_signs dc_signs pm_signs an_signs cd_signs ct_signs), sl_signs⟩) (c_signs : PySem.W.codeIn K cd_signs "_law_signs" = true) (k_signs : PySem.W.keepIn K (.ref f_signs) = true)
    (a_sign : PySem.W.nsIn K mainGlobals "_law_sign" = some (some (.ref f_sign))) (l_sign : K.lookup f_sign = some ⟨oc_sign, od_sign, .func (PySem.W.fnOf "_law_sign" "_law_sign" (defArgs s_sign) (defBody s_sign) (defScope s_sign) .none kV_sign dc_sign pm_sign an_sign cd_sign ct_sign), sl_sign⟩) (c_sign : PySem.W.codeIn K cd_sign "_law_sign" = true) (k_sign : PySem.W.keepIn K (.ref f_sign) = true)
    (a_comes_before : PySem.W.nsIn K mainGlobals "comes_before" = some (some (.ref f_comes_before))) (l_comes_before : K.lookup f_comes_before = some ⟨oc_comes_before, od_comes_before, .func (PySem.W.fnOf "comes_before" "comes_before" (defArgs s_comes_before) (defBody s_comes_before) (defScope s_comes_before) .none kV_comes_before dc_comes_before pm_comes_before an_comes_before cd_comes_before ct_comes_before), sl_comes_before⟩) (c_comes_before : PySem.W.codeIn K cd_comes_before "comes_before" = true) (k_comes_before : PySem.W.keepIn K (.ref f_comes_before) = true)
    (a_text : PySem.W.nsIn K mainGlobals "_law_text" = some (some (.ref f_text))) (l_text : K.lookup f_text = some ⟨oc_text, od_text, .func (PySem.W.fnOf "_law_text" "_law_text" (defArgs s_text) (defBody s_text) (defScope s_text) .none kV_text dc_text pm_text an_text cd_text ct_text), sl_text⟩) (c_text : PySem.W.codeIn K cd_text "_law_text" = true) (k_text : PySem.W.keepIn K (.ref f_text) = true)
    (a_before : PySem.W.nsIn K mainGlobals "_law_before" = some (some (.ref f_before))) (l_before : K.lookup f_before = some ⟨oc_before, od_before, .func (PySem.W.fnOf "_law_before" "_law_before" (defArgs s_before) (defBody s_before) (defScope s_before) .none kV_before dc_before pm_before an_before cd_before ct_before), sl_before⟩) (c_before : PySem.W.codeIn K cd_before "_law_before" = true) (k_before : PySem.W.keepIn K (.ref f_before) = true)
    (a_law : PySem.W.nsIn K mainGlobals "law" = some (some (.ref f_law))) (l_law : K.lookup f_law = some ⟨oc_law, od_law, .func (PySem.W.fnOf "law" "law" (defArgs s_law) (defBody s_law) (defScope s_law) .none kV_law dc_law pm_law an_law cd_law ct_law), sl_law⟩) (c_law : PySem.W.codeIn K cd_law "law" = true) (k_law : PySem.W.keepIn K (.ref f_law) = true)
    (z_abs : PySem.W.nsIn K mainGlobals "abs" = some none)
    (z_bool : PySem.W.nsIn K mainGlobals "bool" = some none)
    (z_int : PySem.W.nsIn K mainGlobals "int" = some none)
    (z_isinstance : PySem.W.nsIn K mainGlobals "isinstance" = some none)
    (z_len : PySem.W.nsIn K mainGlobals "len" = some none)
    (z_range : PySem.W.nsIn K mainGlobals "range" = some none)
    : ∃ fd : FuncData, (∀ (s : Shared) (v : Value), BindsTo s fd ⟨[v], []⟩ [("_law_script", v)]) ∧ ∀ base : Heap, K.In base → base.Ns mainGlobals mg → FnOk l.prog w K mg base CX0 4 fa fd ["_law_script"] (spL K) := by
  have e := hfa.symm.trans (PySem.W.mg_of X Gh a_law)
  cases e
  have F_take := fun_mk (st := s_take) l_take c_take k_take
  have b_take := F_take.binds (ps := ["_law_box_here", "_law_size"]) fun _ _ _ _ _ _ us hl => match us, hl with | [_, _], _ => rfl
  have F_box := fun_mk (st := s_box) l_box c_box k_box
  have b_box := F_box.binds (ps := ["_law_script"]) fun _ _ _ _ _ _ us hl => match us, hl with | [_], _ => rfl
  have F_signs := fun_mk (st := s_signs) l_signs c_signs k_signs
  have b_signs := F_signs.binds (ps := []) fun _ _ _ _ _ _ us hl => match us, hl with | [], _ => rfl
  have F_sign := fun_mk (st := s_sign) l_sign c_sign k_sign
  have b_sign := F_sign.binds (ps := ["_law_box_here"]) fun _ _ _ _ _ _ us hl => match us, hl with | [_], _ => rfl
  have F_comes_before := fun_mk (st := s_comes_before) l_comes_before c_comes_before k_comes_before
  have b_comes_before := F_comes_before.binds (ps := ["first", "second"]) fun _ _ _ _ _ _ us hl => match us, hl with | [_, _], _ => rfl
  have F_text := fun_mk (st := s_text) l_text c_text k_text
  have b_text := F_text.binds (ps := ["_law_box_here", "_law_pieces", "_law_limit"]) fun _ _ _ _ _ _ us hl => match us, hl with | [_, _, _], _ => rfl
  have F_before := fun_mk (st := s_before) l_before c_before k_before
  have b_before := F_before.binds (ps := ["_law_first", "_law_second"]) fun _ _ _ _ _ _ us hl => match us, hl with | [_, _], _ => rfl
  have F_law := fun_mk (st := s_law) l_law c_law k_law
  have b_law := F_law.binds (ps := ["_law_script"]) fun _ _ _ _ _ _ us hl => match us, hl with | [_], _ => rfl
  have T : Tx K ⟨0⟩ mg := {
    fa := ⟨trivial⟩
    d_take := ⟨_, _, F_take, b_take, PySem.W.mg_of X Gh a_take⟩
    d_box := ⟨_, _, F_box, b_box, PySem.W.mg_of X Gh a_box⟩
    d_signs := ⟨_, _, F_signs, b_signs, PySem.W.mg_of X Gh a_signs⟩
    d_sign := ⟨_, _, F_sign, b_sign, PySem.W.mg_of X Gh a_sign⟩
    d_comes_before := ⟨_, _, F_comes_before, b_comes_before, PySem.W.mg_of X Gh a_comes_before⟩
    d_text := ⟨_, _, F_text, b_text, PySem.W.mg_of X Gh a_text⟩
    d_before := ⟨_, _, F_before, b_before, PySem.W.mg_of X Gh a_before⟩
    d_law := ⟨_, _, F_law, b_law, PySem.W.mg_of X Gh a_law⟩
    z_abs := PySem.W.mg_none_of X Gh z_abs
    z_bool := PySem.W.mg_none_of X Gh z_bool
    z_int := PySem.W.mg_none_of X Gh z_int
    z_isinstance := PySem.W.mg_none_of X Gh z_isinstance
    z_len := PySem.W.mg_none_of X Gh z_len
    z_range := PySem.W.mg_none_of X Gh z_range
  }
  refine ⟨_, fun s v => .of_eq rfl, fun base _ _ => (fn_law T F_law).imp (fun vs H Q E h => ?_)⟩
  obtain ⟨a, ns, rfl, hS, hl, q⟩ := h
  exact ⟨H, [], a, ns, rfl, Wd.all H, hS, hl, fun H1 P1 _ _ => by rw [law_true ns hl]; exact q H1⟩
end G
open PySem PySem.W PyProof.Rows
set_option maxHeartbeats 0 in
theorem PySem.Challenge.cw_regrow_k02_order_of_texts_holds : PySem.Challenge.rw_regrow_k02_order_of_texts.Holds := by
  w_on; o_law; k_head; (case hw => w_witness2)
  k_fill
  refine L2.walk_of (l := PySem.Challenge.rw_regrow_k02_order_of_texts) (n := 63) (k := 4) (x := "_law_script") (CX := fun _ => L2.CX0) (sp := fun w => G.spL _) rfl (by decide) rfl ⟨rfl, by decide, by decide⟩ (fun w h Y => PySem.W.kIn_of Y) ?F (fun _ _ a ns hl _ hS => ⟨a, ns, rfl, hS, hl, fun _ => rfl⟩) (fun _ _ _ _ _ h => h)
  case F =>
    intro w mg fa h KX Gh hmg
    refine' G.all_mk KX Gh hmg ?a_take ?l_take ?c_take ?k_take ?a_box ?l_box ?c_box ?k_box ?a_signs ?l_signs ?c_signs ?k_signs ?a_sign ?l_sign ?c_sign ?k_sign ?a_comes_before ?l_comes_before ?c_comes_before ?k_comes_before ?a_text ?l_text ?c_text ?k_text ?a_before ?l_before ?c_before ?k_before ?a_law ?l_law ?c_law ?k_law ?z_abs ?z_bool ?z_int ?z_isinstance ?z_len ?z_range
    (case a_take => k_is)
    (case l_take => k_is)
    (case c_take => k_is)
    (case k_take => k_is)
    (case a_box => k_is)
    (case l_box => k_is)
    (case c_box => k_is)
    (case k_box => k_is)
    (case a_signs => k_is)
    (case l_signs => k_is)
    (case c_signs => k_is)
    (case k_signs => k_is)
    (case a_sign => k_is)
    (case l_sign => k_is)
    (case c_sign => k_is)
    (case k_sign => k_is)
    (case a_comes_before => k_is)
    (case l_comes_before => k_is)
    (case c_comes_before => k_is)
    (case k_comes_before => k_is)
    (case a_text => k_is)
    (case l_text => k_is)
    (case c_text => k_is)
    (case k_text => k_is)
    (case a_before => k_is)
    (case l_before => k_is)
    (case c_before => k_is)
    (case k_before => k_is)
    (case a_law => k_is)
    (case l_law => k_is)
    (case c_law => k_is)
    (case k_law => k_is)
    (case z_abs => k_is)
    (case z_bool => k_is)
    (case z_int => k_is)
    (case z_isinstance => k_is)
    (case z_len => k_is)
    (case z_range => k_is)
