import PyProof.Rows.All
import Wide.All
import OpenK.AllK
import Wide.FinOn
import HandS.ForMost
import HandS.Lambda
import HandS.IsInst
import HandS.Codes
import HandS.Walk
import HandS.Defaults
import HandS.Evl
import HandS.More
import HandS.Style
import HandS.Property
import HandS.ClsMeth
import HandS.Star
import HandS.SortKw
import KE.SortCalls
import KE.SortKeyed
import KE.DataCmp
import HandS.EndTab
import KE.KNestM
import HandS.ExcInit
import HandS.ExcOwn
import HandS.TryMany
import HandS.WordsExc
import HandS.CallSlots
import HandS.Nested
import KE.KExcSuper
import HandS.ExcField
import KE.KCallOwn
import KE.GoesEnum
import HandS.Iter
import HandS.Conv
import HandS.DictComp
import KE.KDictDisplayH
import HandS.Flt
import HandS.Steps
import PyProof.ListStr
import HandS.Sort
import HandS.Deep
import KE.KRevSl
import HandS.Text
import HandS.SetBool
import HandS.Strs
import KE.DataMinMax
import HandS.DeepEq
import PyProof.NeKinds
import HandS.Finally
import PyProof.SliceList
import PyProof.SeqWrite
import PyProof.ListIndex
import PySem.Challenge.RW_regrow_k21_machine_refusals
import HandS.Head0
import HandS.Head1
import HandS.Head2
set_option Elab.async false
set_option linter.all false
set_option maxRecDepth 100000
set_option maxHeartbeats 4000000
namespace HeadX
open PySem PySem.W PySem.Calls PyProof.Rows
abbrev qv : Program := view (OpenLaw.row PySem.Challenge.rw_regrow_k21_machine_refusals).prog [39]
def names0 : List PySem.Str := ["_wall", "__name__", "RegrowError", "InvalidText", "InvalidSigns", "InvalidMachine", "UnknownState", "SignsDiffer", "CAPITALS", "SMALLS", "FIGURES", "SIGNS", "KINDS", "check_text", "kind_of", "least_unnamed"]
def names1 : List PySem.Str := ["sample_signs", "in_order", "arc_key", "only_named", "is_row", "Machine", "chain", "named_part", "_law_box", "_law_take", "_law_signs", "_law_sign", "_law_palette", "_law_word", "_law_table", "_law_chosen"]
def names2 : List PySem.Str := ["_law_copied", "_law_due", "_law_spoil", "_law_made"]
def names : List PySem.Str := names0 ++ names1 ++ names2
set_option maxHeartbeats 0 in
theorem lookE (h : (OpenLaw.row PySem.Challenge.rw_regrow_k21_machine_refusals).wellSaid = true → (OpenLaw.row PySem.Challenge.rw_regrow_k21_machine_refusals).Holds) : PySem.Challenge.rw_regrow_k21_machine_refusals.Holds := by w_on; o_law; exact h (by assumption)
set_option hygiene false in
local macro_rules | `(tactic| o_head (kHook $K $as $e)) => `(tactic| exact hk ($K, $as, []) _ rfl)
set_option hygiene false in
local macro_rules | `(tactic| o_head (kmHook $K $as $e $ts)) => `(tactic| exact hk ($K, $as, $ts) _ rfl)
set_option maxHeartbeats 0 in
noncomputable def exK : (X : (Params → Frag) × List Addr × List Addr) ×' ((∀ Y (p : Prop), X = Y → p) → PySem.Challenge.rw_regrow_k21_machine_refusals.Holds) := by
  apply PSigma.mk
  case snd => (intro hk; w_on; refine lookE fun said => ?_; k_head)
noncomputable abbrev hkX : Hook := kHook exK.1.1 exK.1.2.1 (fun _ => by kernel_rfl)
set_option maxHeartbeats 0 in
theorem run_f (w : World) : HandSHeadRun.RunEq (OpenLaw.row PySem.Challenge.rw_regrow_k21_machine_refusals) qv hkX (fun s => List.map (HandSHeadRun.getT s) exK.1.2.1) 20000 names (w.withFollow "special-get-raises" false) := by
  intro os
  kernel_rfl
set_option maxHeartbeats 0 in
theorem run_t (w : World) : HandSHeadRun.RunEq (OpenLaw.row PySem.Challenge.rw_regrow_k21_machine_refusals) qv hkX (fun s => List.map (HandSHeadRun.getT s) exK.1.2.1) 20000 names (w.withFollow "special-get-raises" true) := by
  intro os
  kernel_rfl
theorem run_all (w : World) : HandSHeadRun.RunEq (OpenLaw.row PySem.Challenge.rw_regrow_k21_machine_refusals) qv hkX (fun s => List.map (HandSHeadRun.getT s) exK.1.2.1) 20000 names w := byRow2 "special-get-raises" run_f run_t w
end HeadX
namespace G
open PySem PySem.Spec PyProof.Rows L2
/-! ### texts by their codes -/
def S (t : List Nat) : V := .str ⟨⟨t⟩⟩
theorem S_inj {a b : List Nat} (h : S a = S b) : a = b := by
  unfold S at h
  injection h with h
  injection h with h
  injection h
theorem S_eq {a b : List Nat} : (S a = S b) = (a = b) := propext ⟨S_inj, fun h => by rw [h]⟩
theorem str_S (x : Str) : V.str x = S x.cps.toList := rfl
/-! ### what stays -/
def Ext (P P' : Hp) : Prop := ∀ a o, P a = some o → P' a = some o
theorem Ext.refl (P : Hp) : Ext P P := fun _ _ h => h
theorem Ext.trans {P P1 P2 : Hp} (a : Ext P P1) (b : Ext P1 P2) : Ext P P2 := fun x o h => b x o (a x o h)
theorem Ext.new {P : Hp} {p : Addr} {o : HO} (h : P p = none) : Ext P (upd P p o) := fun a u e => by
  rw [upd_ne (ne_of_none e h)]
  exact e
theorem Ext.rd {P P' : Hp} {a : Addr} {u : HO} (e : Ext P P') (h : Rd P a u) : Rd P' a u := by
  rcases h with h | ⟨o, h⟩
  · exact Or.inl (e a _ h)
  · exact Or.inr ⟨o, e a _ h⟩
theorem Ext.sql {K : PySem.W.Frag} {P P' : Hp} {a : Addr} {xs : List V} (e : Ext P P') (h : SqL K P a xs) : SqL K P' a xs := by
  rcases h with h | h
  · exact Or.inl (e.rd h)
  · exact Or.inr h
theorem Ext.sqt {K : PySem.W.Frag} {P P' : Hp} {a : Addr} {xs : List V} (e : Ext P P') (h : SqT K P a xs) : SqT K P' a xs := by
  rcases h with h | h
  · exact Or.inl (e.rd h)
  · exact Or.inr h
/-! ### the world: what is frozen (P), the cells that may change (cs) -/
abbrev Cs := List (Addr × HO)
/-- neither a table nor a thing by its own predicate -/
def nt : HO → Bool
  | .tbl _ => false
  | .ext _ => false
  | _ => true
abbrev Tbs := List (Addr × Str)
structure Wd (T : Tbs) (P H : Hp) (cs : Cs) : Prop where
  sub : Ext P H
  nd : (cs.map (·.1)).Nodup
  ok : ∀ p ∈ cs, H p.1 = some p.2 ∧ P p.1 = none
  np : ∀ a ps, P a ≠ some (.tbl ps)
  ct : ∀ p ∈ cs, nt p.2 = true
  tb : LamX.Tabs T H
section
variable {T : Tbs} {P H : Hp} {cs : Cs} {a p : Addr} {o o' : HO} {i : Nat}
theorem nt_ne {o' : HO} (h : H a = some o) (hn : nt o = true) {b : Addr} (hb : H b = some o') (n : nt o' = false) : b ≠ a := fun e => by
  rw [e, h] at hb
  rw [← Option.some.inj hb, hn] at n
  cases n
theorem tabs_put (t : LamX.Tabs T H) (ha : H a = some o) (hn : nt o = true) : LamX.Tabs T (upd H a o') := fun q hq => by
  obtain ⟨ps, h1, h2, h3⟩ := t q hq
  refine ⟨ps, by rw [upd_ne (nt_ne ha hn h1 rfl)]; exact h1, h2, fun pos cv hc => ?_⟩
  obtain ⟨c, e1, e2⟩ := h3 pos cv hc
  exact ⟨c, e1, by rw [upd_ne (nt_ne ha hn e2 rfl)]; exact e2⟩
theorem tabs_new (t : LamX.Tabs T H) (hp : H p = none) : LamX.Tabs T (upd H p o) := t.ext fun b u e => by
  rw [upd_ne (ne_of_none e hp)]
  exact e
theorem np_upd (h : ∀ a ps, P a ≠ some (.tbl ps)) (hn : nt o = true) : ∀ b ps, upd P a o b ≠ some (.tbl ps) := fun b ps e => by
  by_cases hb : b = a
  · rw [hb, upd_same] at e
    rw [Option.some.inj e] at hn
    cases hn
  · rw [upd_ne hb] at e
    exact h b ps e
theorem Wd.mem (w : Wd T P H cs) (h : (a, o) ∈ cs) : H a = some o := (w.ok _ h).1
theorem Wd.get (w : Wd T P H cs) (i : Nat) (h : cs[i]? = some (a, o)) : H a = some o := (w.ok _ (List.mem_of_getElem? h)).1
theorem Wd.hd (w : Wd T P H ((a, o) :: cs)) : H a = some o := (w.ok _ List.mem_cons_self).1
theorem Wd.pnone (w : Wd T P H cs) (hp : H p = none) : P p = none := by
  cases q : P p with
  | none => rfl
  | some u =>
    rw [w.sub p u q] at hp
    cases hp
theorem map_set1 : ∀ (cs : Cs) (i : Nat) (a : Addr) (o o' : HO), cs[i]? = some (a, o) → (cs.set i (a, o')).map (·.1) = cs.map (·.1)
  | [], _, _, _, _, h => by simp at h
  | c :: r, 0, a, o, o', h => by
    have e : c = (a, o) := Option.some.inj h
    subst e
    rfl
  | c :: r, i + 1, a, o, o', h => by
    have ih := map_set1 r i a o o' h
    show c.1 :: (r.set i (a, o')).map (·.1) = c.1 :: r.map (·.1)
    rw [ih]
theorem mem_set1 : ∀ (cs : Cs) (i : Nat) (a : Addr) (o o' : HO), (cs.map (·.1)).Nodup → cs[i]? = some (a, o) → ∀ q ∈ cs.set i (a, o'), q = (a, o') ∨ (q ∈ cs ∧ q.1 ≠ a)
  | [], _, _, _, _, _, h => by simp at h
  | c :: r, 0, a, o, o', nd, h => by
    have e : c = (a, o) := Option.some.inj h
    subst e
    intro q hq
    rcases List.mem_cons.mp hq with z | z
    · exact Or.inl z
    · refine Or.inr ⟨List.mem_cons_of_mem _ z, fun e => ?_⟩
      have nd' : a ∉ r.map (·.1) := (List.nodup_cons.mp nd).1
      exact nd' (e ▸ List.mem_map_of_mem z)
  | c :: r, i + 1, a, o, o', nd, h => by
    intro q hq
    have nd' := List.nodup_cons.mp nd
    rcases List.mem_cons.mp hq with z | z
    · refine Or.inr ⟨z ▸ List.mem_cons_self, fun e => ?_⟩
      have hm : (a, o) ∈ r := List.mem_of_getElem? h
      have : a ∈ r.map (·.1) := List.mem_map_of_mem (f := (·.1)) hm
      rw [← e, z] at this
      exact nd'.1 this
    · rcases mem_set1 r i a o o' nd'.2 h q z with y | ⟨y1, y2⟩
      · exact Or.inl y
      · exact Or.inr ⟨List.mem_cons_of_mem _ y1, y2⟩
theorem Wd.put (w : Wd T P H cs) (i : Nat) (o' : HO) (h : cs[i]? = some (a, o)) (hn : nt o' = true := by rfl) : Wd T P (upd H a o') (cs.set i (a, o')) where
  sub := fun b u e => by
    have hb : b ≠ a := fun z => by
      subst z
      rw [(w.ok _ (List.mem_of_getElem? h)).2] at e
      cases e
    rw [upd_ne hb]
    exact w.sub b u e
  nd := by rw [map_set1 cs i a o o' h]; exact w.nd
  ok := fun q hq => by
    rcases mem_set1 cs i a o o' w.nd h q hq with z | ⟨z1, z2⟩
    · subst z
      exact ⟨upd_same, (w.ok _ (List.mem_of_getElem? h)).2⟩
    · rw [upd_ne z2]
      exact w.ok q z1
  np := w.np
  ct := fun q hq => by
    rcases mem_set1 cs i a o o' w.nd h q hq with z | ⟨z1, z2⟩
    · subst z
      exact hn
    · exact w.ct q z1
  tb := tabs_put w.tb (w.ok _ (List.mem_of_getElem? h)).1 (w.ct _ (List.mem_of_getElem? h))
/-- a new cell that may change -/
theorem Wd.new (w : Wd T P H cs) (hp : H p = none) (o : HO) (hn : nt o = true := by rfl) : Wd T P (upd H p o) ((p, o) :: cs) where
  sub := fun b u e => by
    rw [upd_ne (ne_of_none (w.sub b u e) hp)]
    exact w.sub b u e
  nd := by
    refine List.nodup_cons.mpr ⟨fun hm => ?_, w.nd⟩
    obtain ⟨q, hq, e⟩ := List.mem_map.mp hm
    have := (w.ok q hq).1
    rw [show q.1 = p from e, hp] at this
    cases this
  ok := fun q hq => by
    rcases List.mem_cons.mp hq with z | z
    · subst z
      exact ⟨upd_same, w.pnone hp⟩
    · rw [upd_ne (ne_of_none (w.ok q z).1 hp)]
      exact w.ok q z
  np := w.np
  ct := fun q hq => by
    rcases List.mem_cons.mp hq with z | z
    · subst z
      exact hn
    · exact w.ct q z
  tb := tabs_new w.tb hp
/-- a cell is frozen -/
theorem Wd.keep (w : Wd T P H ((a, o) :: cs)) : Wd T (upd P a o) H cs where
  sub := fun b u e => by
    by_cases hb : b = a
    · subst hb
      rw [upd_same] at e
      cases e
      exact w.hd
    · rw [upd_ne hb] at e
      exact w.sub b u e
  nd := (List.nodup_cons.mp w.nd).2
  ok := fun q hq => by
    have n : q.1 ≠ a := fun e => (List.nodup_cons.mp w.nd).1 (show a ∈ cs.map (·.1) from e ▸ List.mem_map_of_mem hq)
    rw [upd_ne n]
    exact w.ok q (List.mem_cons_of_mem _ hq)
  np := np_upd w.np (w.ct _ List.mem_cons_self)
  ct := fun q hq => w.ct q (List.mem_cons_of_mem _ hq)
  tb := w.tb
theorem Wd.kext (w : Wd T P H ((a, o) :: cs)) : Ext P (upd P a o) := Ext.new (w.ok _ List.mem_cons_self).2
/-- a new thing that never changes -/
theorem Wd.frz (w : Wd T P H cs) (hp : H p = none) (o : HO) (hn : nt o = true := by rfl) : Wd T (upd P p o) (upd H p o) cs := (w.new hp o hn).keep
theorem Wd.fext (w : Wd T P H cs) (hp : H p = none) (o : HO) : Ext P (upd P p o) := Ext.new (w.pnone hp)
theorem Wd.sublist {cs' : Cs} (w : Wd T P H cs) (h : cs'.Sublist cs) : Wd T P H cs' := ⟨w.sub, w.nd.sublist (h.map _), fun q hq => w.ok q (h.subset hq), w.np, fun q hq => w.ct q (h.subset hq), w.tb⟩
theorem Wd.tl {c : Addr × HO} (w : Wd T P H (c :: cs)) : Wd T P H cs := w.sublist (List.sublist_cons_self _ _)
theorem Wd.perm {cs' : Cs} (w : Wd T P H cs) (h : cs.Perm cs') : Wd T P H cs' := ⟨w.sub, (h.map _).nodup_iff.mp w.nd, fun q hq => w.ok q (h.mem_iff.mpr hq), w.np, fun q hq => w.ct q (h.mem_iff.mpr hq), w.tb⟩
theorem perm_pull {α : Type} : ∀ (l : List α) (i : Nat) (x : α), l[i]? = some x → l.Perm (x :: l.eraseIdx i)
  | [], _, _, h => by simp at h
  | c :: r, 0, x, h => by
    have e : c = x := Option.some.inj h
    subst e
    exact List.Perm.refl _
  | c :: r, i + 1, x, h => ((perm_pull r i x h).cons c).trans (List.Perm.swap x c _)
theorem Wd.pull (w : Wd T P H cs) (i : Nat) (h : cs[i]? = some (a, o)) : Wd T P H ((a, o) :: cs.eraseIdx i) := w.perm (perm_pull cs i _ h)
/-- all is frozen that is there -/
def clean (H : Hp) : Hp := fun b => match H b with
  | some (.tbl _) => none
  | x => x
theorem clean_of {u : HO} (h : H a = some u) (n : ∀ ps, u ≠ .tbl ps) : clean H a = some u := by
  unfold clean
  rw [h]
  cases u with
  | tbl ps => exact absurd rfl (n ps)
  | _ => rfl
theorem of_clean {u : HO} (h : clean H a = some u) : H a = some u ∧ ∀ ps, u ≠ .tbl ps := by
  unfold clean at h
  cases q : H a with
  | none =>
    rw [q] at h
    cases h
  | some o =>
    rw [q] at h
    cases o <;> first | (cases h; exact ⟨rfl, fun ps e => by cases e⟩) | cases h
theorem Wd.all (H : Hp) (t : LamX.Tabs T H) : Wd T (clean H) H [] := ⟨fun b o e => (of_clean e).1, List.nodup_nil, (fun _ h => by cases h), fun b ps e => (of_clean e).2 ps rfl, (fun _ h => by cases h), t⟩
theorem clean_sql {K : PySem.W.Frag} {xs : List V} (h : SqL K H a xs) : SqL K (clean H) a xs := by
  rcases h with h | h
  · refine Or.inl ?_
    rcases h with h | ⟨o, h⟩
    · exact Or.inl (clean_of h fun ps e => by cases e)
    · exact Or.inr ⟨o, clean_of h fun ps e => by cases e⟩
  · exact Or.inr h
theorem Wd.lam {H1 : Hp} (w : Wd T P H cs) (e : LamX.ExtN H H1) (t : LamX.Tabs T H1) : Wd T P H1 cs :=
  ⟨fun b o h => e b o (w.sub b o h) fun ps z => w.np b ps (z ▸ h), w.nd, fun p hp => ⟨e _ _ (w.ok p hp).1 fun ps z => (by have := w.ct p hp; rw [z] at this; cases this), (w.ok p hp).2⟩, w.np, w.ct, t⟩
/-- more is known -/
theorem Wd.more {H1 : Hp} (w : Wd T P H cs) (e : Ext H H1) : Wd T P H1 cs := ⟨w.sub.trans e, w.nd, fun p hp => ⟨e _ _ (w.ok p hp).1, (w.ok p hp).2⟩, w.np, w.ct, w.tb.ext e⟩
theorem Wd.sql {K : PySem.W.Frag} {xs : List V} (w : Wd T P H cs) (h : SqL K P a xs) : SqL K H a xs := w.sub.sql h
theorem Wd.sqt {K : PySem.W.Frag} {xs : List V} (w : Wd T P H cs) (h : SqT K P a xs) : SqT K H a xs := w.sub.sqt h
theorem Wd.lst {K : PySem.W.Frag} {xs : List V} (w : Wd T P H cs) (h : P a = some (.lst xs)) : SqL K H a xs := .inl (.inl (w.sub _ _ h))
theorem Wd.tup {K : PySem.W.Frag} {xs : List V} (w : Wd T P H cs) (h : P a = some (.tup xs)) : SqT K H a xs := .inl (.inl (w.sub _ _ h))
end
/-! ### data -/
section
variable {K : PySem.W.Frag} {P P' : Hp}
mutual
theorem dpm (e : Ext P P') : ∀ (d : PyData) (v : V), Dp K P v d → Dp K P' v d
  | .none, _, h => by cases h; exact .non
  | .bool b, _, h => by cases h; exact .bl b
  | .int i, _, h => by cases h; exact .int i
  | .str x, _, h => by cases h; exact .str x
  | .list ds, _, h => by
    cases h with
    | lst hs ha => exact .lst (e.sql hs) (dpmAll e ds _ ha)
  | .tuple ds, _, h => by
    cases h with
    | tup hs ha => exact .tup (e.sqt hs) (dpmAll e ds _ ha)
  | .dict _, _, h => by cases h
theorem dpmAll (e : Ext P P') : ∀ (ds : List PyData) (vs : List V), DpAll K P vs ds → DpAll K P' vs ds
  | [], _, h => by cases h; exact .nil
  | d :: ds, _, h => by
    cases h with
    | cons h1 h2 => exact .cons (dpm e d _ h1) (dpmAll e ds _ h2)
end
end
theorem Dp.mono {K : PySem.W.Frag} {P P' : Hp} {v : V} {d : PyData} (h : Dp K P v d) (e : Ext P P') : Dp K P' v d := dpm e d v h
theorem DpAll.mono {K : PySem.W.Frag} {P P' : Hp} {vs : List V} {ds : List PyData} (h : DpAll K P vs ds) (e : Ext P P') : DpAll K P' vs ds := dpmAll e ds vs h
end G
namespace G
open PySem PySem.Spec PyProof.Rows L2
abbrev cs (s : String) : List Nat := (Str.ofString s).cps.toList
def eS (t : List Nat) : PyData := .str ⟨⟨t⟩⟩
/-! ### tests -/
theorem iteB {b : Bool} {A B : Prop} (h1 : b = true → A) (h2 : b = false → B) : if b = true then A else B := by
  cases b with
  | true => rw [if_pos rfl]; exact h1 rfl
  | false => rw [if_neg Bool.false_ne_true]; exact h2 rfl
theorem ite_t {α : Type} {b : Bool} {x y : α} (h : b = true) : (if b = true then x else y) = x := if_pos h
theorem ite_f {α : Type} {b : Bool} {x y : α} (h : b = false) : (if b = true then x else y) = y := if_neg (by rw [h]; exact Bool.false_ne_true)
/-! ### operators over texts by their codes -/
section
variable {X : Cx}
theorem pe_strS {x : Str} {j : Nat} {pos : Pos} : PE X (.Constant (.str x) j pos) (tC (S x.cps.toList)) := pe_str
def rAdd : R2 := rI0 fun i j => .int (i + j)
def rSub : R2 := rI0 fun i j => .int (i - j)
def rMul : R2 := rI CMul fun i j => .int (i * j)
def rMod : R2 := rI (fun _ j => 0 < j) fun i j => .int (i % j)
def CDv (_ j : Int) : Prop := 0 < j ∧ j < 1000000000000000
def rDiv : R2 := rI CDv fun i j => .int (i / j)
def rPow : R2 := rI CPow fun i j => .int (i ^ j.toNat)
def rLt : R2 := rI0 fun i j => .bl (decide (i < j))
def rLe : R2 := rI0 fun i j => .bl (decide (i ≤ j))
def rGt : R2 := rI0 fun i j => .bl (decide (j < i))
def rGe : R2 := rI0 fun i j => .bl (decide (j ≤ i))
theorem o_add : OpR X (binaryOp .Add) rAdd := op_add
theorem o_sub : OpR X (binaryOp .Sub) rSub := op_sub
theorem o_mul : OpR X (binaryOp .Mult) rMul := op_mul
theorem o_mod : OpR X (binaryOp .Mod) rMod := op_mod
theorem o_div : OpR X (binaryOp .FloorDiv) rDiv := opI fun i j _ _ _ _ _ hc q => by
  have h1 : (0 : Int) < j := hc.1
  have h2 : j < 1000000000000000 := hc.2
  exact floordiv_int (by omega) (by rw [Int.fdiv_eq_ediv_of_nonneg i (by omega)]; exact q) (.inl (PyProof.noPylong_of_log2 ((Nat.log2_lt (by omega)).mpr (Nat.lt_of_lt_of_le (show j.natAbs < 2 ^ 50 by omega) (Nat.pow_le_pow_right (by decide) (by decide))))))
theorem o_pow : OpR X (binaryOp .Pow) rPow := op_pow
theorem o_lt : OpR X (compareOp .Lt) rLt := op_lt
theorem o_le : OpR X (compareOp .LtE) rLe := op_le
theorem o_gt : OpR X (compareOp .Gt) rGt := op_gt
theorem o_ge : OpR X (compareOp .GtE) rGe := op_ge
def rAddS : R2 := fun x y H Q => ∃ a b : List Nat, x = S a ∧ y = S b ∧ a.length + b.length ≤ sizeLine ∧ Q (S (a ++ b)) H
theorem S_app (a b : List Nat) : V.str ((⟨⟨a⟩⟩ : Str) ++ (⟨⟨b⟩⟩ : Str)) = S (a ++ b) := by
  show V.str ⟨(⟨a⟩ : Array Nat) ++ (⟨b⟩ : Array Nat)⟩ = V.str ⟨⟨a ++ b⟩⟩
  congr 2
  simp
theorem o_addS : OpR X (binaryOp .Add) rAddS := fun pins s σ H x y v u Q I rx ry h => by
  obtain ⟨a, b, rfl, rfl, hz, q⟩ := h
  exact op_add_str pins s σ H _ _ v u Q I rx ry ⟨_, _, rfl, rfl, hz, by rw [S_app]; exact q⟩
def rEqI : R2 := fun x y H Q => ∃ i j : Int, x = .int i ∧ y = .int j ∧ Q (.bl (decide (i = j))) H
def rNeI : R2 := fun x y H Q => ∃ i j : Int, x = .int i ∧ y = .int j ∧ Q (.bl (!decide (i = j))) H
def rEqB : R2 := fun x y H Q => ∃ i j : Bool, x = .bl i ∧ y = .bl j ∧ Q (.bl (decide (i = j))) H
def rNeB : R2 := fun x y H Q => ∃ i j : Bool, x = .bl i ∧ y = .bl j ∧ Q (.bl (!decide (i = j))) H
def rEqS : R2 := fun x y H Q => ∃ a b : List Nat, x = S a ∧ y = S b ∧ Q (.bl (decide (a = b))) H
def rNeS : R2 := fun x y H Q => ∃ a b : List Nat, x = S a ∧ y = S b ∧ Q (.bl (!decide (a = b))) H
theorem dI (i j : Int) : decide (V.int i = V.int j) = decide (i = j) := decide_eq_decide.mpr ⟨fun h => V.int.inj h, fun h => by rw [h]⟩
theorem dB (i j : Bool) : decide (V.bl i = V.bl j) = decide (i = j) := decide_eq_decide.mpr ⟨fun h => V.bl.inj h, fun h => by rw [h]⟩
theorem dS (i j : List Nat) : decide (S i = S j) = decide (i = j) := decide_eq_decide.mpr ⟨S_inj, fun h => by rw [h]⟩
theorem o_eqI : OpR X (compareOp .Eq) rEqI := fun pins s σ H x y v u Q I rx ry h => by
  obtain ⟨i, j, rfl, rfl, q⟩ := h
  exact op_eq pins s σ H _ _ v u Q I rx ry ⟨rfl, by rw [dI]; exact q⟩
theorem o_neI : OpR X (compareOp .NotEq) rNeI := fun pins s σ H x y v u Q I rx ry h => by
  obtain ⟨i, j, rfl, rfl, q⟩ := h
  exact op_ne pins s σ H _ _ v u Q I rx ry ⟨rfl, by rw [dI]; exact q⟩
theorem o_eqB : OpR X (compareOp .Eq) rEqB := fun pins s σ H x y v u Q I rx ry h => by
  obtain ⟨i, j, rfl, rfl, q⟩ := h
  exact op_eq pins s σ H _ _ v u Q I rx ry ⟨rfl, by rw [dB]; exact q⟩
theorem o_neB : OpR X (compareOp .NotEq) rNeB := fun pins s σ H x y v u Q I rx ry h => by
  obtain ⟨i, j, rfl, rfl, q⟩ := h
  exact op_ne pins s σ H _ _ v u Q I rx ry ⟨rfl, by rw [dB]; exact q⟩
theorem o_eqS : OpR X (compareOp .Eq) rEqS := fun pins s σ H x y v u Q I rx ry h => by
  obtain ⟨i, j, rfl, rfl, q⟩ := h
  exact op_eq pins s σ H _ _ v u Q I rx ry ⟨rfl, by rw [dS]; exact q⟩
theorem o_neS : OpR X (compareOp .NotEq) rNeS := fun pins s σ H x y v u Q I rx ry h => by
  obtain ⟨i, j, rfl, rfl, q⟩ := h
  exact op_ne pins s σ H _ _ v u Q I rx ry ⟨rfl, by rw [dS]; exact q⟩
/-- one sign in a text -/
def rInS : R2 := fun x y H Q => ∃ (c : Nat) (t : List Nat), x = S [c] ∧ y = S t ∧ Q (.bl (decide (c ∈ t))) H
def rNiS : R2 := fun x y H Q => ∃ (c : Nat) (t : List Nat), x = S [c] ∧ y = S t ∧ Q (.bl (!decide (c ∈ t))) H
theorem o_inS : OpR X (compareOp .In) rInS := fun pins s σ H x y v u Q I rx ry h => by
  obtain ⟨c, t, rfl, rfl, q⟩ := h
  exact op_in_sign pins s σ H _ _ v u Q I rx ry ⟨c, _, rfl, rfl, q⟩
theorem o_niS : OpR X (compareOp .NotIn) rNiS := fun pins s σ H x y v u Q I rx ry h => by
  obtain ⟨c, t, rfl, rfl, q⟩ := h
  exact op_notIn_sign pins s σ H _ _ v u Q I rx ry ⟨c, _, rfl, rfl, q⟩
/-- a text in a list or tuple of texts -/
theorem inV_S (t : List Nat) : ∀ ts : List (List Nat), inV (S t) (ts.map S) = decide (t ∈ ts)
  | [] => by simp [inV]
  | a :: r => by
    have ih := inV_S t r
    unfold inV at ih ⊢
    simp only [List.map_cons, List.any_cons, ih]
    rw [Bool.eq_iff_iff]
    have e : eqV (S a) (S t) = true ↔ a = t := by
      constructor
      · intro h
        simp [eqV, S] at h
        first | exact h | simpa using h
      · intro h
        subst h
        simp [eqV, S]
    have e2 : eqV (S t) (S a) = true ↔ a = t := by
      constructor
      · intro h
        simp [eqV, S] at h
        first | exact h.symm | (have := h; simp_all)
      · intro h
        subst h
        simp [eqV, S]
    simp only [Bool.or_eq_true, decide_eq_true_eq, List.mem_cons]
    constructor
    · rintro (h | h)
      · left; first | exact (e.mp h).symm | exact (e2.mp h).symm
      · right; exact h
    · rintro (h | h)
      · left; first | exact e.mpr h.symm | exact e2.mpr h.symm
      · right; exact h
theorem flat_S (ts : List (List Nat)) : (ts.map S).all flatV = true := by
  rw [List.all_eq_true]
  intro x hx
  obtain ⟨t, _, rfl⟩ := List.mem_map.mp hx
  rfl
def rInTS (K : PySem.W.Frag) : R2 := fun x y H Q => ∃ (t : List Nat) (a : Addr) (ts : List (List Nat)), x = S t ∧ y = .ref a ∧ (SqL K H a (ts.map S) ∨ SqT K H a (ts.map S)) ∧ Q (.bl (decide (t ∈ ts))) H
def rNiTS (K : PySem.W.Frag) : R2 := fun x y H Q => ∃ (t : List Nat) (a : Addr) (ts : List (List Nat)), x = S t ∧ y = .ref a ∧ (SqL K H a (ts.map S) ∨ SqT K H a (ts.map S)) ∧ Q (.bl (!decide (t ∈ ts))) H
theorem o_inTS : OpR X (compareOp .In) (rInTS X.K) := fun pins s σ H x y v u Q I rx ry h => by
  obtain ⟨t, a, ts, rfl, rfl, hs, q⟩ := h
  exact op_in_seq pins s σ H _ _ v u Q I rx ry ⟨a, _, rfl, hs, rfl, flat_S ts, by rw [inV_S]; exact q⟩
theorem o_niTS : OpR X (compareOp .NotIn) (rNiTS X.K) := fun pins s σ H x y v u Q I rx ry h => by
  obtain ⟨t, a, ts, rfl, rfl, hs, q⟩ := h
  exact op_notIn_seq pins s σ H _ _ v u Q I rx ry ⟨a, _, rfl, hs, rfl, flat_S ts, by rw [inV_S]; exact q⟩
/-! ### len, items, slices -/
def rLenS : List V → Hp → VK → Prop := fun xs H Q => ∃ t : List Nat, xs = [S t] ∧ t.length ≤ sizeLine ∧ Q (.int t.length) H
theorem c_lenS : CallR X (.builtin "len") rLenS := fun pins s σ H xs us Q I r h => by
  obtain ⟨t, rfl, hz, q⟩ := h
  exact call_len_str pins s σ H _ us Q I r ⟨_, rfl, hz, q⟩
def rLenL (K : PySem.W.Frag) : List V → Hp → VK → Prop := fun xs H Q => ∃ (p : Addr) (ys : List V), xs = [.ref p] ∧ (SqL K H p ys ∨ SqT K H p ys) ∧ Q (.int ys.length) H
theorem c_lenL : CallR X (.builtin "len") (rLenL X.K) := call_len_seq
def rIxT : R2 := fun x y H Q => ∃ (t : List Nat) (i : Int) (c : Nat), x = S t ∧ y = .int i ∧ t.length ≤ sizeLine ∧ atI t i = some c ∧ Q (S [c]) H
theorem i_str : IxR X rIxT := fun value slice pins s σ H x y v u Q I rx ry h hs => by
  obtain ⟨t, i, c, rfl, rfl, hz, ha, q⟩ := h
  exact ix_str value slice pins s σ H _ _ v u Q I rx ry ⟨_, i, c, rfl, rfl, hz, ha, q⟩ hs
theorem atI_getD {α : Type} {t : List α} {i : Int} {d : α} (h : 0 ≤ i ∧ i < t.length) : atI t i = some (t.getD i.toNat d) := by
  obtain ⟨n, rfl⟩ := Int.eq_ofNat_of_zero_le h.1
  have hl : n < t.length := by omega
  refine atI_nat ?_
  rw [Int.toNat_natCast, List.getElem?_eq_getElem hl]
  simp [List.getD, List.getElem?_eq_getElem hl]
theorem atI_mapD {α β : Type} {t : List α} {i : Int} {d : α} {f : α → β} (h : 0 ≤ i ∧ i < t.length) : atI (t.map f) i = some (f (t.getD i.toNat d)) := by
  obtain ⟨n, rfl⟩ := Int.eq_ofNat_of_zero_le h.1
  have hl : n < t.length := by omega
  refine atI_nat ?_
  rw [Int.toNat_natCast, List.getElem?_map, List.getElem?_eq_getElem hl]
  simp [List.getD, List.getElem?_eq_getElem hl]
theorem atI_lastD {t : List Nat} {d : Nat} (h : t ≠ []) : atI t (-1) = some (t.getLastD d) := by
  obtain ⟨r, x, rfl⟩ : ∃ r x, t = r ++ [x] := ⟨t.dropLast, t.getLast h, (List.dropLast_concat_getLast h).symm⟩
  rw [atI_last]
  simp
/-! ### isalpha, isdigit -/
def rAlpha : V → List V → Hp → VK → Prop := fun x xs H Q => ∃ t : List Nat, x = S t ∧ xs = [] ∧ Q (.bl (Txt.isalpha ⟨⟨t⟩⟩)) H
def rDigit : V → List V → Hp → VK → Prop := fun x xs H Q => ∃ t : List Nat, x = S t ∧ xs = [] ∧ Q (.bl (Txt.isdigit ⟨⟨t⟩⟩)) H
theorem m_alpha : MtR X "str.isalpha" rAlpha := fun pins s σ H x xs v us Q I rx rs h => by
  obtain ⟨t, rfl, rfl, q⟩ := h
  exact mt_isalpha pins s σ H _ _ v us Q I rx rs ⟨_, rfl, rfl, trivial, q⟩
theorem m_digit : MtR X "str.isdigit" rDigit := fun pins s σ H x xs v us Q I rx rs h => by
  obtain ⟨t, rfl, rfl, q⟩ := h
  exact mt_isdigit pins s σ H _ _ v us Q I rx rs ⟨_, rfl, rfl, trivial, q⟩
/-! ### join -/
def rJoin (K : PySem.W.Frag) : V → List V → Hp → VK → Prop := fun x xs H Q => ∃ (sep : List Nat) (p : Addr) (ts : List (List Nat)), x = S sep ∧ xs = [.ref p] ∧ (SqL K H p (ts.map S) ∨ SqT K H p (ts.map S)) ∧
  (ts.map List.length).sum + ts.length * sep.length ≤ 16777216 ∧ Q (S (TL.joinL sep ts)) H
theorem map_tl (ts : List (List Nat)) : (ts.map fun t => (⟨⟨t⟩⟩ : Str)).map TL.tl = ts := by
  rw [List.map_map]
  conv => rhs; rw [← List.map_id ts]
  rfl
theorem m_join : MtR X "str.join" (rJoin X.K) := fun pins s σ H x xs v us Q I rx rs h => by
  obtain ⟨sep, p, ts, rfl, rfl, hs, hz, q⟩ := h
  have e1 : ts.map S = (ts.map fun t => (⟨⟨t⟩⟩ : Str)).map V.str := by rw [List.map_map]; rfl
  have e2 : (ts.map fun t => (⟨⟨t⟩⟩ : Str)).map (·.length) = ts.map List.length := by rw [List.map_map]; rfl
  rw [e1] at hs
  refine mt_join pins s σ H _ _ v us Q I rx rs ⟨⟨⟨sep⟩⟩, p, ts.map fun t => (⟨⟨t⟩⟩ : Str), rfl, rfl, hs, ?_, ?_⟩
  · rw [e2, List.length_map]
    exact hz
  · have e3 : V.str (Txt.join ⟨⟨sep⟩⟩ (ts.map fun t => (⟨⟨t⟩⟩ : Str))) = S (TL.joinL sep ts) := by
      have := TL.tl_join ⟨⟨sep⟩⟩ (ts.map fun t => (⟨⟨t⟩⟩ : Str))
      rw [map_tl] at this
      rw [TL.join_eq]
      show S (TL.tl (Str.join ⟨⟨sep⟩⟩ (ts.map fun t => (⟨⟨t⟩⟩ : Str)))) = S (TL.joinL sep ts)
      rw [this]
    rw [e3]
    exact q
end
/-! ### data: opened -/
section
variable {K : PySem.W.Frag} {P : Hp} {v : V}
theorem dp_str {t : List Nat} (h : Dp K P v (eS t)) : v = S t := by cases h; rfl
theorem dp_int {i : Int} (h : Dp K P v (.int i)) : v = .int i := by cases h; rfl
theorem dp_bl {i : Bool} (h : Dp K P v (.bool i)) : v = .bl i := by cases h; rfl
theorem dp_non (h : Dp K P v .none) : v = .non := by cases h; rfl
theorem pd_str (t : List Nat) : Dp K P (S t) (eS t) := .str _
theorem pd_int (i : Int) : Dp K P (.int i) (.int i) := .int _
theorem pd_bl (i : Bool) : Dp K P (.bl i) (.bool i) := .bl _
theorem pd_non : Dp K P .non .none := .non
theorem dp_list {ds : List PyData} (h : Dp K P v (.list ds)) : ∃ a vs, v = .ref a ∧ SqL K P a vs ∧ DpAll K P vs ds := by
  cases h with
  | lst hs ha => exact ⟨_, _, rfl, hs, ha⟩
theorem dp_tup {ds : List PyData} (h : Dp K P v (.tuple ds)) : ∃ a vs, v = .ref a ∧ SqT K P a vs ∧ DpAll K P vs ds := by
  cases h with
  | tup hs ha => exact ⟨_, _, rfl, hs, ha⟩
theorem dpa_nil {vs : List V} (h : DpAll K P vs []) : vs = [] := by cases h; rfl
theorem dpa_cons {vs : List V} {d : PyData} {ds : List PyData} (h : DpAll K P vs (d :: ds)) : ∃ u us, vs = u :: us ∧ Dp K P u d ∧ DpAll K P us ds := by
  cases h with
  | cons h1 h2 => exact ⟨_, _, rfl, h1, h2⟩
theorem dp_tup2 {d1 d2 : PyData} (h : Dp K P v (.tuple [d1, d2])) : ∃ a v1 v2, v = .ref a ∧ SqT K P a [v1, v2] ∧ Dp K P v1 d1 ∧ Dp K P v2 d2 := by
  obtain ⟨a, vs, rfl, hs, ha⟩ := dp_tup h
  obtain ⟨v1, vs, rfl, h1, ha⟩ := dpa_cons ha
  obtain ⟨v2, vs, rfl, h2, ha⟩ := dpa_cons ha
  obtain rfl := dpa_nil ha
  exact ⟨a, v1, v2, rfl, hs, h1, h2⟩
theorem dp_tup3 {d1 d2 d3 : PyData} (h : Dp K P v (.tuple [d1, d2, d3])) : ∃ a v1 v2 v3, v = .ref a ∧ SqT K P a [v1, v2, v3] ∧ Dp K P v1 d1 ∧ Dp K P v2 d2 ∧ Dp K P v3 d3 := by
  obtain ⟨a, vs, rfl, hs, ha⟩ := dp_tup h
  obtain ⟨v1, vs, rfl, h1, ha⟩ := dpa_cons ha
  obtain ⟨v2, vs, rfl, h2, ha⟩ := dpa_cons ha
  obtain ⟨v3, vs, rfl, h3, ha⟩ := dpa_cons ha
  obtain rfl := dpa_nil ha
  exact ⟨a, v1, v2, v3, rfl, hs, h1, h2, h3⟩
theorem dp_tup4 {d1 d2 d3 d4 : PyData} (h : Dp K P v (.tuple [d1, d2, d3, d4])) : ∃ a v1 v2 v3 v4, v = .ref a ∧ SqT K P a [v1, v2, v3, v4] ∧ Dp K P v1 d1 ∧ Dp K P v2 d2 ∧ Dp K P v3 d3 ∧ Dp K P v4 d4 := by
  obtain ⟨a, vs, rfl, hs, ha⟩ := dp_tup h
  obtain ⟨v1, vs, rfl, h1, ha⟩ := dpa_cons ha
  obtain ⟨v2, vs, rfl, h2, ha⟩ := dpa_cons ha
  obtain ⟨v3, vs, rfl, h3, ha⟩ := dpa_cons ha
  obtain ⟨v4, vs, rfl, h4, ha⟩ := dpa_cons ha
  obtain rfl := dpa_nil ha
  exact ⟨a, v1, v2, v3, v4, rfl, hs, h1, h2, h3, h4⟩
/-- a list of scalars is known by its values -/
theorem dpa_map {α : Type} {f : α → V} {e : α → PyData} (hf : ∀ (v : V) (x : α), Dp K P v (e x) → v = f x) : ∀ {xs : List α} {vs : List V}, DpAll K P vs (xs.map e) → vs = xs.map f
  | [], _, h => dpa_nil h
  | x :: r, _, h => by
    obtain ⟨u, us, rfl, h1, h2⟩ := dpa_cons h
    rw [hf u x h1, dpa_map hf h2]
    rfl
theorem dpa_strs {ts : List (List Nat)} {vs : List V} (h : DpAll K P vs (ts.map eS)) : vs = ts.map S := dpa_map (fun _ _ h => dp_str h) h
theorem pda_map {α : Type} {f : α → V} {e : α → PyData} (hf : ∀ x : α, Dp K P (f x) (e x)) : ∀ xs : List α, DpAll K P (xs.map f) (xs.map e)
  | [] => .nil
  | x :: r => .cons (hf x) (pda_map hf r)
theorem pda_strs (ts : List (List Nat)) : DpAll K P (ts.map S) (ts.map eS) := pda_map (fun t => pd_str t) ts
theorem dpa_len : ∀ {ds : List PyData} {vs : List V}, DpAll K P vs ds → vs.length = ds.length
  | [], _, h => by rw [dpa_nil h]; rfl
  | d :: ds, _, h => by
    obtain ⟨u, us, rfl, h1, h2⟩ := dpa_cons h
    rw [List.length_cons, List.length_cons, dpa_len h2]
theorem dpa_app : ∀ {ds es : List PyData} {vs us : List V}, DpAll K P vs ds → DpAll K P us es → DpAll K P (vs ++ us) (ds ++ es)
  | [], _, _, _, h, h' => by
    rw [dpa_nil h]
    exact h'
  | d :: ds, _, _, _, h, h' => by
    obtain ⟨u, us, rfl, h1, h2⟩ := dpa_cons h
    exact .cons h1 (dpa_app h2 h')
theorem dpa_one {d : PyData} (h : Dp K P v d) : DpAll K P [v] [d] := .cons h .nil
theorem dpa_get {α : Type} {e : α → PyData} : ∀ {xs : List α} {vs : List V} {i : Nat} {v : V}, DpAll K P vs (xs.map e) → vs[i]? = some v → ∃ x, xs[i]? = some x ∧ Dp K P v (e x) ∧ xs.drop i = x :: xs.drop (i + 1)
  | [], _, i, v, h, hi => by
    rw [dpa_nil h] at hi
    simp at hi
  | x :: r, _, 0, v, h, hi => by
    obtain ⟨u, us, rfl, h1, h2⟩ := dpa_cons h
    cases hi
    exact ⟨x, rfl, h1, rfl⟩
  | x :: r, _, i + 1, v, h, hi => by
    obtain ⟨u, us, rfl, h1, h2⟩ := dpa_cons h
    exact dpa_get (xs := r) (vs := us) (i := i) (v := v) h2 hi
theorem dpa_at {α : Type} {e : α → PyData} {xs : List α} {vs : List V} {i : Int} {d : α} (h : DpAll K P vs (xs.map e)) (hi : 0 ≤ i ∧ i < xs.length) : ∃ v, atI vs i = some v ∧ Dp K P v (e (xs.getD i.toNat d)) := by
  obtain ⟨n, rfl⟩ := Int.eq_ofNat_of_zero_le hi.1
  have hl : n < xs.length := by omega
  have hl2 : n < vs.length := by rw [dpa_len h, List.length_map]; exact hl
  obtain ⟨x, hx, hd, _⟩ := dpa_get (i := n) h (List.getElem?_eq_getElem hl2)
  refine ⟨_, atI_nat (List.getElem?_eq_getElem hl2), ?_⟩
  rw [Int.toNat_natCast]
  have : xs.getD n d = x := by
    rw [List.getD, hx]
    rfl
  rw [this]
  exact hd
end
theorem get_map {α : Type} {f : α → V} : ∀ {xs : List α} {i : Nat} {v : V}, (xs.map f)[i]? = some v → ∃ x, xs[i]? = some x ∧ v = f x ∧ xs.drop i = x :: xs.drop (i + 1)
  | [], _, _, h => by simp at h
  | x :: r, 0, v, h => ⟨x, rfl, (Option.some.inj h).symm, rfl⟩
  | x :: r, i + 1, v, h => get_map (xs := r) (i := i) (v := v) h
theorem get_drop {α : Type} : ∀ {xs : List α} {i : Nat} {v : α}, xs[i]? = some v → xs.drop i = v :: xs.drop (i + 1)
  | [], _, _, h => by simp at h
  | x :: r, 0, v, h => by
    have e : x = v := Option.some.inj h
    subst e
    rfl
  | x :: r, i + 1, v, h => get_drop (xs := r) (i := i) (v := v) h
theorem sz {n : Nat} (h : n ≤ 1000000) : n ≤ sizeLine := Nat.le_trans h (by decide)
theorem szl {n : Nat} (h : n < 1000000) : n < sizeLine := Nat.lt_of_lt_of_le h (by decide)
end G
namespace G
open PySem PySem.Spec PyProof.Rows L2
section
variable {X : Cx}
abbrev rIxT1 : R2 := rIxT
def rLenM (K : PySem.W.Frag) : List V → Hp → VK → Prop := fun xs H Q => ∃ (p : Addr) (ys : List V) (n : Nat), xs = [.ref p] ∧ SqL K H p ys ∧ ys.length = n ∧ Q (.int n) H
theorem c_lenM : CallR X (.builtin "len") (rLenM X.K) := fun pins s σ H xs us Q I r h => by
  obtain ⟨p, ys, n, rfl, hs, rfl, q⟩ := h
  exact call_len_seq pins s σ H _ us Q I r ⟨p, ys, rfl, .inl hs, q⟩
def rInt : List V → Hp → VK → Prop := fun xs H Q => (∃ i, xs = [.int i] ∧ Q (.int i) H) ∨ ∃ k, xs = [.bl k] ∧ Q (.int (if k then 1 else 0)) H
theorem c_int : CallR X (.type "int") rInt := call_int1
end
/-- a def of the module, by its promise -/
structure Cal (P : Program) (w : World) (K : PySem.W.Frag) (mg : Str → Option Value) (base : Heap) (k : Nat) (x : Str) (sp : Sp) : Prop where
  ex : ∃ (f : Addr) (fd : FuncData) (ps : List Str), FnOk P w K mg base CX0 k f fd ps sp ∧ mg x = some (.ref f) ∧ PySem.W.keepIn K (.ref f) = true ∧ Binds K fd ps []
section
variable {X : Cx}
theorem pe_c {k j : Nat} {x : Str} {sp : Sp} {p pos : Pos} {e : Expr} {es : List Expr} {t : TA} (c : Cal X.prog X.w X.K X.mg X.base k x sp) (hr : Room j X.A) (hk : k ≤ j) (hg : Gl X x) (ha : PA X (e :: es) t)
    (hdb : (x == ("__debug__" : Str)) = false := by decide) (he : starEach (e :: es) X.env = (false, eval e X.env) :: starEach es X.env := by rfl) (hpl : (backTo pos (starEach es X.env)).any (·.1) = false := by rfl) :
    PE X (.Call (.Name x p) (e :: es) [] pos) (tCall sp [] E0 t) := by
  obtain ⟨f, fd, ps, F, hm, kp, b⟩ := c.ex
  exact pe_call F (hr.mono hk) hg hm kp b .nil pass0 ha hdb he hpl
theorem pe_c0 {k j : Nat} {x : Str} {sp : Sp} {p pos : Pos} (c : Cal X.prog X.w X.K X.mg X.base k x sp) (hr : Room j X.A) (hk : k ≤ j) (hg : Gl X x) (hdb : (x == ("__debug__" : Str)) = false := by decide) : PE X (.Call (.Name x p) [] [] pos) (tCall sp [] E0 tNil) := by
  obtain ⟨f, fd, ps, F, hm, kp, b⟩ := c.ex
  exact pe_call0 F (hr.mono hk) hg hm kp b .nil pass0 hdb
def rMulS : R2 := fun x y H Q => ∃ (a : List Nat) (n : Int), x = S a ∧ y = .int n ∧ (0 ≤ n ∧ n ≤ 1000) ∧ a.length * n.toNat ≤ sizeLine ∧ Q (S (List.replicate n.toNat a).flatten) H
end
theorem q_cutM {D : Ends} {σ : L2.St} {H : Hp} {tu tz : TS} (M : L2.St → Hp → Prop) (h : tu { D with nx := M } σ H) (k : ∀ σ' H', M σ' H' → tz D σ' H') : Evl.tCut tu tz D σ H := ⟨M, h, k⟩
/-! ### turns -/
theorem range_drop {n i : Nat} (h : i < n) : (List.range n).drop i = i :: (List.range n).drop (i + 1) := get_drop (by
  rw [List.getElem?_eq_getElem (by rw [List.length_range]; exact h)]
  simp)
theorem drop_range_all {n : Nat} : (List.range n).drop n = [] := List.drop_of_length_le (by rw [List.length_range]; exact Nat.le_refl _)
theorem take_range_all {n : Nat} : (List.range n).take n = List.range n := List.take_of_length_le (by rw [List.length_range]; exact Nat.le_refl _)
theorem str_drop {t : List Nat} {i c : Nat} (h : ((⟨⟨t⟩⟩ : Str).cps)[i]? = some c) : t.drop i = c :: t.drop (i + 1) := get_drop (by simpa using h)
theorem str_mem {t : List Nat} {i c : Nat} (h : ((⟨⟨t⟩⟩ : Str).cps)[i]? = some c) : c ∈ t := List.mem_of_getElem? (l := t) (i := i) (by simpa using h)
theorem drop_str_all {t : List Nat} : t.drop (⟨⟨t⟩⟩ : Str).cps.size = [] := List.drop_of_length_le (Nat.le_refl _)
theorem take_str_all {t : List Nat} : t.take (⟨⟨t⟩⟩ : Str).cps.size = t := List.take_of_length_le (Nat.le_refl _)
theorem str_bnd {t : List Nat} {n : Nat} (h : t.length ≤ n) : (⟨⟨t⟩⟩ : Str).cps.size ≤ n := h
section
variable {K : PySem.W.Frag} {P : Hp} {vs : List V} {α : Type} {e : α → PyData} {xs : List α}
theorem drop_dpa_all (h : DpAll K P vs (xs.map e)) : xs.drop vs.length = [] := List.drop_of_length_le (by rw [dpa_len h, List.length_map]; exact Nat.le_refl _)
theorem take_dpa_all (h : DpAll K P vs (xs.map e)) : xs.take vs.length = xs := List.take_of_length_le (by rw [dpa_len h, List.length_map]; exact Nat.le_refl _)
theorem dpa_bnd {n : Nat} (h : DpAll K P vs (xs.map e)) (hn : xs.length ≤ n) : vs.length ≤ n := by
  rw [dpa_len h, List.length_map]
  exact hn
theorem dpa_snoc {v : V} {x : α} (h : DpAll K P vs (xs.map e)) (hx : Dp K P v (e x)) : DpAll K P (vs ++ [v]) ((xs ++ [x]).map e) := by
  rw [List.map_append]
  exact dpa_app h (dpa_one hx)
end
section
variable {α β : Type} {xs : List α} {i : Nat} {x : α} {f : α → β} {p : α → Bool}
theorem take_snoc (h : xs.drop i = x :: xs.drop (i + 1)) : xs.take (i + 1) = xs.take i ++ [x] := by
  have hl : i < xs.length := by
    have := congrArg List.length h
    simp only [List.length_drop, List.length_cons] at this
    omega
  have hx : xs[i]? = some x := by
    have := congrArg List.head? h
    rw [List.head?_drop] at this
    exact this
  rw [List.take_add_one, hx]
  rfl
theorem take_snoc_map (h : xs.drop i = x :: xs.drop (i + 1)) : (xs.take (i + 1)).map f = (xs.take i).map f ++ [f x] := by
  rw [take_snoc h, List.map_append]
  rfl
theorem take_snoc_filter (h : xs.drop i = x :: xs.drop (i + 1)) (hp : p x = true) : ((xs.take (i + 1)).filter p).map f = ((xs.take i).filter p).map f ++ [f x] := by
  rw [take_snoc h, List.filter_append, List.map_append, List.filter_cons, if_pos hp]
  rfl
theorem take_snoc_filter_no (h : xs.drop i = x :: xs.drop (i + 1)) (hp : p x = false) : ((xs.take (i + 1)).filter p).map f = ((xs.take i).filter p).map f := by
  rw [take_snoc h, List.filter_append, List.map_append, List.filter_cons, if_neg (by rw [hp]; exact Bool.false_ne_true)]
  simp
theorem len_tm : ((xs.take i).map f).length ≤ i := by
  rw [List.length_map, List.length_take]
  exact Nat.min_le_left _ _
theorem len_tf : (((xs.take i).filter p).map f).length ≤ i := by
  rw [List.length_map]
  refine Nat.le_trans (List.length_filter_le _ _) ?_
  rw [List.length_take]
  exact Nat.min_le_left _ _
end
theorem sum_le {ts : List (List Nat)} {c : Nat} (h : ∀ t ∈ ts, t.length ≤ c) : (ts.map List.length).sum ≤ ts.length * c := by
  induction ts with
  | nil => simp
  | cons t r ih =>
    rw [List.map_cons, List.sum_cons, List.length_cons, Nat.succ_mul]
    have h1 := h t List.mem_cons_self
    have h2 := ih fun u hu => h u (List.mem_cons_of_mem _ hu)
    omega
theorem join_ok {ts : List (List Nat)} {sep : List Nat} (n c : Nat) (h : ∀ t ∈ ts, t.length ≤ c) (hn : ts.length ≤ n) (hb : n * (c + sep.length) ≤ 16777216) : (ts.map List.length).sum + ts.length * sep.length ≤ 16777216 := by
  have h1 := sum_le h
  have h2 : ts.length * c + ts.length * sep.length ≤ n * (c + sep.length) := by
    rw [← Nat.mul_add]
    exact Nat.mul_le_mul_right _ hn
  omega
theorem one_map {xs : List Nat} : ∀ t ∈ xs.map (fun c => ([c] : List Nat)), t.length ≤ 1 := fun t ht => by
  obtain ⟨c, _, rfl⟩ := List.mem_map.mp ht
  exact Nat.le_refl _
theorem joinL_nil : ∀ ts : List (List Nat), TL.joinL [] ts = ts.flatten
  | [] => rfl
  | [t] => by simp [TL.joinL]
  | t :: u :: r => by
    have ih := joinL_nil (u :: r)
    show t ++ ([] ++ TL.joinL [] (u :: r)) = (t :: u :: r).flatten
    rw [ih]
    rfl
/-! ### the draws -/
structure Box where
  i : Nat
  acc : Int
  seed : Int
def boxO (l : Addr) (b : Box) : HO := .lst [.ref l, .int b.i, .int b.acc, .int b.seed]
def take1 (ns : List Int) (b : Box) : Box :=
  if (decide (b.acc < 2) && decide ((b.i : Int) < ns.length)) = true then
    { i := b.i + 1, seed := (b.seed * 48271 + ns.getD b.i 0 % 2147483629 * 69621 + 11) % 2147483647, acc := if decide (10 ^ 18 ≤ ns.getD b.i 0) = true then ns.getD b.i 0 - 10 ^ 18 else b.acc }
  else b
def m_take (ns : List Int) (b : Box) (n : Int) : Int × Box :=
  if decide (1 < (take1 ns b).acc) = true then ((take1 ns b).acc % n, { take1 ns b with acc := (take1 ns b).acc / n })
  else (((take1 ns b).seed * 48271 + 12345) % 2147483647 / 2048 % n, { take1 ns b with seed := ((take1 ns b).seed * 48271 + 12345) % 2147483647 })
theorem take_rng (ns : List Int) (b : Box) {n : Int} (h : 0 < n) : 0 ≤ (m_take ns b n).1 ∧ (m_take ns b n).1 < n := by
  unfold m_take
  split
  · exact ⟨Int.emod_nonneg _ (by omega), Int.emod_lt_of_pos _ h⟩
  · exact ⟨Int.emod_nonneg _ (by omega), Int.emod_lt_of_pos _ h⟩
end G
namespace G
open PySem PySem.Spec PyProof.Rows L2
/-! ### _law_take: its reading -/
abbrev ixB (K : PySem.W.Frag) (i : Int) : TE := tOp (rIxL K) (tVar 0) (tC (V.int i))
def tTakeR (K : PySem.W.Frag) : TS :=
  tSeq (tIfS (tAnd (tTest (tOp rLt (ixB K 2) (tC (V.int 2)))) (tTest (tOp rLt (ixB K 1) (tCB (rLenL K) (tCons (ixB K 0) tNil)))))
    (tSeq (tAsg (tOp (rIxL K) (ixB K 0) (ixB K 1)) (gName 2))
    (tSeq (tAsg (tOp rAdd (ixB K 1) (tC (V.int 1))) (gSub (tVar 0) (tC (V.int 1)) rSetL))
    (tSeq (tAsg (tOp rMod (tCB rInt (tCons (tOp rAdd (tOp rAdd (tOp rMul (ixB K 3) (tC (V.int 48271))) (tOp rMul (tOp rMod (tCB rInt (tCons (tVar 2) tNil)) (tC (V.int 2147483629))) (tC (V.int 69621)))) (tC (V.int 11))) tNil)) (tC (V.int 2147483647))) (gSub (tVar 0) (tC (V.int 3)) rSetL))
    (tIfS (tTest (tOp rGe (tVar 2) (tOp rPow (tC (V.int 10)) (tC (V.int 18))))) (tAsg (tOp rSub (tVar 2) (tOp rPow (tC (V.int 10)) (tC (V.int 18)))) (gSub (tVar 0) (tC (V.int 2)) rSetL)) tNext)))) tNext)
  (tSeq (tIfS (tTest (tOp rGt (ixB K 2) (tC (V.int 1))))
    (tSeq (tAsg (tOp rMod (tCB rInt (tCons (ixB K 2) tNil)) (tVar 1)) (gName 3))
    (tSeq (tAsg (tOp rDiv (ixB K 2) (tVar 1)) (gSub (tVar 0) (tC (V.int 2)) rSetL)) (tRet (tVar 3)))) tNext)
  (tSeq (tAsg (tOp rMod (tCB rInt (tCons (tOp rAdd (tOp rMul (ixB K 3) (tC (V.int 48271))) (tC (V.int 12345))) tNil)) (tC (V.int 2147483647))) (gSub (tVar 0) (tC (V.int 3)) rSetL))
  (tRet (tOp rMod (tCB rInt (tCons (tOp rDiv (ixB K 3) (tC (V.int 2048))) tNil)) (tVar 1)))))
def takeE (b : Box) (n : Int) : Int × Box := if decide (1 < b.acc) = true then (b.acc % n, { b with acc := b.acc / n }) else ((b.seed * 48271 + 12345) % 2147483647 / 2048 % n, { b with seed := (b.seed * 48271 + 12345) % 2147483647 })
section
variable {K : PySem.W.Frag}
/-- the rest of _law_take, once the first if is behind -/
theorem take_rest {T : Tbs} {P H : Hp} {cs0 : Cs} {a l : Addr} {b : Box} {n : Int} {Q : VK} {x : Option V} (w : Wd T P H ((a, boxO l b) :: cs0)) (n0 : 0 < n) (n1 : n < 10000000000000)
    (q : ∀ H1, Wd T P H1 ((a, boxO l (takeE b n).2) :: cs0) →
      Q (.int (takeE b n).1) H1) :
    (tSeq (tIfS (tTest (tOp rGt (ixB K 2) (tC (V.int 1))))
    (tSeq (tAsg (tOp rMod (tCB rInt (tCons (ixB K 2) tNil)) (tVar 1)) (gName 3))
    (tSeq (tAsg (tOp rDiv (ixB K 2) (tVar 1)) (gSub (tVar 0) (tC (V.int 2)) rSetL)) (tRet (tVar 3)))) tNext)
  (tSeq (tAsg (tOp rMod (tCB rInt (tCons (tOp rAdd (tOp rMul (ixB K 3) (tC (V.int 48271))) (tC (V.int 12345))) tNil)) (tC (V.int 2147483647))) (gSub (tVar 0) (tC (V.int 3)) rSetL))
  (tRet (tOp rMod (tCB rInt (tCons (tOp rDiv (ixB K 3) (tC (V.int 2048))) tNil)) (tVar 1))))) { nx := fun _ H1 => Q .non H1, rt := Q } [some (.ref a), some (.int n), x, none] H := by
  refine ⟨_, rfl, a, _, 2, _, rfl, rfl, .inl (.inl w.hd), rfl, _, _, rfl, rfl, _, rfl, ?_⟩
  refine iteB (fun hb => ?_) (fun hb => ?_)
  · have eE : takeE b n = (b.acc % n, { b with acc := b.acc / n }) := by unfold takeE; rw [if_pos hb]
    rw [eE] at q
    refine ⟨_, rfl, a, _, 2, _, rfl, rfl, .inl (.inl w.hd), rfl, ?_⟩
    refine Or.inl ⟨_, rfl, _, rfl, _, _, rfl, rfl, n0, ?_⟩
    refine ⟨_, rfl, a, _, 2, _, rfl, rfl, .inl (.inl w.hd), rfl, _, rfl, _, _, rfl, rfl, ⟨n0, by omega⟩, _, rfl, a, _, 2, 2, rfl, rfl, w.hd, rfl, _, rfl, ?_⟩
    exact q _ (w.put 0 _ rfl)
  · have eE : takeE b n = ((b.seed * 48271 + 12345) % 2147483647 / 2048 % n, { b with seed := (b.seed * 48271 + 12345) % 2147483647 }) := by unfold takeE; rw [if_neg (by rw [show decide (1 < b.acc) = false from hb]; exact Bool.false_ne_true)]
    rw [eE] at q
    refine ⟨_, rfl, a, _, 3, _, rfl, rfl, .inl (.inl w.hd), rfl, _, _, rfl, rfl, .inr ⟨by decide, by decide⟩, _, _, rfl, rfl, ?_⟩
    refine Or.inl ⟨_, rfl, _, _, rfl, rfl, (by decide : (0 : Int) < 2147483647), _, rfl, a, _, 3, 3, rfl, rfl, w.hd, rfl, ?_⟩
    have w2 := w.put 0 (boxO l { b with seed := (b.seed * 48271 + 12345) % 2147483647 }) rfl
    refine ⟨_, rfl, a, _, 3, _, rfl, rfl, .inl (.inl w2.hd), rfl, _, _, rfl, rfl, ⟨by decide, by decide⟩, ?_⟩
    refine Or.inl ⟨_, rfl, _, rfl, _, _, rfl, rfl, n0, ?_⟩
    exact q _ w2
theorem rd_takeR {T : Tbs} {P H : Hp} {cs0 : Cs} {a l : Addr} {ns : List Int} {b : Box} {n : Int} {Q : VK} (w : Wd T P H ((a, boxO l b) :: cs0)) (hl : SqL K P l (ns.map V.int)) (n0 : 0 < n) (n1 : n < 10000000000000)
    (q : ∀ H1, Wd T P H1 ((a, boxO l (m_take ns b n).2) :: cs0) → Q (.int (m_take ns b n).1) H1) : tTakeR K { nx := fun _ H1 => Q .non H1, rt := Q } [some (.ref a), some (.int n), none, none] H := by
  have em : m_take ns b n = takeE (take1 ns b) n := rfl
  rw [em] at q
  have hB : ∀ Q' : Bool → Hp → Prop, Q' (decide (b.acc < 2) && decide ((b.i : Int) < ns.length)) H → (tAnd (tTest (tOp rLt (ixB K 2) (tC (V.int 2)))) (tTest (tOp rLt (ixB K 1) (tCB (rLenL K) (tCons (ixB K 0) tNil))))) [some (.ref a), some (.int n), none, none] H Q' := by
    intro Q' hQ
    refine ⟨_, rfl, a, _, 2, _, rfl, rfl, .inl (.inl w.hd), rfl, _, _, rfl, rfl, _, rfl, ?_⟩
    refine iteB (fun h1 => ?_) (fun h1 => ?_)
    · rw [h1, Bool.true_and] at hQ
      refine ⟨_, rfl, a, _, 1, _, rfl, rfl, .inl (.inl w.hd), rfl, _, rfl, a, _, 0, _, rfl, rfl, .inl (.inl w.hd), rfl, l, _, rfl, .inl (w.sql hl), _, _, rfl, rfl, _, rfl, ?_⟩
      rw [List.length_map]
      exact hQ
    · rw [h1, Bool.false_and] at hQ
      exact hQ
  refine hB _ ?_
  refine iteB (fun h1 => ?_) (fun h1 => ?_)
  · have e1 : take1 ns b = { i := b.i + 1, seed := (b.seed * 48271 + ns.getD b.i 0 % 2147483629 * 69621 + 11) % 2147483647, acc := if decide (10 ^ 18 ≤ ns.getD b.i 0) = true then ns.getD b.i 0 - 10 ^ 18 else b.acc } := by
      unfold take1
      rw [if_pos h1]
    rw [e1] at q
    rw [Bool.and_eq_true, decide_eq_true_eq, decide_eq_true_eq] at h1
    have hat : atI (ns.map V.int) (b.i : Int) = some (V.int (ns.getD b.i 0)) := by
      have := atI_mapD (t := ns) (i := (b.i : Int)) (d := 0) (f := V.int) ⟨by omega, h1.2⟩
      rw [Int.toNat_natCast] at this
      exact this
    refine ⟨_, rfl, a, _, 0, _, rfl, rfl, .inl (.inl w.hd), rfl, _, rfl, a, _, 1, _, rfl, rfl, .inl (.inl w.hd), rfl, l, _, _, _, rfl, rfl, w.sql hl, hat, ?_⟩
    refine ⟨_, rfl, a, _, 1, _, rfl, rfl, .inl (.inl w.hd), rfl, _, _, rfl, rfl, _, rfl, a, _, 1, 1, rfl, rfl, w.hd, rfl, ?_⟩
    have w2 := w.put 0 (boxO l { b with i := b.i + 1 }) rfl
    have w2' : Wd T P (upd H a (HO.lst [.ref l, .int ((b.i : Int) + 1), .int b.acc, .int b.seed])) ((a, boxO l { b with i := b.i + 1 }) :: cs0) := w2
    refine ⟨_, rfl, a, _, 3, _, rfl, rfl, .inl (.inl w2'.hd), rfl, _, _, rfl, rfl, .inr ⟨by decide, by decide⟩, _, rfl, ?_⟩
    refine Or.inl ⟨_, rfl, _, _, rfl, rfl, (by decide : (0 : Int) < 2147483629), _, _, rfl, rfl, .inr ⟨by decide, by decide⟩, _, _, rfl, rfl, _, _, rfl, rfl, ?_⟩
    refine Or.inl ⟨_, rfl, _, _, rfl, rfl, (by decide : (0 : Int) < 2147483647), _, rfl, a, _, 3, 3, rfl, rfl, w2'.hd, rfl, ?_⟩
    have w3 := w2'.put 0 (boxO l { i := b.i + 1, acc := b.acc, seed := (b.seed * 48271 + ns.getD b.i 0 % 2147483629 * 69621 + 11) % 2147483647 }) rfl
    refine ⟨_, rfl, _, _, rfl, rfl, ⟨by decide, by decide, by decide⟩, _, _, rfl, rfl, _, rfl, ?_⟩
    refine iteB (fun h2 => ?_) (fun h2 => ?_)
    · have h2' : decide ((10 : Int) ^ 18 ≤ ns.getD b.i 0) = true := h2
      rw [h2', if_pos rfl] at q
      refine ⟨_, rfl, _, _, rfl, rfl, ⟨by decide, by decide, by decide⟩, _, _, rfl, rfl, _, rfl, a, _, 2, 2, rfl, rfl, w3.hd, rfl, ?_⟩
      have w4 := w3.put 0 (boxO l { i := b.i + 1, acc := ns.getD b.i 0 - 10 ^ 18, seed := (b.seed * 48271 + ns.getD b.i 0 % 2147483629 * 69621 + 11) % 2147483647 }) rfl
      exact take_rest w4 n0 n1 q
    · have h2' : decide ((10 : Int) ^ 18 ≤ ns.getD b.i 0) = false := h2
      rw [h2', if_neg Bool.false_ne_true] at q
      exact take_rest w3 n0 n1 q
  · have e1 : take1 ns b = b := by
      unfold take1
      rw [if_neg (by rw [h1]; exact Bool.false_ne_true)]
    rw [e1] at q
    exact take_rest w n0 n1 q
end
/-! ### _law_box: its reading -/
def absL (ns : List Int) : List Int := (cutT0 ns).map fun i => if i < 0 then -i else i
where cutT0 (ns : List Int) : List Int := ns.take 63
def box0 : Box := ⟨0, 1, 7⟩
def tBoxR (K : PySem.W.Frag) : TS :=
  tRet (tLst (tCons (tLc (iList K (tSl (rSlL K) (tVar 0) tNoPart (tPart (tC (V.int 63))))) (gName 1) tYes (tCB (fun xs H Q => ∃ i, xs = [.int i] ∧ Q (.int (if i < 0 then -i else i)) H) (tCons (tVar 1) tNil)) [1]) (tCons (tC (V.int 0)) (tCons (tC (V.int 1)) (tCons (tC (V.int 7)) tNil)))))
theorem cut63 (ns : List Int) (h : ns.length ≤ 63) : cutV (ns.map V.int) none (some 63) = ns.map V.int := by
  unfold cutV
  rw [HT.sIx_none, List.drop_zero]
  refine List.take_of_length_le ?_
  rw [Nat.sub_zero, List.length_map]
  rw [show HT.sIx ns.length ns.length (some 63) = min 63 ns.length from HT.sIx_nat ns.length ns.length 63]
  omega
theorem rd_boxR {K : PySem.W.Frag} {T : Tbs} {P H : Hp} {cs0 : Cs} {a : Addr} {ns : List Int} {Q : VK} (w : Wd T P H cs0) (hl : SqL K P a (ns.map V.int)) (hlen : ns.length ≤ 63)
    (q : ∀ (H1 P1 : Hp) (p l : Addr), Ext P P1 → Wd T P1 H1 ((p, boxO l box0) :: cs0) → SqL K P1 l ((absL ns).map V.int) → Q (.ref p) H1) : tBoxR K { nx := fun _ H1 => Q .non H1, rt := Q } [some (.ref a), none] H := by
  refine ⟨_, rfl, 63, rfl, a, _, rfl, w.sql hl, fun c nc => ?_⟩
  rw [cut63 ns hlen]
  have w1 := w.frz nc (HO.lst (ns.map V.int))
  have e1 := w.fext nc (HO.lst (ns.map V.int))
  have hc : (upd P c (HO.lst (ns.map V.int))) c = some (HO.lst (ns.map V.int)) := upd_same
  generalize upd H c (HO.lst (ns.map V.int)) = H2 at w1 ⊢
  generalize upd P c (HO.lst (ns.map V.int)) = P2 at w1 e1 hc
  refine ⟨c, rfl, ⟨_, w1.lst hc⟩, fun D nD => ?_⟩
  refine lc_it (walk_list (K := K) (a := c) (xs := ns.map V.int)) (fun i H1 => Wd T P2 H1 ((D, HO.lst (((ns.take i).map fun i => if i < 0 then -i else i).map V.int)) :: cs0)) (w1.new nD _) (fun i H1 _ w2 => w2.lst hc) ?_ ?_
  · rintro i x H1 H3 hi w2 y
    obtain ⟨eH, hx⟩ := y
    rw [eH]
    obtain ⟨z, hz, rfl, eD⟩ := get_map hx
    refine ⟨rfl, ?_⟩
    refine ⟨_, rfl, _, rfl, _, w2.hd, ?_, ?_⟩
    · rw [List.length_map, List.length_map, List.length_take]
      exact szl (by omega)
    · have w3 := w2.put 0 (HO.lst (((ns.take i).map fun i => if i < 0 then -i else i).map V.int ++ [V.int (if z < 0 then -z else z)])) rfl
      have e2 : ((ns.take (i + 1)).map fun i => if i < 0 then -i else i).map V.int = ((ns.take i).map fun i => if i < 0 then -i else i).map V.int ++ [V.int (if z < 0 then -z else z)] := by
        rw [take_snoc_map eD, List.map_append]
        rfl
      show Wd T P2 _ ((D, HO.lst (((ns.take (i + 1)).map fun i => if i < 0 then -i else i).map V.int)) :: cs0)
      rw [e2]
      exact w3
  · rintro H3 w2
    rw [List.length_map, List.take_of_length_le (Nat.le_refl _)] at w2
    have w3 := w2.keep
    have e3 := w2.kext
    have hD : (upd P2 D (HO.lst ((ns.map fun i => if i < 0 then -i else i).map V.int))) D = some (HO.lst ((ns.map fun i => if i < 0 then -i else i).map V.int)) := upd_same
    generalize upd P2 D (HO.lst ((ns.map fun i => if i < 0 then -i else i).map V.int)) = P3 at w3 e3 hD
    refine ⟨(by show 4 ≤ sizeLine; decide), fun p np => ?_⟩
    refine q _ P3 p D (e1.trans e3) (w3.new np _) (.inl (.inl ?_))
    unfold absL absL.cutT0
    rw [List.take_of_length_le hlen]
    exact hD
theorem snoc_all {α : Type} {p : α → Prop} {l : List α} {x : α} (h : ∀ t ∈ l, p t) (hx : p x) : ∀ t ∈ l ++ [x], p t := fun t ht => by
  rcases List.mem_append.mp ht with z | z
  · exact h t z
  · rw [List.mem_singleton.mp z]; exact hx
section
variable {X : Cx}
theorem pe_gc {x : Str} {v : V} {pos : Pos} (hg : Gl X x) (h : ∃ u, X.mg x = some u ∧ RelV v u) (hd : (x == ("__debug__" : Str)) = false := by decide) : PE X (.Name x pos) (tC v) := by
  obtain ⟨u, h1, h2⟩ := h
  exact pe_glob hg h1 h2 hd
end
theorem walk_range0 {n : Nat} : Walk (Itr 0 n) n (fun _ => True) (fun i H x H' => H' = H ∧ x = V.int (i : Int)) := walk_range.mono (fun _ h => h) fun i H x H' _ _ y => ⟨y.1, by rw [y.2]; show V.int (0 + (i : Int)) = _; rw [Int.zero_add]⟩
/-! ### cuts -/
def cutT {α : Type} (t : List α) (lo hi : Option Int) : List α := (t.drop (HT.sIx t.length 0 lo)).take (HT.sIx t.length t.length hi - HT.sIx t.length 0 lo)
theorem cutT_len {α : Type} (t : List α) (lo hi : Option Int) : (cutT t lo hi).length ≤ t.length := by
  unfold cutT
  rw [List.length_take, List.length_drop]
  omega
def rSlT1 : V → Option Int → Option Int → Hp → VK → Prop := fun x lo hi H Q => ∃ t : List Nat, x = S t ∧ t.length ≤ sizeLine ∧ Q (S (cutT t lo hi)) H
theorem s_strT {X : Cx} : SlR X rSlT1 := fun pins s σ H x v vl vu lo hi sl Q I rx hs pl pu h => by
  obtain ⟨t, rfl, hz, q⟩ := h
  exact sl_str pins s σ H _ v vl vu lo hi sl Q I rx hs pl pu ⟨_, rfl, hz, q⟩
theorem joinL_len {ts : List (List Nat)} {c : Nat} (h : ∀ t ∈ ts, t.length ≤ c) : (TL.joinL (cs "") ts).length ≤ ts.length * c := by
  rw [show cs "" = [] from by decide, joinL_nil]
  induction ts with
  | nil => simp
  | cons t r ih =>
    rw [List.flatten_cons, List.length_append, List.length_cons, Nat.succ_mul]
    have h1 := h t List.mem_cons_self
    have h2 := ih fun u hu => h u (List.mem_cons_of_mem _ hu)
    omega
end G
namespace G
open PySem PySem.Spec PyProof.Rows L2
/-- what the row asks of law -/
def spL (K : PySem.W.Frag) : Sp := fun vs H Q _ => ∃ (a : Addr) (ns : List Int), vs = [.ref a] ∧ SqL K H a (ns.map V.int) ∧ ns.length ≤ 63 ∧ ∀ H1, Q (.bl true) H1
theorem sqt_strs {K : PySem.W.Frag} {a : Addr} {o : Obj} {its : Array Value} {n : Nat} {xs : List V} (h1 : K.lookup a = some o) (h2 : o.cls = .type "tuple") (h3 : o.data = .seq its n) (h4 : its.size ≤ sizeLine) (h5 : Vals xs its.toList) (H : Hp) : SqT K H a xs :=
  .inr ⟨o, its, n, h1, h2, h3, h4, h5⟩
end G
namespace G
open PySem PySem.Spec PyProof.Rows L2
/-- a def whose last parameter is keyword-only: called with it, called without it (dv its default) -/
structure CalK (P : Program) (w : World) (K : PySem.W.Frag) (mg : Str → Option Value) (base : Heap) (k : Nat) (x : Str) (sp : Sp) (n : Nat) (kw : Str) (dv : V) : Prop where
  ex : ∃ (f : Addr) (fd : FuncData) (ps : List Str), FnOk P w K mg base CX0 k f fd ps sp ∧ mg x = some (.ref f) ∧ PySem.W.keepIn K (.ref f) = true ∧ KBn K fd ps n [kw] (fun us ws => us ++ ws) (fun vs zs => vs ++ zs) ∧ ∃ ds, Vals [dv] ds ∧ Binds K fd ps ds
section
variable {X : Cx} {k j n : Nat} {x kw : Str} {dv : V} {sp : Sp} {p pos : Pos} {e : Expr} {es : List Expr} {t tk : TA} {kws : List Keyword}
theorem pe_ck (c : CalK X.prog X.w X.K X.mg X.base k x sp n kw dv) (hr : Room j X.A) (hk : k ≤ j) (hg : Gl X x) (ha : PA X (e :: es) t) (hkw : PK X kws tk)
    (hall : (backToKw pos (keywordEach kws X.env)).all (·.1.isSome) = true := by rfl) (hks : (backToKw pos (keywordEach kws X.env)).filterMap (·.1) = [kw] := by rfl)
    (hdb : (x == ("__debug__" : Str)) = false := by decide) (he : starEach (e :: es) X.env = (false, eval e X.env) :: starEach es X.env := by rfl)
    (hpl : ((backTo pos (starEach (e :: es) X.env)).any (·.1) || (backToKw pos (keywordEach kws X.env)).any (·.1.isNone)) = false := by rfl) :
    PE X (.Call (.Name x p) (e :: es) kws pos) (tCallN n 1 sp (fun vs zs => vs ++ zs) E0 t tk) := by
  obtain ⟨f, fd, ps, F, hm, kp, b, _⟩ := c.ex
  exact pe_callN F (hr.mono hk) hg hm kp b pass0 ha hkw hall hks hdb he hpl
theorem pe_cd (c : CalK X.prog X.w X.K X.mg X.base k x sp n kw dv) (hr : Room j X.A) (hk : k ≤ j) (hg : Gl X x) (ha : PA X (e :: es) t)
    (hdb : (x == ("__debug__" : Str)) = false := by decide) (he : starEach (e :: es) X.env = (false, eval e X.env) :: starEach es X.env := by rfl) (hpl : (backTo pos (starEach es X.env)).any (·.1) = false := by rfl) :
    PE X (.Call (.Name x p) (e :: es) [] pos) (tCall sp [dv] E0 t) := by
  obtain ⟨f, fd, ps, F, hm, kp, _, ds, d, b⟩ := c.ex
  exact pe_call F (hr.mono hk) hg hm kp b d pass0 ha hdb he hpl
end
/-- two ways meet -/
theorem q_join {D : Ends} {σ : L2.St} {H : Hp} {tu tz : TS} (M : L2.St → Hp → Prop) (h : tu { D with nx := M } σ H) (k : ∀ σ' H', M σ' H' → tz D σ' H') : Evl.tCut tu tz D σ H := ⟨M, h, k⟩
end G
/-- a join of ways: k is what follows -/
def G.jn {α β : Type} (k : α) (f : α → β) : β := f k
namespace G
open PySem PySem.Spec PyProof.Rows L2
section
variable {K : PySem.W.Frag} {x qual kw : Str} {st : Stmt} {f : Addr} {fd : FuncData} {ps : List Str} {n : Nat} {dv : V}
theorem kbn_of (F : Fun K x qual st f fd)
    (h : ∀ (kV doc pm : Value) (an : Option Addr) (cdv ct : Value) (us ws : List Value), us.length = n → ws.length = 1 → bindArgs (PySem.W.fnOf x qual (defArgs st) (defBody st) (defScope st) .none kV doc pm an cdv ct) ⟨us, [kw].zip ws⟩ = pure (ps.zip (us ++ ws))) :
    KBn K fd ps n [kw] (fun us ws => us ++ ws) (fun vs zs => vs ++ zs) := by
  obtain ⟨oc, od, kV, doc, pm, an, cdv, ct, osl, rfl, lk, hcd⟩ := F.ex
  exact ⟨fun s us ws _ h1 h2 => .of_eq (h kV doc pm an cdv ct us ws h1 h2), fun r1 r2 => r1.append r2⟩
theorem kwd_of {oc doc pm cdv ct : Value} {od an : Option Addr} {D : Addr} {osl : Array (Option Value)} (l : K.lookup f = some ⟨oc, od, .func (PySem.W.fnOf x qual (defArgs st) (defBody st) (defScope st) .none (.ref D) doc pm an cdv ct), osl⟩)
    (c : PySem.W.codeIn K cdv qual = true) (k : PySem.W.keepIn K (.ref f) = true) (hq : ∃ u, PySem.W.nsIn K D kw = some (some u) ∧ RelV dv u) (hn : n + 1 = ps.length)
    (h : ∀ (D : Addr) (doc pm : Value) (an : Option Addr) (cdv ct : Value) (us ks : List Value), us.length = n → ks.length = 1 →
      KwChain D ([kw].zip ks) (bindArgs (PySem.W.fnOf x qual (defArgs st) (defBody st) (defScope st) .none (.ref D) doc pm an cdv ct) ⟨us, []⟩) (ps.zip (us ++ ks))) :
    ∃ ds, Vals [dv] ds ∧ Binds K (PySem.W.fnOf x qual (defArgs st) (defBody st) (defScope st) .none (.ref D) doc pm an cdv ct) ps ds := by
  refine FunD.binds0 (kws := [(kw, dv)]) (x := x) (qual := qual) (params := defArgs st) (body := defBody st) (scope := defScope st) (f := f) ⟨⟨oc, od, .none, .ref D, doc, pm, an, cdv, ct, osl, rfl, l, c, .inl ⟨rfl, rfl⟩, .inr ⟨D, rfl, fun q hm => ?_⟩⟩, k⟩ n (by intro z; cases z) hn h
  rw [List.mem_singleton.mp hm]
  exact hq
end
theorem getD_len {l : List (List Nat)} {c : Nat} (h : ∀ t ∈ l, t.length ≤ c) (i : Nat) : (l.getD i []).length ≤ c := by
  rw [List.getD]
  cases e : l[i]? with
  | none => exact Nat.zero_le _
  | some t => exact h t (List.mem_of_getElem? e)
end G
namespace G
open PySem PyProof.Rows L2
/-! ### the order of tuples of ints and texts -/
inductive Sc where
  | i (n : Int)
  | t (x : List Nat)
  deriving DecidableEq
def Sc.v : Sc → V
  | .i n => .int n
  | .t x => S x
def Sc.lt : Sc → Sc → Bool
  | .i a, .i b => decide (a < b)
  | .t a, .t b => decide (a < b)
  | _, _ => false
def Sc.like : Sc → Sc → Bool
  | .i _, .i _ => true
  | .t _, .t _ => true
  | _, _ => false
def lexSc : List Sc → List Sc → Bool
  | [], [] => false
  | [], _ :: _ => true
  | _ :: _, [] => false
  | x :: xs, y :: ys => if x = y then lexSc xs ys else x.lt y
def likeSc : List Sc → List Sc → Bool
  | x :: xs, y :: ys => x.like y && likeSc xs ys
  | _, _ => true
abbrev ScAre : List Sc → List Value → Prop := Paired fun k u => RelV k.v u
theorem eqAt_sc (A : Around) (s : Shared) {x y : Sc} {u v : Value} (hx : RelV x.v u) (hy : RelV y.v v) (hl : x.like y = true) : ∃ e, SeqAt.EqAt A s u v e ∧ (e = true ↔ x = y) := by
  cases x with
  | i a =>
    cases y with
    | i c =>
      obtain ⟨t, rfl⟩ := hx
      obtain ⟨t', rfl⟩ := hy
      exact ⟨(a == c), SeqAt.EqAt.int_int a t c t', by simp⟩
    | t c => cases hl
  | t a =>
    cases y with
    | i c => cases hl
    | t c =>
      obtain ⟨t, rfl⟩ := hx
      obtain ⟨t', rfl⟩ := hy
      refine ⟨_, SeqAt.EqAt.str_str _ t _ t', ?_⟩
      simp
theorem rcLt_sc (A : Around) (s : Shared) {x y : Sc} {u v : Value} (hx : RelV x.v u) (hy : RelV y.v v) (hl : x.like y = true) (prog : Program) (w : World) (E : Value → Shared → Prop) (Q : Value → Shared → Prop) (h : Q (.bool (x.lt y)) s) :
    wpAny (model prog w) A (richCompare .Lt u v) Q E s := by
  cases x with
  | i a =>
    cases y with
    | i c =>
      obtain ⟨t, rfl⟩ := hx
      obtain ⟨t', rfl⟩ := hy
      exact (PyProof.Rows.lt_int h : wpAny (model prog w) A (compareOp .Lt (.int a t) (.int c t')) Q E s)
    | t c => cases hl
  | t a =>
    cases y with
    | i c => cases hl
    | t c =>
      obtain ⟨t, rfl⟩ := hx
      obtain ⟨t', rfl⟩ := hy
      exact (lt_str h : wpAny (model prog w) A (compareOp .Lt (.str ⟨⟨a⟩⟩ t) (.str ⟨⟨c⟩⟩ t')) Q E s)
section
open PySem.SeqAt
open PySem.AutoSeq1 (wpAny_loadPart')
open PySem.MeetsSeq PySem.MeetsSeq2 PySem.MeetsSeq3
theorem tuple_lt_sc (l b : Addr) (items items2 : Array Value) (n n2 : Nat) (dd dd2 : Option Addr) (sl sl2 : Array (Option Value)) (ns ms : List Sc) (hi : ScAre ns items.toList) (hj : ScAre ms items2.toList) (hk : likeSc ns ms = true) :
    Meets (Builtin.«tuple.__lt__» ⟨[.ref l, .ref b], []⟩)
      (fun _ R s => s.heap.get? l = some { cls := .type "tuple", dict := dd, data := .seq items n, slots := sl } ∧ s.heap.get? b = some { cls := .type "tuple", dict := dd2, data := .seq items2 n2, slots := sl2 } ∧
        R (.ok (.ret (.bool (lexSc ns ms)))) s) :=
  .of_wp fun prog w A R s h => by
    obtain ⟨hp, g, d, tk, os⟩ := s; obtain ⟨hl, hb, h⟩ := h
    have f2 := AutoSeq1.sub_tuple_tuple
    have z1 : items.size = ns.length := by rw [hi.length]; simp
    have z2 : items2.size = ms.length := by rw [hj.length]; simp
    wp_walk using wpAny_loadPart' hl, wpAny_loadPart' hb, wpAny_forIn_list _ (fun rest b s' => b.1 = none ∧ s' = ⟨hp, g, d, tk, os⟩ ∧ ∃ (vs ws : List Value) (ns' ms' : List Sc), rest = vs.zip ws ∧
      ScAre ns' vs ∧ ScAre ms' ws ∧ likeSc ns' ms' = true ∧ ns'.length + items2.size = ms'.length + items.size ∧ R (.ok (.ret (.bool (lexSc ns' ms')))) ⟨hp, g, d, tk, os⟩) _
    case turn =>
      rintro ⟨y, x⟩ rest b s' ⟨hb', rfl, vs, ws, ns', ms', hz, hvi, hwi, hlk, hlen, hR⟩
      cases hvi with
      | nil => rw [List.zip_nil_left] at hz; cases hz
      | cons ra hvi' =>
        cases hwi with
        | nil => rw [List.zip_nil_right] at hz; cases hz
        | cons rc hwi' =>
          rw [List.zip_cons_cons] at hz
          injection hz with hyx hrest
          injection hyx with hy hx
          subst hy hx
          rw [lexSc] at hR
          rw [likeSc, Bool.and_eq_true] at hlk
          simp only [List.length_cons] at hlen
          obtain ⟨e, he, hiff⟩ := eqAt_sc A.in1 ⟨hp, g, d, tk, os⟩ ra rc hlk.1
          refine wpAny_bind (he prog w _ _ ?_)
          cases e with
          | true =>
            rw [if_pos (hiff.mp rfl)] at hR
            wp_walk
            exact ⟨rfl, rfl, _, _, _, _, hrest, hvi', hwi', hlk.2, by omega, hR⟩
          | false =>
            rw [if_neg (fun q => absurd (hiff.mpr q) Bool.false_ne_true)] at hR
            have hri := rcLt_sc A.in1 ⟨hp, g, d, tk, os⟩ ra rc hlk.1 prog w
            wp_walk using hri
            exact ⟨_, rfl, by simpa using hR⟩
    case fin =>
      rintro ⟨b1, b2⟩ s' ⟨hb', rfl, vs, ws, ns', ms', hz, hvi, hwi, hlk, hlen, hR⟩
      simp only at hb'
      subst hb'
      have hv : lexSc ns' ms' = decide (items.size < items2.size) := by
        cases hvi with
        | nil =>
          cases hwi with
          | nil =>
            simp only [List.length_nil] at hlen
            rw [lexSc]
            exact (decide_eq_false (by omega)).symm
          | cons rc hw =>
            simp only [List.length_nil, List.length_cons] at hlen
            rw [lexSc]
            exact (decide_eq_true (by omega)).symm
        | cons ra hv =>
          cases hwi with
          | nil =>
            simp only [List.length_nil, List.length_cons] at hlen
            rw [lexSc]
            exact (decide_eq_false (by omega)).symm
          | cons rc hw =>
            rw [List.zip_cons_cons] at hz
            cases hz
      rw [hv] at hR
      wp_walk
      exact ⟨_, rfl, by simpa [Builtin.Tuple.tupleCompareSizes] using hR⟩
    case h =>
      exact ⟨rfl, rfl, items.toList, items2.toList, ns, ms, rfl, hi, hj, hk, by omega, h⟩
end
section
variable {prog : Program} {w : World} {A : Around} {E : Value → Shared → Prop} {s : Shared}
theorem lt_tupSc {l b : Addr} {items items2 : Array Value} {ns ms : List Sc} {Q : Value → Shared → Prop} (hl : IsTup s.heap l items) (hb : IsTup s.heap b items2) (hi : ScAre ns items.toList) (hj : ScAre ms items2.toList) (hk : likeSc ns ms = true)
    (hu : A.units < cLine) (h : Q (.bool (lexSc ns ms)) s) : wpAny (model prog w) A (compareOp .Lt (.ref l) (.ref b)) Q E s := by
  obtain ⟨⟨cls, dd, data, sl⟩, ho, hc, n, hd⟩ := id hl
  obtain ⟨⟨cls2, dd2, data2, sl2⟩, ho2, hc2, n2, hd2⟩ := id hb
  simp only at hc hd hc2 hd2
  subst hc hd hc2 hd2
  exact richCompare_meets_room (op := .Lt) ⟨_, ho, rfl⟩ ⟨_, ho2, rfl⟩ PySem.F.slot_tuple_lt PySem.F.entry_tuple_lt (PySem.F.args_tuple_lt_2 _ _) (tuple_lt_sc l b items items2 n n2 dd dd2 sl sl2 ns ms hi hj hk)
    ⟨ho, ho2, show Value.bool (lexSc ns ms) ≠ Value.notImplemented ∧ Q (.bool (lexSc ns ms)) s from ⟨(fun x => nomatch x), h⟩⟩ hu
end
section
variable {X : Cx}
def rLtSc (K : PySem.W.Frag) : R2 := fun x y H Q => ∃ (a b : Addr) (ns ms : List Sc), x = .ref a ∧ y = .ref b ∧ SqT K H a (ns.map Sc.v) ∧ SqT K H b (ms.map Sc.v) ∧ likeSc ns ms = true ∧ Q (.bl (lexSc ns ms)) H
theorem scAre_of : ∀ {ns : List Sc} {us : List Value}, Vals (ns.map Sc.v) us → ScAre ns us
  | [], _, h => by cases h; exact .nil
  | n :: r, _, h => by
    cases h with
    | cons h1 h2 => exact .cons h1 (scAre_of h2)
theorem o_ltSc (hu : X.A.units < cLine) : OpR X (compareOp .Lt) (rLtSc X.K) := by
  intro pins s σ H x y v u Q I rx ry h
  obtain ⟨a, b, ns, ms, rfl, rfl, h1, h2, hk, q⟩ := h
  cases rx
  cases ry
  obtain ⟨its1, r1, p1, _⟩ := I.tuple h1
  obtain ⟨its2, r2, p2, _⟩ := I.tuple h2
  exact lt_tupSc p1 p2 (scAre_of (by simpa using r1)) (scAre_of (by simpa using r2)) hk hu ⟨.bl (lexSc ns ms), H, I, rfl, q⟩
def rLtS : R2 := fun x y H Q => ∃ a b : List Nat, x = S a ∧ y = S b ∧ Q (.bl (decide (a < b))) H
theorem o_ltS : OpR X (compareOp .Lt) rLtS := fun pins s σ H x y v u Q I rx ry h => by
  obtain ⟨a, b, rfl, rfl, q⟩ := h
  exact op_lt_str pins s σ H _ _ v u Q I rx ry ⟨_, _, rfl, rfl, q⟩
end
end G
namespace G
open PySem L2
def eT1 {A : Type} (f : A → PyData) (p : A) : PyData := .tuple [f p]
def eT2 {A B : Type} (f : A → PyData) (g : B → PyData) (p : A × B) : PyData := .tuple [f p.1, g p.2]
def eT3 {A B C : Type} (f : A → PyData) (g : B → PyData) (h : C → PyData) (p : A × B × C) : PyData := .tuple [f p.1, g p.2.1, h p.2.2]
def eT4 {A B C D : Type} (f : A → PyData) (g : B → PyData) (h : C → PyData) (k : D → PyData) (p : A × B × C × D) : PyData := .tuple [f p.1, g p.2.1, h p.2.2.1, k p.2.2.2]
def eT5 {A B C D E : Type} (f : A → PyData) (g : B → PyData) (h : C → PyData) (k : D → PyData) (l : E → PyData) (p : A × B × C × D × E) : PyData := .tuple [f p.1, g p.2.1, h p.2.2.1, k p.2.2.2.1, l p.2.2.2.2]
end G
namespace G
open PySem L2
theorem dpa_atN {K : PySem.W.Frag} {P : Hp} {A : Type} {e : A → PyData} {xs : List A} {vs : List V} {n : Nat} {d : A} (h : DpAll K P vs (xs.map e)) (hi : n < xs.length) : ∃ v, atI vs (n : Int) = some v ∧ Dp K P v (e (xs.getD n d)) := by
  obtain ⟨v, h1, h2⟩ := dpa_at (i := (n : Int)) (d := d) h ⟨by omega, by omega⟩
  rw [Int.toNat_natCast] at h2
  exact ⟨v, h1, h2⟩
theorem len_pos {t : List Nat} (h : ¬ t = cs "") : 0 < t.length := by
  cases t with
  | nil => exact absurd (by decide) h
  | cons a r => exact Nat.zero_lt_succ _
theorem len_zero {t : List Nat} (h : t = cs "") : t.length = 0 := by
  rw [h]
  decide
end G
namespace G
open PySem PySem.Spec PyProof.Rows L2
/-! ### mirrors that may fail -/
def chk (c : Prop) [Decidable c] {A : Type} (k : Option A) : Option A := if c then k else none
def ob {A B : Type} (m : Option A) (k : A → Option B) : Option B := match m with
  | none => none
  | some a => k a
section
variable {A B S R : Type}
theorem chk_some {c : Prop} [Decidable c] {k : Option A} {r : A} (h : chk c k = some r) : c ∧ k = some r := by
  unfold chk at h
  by_cases q : c
  · rw [if_pos q] at h
    exact ⟨q, h⟩
  · rw [if_neg q] at h
    cases h
theorem chk_eq {c : Prop} [Decidable c] {k : Option A} (h : c) : chk c k = k := if_pos h
theorem ob_some {m : Option A} {k : A → Option B} {r : B} (h : ob m k = some r) : ∃ a, m = some a ∧ k a = some r := by
  cases m with
  | none => cases h
  | some a => exact ⟨a, rfl, h⟩
@[simp] theorem ob_eq {a : A} {k : A → Option B} : ob (some a) k = k a := rfl
theorem ob_of {m : Option A} {k : A → Option B} {a : A} (h : m = some a) : ob m k = k a := by rw [h]; rfl
/-! loops -/
def itf (f : A → S → Option S) : List A → S → Option S
  | [], s => some s
  | x :: xs, s => ob (f x s) (itf f xs)
inductive Lr (S R : Type) where
  | nx (s : S)
  | bk (s : S)
  | rt (r : R)
def Lr.el {T : Type} (o : Lr S R) (r : R → T) (k : S → T) : T := match o with
  | .nx s => k s
  | .bk s => k s
  | .rt x => r x
def itr (f : A → S → Option (Lr S R)) : List A → S → Option (Lr S R)
  | [], s => some (.nx s)
  | x :: xs, s => ob (f x s) fun o => match o with
    | .nx s' => itr f xs s'
    | .bk s' => some (.bk s')
    | .rt r => some (.rt r)
/-- while: the body tells .bk where the test fails -/
def whN (f : S → Option (Lr S R)) : Nat → S → Option (Lr S R)
  | 0, _ => none
  | n + 1, s => ob (f s) fun o => match o with
    | .nx s' => whN f n s'
    | .bk s' => some (.bk s')
    | .rt r => some (.rt r)
open Classical in
noncomputable def whl (f : S → Option (Lr S R)) (s : S) : Option (Lr S R) := if h : ∃ n r, whN f n s = some r then whN f h.choose s else none
theorem whl_some {f : S → Option (Lr S R)} {s : S} {t : Lr S R} (h : whl f s = some t) : ∃ n, whN f n s = some t := by
  unfold whl at h
  split at h
  · exact ⟨_, h⟩
  · cases h
theorem whN_more {f : S → Option (Lr S R)} : ∀ {n m : Nat} {s : S} {t : Lr S R}, whN f n s = some t → n ≤ m → whN f m s = some t
  | 0, _, _, _, h, _ => by cases h
  | n + 1, 0, _, _, _, l => by omega
  | n + 1, m + 1, s, t, h, l => by
    rw [whN] at h ⊢
    obtain ⟨o, h1, h2⟩ := ob_some h
    rw [ob_of h1]
    cases o with
    | nx s' => exact whN_more h2 (by omega)
    | bk s' => exact h2
    | rt r => exact h2
theorem whl_of {f : S → Option (Lr S R)} {s : S} {t : Lr S R} (n : Nat) (h : whN f n s = some t) : whl f s = some t := by
  unfold whl
  have e : ∃ n r, whN f n s = some r := ⟨n, t, h⟩
  rw [dif_pos e]
  obtain ⟨r, hr⟩ := e.choose_spec
  rcases Nat.le_total n e.choose with l | l
  · exact whN_more h l
  · have := whN_more hr l
    rw [h] at this
    rw [hr, this]
/-- maps -/
def mpo (f : A → Option B) : List A → Option (List B)
  | [] => some []
  | x :: xs => ob (f x) fun y => ob (mpo f xs) fun ys => some (y :: ys)
def fpo (f : A → Option (Option B)) : List A → Option (List B)
  | [] => some []
  | x :: xs => ob (f x) fun y => ob (fpo f xs) fun ys => some (y.toList ++ ys)
def mps (f : A → S → Option (B × S)) : List A → S → Option (List B × S)
  | [], s => some ([], s)
  | x :: xs, s => ob (f x s) fun y => ob (mps f xs y.2) fun ys => some (y.1 :: ys.1, ys.2)
theorem nm_itf {f : A → S → Option S} {xs : List A} {s : S} {r : Option S} (h : itf f xs s = r) : ∃ F, F = f ∧ itf F xs s = r := ⟨_, rfl, h⟩
theorem nm_itr {f : A → S → Option (Lr S R)} {xs : List A} {s : S} {r : Option (Lr S R)} (h : itr f xs s = r) : ∃ F, F = f ∧ itr F xs s = r := ⟨_, rfl, h⟩
theorem nm_mpo {f : A → Option B} {xs : List A} {r : Option (List B)} (h : mpo f xs = r) : ∃ F, F = f ∧ mpo F xs = r := ⟨_, rfl, h⟩
theorem nm_fpo {f : A → Option (Option B)} {xs : List A} {r : Option (List B)} (h : fpo f xs = r) : ∃ F, F = f ∧ fpo F xs = r := ⟨_, rfl, h⟩
theorem nm_mps {f : A → S → Option (B × S)} {xs : List A} {s : S} {r : Option (List B × S)} (h : mps f xs s = r) : ∃ F, F = f ∧ mps F xs s = r := ⟨_, rfl, h⟩
theorem nm_whl {f : S → Option (Lr S R)} {s : S} {t : Lr S R} (h : whl f s = some t) : ∃ F, F = f ∧ ∃ n, whN F n s = some t := ⟨_, rfl, whl_some h⟩
end
/-! ### values and what they stand for -/
abbrev Rel (A : Type) := Hp → V → A → Prop
class Mo {A : Type} (R : Rel A) : Prop where
  mo : ∀ {P P' : Hp} {v : V} {x : A}, Ext P P' → R P v x → R P' v x
inductive AR {A : Type} (R : Rel A) (P : Hp) : List V → List A → Prop where
  | nil : AR R P [] []
  | cons {v : V} {x : A} {vs : List V} {xs : List A} : R P v x → AR R P vs xs → AR R P (v :: vs) (x :: xs)
section
variable {A B C D E : Type} {R : Rel A} {P P' : Hp}
theorem AR.up [Mo R] (e : Ext P P') : ∀ {vs : List V} {xs : List A}, AR R P vs xs → AR R P' vs xs
  | _, _, .nil => .nil
  | _, _, .cons h t => .cons (Mo.mo e h) (AR.up e t)
theorem AR.len : ∀ {vs : List V} {xs : List A}, AR R P vs xs → vs.length = xs.length
  | _, _, .nil => rfl
  | _, _, .cons h t => by rw [List.length_cons, List.length_cons, AR.len t]
theorem AR.app : ∀ {vs us : List V} {xs ys : List A}, AR R P vs xs → AR R P us ys → AR R P (vs ++ us) (xs ++ ys)
  | _, _, _, _, .nil, h => h
  | _, _, _, _, .cons h t, h' => .cons h (AR.app t h')
theorem AR.one {v : V} {x : A} (h : R P v x) : AR R P [v] [x] := .cons h .nil
theorem AR.snoc {vs : List V} {xs : List A} {v : V} {x : A} (h : AR R P vs xs) (hx : R P v x) : AR R P (vs ++ [v]) (xs ++ [x]) := h.app (.one hx)
theorem AR.rev {vs : List V} {xs : List A} (h : AR R P vs xs) : AR R P vs.reverse xs.reverse := by
  induction h with
  | nil => exact .nil
  | cons h t ih =>
    rw [List.reverse_cons, List.reverse_cons]
    exact ih.snoc h
theorem AR.drop : ∀ {vs : List V} {xs : List A} (n : Nat), AR R P vs xs → AR R P (vs.drop n) (xs.drop n)
  | _, _, 0, h => h
  | _, _, n + 1, .nil => .nil
  | _, _, n + 1, .cons h t => AR.drop n t
theorem AR.take : ∀ {vs : List V} {xs : List A} (n : Nat), AR R P vs xs → AR R P (vs.take n) (xs.take n)
  | _, _, 0, h => .nil
  | _, _, n + 1, .nil => .nil
  | _, _, n + 1, .cons h t => .cons h (AR.take n t)
theorem AR.get : ∀ {vs : List V} {xs : List A} {i : Nat} {v : V}, AR R P vs xs → vs[i]? = some v → ∃ x, xs[i]? = some x ∧ R P v x ∧ xs.drop i = x :: xs.drop (i + 1)
  | _, _, _, _, .nil, h => by simp at h
  | _, _, 0, v, .cons (x := x) h t, hi => by
    cases hi
    exact ⟨x, rfl, h, rfl⟩
  | _, _, i + 1, v, .cons h t, hi => AR.get (i := i) t hi
theorem AR.getN {vs : List V} {xs : List A} {n : Nat} {d : A} (h : AR R P vs xs) (hi : n < xs.length) : ∃ v, vs[n]? = some v ∧ R P v (xs.getD n d) := by
  have hl : n < vs.length := by rw [h.len]; exact hi
  obtain ⟨x, hx, hr, _⟩ := h.get (i := n) (List.getElem?_eq_getElem hl)
  refine ⟨_, List.getElem?_eq_getElem hl, ?_⟩
  have : xs.getD n d = x := by
    rw [List.getD, hx]
    rfl
  rw [this]
  exact hr
/-- the place of an index, as Python counts -/
def ixP (n : Nat) (i : Int) : Nat := (if i < 0 then i + n else i).toNat
def inR (n : Nat) (i : Int) : Prop := -(n : Int) ≤ i ∧ i < n
instance (n : Nat) (i : Int) : Decidable (inR n i) := inferInstanceAs (Decidable (_ ∧ _))
theorem ixN_ixP {n : Nat} {i : Int} (h : inR n i) : ixN n i = some (ixP n i) := by
  unfold inR at h
  unfold ixN ixP
  by_cases h0 : 0 ≤ i
  · rw [if_pos h0, if_pos h.2, if_neg (by omega)]
  · rw [if_neg h0]
    rw [if_pos (show i < 0 by omega)]
    first
      | (rw [if_pos (by omega)]; congr 1; omega)
      | (rw [if_pos (by omega)])
      | omega
theorem ixP_lt {n : Nat} {i : Int} (h : inR n i) : ixP n i < n := by
  unfold inR at h
  unfold ixP
  split <;> omega
theorem atI_ixP {t : List A} {i : Int} {x : A} (h : inR t.length i) (hx : t[ixP t.length i]? = some x) : atI t i = some x := by
  unfold atI
  rw [ixN_ixP h]
  exact hx
end
end G
namespace G
open PySem PySem.Spec PyProof.Rows L2
section
variable {A B C D E F : Type}
def yI : Rel Int := fun _ v x => v = .int x
def yB : Rel Bool := fun _ v x => v = .bl x
def yS : Rel (List Nat) := fun _ v x => v = S x
def yN : Rel Unit := fun _ v _ => v = .non
def yO (R : Rel A) : Rel (Option A) := fun P v x => match x with
  | none => v = .non
  | some y => R P v y
def yL (R : Rel A) : Rel (List A) := fun P v x => ∃ (a : Addr) (vs : List V), v = .ref a ∧ P a = some (.lst vs) ∧ AR R P vs x
def yU (K : PySem.W.Frag) (R : Rel A) : Rel (List A) := fun P v x => ∃ (a : Addr) (vs : List V), v = .ref a ∧ SqT K P a vs ∧ AR R P vs x
def y1 (K : PySem.W.Frag) (R1 : Rel A) : Rel A := fun P v x => ∃ (a : Addr) (v1 : V), v = .ref a ∧ P a = some (.tup [v1]) ∧ R1 P v1 x
def y2 (K : PySem.W.Frag) (R1 : Rel A) (R2 : Rel B) : Rel (A × B) := fun P v x => ∃ (a : Addr) (v1 v2 : V), v = .ref a ∧ P a = some (.tup [v1, v2]) ∧ R1 P v1 x.1 ∧ R2 P v2 x.2
def y3 (K : PySem.W.Frag) (R1 : Rel A) (R2 : Rel B) (R3 : Rel C) : Rel (A × B × C) := fun P v x => ∃ (a : Addr) (v1 v2 v3 : V), v = .ref a ∧ P a = some (.tup [v1, v2, v3]) ∧ R1 P v1 x.1 ∧ R2 P v2 x.2.1 ∧ R3 P v3 x.2.2
def y4 (K : PySem.W.Frag) (R1 : Rel A) (R2 : Rel B) (R3 : Rel C) (R4 : Rel D) : Rel (A × B × C × D) := fun P v x => ∃ (a : Addr) (v1 v2 v3 v4 : V), v = .ref a ∧ P a = some (.tup [v1, v2, v3, v4]) ∧ R1 P v1 x.1 ∧ R2 P v2 x.2.1 ∧ R3 P v3 x.2.2.1 ∧ R4 P v4 x.2.2.2
def y5 (K : PySem.W.Frag) (R1 : Rel A) (R2 : Rel B) (R3 : Rel C) (R4 : Rel D) (R5 : Rel E) : Rel (A × B × C × D × E) := fun P v x => ∃ (a : Addr) (v1 v2 v3 v4 v5 : V), v = .ref a ∧ P a = some (.tup [v1, v2, v3, v4, v5]) ∧ R1 P v1 x.1 ∧ R2 P v2 x.2.1 ∧ R3 P v3 x.2.2.1 ∧ R4 P v4 x.2.2.2.1 ∧ R5 P v5 x.2.2.2.2
instance : Mo yI := ⟨fun _ h => h⟩
instance : Mo yB := ⟨fun _ h => h⟩
instance : Mo yS := ⟨fun _ h => h⟩
instance : Mo yN := ⟨fun _ h => h⟩
instance {R : Rel A} [Mo R] : Mo (yO R) := ⟨fun {P P' v x} e h => by
  cases x with
  | none => exact h
  | some y => exact Mo.mo (R := R) e h⟩
variable {K : PySem.W.Frag} {R1 : Rel A} {R2 : Rel B} {R3 : Rel C} {R4 : Rel D} {R5 : Rel E}
instance [Mo R1] : Mo (yL R1) := ⟨fun e ⟨a, vs, h, s, r⟩ => ⟨a, vs, h, e _ _ s, r.up e⟩⟩
instance [Mo R1] : Mo (yU K R1) := ⟨fun e ⟨a, vs, h, s, r⟩ => ⟨a, vs, h, e.sqt s, r.up e⟩⟩
instance [Mo R1] : Mo (y1 K R1) := ⟨fun e ⟨a, v1, h, s, r1⟩ => ⟨a, v1, h, e _ _ s, Mo.mo e r1⟩⟩
instance [Mo R1] [Mo R2] : Mo (y2 K R1 R2) := ⟨fun e ⟨a, v1, v2, h, s, r1, r2⟩ => ⟨a, v1, v2, h, e _ _ s, Mo.mo e r1, Mo.mo e r2⟩⟩
instance [Mo R1] [Mo R2] [Mo R3] : Mo (y3 K R1 R2 R3) := ⟨fun e ⟨a, v1, v2, v3, h, s, r1, r2, r3⟩ => ⟨a, v1, v2, v3, h, e _ _ s, Mo.mo e r1, Mo.mo e r2, Mo.mo e r3⟩⟩
instance [Mo R1] [Mo R2] [Mo R3] [Mo R4] : Mo (y4 K R1 R2 R3 R4) := ⟨fun e ⟨a, v1, v2, v3, v4, h, s, r1, r2, r3, r4⟩ => ⟨a, v1, v2, v3, v4, h, e _ _ s, Mo.mo e r1, Mo.mo e r2, Mo.mo e r3, Mo.mo e r4⟩⟩
instance [Mo R1] [Mo R2] [Mo R3] [Mo R4] [Mo R5] : Mo (y5 K R1 R2 R3 R4 R5) := ⟨fun e ⟨a, v1, v2, v3, v4, v5, h, s, r1, r2, r3, r4, r5⟩ => ⟨a, v1, v2, v3, v4, v5, h, e _ _ s, Mo.mo e r1, Mo.mo e r2, Mo.mo e r3, Mo.mo e r4, Mo.mo e r5⟩⟩
/-- never None -/
class NN (R : Rel A) : Prop where
  nn : ∀ {P : Hp} {v : V} {x : A}, R P v x → v ≠ .non
instance : NN yI := ⟨fun h e => by rw [show _ = _ from h] at e; cases e⟩
instance : NN yB := ⟨fun h e => by rw [show _ = _ from h] at e; cases e⟩
instance : NN yS := ⟨fun h e => by rw [show _ = _ from h] at e; cases e⟩
instance : NN (yL R1) := ⟨fun ⟨a, vs, h, _⟩ e => by rw [h] at e; cases e⟩
instance : NN (yU K R1) := ⟨fun ⟨a, vs, h, _⟩ e => by rw [h] at e; cases e⟩
instance : NN (y1 K R1) := ⟨fun ⟨a, v1, h, _⟩ e => by rw [h] at e; cases e⟩
instance : NN (y2 K R1 R2) := ⟨fun ⟨a, v1, v2, h, _⟩ e => by rw [h] at e; cases e⟩
instance : NN (y3 K R1 R2 R3) := ⟨fun ⟨a, v1, v2, v3, h, _⟩ e => by rw [h] at e; cases e⟩
instance : NN (y4 K R1 R2 R3 R4) := ⟨fun ⟨a, v1, v2, v3, v4, h, _⟩ e => by rw [h] at e; cases e⟩
instance : NN (y5 K R1 R2 R3 R4 R5) := ⟨fun ⟨a, v1, v2, v3, v4, v5, h, _⟩ e => by rw [h] at e; cases e⟩
theorem yO_is {R : Rel A} [NN R] {P : Hp} {v : V} {x : Option A} (h : yO R P v x) : decide (v = .non) = x.isNone := by
  cases x with
  | none =>
    have e : v = .non := h
    rw [e]
    rfl
  | some y => exact decide_eq_false (NN.nn (R := R) (show R P v y from h))
theorem yO_get {R : Rel A} {P : Hp} {v : V} {x : Option A} (d : A) (h : yO R P v x) (hs : x.isSome = true) : R P v (x.getD d) := by
  cases x with
  | none => cases hs
  | some y => exact h
theorem yO_none {R : Rel A} {P : Hp} : yO R P .non none := rfl
theorem yO_some {R : Rel A} {P : Hp} {v : V} {x : A} (h : R P v x) : yO R P v (some x) := h
/-! ### texts, ints of a list by their values -/
theorem ar_strs {P : Hp} : ∀ {vs : List V} {ts : List (List Nat)}, AR yS P vs ts → vs = ts.map S
  | _, _, .nil => rfl
  | _, _, .cons h t => by
    rw [show _ = _ from h, ar_strs t]
    rfl
theorem ar_ints {P : Hp} : ∀ {vs : List V} {ts : List Int}, AR yI P vs ts → vs = ts.map V.int
  | _, _, .nil => rfl
  | _, _, .cons h t => by
    rw [show _ = _ from h, ar_ints t]
    rfl
theorem ar_bools {P : Hp} : ∀ {vs : List V} {ts : List Bool}, AR yB P vs ts → vs = ts.map V.bl
  | _, _, .nil => rfl
  | _, _, .cons h t => by
    rw [show _ = _ from h, ar_bools t]
    rfl
theorem strs_ar {P : Hp} : ∀ ts : List (List Nat), AR yS P (ts.map S) ts
  | [] => .nil
  | t :: r => .cons rfl (strs_ar r)
/-! ### deep equality -/
def okS (t : List Nat) : Bool := t.all (· < 1114112)
class En (K : PySem.W.Frag) (R : Rel A) (ok : outParam (A → Bool)) (n : outParam Nat) where
  enc : A → PyData
  dp : ∀ {P : Hp} {v : V} {x : A}, R P v x → Dp K P v (enc x)
  inj : ∀ {x y : A}, PyData.eqv (enc x) (enc y) = true ↔ x = y
  lay : ∀ {x : A}, ok x = true → (enc x).canLay0 = true
  dep : ∀ {x : A}, (enc x).depth ≤ n
def okA {A : Type} (_ : A) : Bool := true
instance : En K yI okA 0 where
  enc := .int
  dp h := by cases h; exact .int _
  inj := by intro x y; simp [PyData.eqv]
  lay _ := by simp [PyData.canLay0]
  dep := by intro x; simp [PyData.depth]
instance : En K yB okA 0 where
  enc := .bool
  dp h := by cases h; exact .bl _
  inj := by intro x y; simp [PyData.eqv]
  lay _ := by simp [PyData.canLay0]
  dep := by intro x; simp [PyData.depth]
instance : En K yS okS 0 where
  enc := eS
  dp h := by cases h; exact pd_str _
  inj := by
    intro x y
    unfold eS
    simp [PyData.eqv]
  lay {x} h := by
    unfold eS
    simp only [PyData.canLay0, PyData.strOk]
    unfold okS at h
    simpa using h
  dep := by intro x; simp [PyData.depth, eS]
theorem dpa_of [e : En K R1 ok n] {P : Hp} : ∀ {vs : List V} {xs : List A}, AR R1 P vs xs → DpAll K P vs (xs.map e.enc)
  | _, _, .nil => .nil
  | _, _, .cons h t => .cons (e.dp h) (dpa_of t)
theorem eqvAll_map [e : En K R1 ok n] : ∀ {xs ys : List A}, PyData.eqvAll (xs.map e.enc) (ys.map e.enc) = true ↔ xs = ys
  | [], [] => by simp [PyData.eqvAll]
  | [], y :: ys => by simp [PyData.eqvAll]
  | x :: xs, [] => by simp [PyData.eqvAll]
  | x :: xs, y :: ys => by
    rw [List.map_cons, List.map_cons, PyData.eqvAll, Bool.and_eq_true, e.inj, eqvAll_map, List.cons.injEq]
theorem lay_map [e : En K R1 ok n] : ∀ {xs : List A}, xs.all ok = true → PyData.canLayAll0 (xs.map e.enc) = true
  | [], _ => by simp [PyData.canLayAll0]
  | x :: xs, h => by
    rw [List.all_cons, Bool.and_eq_true] at h
    rw [List.map_cons, PyData.canLayAll0, Bool.and_eq_true]
    exact ⟨e.lay h.1, lay_map h.2⟩
theorem dep_map [e : En K R1 ok n] : ∀ {xs : List A}, PyData.depthAll (xs.map e.enc) ≤ n
  | [] => by simp [PyData.depthAll]
  | x :: xs => by
    rw [List.map_cons, PyData.depthAll]
    exact Nat.max_le.mpr ⟨e.dep, dep_map⟩
def okL {A : Type} (ok : A → Bool) (xs : List A) : Bool := xs.all ok
instance [e : En K R1 ok n] : En K (yL R1) (okL ok) (n + 1) where
  enc := fun xs => .list (xs.map e.enc)
  dp := fun ⟨a, vs, h, s, r⟩ => by subst h; exact .lst (.inl (.inl s)) (dpa_of r)
  inj := by
    intro x y
    rw [PyData.eqv]
    exact eqvAll_map
  lay h := by
    rw [PyData.canLay0]
    exact lay_map h
  dep := by
    intro x
    rw [PyData.depth]
    exact Nat.succ_le_succ dep_map
instance [e : En K R1 ok n] : En K (yU K R1) (okL ok) (n + 1) where
  enc := fun xs => .tuple (xs.map e.enc)
  dp := fun ⟨a, vs, h, s, r⟩ => by subst h; exact .tup s (dpa_of r)
  inj := by
    intro x y
    rw [PyData.eqv]
    exact eqvAll_map
  lay h := by
    rw [PyData.canLay0]
    exact lay_map h
  dep := by
    intro x
    rw [PyData.depth]
    exact Nat.succ_le_succ dep_map
variable {ok1 : A → Bool} {ok2 : B → Bool} {ok3 : C → Bool} {ok4 : D → Bool} {ok5 : E → Bool} {n n1 n2 n3 n4 n5 : Nat}
def ok_2 (o1 : A → Bool) (o2 : B → Bool) (x : A × B) : Bool := o1 x.1 && o2 x.2
def ok_3 (o1 : A → Bool) (o2 : B → Bool) (o3 : C → Bool) (x : A × B × C) : Bool := o1 x.1 && (o2 x.2.1 && o3 x.2.2)
def ok_4 (o1 : A → Bool) (o2 : B → Bool) (o3 : C → Bool) (o4 : D → Bool) (x : A × B × C × D) : Bool := o1 x.1 && (o2 x.2.1 && (o3 x.2.2.1 && o4 x.2.2.2))
def ok_5 (o1 : A → Bool) (o2 : B → Bool) (o3 : C → Bool) (o4 : D → Bool) (o5 : E → Bool) (x : A × B × C × D × E) : Bool := o1 x.1 && (o2 x.2.1 && (o3 x.2.2.1 && (o4 x.2.2.2.1 && o5 x.2.2.2.2)))
instance [e1 : En K R1 ok1 n1] : En K (y1 K R1) ok1 (n1 + 1) where
  enc := fun x => .tuple [e1.enc x]
  dp := fun ⟨a, v1, h, s, r1⟩ => by subst h; exact .tup (.inl (.inl s)) (.cons (e1.dp r1) .nil)
  inj := by
    intro x y
    simp only [PyData.eqv, PyData.eqvAll, Bool.and_true, e1.inj]
  lay h := by
    simp only [PyData.canLay0, PyData.canLayAll0, Bool.and_true]
    exact e1.lay h
  dep := by
    intro x
    simp only [PyData.depth, PyData.depthAll]
    have := e1.dep (x := x)
    omega
instance [e1 : En K R1 ok1 n1] [e2 : En K R2 ok2 n2] : En K (y2 K R1 R2) (ok_2 ok1 ok2) (max n1 n2 + 1) where
  enc := fun x => .tuple [e1.enc x.1, e2.enc x.2]
  dp := fun ⟨a, v1, v2, h, s, r1, r2⟩ => by subst h; exact .tup (.inl (.inl s)) (.cons (e1.dp r1) (.cons (e2.dp r2) .nil))
  inj := by
    rintro ⟨x1, x2⟩ ⟨z1, z2⟩
    simp only [PyData.eqv, PyData.eqvAll, Bool.and_true, Bool.and_eq_true, e1.inj, e2.inj, Prod.mk.injEq]
  lay h := by
    unfold ok_2 at h
    simp only [Bool.and_eq_true] at h
    simp only [PyData.canLay0, PyData.canLayAll0, Bool.and_true, Bool.and_eq_true]
    exact ⟨e1.lay h.1, e2.lay h.2⟩
  dep := by
    intro x
    simp only [PyData.depth, PyData.depthAll]
    have := e1.dep (x := x.1)
    have := e2.dep (x := x.2)
    omega
instance [e1 : En K R1 ok1 n1] [e2 : En K R2 ok2 n2] [e3 : En K R3 ok3 n3] : En K (y3 K R1 R2 R3) (ok_3 ok1 ok2 ok3) (max n1 (max n2 n3) + 1) where
  enc := fun x => .tuple [e1.enc x.1, e2.enc x.2.1, e3.enc x.2.2]
  dp := fun ⟨a, v1, v2, v3, h, s, r1, r2, r3⟩ => by subst h; exact .tup (.inl (.inl s)) (.cons (e1.dp r1) (.cons (e2.dp r2) (.cons (e3.dp r3) .nil)))
  inj := by
    rintro ⟨x1, x2, x3⟩ ⟨z1, z2, z3⟩
    simp only [PyData.eqv, PyData.eqvAll, Bool.and_true, Bool.and_eq_true, e1.inj, e2.inj, e3.inj, Prod.mk.injEq]
  lay h := by
    unfold ok_3 at h
    simp only [Bool.and_eq_true] at h
    simp only [PyData.canLay0, PyData.canLayAll0, Bool.and_true, Bool.and_eq_true]
    exact ⟨e1.lay h.1, e2.lay h.2.1, e3.lay h.2.2⟩
  dep := by
    intro x
    simp only [PyData.depth, PyData.depthAll]
    have := e1.dep (x := x.1)
    have := e2.dep (x := x.2.1)
    have := e3.dep (x := x.2.2)
    omega
instance [e1 : En K R1 ok1 n1] [e2 : En K R2 ok2 n2] [e3 : En K R3 ok3 n3] [e4 : En K R4 ok4 n4] : En K (y4 K R1 R2 R3 R4) (ok_4 ok1 ok2 ok3 ok4) (max n1 (max n2 (max n3 n4)) + 1) where
  enc := fun x => .tuple [e1.enc x.1, e2.enc x.2.1, e3.enc x.2.2.1, e4.enc x.2.2.2]
  dp := fun ⟨a, v1, v2, v3, v4, h, s, r1, r2, r3, r4⟩ => by subst h; exact .tup (.inl (.inl s)) (.cons (e1.dp r1) (.cons (e2.dp r2) (.cons (e3.dp r3) (.cons (e4.dp r4) .nil))))
  inj := by
    rintro ⟨x1, x2, x3, x4⟩ ⟨z1, z2, z3, z4⟩
    simp only [PyData.eqv, PyData.eqvAll, Bool.and_true, Bool.and_eq_true, e1.inj, e2.inj, e3.inj, e4.inj, Prod.mk.injEq]
  lay h := by
    unfold ok_4 at h
    simp only [Bool.and_eq_true] at h
    simp only [PyData.canLay0, PyData.canLayAll0, Bool.and_true, Bool.and_eq_true]
    exact ⟨e1.lay h.1, e2.lay h.2.1, e3.lay h.2.2.1, e4.lay h.2.2.2⟩
  dep := by
    intro x
    simp only [PyData.depth, PyData.depthAll]
    have := e1.dep (x := x.1)
    have := e2.dep (x := x.2.1)
    have := e3.dep (x := x.2.2.1)
    have := e4.dep (x := x.2.2.2)
    omega
instance [e1 : En K R1 ok1 n1] [e2 : En K R2 ok2 n2] [e3 : En K R3 ok3 n3] [e4 : En K R4 ok4 n4] [e5 : En K R5 ok5 n5] : En K (y5 K R1 R2 R3 R4 R5) (ok_5 ok1 ok2 ok3 ok4 ok5) (max n1 (max n2 (max n3 (max n4 n5))) + 1) where
  enc := fun x => .tuple [e1.enc x.1, e2.enc x.2.1, e3.enc x.2.2.1, e4.enc x.2.2.2.1, e5.enc x.2.2.2.2]
  dp := fun ⟨a, v1, v2, v3, v4, v5, h, s, r1, r2, r3, r4, r5⟩ => by subst h; exact .tup (.inl (.inl s)) (.cons (e1.dp r1) (.cons (e2.dp r2) (.cons (e3.dp r3) (.cons (e4.dp r4) (.cons (e5.dp r5) .nil)))))
  inj := by
    rintro ⟨x1, x2, x3, x4, x5⟩ ⟨z1, z2, z3, z4, z5⟩
    simp only [PyData.eqv, PyData.eqvAll, Bool.and_true, Bool.and_eq_true, e1.inj, e2.inj, e3.inj, e4.inj, e5.inj, Prod.mk.injEq]
  lay h := by
    unfold ok_5 at h
    simp only [Bool.and_eq_true] at h
    simp only [PyData.canLay0, PyData.canLayAll0, Bool.and_true, Bool.and_eq_true]
    exact ⟨e1.lay h.1, e2.lay h.2.1, e3.lay h.2.2.1, e4.lay h.2.2.2.1, e5.lay h.2.2.2.2⟩
  dep := by
    intro x
    simp only [PyData.depth, PyData.depthAll]
    have := e1.dep (x := x.1)
    have := e2.dep (x := x.2.1)
    have := e3.dep (x := x.2.2.1)
    have := e4.dep (x := x.2.2.2.1)
    have := e5.dep (x := x.2.2.2.2)
    omega
def rEqR {A : Type} [DecidableEq A] (R : Rel A) (ok : A → Bool) : L2.R2 := fun x y H Q => ∃ i j : A, R H x i ∧ R H y j ∧ (ok i = true ∧ ok j = true) ∧ Q (.bl (decide (i = j))) H
def rNeR {A : Type} [DecidableEq A] (R : Rel A) (ok : A → Bool) : L2.R2 := fun x y H Q => ∃ i j : A, R H x i ∧ R H y j ∧ (ok i = true ∧ ok j = true) ∧ Q (.bl (!decide (i = j))) H
variable {X : Cx}
theorem eqv_dec [DecidableEq A] [e : En K R1 ok1 n] {i j : A} : PyData.eqv (e.enc i) (e.enc j) = decide (i = j) := by
  by_cases h : i = j
  · rw [decide_eq_true h, e.inj.mpr h]
  · rw [decide_eq_false h]
    cases q : PyData.eqv (e.enc i) (e.enc j) with
    | false => rfl
    | true => exact absurd (e.inj.mp q) h
theorem shp [e : En K R1 ok1 n] {i : A} (h : ok1 i = true) (hn : n ≤ 64) : SeqAt.shaped (e.enc i) = true := by
  unfold SeqAt.shaped
  rw [Bool.and_eq_true, decide_eq_true_eq]
  exact ⟨e.lay h, Nat.le_trans e.dep hn⟩
theorem o_eqR [DecidableEq A] [e : En X.K R1 ok1 n] (hu : X.A.units + 64 < cLine) (hn : n ≤ 64 := by decide) : OpR X (compareOp .Eq) (rEqR R1 ok1) := fun pins s σ H x y v u Q I rx ry h => by
  obtain ⟨i, j, r1, r2, o, q⟩ := h
  exact op_eqD hu pins s σ H _ _ v u Q I rx ry ⟨_, _, e.dp r1, e.dp r2, shp o.1 hn, shp o.2 hn, by rw [eqv_dec]; exact q⟩
theorem o_neR [DecidableEq A] [e : En X.K R1 ok1 n] (hu : X.A.units + 64 < cLine) (hn : n ≤ 64 := by decide) : OpR X (compareOp .NotEq) (rNeR R1 ok1) := fun pins s σ H x y v u Q I rx ry h => by
  obtain ⟨i, j, r1, r2, o, q⟩ := h
  exact op_neD hu pins s σ H _ _ v u Q I rx ry ⟨_, _, e.dp r1, e.dp r2, shp o.1 hn, shp o.2 hn, by rw [eqv_dec]; exact q⟩
end
end G
namespace G
open PySem PySem.Spec PyProof.Rows L2
section
variable {A B Z R : Type}
theorem snoc_sum {acc rs r2 T : List A} {x : A} (h : acc ++ rs = T) (e : some (x :: r2) = some rs) : (acc ++ [x]) ++ r2 = T := by
  cases e
  rw [List.append_assoc]
  exact h
theorem snoc_sumB {acc rs r2 T : List A} {x : A} {b t2 : Z} (h : acc ++ rs = T) (e : some (x :: r2, b) = some (rs, t2)) : (acc ++ [x]) ++ r2 = T := by
  cases e
  rw [List.append_assoc]
  exact h
theorem skip_sum {acc rs r2 T : List A} (h : acc ++ rs = T) (e : some r2 = some rs) : acc ++ r2 = T := by
  cases e
  exact h
theorem snoc_len {acc : List A} {x : A} {i : Nat} (h : acc.length ≤ i) : (acc ++ [x]).length ≤ i + 1 := by
  rw [List.length_append, List.length_singleton]
  exact Nat.succ_le_succ h
theorem mps_eq {F : A → Z → Option (B × Z)} {xs : List A} {b t2 : Z} {r2 : List B × Z} {l rs : List B} (er : mps F xs b = some r2) (e : some (l, r2.2) = some (rs, t2)) : mps F xs b = some (r2.1, t2) := by
  have q := congrArg Prod.snd (Option.some.inj e)
  rw [er]
  show some r2 = some (r2.1, t2)
  rw [← (show r2.2 = t2 from q)]
theorem mpo_acc {acc rs T : List A} (h : acc ++ rs = T) (e : some ([] : List A) = some rs) : acc = T := by
  cases e
  rw [List.append_nil] at h
  exact h
theorem mps_acc {acc rs T : List A} {b t2 : Z} (h : acc ++ rs = T) (e : some (([] : List A), b) = some (rs, t2)) : acc = T := by
  cases e
  rw [List.append_nil] at h
  exact h
theorem mps_box {rs : List A} {b t2 : Z} (e : some (([] : List A), b) = some (rs, t2)) : b = t2 := congrArg Prod.snd (Option.some.inj e)
theorem nm_el {T : Type} {o : Lr Z R} {r : R → T} {k : Z → T} {x : T} (h : o.el r k = x) : ∃ kk, kk = k ∧ o.el r kk = x := ⟨_, rfl, h⟩
variable {Rr : Rel A} {P : Hp}
theorem AR.getI {vs : List V} {xs : List A} {i : Int} {d : A} (h : AR Rr P vs xs) (hi : inR xs.length i) : ∃ v, atI vs i = some v ∧ Rr P v (xs.getD (ixP xs.length i) d) := by
  obtain ⟨v, h1, h2⟩ := h.getN (d := d) (ixP_lt hi)
  rw [← h.len] at hi h1
  exact ⟨v, atI_ixP hi h1, h2⟩
theorem AR.takeall {vs : List V} {xs : List A} (h : AR Rr P vs xs) : xs.take vs.length = xs := List.take_of_length_le (by rw [h.len]; exact Nat.le_refl _)
theorem AR.dropall {vs : List V} {xs : List A} (h : AR Rr P vs xs) : xs.drop vs.length = [] := List.drop_of_length_le (by rw [h.len]; exact Nat.le_refl _)
theorem AR.bnd {vs : List V} {xs : List A} {n : Nat} (h : AR Rr P vs xs) (hn : xs.length ≤ n) : vs.length ≤ n := by
  rw [h.len]
  exact hn
theorem atI_str0 {t : List Nat} {n : Nat} (h : n < t.length) : atI t (n : Int) = some (t.getD n 0) := atI_nat (by
  rw [List.getElem?_eq_getElem h]
  simp [List.getD, List.getElem?_eq_getElem h])
theorem atI_str {t : List Nat} {i : Int} (h : inR t.length i) : atI t i = some (t.getD (ixP t.length i) 0) := atI_ixP h (by
  have := ixP_lt h
  rw [List.getElem?_eq_getElem this]
  simp [List.getD, List.getElem?_eq_getElem this])
variable {X : Cx}
/-- the one text within the other -/
def subT (a b : List Nat) : Bool := !(Builtin.Str.occurrences ⟨⟨b⟩⟩ ⟨⟨a⟩⟩ 0 (⟨⟨b⟩⟩ : Str).length 1).isEmpty
def rInU : R2 := fun x y H Q => ∃ a b : List Nat, x = G.S a ∧ y = G.S b ∧ Q (.bl (subT a b)) H
def rNiU : R2 := fun x y H Q => ∃ a b : List Nat, x = G.S a ∧ y = G.S b ∧ Q (.bl (!subT a b)) H
theorem o_inU : OpR X (compareOp .In) rInU := fun pins s σ H x y v u Q I rx ry h => by
  obtain ⟨a, b, rfl, rfl, q⟩ := h
  exact op_in_str pins s σ H _ _ v u Q I rx ry ⟨_, _, rfl, rfl, q⟩
theorem o_niU : OpR X (compareOp .NotIn) rNiU := fun pins s σ H x y v u Q I rx ry h => by
  obtain ⟨a, b, rfl, rfl, q⟩ := h
  exact op_notIn_str pins s σ H _ _ v u Q I rx ry ⟨_, _, rfl, rfl, q⟩
/-- a text some times -/
def repT (a : List Nat) (n : Int) : List Nat := (List.replicate n.toNat a).flatten
theorem foldl_arr : ∀ (n : Nat) (x b : Array Nat), ((List.replicate n x).foldl (· ++ ·) b).toList = b.toList ++ (List.replicate n x.toList).flatten
  | 0, x, b => by simp
  | n + 1, x, b => by
    rw [List.replicate_succ, List.foldl_cons, foldl_arr n x (b ++ x), List.replicate_succ, List.flatten_cons, Array.toList_append, List.append_assoc]
theorem mul_repT (a : List Nat) (n : Int) : V.str (Txt.mul ⟨⟨a⟩⟩ n) = G.S (repT a n) := by
  unfold Txt.mul repT
  by_cases h1 : n < 1
  · rw [if_pos h1, show n.toNat = 0 by omega]
    rfl
  · rw [if_neg h1]
    by_cases h2 : (n == 1 || (⟨⟨a⟩⟩ : Str).length == 0) = true
    · rw [if_pos h2]
      rw [Bool.or_eq_true, beq_iff_eq, beq_iff_eq] at h2
      rcases h2 with h2 | h2
      · subst h2
        show G.S a = G.S _
        congr 1
        simp
      · have : a = [] := List.length_eq_zero_iff.mp h2
        subst this
        simp [G.S]
    · rw [if_neg h2]
      have := foldl_arr n.toNat ⟨a⟩ #[]
      unfold G.S
      congr 2
      apply Array.toList_inj.mp
      simpa using this
def rMulT : R2 := fun x y H Q => ∃ (a : List Nat) (n : Int), x = G.S a ∧ y = .int n ∧ ((0 ≤ n ∧ n ≤ 1000000) ∧ a.length * n.toNat ≤ 1000000) ∧ Q (G.S (repT a n)) H
theorem mulOk {a : List Nat} {n : Int} (h : (0 ≤ n ∧ n ≤ 1000000) ∧ a.length * n.toNat ≤ 1000000) : MulOk ⟨⟨a⟩⟩ n := by
  obtain ⟨⟨h0, h1⟩, h2⟩ := h
  refine ⟨by rw [decide_eq_false (by omega), decide_eq_false (by omega)]; rfl, fun h3 _ => ?_, fun _ _ => ?_⟩
  · have hn : (1 : Int) ≤ n := by omega
    have hl : a.length ≤ 1000000 := Nat.le_trans (Nat.le_mul_of_pos_right _ (by omega)) h2
    have hd : (1000000 : Int) ≤ (2 ^ 63 - 1) / n := by
      rw [Int.le_ediv_iff_mul_le (by omega)]
      omega
    show ¬ ((a.length : Int) > _)
    omega
  · show Builtin.Str.tooLong (a.length * n.toNat) = false
    unfold Builtin.Str.tooLong
    first
      | exact decide_eq_false (by have := sizeLine_eq; omega)
      | (simp only [decide_eq_false_iff_not]; have := sizeLine_eq; omega)
      | (have := sizeLine_eq; simp; omega)
theorem o_mulS : OpR X (binaryOp .Mult) G.rMulT := fun pins s σ H x y v u Q I rx ry h => by
  obtain ⟨a, n, rfl, rfl, hz, q⟩ := h
  obtain ⟨t, rfl⟩ := rx
  obtain ⟨t', rfl⟩ := ry
  exact SB.mul (mulOk hz) fun t' k => ⟨.str (Txt.mul ⟨⟨a⟩⟩ n), H, I.tok _, ⟨_, rfl⟩, by rw [mul_repT]; exact q⟩
theorem AR.cut {vs : List V} {xs : List A} {lo hi : Option Int} (h : AR Rr P vs xs) : AR Rr P (cutT vs lo hi) (cutT xs lo hi) := by
  unfold cutT
  rw [h.len]
  exact (h.drop _).take _
def rSlL1 (K : PySem.W.Frag) : V → Option Int → Option Int → Hp → VK → Prop := fun x lo hi H Q => ∃ (a : Addr) (xs : List V), x = .ref a ∧ SqL K H a xs ∧ ∀ p, H p = none → Q (.ref p) (upd H p (.lst (cutT xs lo hi)))
theorem s_lstT : SlR X (rSlL1 X.K) := sl_list
def rListL (K : PySem.W.Frag) : List V → Hp → VK → Prop := fun xs H Q => ∃ (p : Addr) (ys : List V), xs = [.ref p] ∧ SqL K H p ys ∧ ∀ l, H l = none → Q (.ref l) (upd H l (.lst ys))
theorem c_listL : CallR X (.type "list") (rListL X.K) := fun pins s σ H xs us Q I r h => by
  obtain ⟨p, ys, rfl, hs, q⟩ := h
  exact call_list_of pins s σ H _ us Q I r ⟨p, ys, rfl, .inl hs, q⟩
def rIsO {A : Type} (R : Rel A) : R2 := fun x y H Q => ∃ o : Option A, yO R H x o ∧ y = .non ∧ Q (.bl o.isNone) H
def rNsO {A : Type} (R : Rel A) : R2 := fun x y H Q => ∃ o : Option A, yO R H x o ∧ y = .non ∧ Q (.bl (!o.isNone)) H
theorem o_isO [NN Rr] : OpR X (compareOp .Is) (rIsO Rr) := fun pins s σ H x y v u Q I rx ry h => by
  obtain ⟨o, ho, rfl, q⟩ := h
  exact op_isN pins s σ H _ _ v u Q I rx ry ⟨rfl, by rw [yO_is ho]; exact q⟩
theorem o_nsO [NN Rr] : OpR X (compareOp .IsNot) (rNsO Rr) := fun pins s σ H x y v u Q I rx ry h => by
  obtain ⟨o, ho, rfl, q⟩ := h
  exact op_notN pins s σ H _ _ v u Q I rx ry ⟨rfl, by rw [yO_is ho]; exact q⟩
def rStarts : V → List V → Hp → VK → Prop := fun x xs H Q => ∃ a b : List Nat, x = G.S a ∧ xs = [G.S b] ∧ Q (.bl (b.isPrefixOf a)) H
theorem m_starts : MtR X "str.startswith" rStarts := fun pins s σ H x xs v us Q I rx rs h => by
  obtain ⟨a, b, rfl, rfl, q⟩ := h
  refine mt_startswith pins s σ H _ _ v us Q I rx rs ⟨_, _, rfl, rfl, ?_⟩
  have e : Txt.startswith ⟨⟨a⟩⟩ ⟨⟨b⟩⟩ = b.isPrefixOf a := by
    unfold Txt.startswith
    rw [PySem.StrLaws.subAt_eq]
    show (decide (0 + b.length ≤ a.length) && ((a.drop 0).take b.length == b)) = b.isPrefixOf a
    rw [Bool.eq_iff_iff, Bool.and_eq_true, decide_eq_true_eq, beq_iff_eq, List.drop_zero, List.isPrefixOf_iff_prefix, List.prefix_iff_eq_take]
    constructor
    · intro h
      exact h.2.symm
    · intro h
      refine ⟨?_, h.symm⟩
      have := congrArg List.length h
      rw [List.length_take] at this
      omega
  rw [e]
  exact q
/-- the draws, checked -/
def takeO (ns : List Int) (b : Box) (n : Int) : Option (Int × Box) := chk (0 < n ∧ n < 10000000000000) (some (m_take ns b n))
theorem takeO_eq {ns : List Int} {b : Box} {n : Int} (h : 0 < n ∧ n < 10000000000000) : takeO ns b n = some (m_take ns b n) := chk_eq h
theorem takeO_some {ns : List Int} {b : Box} {n : Int} {t : Int × Box} (h : takeO ns b n = some t) : (0 < n ∧ n < 10000000000000) ∧ m_take ns b n = t := by
  obtain ⟨h1, h2⟩ := chk_some h
  exact ⟨h1, Option.some.inj h2⟩
end
end G
namespace G
open PySem PySem.Spec PyProof.Rows L2
/-! ### a written dict: texts to tuples of texts -/
structure WDf (K : PySem.W.Frag) (d : Addr) (f : List Nat → Option Addr) (c : List Nat → List (List Nat)) (k : List Nat → Bool) : Prop where
  ns : ∀ t, PySem.W.nsIn K d ⟨⟨t⟩⟩ = some ((f t).map Value.ref)
  has : ∀ t, (f t).isSome = k t
  sq : ∀ t a, f t = some a → ∀ H : Hp, SqT K H a ((c t).map S)
  no : ∀ t, f t = none → c t = []
def KD (K : PySem.W.Frag) (w : World) (d : Addr) : Prop := ∃ es n, KDict K w d es n
def rInW (K : PySem.W.Frag) (d : Addr) : R2 := fun x y H Q => ∃ (t : List Nat) (r : Option Value), x = S t ∧ y = .ref d ∧ PySem.W.nsIn K d ⟨⟨t⟩⟩ = some r ∧ Q (.bl r.isSome) H
def rNiW (K : PySem.W.Frag) (d : Addr) : R2 := fun x y H Q => ∃ (t : List Nat) (r : Option Value), x = S t ∧ y = .ref d ∧ PySem.W.nsIn K d ⟨⟨t⟩⟩ = some r ∧ Q (.bl (!r.isSome)) H
def kq (Q : VK) (z : V) (H : Hp) : Option Value → Prop
  | none => Q z H
  | some u => ∃ v, RelV v u ∧ Q v H
def tKGet (K : PySem.W.Frag) (d : Addr) (td ty tx : TE) : TE := fun σ H Q => td σ H fun x H1 => x = .ref d ∧ ty σ H1 fun y H2 => tx σ H2 fun z H3 =>
  ∃ (t : List Nat) (r : Option Value), y = S t ∧ PySem.W.nsIn K d ⟨⟨t⟩⟩ = some r ∧ kq Q z H3 r
section
variable {X : Cx} {d : Addr}
theorem o_inW (D : KD X.K X.w d) : OpR X (compareOp .In) (rInW X.K d) := fun pins s σ H x y v u Q I rx ry h => by
  obtain ⟨es, n, D⟩ := D
  obtain ⟨t, r, rfl, rfl, e, q⟩ := h
  exact op_in_kd D pins s σ H _ _ v u Q I rx ry ⟨_, r, rfl, rfl, e, q⟩
theorem o_niW (D : KD X.K X.w d) : OpR X (compareOp .NotIn) (rNiW X.K d) := fun pins s σ H x y v u Q I rx ry h => by
  obtain ⟨es, n, D⟩ := D
  obtain ⟨t, r, rfl, rfl, e, q⟩ := h
  exact op_notIn_kd D pins s σ H _ _ v u Q I rx ry ⟨_, r, rfl, rfl, e, q⟩
theorem pe_kget {o e f : Expr} {apos cpos : Pos} {td ty tx : TE} (D : KD X.K X.w d) (ho : PE X o td) (he : PE X e ty) (hf : PE X f tx) (m : M2 X o "get" apos e f cpos) : PE X (.Call (.Attribute o "get" apos) [e, f] [] cpos) (tKGet X.K d td ty tx) := by
  obtain ⟨es, n, D⟩ := D
  refine ⟨fun pins s σ H Q I h => ?_⟩
  refine wpAny_Call_method m.base m.few m.line PySem.F.plainAttrs_dict PySem.F.slot_dict_get PySem.F.type_dict_get (thn (ho.run pins s σ H _ I h) fun u s1 ⟨x, H1, I1, rx, ex, q1⟩ => ?_)
  subst ex
  obtain rfl : u = Value.ref d := rx
  have t1 := kd_type D I1
  refine ⟨t1, fun b q => ?_, ?_⟩
  · cases q
    exact ⟨_, I1.kIn _ _ D.at_, rfl⟩
  rw [m.trees]
  refine Calls.callWith_builtin rfl (Calls.evalArgs_plain (Calls.spliced_cons (thn (he.run pins s1 σ H1 _ I1 q1) fun iv s2 ⟨y, H2, I2, ry, q2⟩ =>
    Calls.spliced_cons (thn (hf.run pins s2 σ H2 _ I2 q2) fun fv s3 ⟨z, H3, I3, rz, t, r, ey, en, q3⟩ => Calls.spliced_nil ?_))))
  subst ey
  obtain ⟨tk, rfl⟩ := ry
  refine call_meetsIn PySem.F.slot_dict_get (kd_type D I3) PySem.F.entry_dict_get (PySem.F.args_dict_get_3 _ _ _) (meets_dict_get_default (PySem.strKind X.prog X.w) d (PySem.strKind_is X.prog X.w ⟨⟨t⟩⟩ tk) D.low fv) ⟨_, PySem.W.mapOf_K (prog := X.prog) I3.kIn D.at_ D.lit, ?_⟩
  rw [PySem.W.find_K D.at_ en]
  cases r with
  | none => exact ⟨z, H3, I3.tok _, rz, q3⟩
  | some u =>
    obtain ⟨v, rv, qv⟩ := q3
    exact ⟨v, H3, I3.tok _, rv, qv⟩
end
section
variable {K : PySem.W.Frag} {d : Addr} {f : List Nat → Option Addr} {c : List Nat → List (List Nat)} {k : List Nat → Bool}
theorem WDf.get (W : WDf K d f c k) {t : List Nat} {P H : Hp} {p : Addr} {Q : VK} (hp : SqT K P p []) (h : ∀ v, yU K yS P v (c t) → Q v H) :
    ∃ (t' : List Nat) (r : Option Value), S t = S t' ∧ PySem.W.nsIn K d ⟨⟨t'⟩⟩ = some r ∧ kq Q (.ref p) H r := by
  refine ⟨t, _, rfl, W.ns t, ?_⟩
  cases e : f t with
  | none =>
    show Q (.ref p) H
    refine h _ ⟨p, [], rfl, hp, ?_⟩
    rw [W.no t e]
    exact .nil
  | some a =>
    show ∃ v, RelV v (Value.ref a) ∧ Q v H
    exact ⟨.ref a, rfl, h _ ⟨a, _, rfl, W.sq t a e P, strs_ar _⟩⟩
theorem WDf.isin (W : WDf K d f c k) (t : List Nat) : ((f t).map Value.ref).isSome = k t := by
  rw [Option.isSome_map]
  exact W.has t
end

section
variable {K : PySem.W.Frag} {d : Addr} {n : Nat}
def fA : List (List Nat × Addr) → List Nat → Option Addr
  | [], _ => none
  | (c, a) :: r, t => if t = c then some a else fA r t
def entOk : List DictEntry → List (List Nat × Addr) → Prop
  | [], [] => True
  | e :: es, (c, a) :: r => (∃ (x : Str) (k : Tok), e.key = .str x k ∧ x = ⟨⟨c⟩⟩ ∧ e.val = .ref a) ∧ entOk es r
  | _, _ => False
theorem find_ent : ∀ {es : List DictEntry} {cs : List (List Nat × Addr)} (t : List Nat), entOk es cs → (es.find? (·.key.isStr ⟨⟨t⟩⟩)).map (·.val) = (fA cs t).map Value.ref
  | [], [], _, _ => rfl
  | e :: es, (c, a) :: r, t, h => by
    obtain ⟨⟨x, k, h1, h2, h3⟩, h4⟩ := h
    subst h2
    have ih := find_ent t h4
    rw [List.find?_cons, fA, h1]
    by_cases q : t = c
    · subst q
      have e1 : Value.isStr (.str ⟨⟨t⟩⟩ k) ⟨⟨t⟩⟩ = true := by simp [Value.isStr]
      rw [e1, if_pos rfl]
      show some e.val = some (Value.ref a)
      rw [h3]
    · have e1 : Value.isStr (.str ⟨⟨c⟩⟩ k) ⟨⟨t⟩⟩ = false := by
        simp only [Value.isStr]
        rw [beq_eq_false_iff_ne]
        intro z
        apply q
        injection z with z
        injection z with z
        first
          | exact z
          | exact z.symm
      rw [e1, if_neg q]
      exact ih
theorem ref_ent : ∀ {es : List DictEntry} {cs : List (List Nat × Addr)}, entOk es cs → es.any (·.refKey) = false
  | [], [], _ => rfl
  | e :: es, (c, a) :: r, h => by
    obtain ⟨⟨x, k, h1, h2, h3⟩, h4⟩ := h
    rw [List.any_cons, ref_ent h4]
    have : e.refKey = false := by
      unfold DictEntry.refKey
      rw [h1]
    rw [this]
    rfl
theorem ns_ent {es : Array DictEntry} {cs : List (List Nat × Addr)} (l : K.lookup d = some ⟨.type "dict", none, .dict es n, #[]⟩) (h : entOk es.toList cs) (t : List Nat) : PySem.W.nsIn K d ⟨⟨t⟩⟩ = some ((fA cs t).map Value.ref) := by
  unfold PySem.W.nsIn
  rw [l]
  have e := find_ent t h
  show (match es.toList.find? (·.key.isStr ⟨⟨t⟩⟩) with | some e => some (some e.val) | none => if es.toList.any (·.refKey) then none else some none) = _
  cases q : es.toList.find? (·.key.isStr ⟨⟨t⟩⟩) with
  | none =>
    rw [q] at e
    show (if es.toList.any (·.refKey) then none else some none) = _
    rw [ref_ent h, ← e]
    rfl
  | some z =>
    rw [q] at e
    show some (some z.val) = _
    rw [← e]
    rfl
end
end G
namespace G
open PySem PySem.Spec PyProof.Rows L2
/-! ### own classes -/
theorem Wd.made {T : Tbs} {P H : Hp} {cs : Cs} {x dx C : Addr} (w : Wd T P H cs) (hx : H x = none) (hd : H dx = none) (n : dx ≠ x) : Wd T P (upd (upd H dx (.own x)) x (.ins C dx [])) ((x, .ins C dx []) :: (dx, .own x) :: cs) :=
  (w.new hd (.own x)).new (by rw [upd_ne (Ne.symm n)]; exact hx) (.ins C dx [])
theorem putF_new {f : Str} {v : V} : ∀ {fs : List (Str × V)} (ns : List Str), fs.map (·.1) = ns → ns.all (fun g => decide (g ≠ f)) = true → putF f v fs = fs ++ [(f, v)]
  | [], _, _, _ => rfl
  | (g, x) :: r, _, e, h => by
    subst e
    rw [List.map_cons, List.all_cons, Bool.and_eq_true, decide_eq_true_eq] at h
    rw [putF, if_neg h.1, putF_new _ rfl h.2]
    rfl
theorem drop_range_of {n m : Nat} (h : n = m) : (List.range m).drop n = [] := by
  rw [h]
  exact drop_range_all
theorem take_range_of {n m : Nat} (h : n = m) : (List.range m).take n = List.range m := by
  rw [h]
  exact take_range_all
/-- __init__ of an own class, by its promise -/
structure CalI (P : Program) (w : World) (K : PySem.W.Frag) (mg : Str → Option Value) (base : Heap) (k : Nat) (x : Str) (C : Addr) (sp : Sp) : Prop where
  ex : ∃ (f : Addr) (fd : FuncData) (ps : List Str), FnOk P w K mg base CX0 k f fd ps sp ∧ mg x = some (.ref C) ∧ Mk K C f ∧ Binds K fd ps []
/-- a method -/
structure CalM (P : Program) (w : World) (K : PySem.W.Frag) (mg : Str → Option Value) (base : Heap) (k : Nat) (C : Addr) (m : Str) (sp : Sp) : Prop where
  ex : ∃ (f : Addr) (fd : FuncData) (ps : List Str), FnOk P w K mg base CX0 k f fd ps sp ∧ Meth K C m f ∧ Binds K fd ps [] ∧ Cls K C
/-- a property -/
structure CalP (P : Program) (w : World) (K : PySem.W.Frag) (mg : Str → Option Value) (base : Heap) (k : Nat) (C : Addr) (m : Str) (sp : Sp) : Prop where
  ex : ∃ (p f : Addr) (fd : FuncData) (ps : List Str), FnOk P w K mg base CX0 k f fd ps sp ∧ PropOf K C m p f ∧ Binds K fd ps [] ∧ Cls K C
section
variable {X : Cx} {k j : Nat} {x m : Str} {sp : Sp} {C : Addr} {p pos apos : Pos} {e o : Expr} {es : List Expr} {t : TA} {ta : TE}
theorem pe_ci (c : CalI X.prog X.w X.K X.mg X.base k x C sp) (hr : Room j X.A) (hk : k + 1 ≤ j) (hg : Gl X x) (ha : PA X (e :: es) t)
    (hdb : (x == ("__debug__" : Str)) = false := by decide) (he : starEach (e :: es) X.env = (false, eval e X.env) :: starEach es X.env := by rfl) (hpl : (backTo pos (starEach es X.env)).any (·.1) = false := by rfl) :
    PE X (.Call (.Name x p) (e :: es) [] pos) (tMake C sp [] E0 t) := by
  obtain ⟨f, fd, ps, F, hm, M, b⟩ := c.ex
  exact pe_make M F (hr.mono hk) hg hm b .nil pass0 ha hdb he hpl
theorem pe_ci0 (c : CalI X.prog X.w X.K X.mg X.base k x C sp) (hr : Room j X.A) (hk : k + 1 ≤ j) (hg : Gl X x) (hdb : (x == ("__debug__" : Str)) = false := by decide) : PE X (.Call (.Name x p) [] [] pos) (tMake C sp [] E0 tNil) := by
  obtain ⟨f, fd, ps, F, hm, M, b⟩ := c.ex
  exact pe_make0 M F (hr.mono hk) hg hm b .nil pass0 hdb
theorem pe_cm {pl : Sem Bool} (c : CalM X.prog X.w X.K X.mg X.base k C m sp) (hr : Room j X.A) (hk : k ≤ j) (ho : PE X o ta) (ha : PA X (e :: es) t)
    (hst : starEach (e :: es) X.env = (false, eval e X.env) :: starEach es X.env := by rfl) (hpl : (backTo pos (starEach es X.env)).any (·.1) = false := by rfl)
    (ht : eval (.Call (.Attribute o m apos) (e :: es) [] pos) X.env = (do
      let ov ← eval o X.env
      standAt apos.atName
      let (f, first) ← holding [ov] (getMethod ov m pl)
      callWith pos f first (backTo pos (starEach (e :: es) X.env)) (backToKw pos (keywordEach [] X.env))) := by rfl) :
    PE X (.Call (.Attribute o m apos) (e :: es) [] pos) (tMeth C m sp [] E0 ta t) := by
  obtain ⟨f, fd, ps, F, hm, b, cl⟩ := c.ex
  exact pe_meth ho cl hm F (hr.mono hk) b .nil pass0 ha hst hpl ht
theorem pe_cm0 {pl : Sem Bool} (c : CalM X.prog X.w X.K X.mg X.base k C m sp) (hr : Room j X.A) (hk : k ≤ j) (ho : PE X o ta)
    (ht : eval (.Call (.Attribute o m apos) [] [] pos) X.env = (do
      let ov ← eval o X.env
      standAt apos.atName
      let (f, first) ← holding [ov] (getMethod ov m pl)
      callWith pos f first (backTo pos (starEach [] X.env)) (backToKw pos (keywordEach [] X.env))) := by rfl) :
    PE X (.Call (.Attribute o m apos) [] [] pos) (tMeth C m sp [] E0 ta tNil) := by
  obtain ⟨f, fd, ps, F, hm, b, cl⟩ := c.ex
  exact pe_meth0 ho cl hm F (hr.mono hk) b .nil pass0 ht
theorem pe_cp (c : CalP X.prog X.w X.K X.mg X.base k C m sp) (hr : Room j X.A) (hk : k + 1 ≤ j) (ho : PE X o ta) (hab : attributeBase o m X.env (eval o X.env) = eval o X.env := by rfl) :
    PE X (.Attribute o m pos) (tProp C sp [] E0 ta) := by
  obtain ⟨q, f, fd, ps, F, hm, b, cl⟩ := c.ex
  exact pe_prop ho cl hm F (hr.mono hk) b .nil pass0 hab
end
end G
namespace G
open PySem L2
section
variable {A B Z R : Type}
theorem itf_ok {f : A → Z → Option Z} (I : List A → Z → Prop) (hs : ∀ x r s, I (x :: r) s → ∃ s', f x s = some s' ∧ I r s') : ∀ (xs : List A) (s : Z), I xs s → ∃ s', itf f xs s = some s' ∧ I [] s'
  | [], s, h => ⟨s, rfl, h⟩
  | x :: r, s, h => by
    obtain ⟨s', e, h'⟩ := hs x r s h
    obtain ⟨s2, e2, h2⟩ := itf_ok I hs r s' h'
    exact ⟨s2, by rw [itf, ob_of e, e2], h2⟩
theorem itr_ok {f : A → Z → Option (Lr Z R)} (I : List A → Z → Prop) (hs : ∀ x r s, I (x :: r) s → ∃ s', f x s = some (.nx s') ∧ I r s') : ∀ (xs : List A) (s : Z), I xs s → ∃ s', itr f xs s = some (.nx s') ∧ I [] s'
  | [], s, h => ⟨s, rfl, h⟩
  | x :: r, s, h => by
    obtain ⟨s', e, h'⟩ := hs x r s h
    obtain ⟨s2, e2, h2⟩ := itr_ok I hs r s' h'
    exact ⟨s2, by rw [itr, ob_of e]; exact e2, h2⟩
theorem itr_all {f : A → Unit → Option (Lr Unit R)} {xs : List A} (hs : ∀ x ∈ xs, f x () = some (.nx ())) : itr f xs () = some (.nx ()) := by
  obtain ⟨s, e, _⟩ := itr_ok (f := f) (fun l _ => ∀ x ∈ l, f x () = some (.nx ())) (fun x r s h => ⟨(), h x List.mem_cons_self, fun y hy => h y (List.mem_cons_of_mem _ hy)⟩) xs () hs
  exact e
theorem mps_ok {f : A → Z → Option (B × Z)} {Q : B → Prop} : ∀ (xs : List A) (b : Z), (∀ x ∈ xs, ∀ b, ∃ y, f x b = some y ∧ Q y.1) → ∃ ys, mps f xs b = some ys ∧ ys.1.length = xs.length ∧ ∀ y ∈ ys.1, Q y
  | [], b, _ => ⟨([], b), rfl, rfl, fun y h => by cases h⟩
  | x :: r, b, h => by
    obtain ⟨y, e, q⟩ := h x List.mem_cons_self b
    obtain ⟨ys, e2, l, q2⟩ := mps_ok r y.2 (fun z hz => h z (List.mem_cons_of_mem _ hz))
    refine ⟨(y.1 :: ys.1, ys.2), by rw [mps, ob_of e, ob_of e2], by simp [l], fun z hz => ?_⟩
    rcases List.mem_cons.mp hz with rfl | hz
    · exact q
    · exact q2 z hz
theorem mpo_map {f : A → Option B} {g : A → B} : ∀ {xs : List A}, (∀ x ∈ xs, f x = some (g x)) → mpo f xs = some (xs.map g)
  | [], _ => rfl
  | x :: r, h => by rw [mpo, ob_of (h x List.mem_cons_self), ob_of (mpo_map fun y hy => h y (List.mem_cons_of_mem _ hy))]; rfl
theorem fpo_map {f : A → Option (Option B)} {p : A → Bool} {g : A → B} : ∀ {xs : List A}, (∀ x ∈ xs, f x = some (if p x then some (g x) else none)) → fpo f xs = some ((xs.filter p).map g)
  | [], _ => rfl
  | x :: r, h => by
    rw [fpo, ob_of (h x List.mem_cons_self), ob_of (fpo_map fun y hy => h y (List.mem_cons_of_mem _ hy)), List.filter_cons]
    cases p x <;> rfl
end
theorem inR_nat {n : Nat} {i : Int} (h : 0 ≤ i ∧ i < n) : inR n i := by
  unfold inR
  omega
theorem ixP_nat {n : Nat} {i : Int} (h : 0 ≤ i) : ixP n i = i.toNat := by
  unfold ixP
  rw [if_neg (by omega)]
theorem getD_mem {A : Type} {l : List A} {n : Nat} {d : A} (h : n < l.length) : l.getD n d ∈ l := by
  rw [List.getD, List.getElem?_eq_getElem h]
  exact List.getElem_mem h
theorem okS_app {a b : List Nat} (ha : okS a = true) (hb : okS b = true) : okS (a ++ b) = true := by
  unfold okS at *
  rw [List.all_append, ha, hb]
  rfl
theorem okS_one {c : Nat} (h : c < 1114112) : okS [c] = true := by
  unfold okS
  simp [h]
theorem okS_mem {t : List Nat} (h : okS t = true) {c : Nat} (hc : c ∈ t) : c < 1114112 := by
  unfold okS at h
  rw [List.all_eq_true] at h
  simpa using h c hc
end G
namespace G
open PySem PySem.Spec PyProof.Rows L2
/-! ### a def with *rest -/
def starSp (n : Nat) (sp : Sp) : Sp := fun vs H Q E => ∃ ws rest, vs = ws ++ rest ∧ ws.length = n ∧ rest.length ≤ sizeLine ∧ ∀ p, H p = none → sp (ws ++ [V.ref p]) (upd H p (.tup rest)) Q E
theorem okStar {P : Program} {w : World} {K : PySem.W.Frag} {mg : Str → Option Value} {base : Heap} {x qual pv : Str} {st : Stmt} {f : Addr} {fd : FuncData} {N ps : List Str} {k : Nat} {sp : Sp} (F : Fun K x qual st f fd) (S : FnScope N (ps ++ [pv]) (defScope st))
    (hb : ∀ (kV doc pm : Value) (an : Option Addr) (cdv ct : Value) (us rest : List Value), us.length = ps.length → bindArgs (PySem.W.fnOf x qual (defArgs st) (defBody st) (defScope st) .none kV doc pm an cdv ct) ⟨us ++ rest, []⟩ = (newTuple rest >>= fun t => pure (ps.zip us ++ [(pv, t)])))
    (hbody : ∀ (cdv : Value) (A : Around) (outer : List Env) (s : Shared) (H : Hp) (vs : List V) (Q : VK) (E : XK), Room k (A.deeper (envOfC qual (defScope st) s.heap.objs.size f cdv)) → sp vs H Q E →
      ∃ t, PSs (cxOf CX0 P w K mg base N qual (defScope st) f cdv A outer s H E).nox (defBody st) t ∧ t { nx := fun _ H' => Q .non H', rt := Q } (start N vs) H) : FnR P w K mg base CX0 (k + 1) f (starSp ps.length sp) := by
  obtain ⟨oc, od, kV, doc, pm, an, cdv, ct, osl, rfl, lk, hcd⟩ := F.ex
  refine StX.fn_star lk hcd S StX.cxUp_none (hb kV doc pm an cdv ct) fun A outer s H vs Q E hr hsp => ?_
  obtain ⟨t, h, q⟩ := hbody cdv A outer s H vs Q E hr hsp
  exact ⟨t, h.nox, q⟩
/-! ### making an instance where __init__ has *rest -/
structure CalS (P : Program) (w : World) (K : PySem.W.Frag) (mg : Str → Option Value) (base : Heap) (k : Nat) (C : Addr) (sp : Sp) : Prop where
  ex : ∃ f : Addr, FnR P w K mg base CX0 k f sp ∧ Mk K C f
def tMk (C : Addr) (sp : Sp) (tn : TE) (t : TA) : TE := fun σ H Q => tn σ H fun y H0 => y = .ref C ∧ StX.tMakeR C sp E0 t σ H0 Q
/-- *e alone -/
def tLone (K : PySem.W.Frag) (te : TE) : TA := fun σ H Q => te σ H fun x H1 => ∃ p xs, x = V.ref p ∧ (SqT K H1 p xs ∨ SqL K H1 p xs) ∧ Q xs H1
section
variable {X : Cx} {k j : Nat} {x : Str} {sp : Sp} {C : Addr} {p pos : Pos} {sp_ : Pos} {e : Expr} {es : List Expr} {t : TA} {tn te : TE}
theorem pe_cs (c : CalS X.prog X.w X.K X.mg X.base k C sp) (hr : Room j X.A) (hk : k + 1 ≤ j) (hn : PE X (.Name x p) tn) (ha : PA X (e :: es) t)
    (he : starEach (e :: es) X.env = (false, eval e X.env) :: starEach es X.env := by rfl) (hpl : (backTo pos (starEach es X.env)).any (·.1) = false := by rfl) : PE X (.Call (.Name x p) (e :: es) [] pos) (tMk C sp tn t) := by
  obtain ⟨f, F, M⟩ := c.ex
  refine ⟨fun pins s σ H Q I h => ?_⟩
  refine wpAny_Call_Name_kw (thn (hn.run pins s σ H _ I h) fun u s0 ⟨y, H0, I0, ry, ey, q0⟩ => ?_)
  subst ey
  obtain rfl : u = Value.ref C := ry
  refine PySem.W.callWith_K (h₀ := X.base) I0.ok.mod.kin M.kp (thn (ha.run pos pins s0 σ H0 _ I0 q0) fun us s1 ⟨vs, H1, I1, r, q⟩ => ⟨I1.kIn, ?_⟩) he hpl
  exact StX.run_makeR M F (hr.mono hk) pass0 I1 r q
theorem pe_cs0 (c : CalS X.prog X.w X.K X.mg X.base k C sp) (hr : Room j X.A) (hk : k + 1 ≤ j) (hn : PE X (.Name x p) tn) : PE X (.Call (.Name x p) [] [] pos) (tMk C sp tn tNil) := by
  obtain ⟨f, F, M⟩ := c.ex
  refine ⟨fun pins s σ H Q I h => ?_⟩
  refine wpAny_Call_Name_kw (thn (hn.run pins s σ H _ I h) fun u s0 ⟨y, H0, I0, ry, ey, q0⟩ => ?_)
  subst ey
  obtain rfl : u = Value.ref C := ry
  exact PySem.W.callWith_K0 I0.kIn M.kp (StX.run_makeR (us := []) M F (hr.mono hk) pass0 I0 .nil q0)
theorem pe_cs1 (c : CalS X.prog X.w X.K X.mg X.base k C sp) (hr : Room j X.A) (hk : k + 1 ≤ j) (hn : PE X (.Name x p) tn) (he : PE X e te) (hst : starEach [.Starred e sp_] X.env = [(true, eval e X.env)] := by rfl) :
    PE X (.Call (.Name x p) [.Starred e sp_] [] pos) (tMk C sp tn (tLone X.K te)) := by
  obtain ⟨f, F, M⟩ := c.ex
  refine ⟨fun pins s σ H Q I h => ?_⟩
  refine wpAny_Call_Name_kw (thn (hn.run pins s σ H _ I h) fun u s0 ⟨y, H0, I0, ry, ey, q0⟩ => ?_)
  subst ey
  obtain rfl : u = Value.ref C := ry
  refine PySem.W.callWith_S (h₀ := X.base) I0.ok.mod.kin M.kp (thn (he.run pins s0 σ H0 _ I0 q0) fun v s1 ⟨y, H1, I1, ry, a, xs, ey, hxs, q⟩ => ?_) hst
  subst ey
  obtain rfl : v = Value.ref a := ry
  exact StX.star_any I1 hxs fun us s2 I2 rv => ⟨I2.kIn, StX.run_makeR M F (hr.mono hk) pass0 I2 rv q⟩
end
/-! ### classmethods, staticmethods, constants of a class -/
structure CalC (P : Program) (w : World) (K : PySem.W.Frag) (mg : Str → Option Value) (base : Heap) (k : Nat) (C : Addr) (m : Str) (sp : Sp) : Prop where
  ex : ∃ (p f : Addr) (fd : FuncData) (ps : List Str) (mc : Value), FnOk P w K mg base CX0 k f fd ps sp ∧ ClX.CRead K C mc ∧ ClX.CMet K C mc m p f ∧ Binds K fd ps []
section
variable {X : Cx} {k j : Nat} {m : Str} {sp : Sp} {C : Addr} {pos apos : Pos} {e o : Expr} {es : List Expr} {t : TA} {ta : TE}
theorem fnR_of {f : Addr} {fd : FuncData} {ps : List Str} (F : FnOk X.prog X.w X.K X.mg X.base CX0 k f fd ps sp) (b : Binds X.K fd ps []) : FnR X.prog X.w X.K X.mg X.base CX0 k f sp :=
  (F.raw b .nil).imp fun vs H Q E h => by rw [List.append_nil]; exact h
theorem pe_cc {pl : Sem Bool} (c : CalC X.prog X.w X.K X.mg X.base k C m sp) (hr : Room j X.A) (hk : k ≤ j) (ho : PE X o ta) (ha : PA X (e :: es) t)
    (hst : starEach (e :: es) X.env = (false, eval e X.env) :: starEach es X.env := by rfl) (hpl : (backTo pos (starEach es X.env)).any (·.1) = false := by rfl)
    (ht : eval (.Call (.Attribute o m apos) (e :: es) [] pos) X.env = (do
      let ov ← eval o X.env
      standAt apos.atName
      let (f, first) ← holding [ov] (getMethod ov m pl)
      callWith pos f first (backTo pos (starEach (e :: es) X.env)) (backToKw pos (keywordEach [] X.env))) := by rfl) :
    PE X (.Call (.Attribute o m apos) (e :: es) [] pos) (ClX.tCMeth C sp E0 ta t) := by
  obtain ⟨p, f, fd, ps, mc, F, r, cm, b⟩ := c.ex
  exact ClX.pe_cmeth ho r cm (fnR_of F b) (hr.mono hk) pass0 ha hst hpl ht
end

/-- C.m is a staticmethod: its record at p, its def at g -/
structure CSt (K : PySem.W.Frag) (C : Addr) (mc : Value) (m : Str) (p g : Addr) : Prop where
  at_ : PySem.W.findCls K (.ref C) mc m = some (.get (.builtin "staticmethod.__get__") (.ref p) .none (.ref C))
  rc : ∃ rest, PySem.W.recIn K p "staticmethod" = some (.ref g :: rest)
  kp : PySem.W.keepIn K (.ref g) = true
structure CalT (P : Program) (w : World) (K : PySem.W.Frag) (mg : Str → Option Value) (base : Heap) (k : Nat) (C : Addr) (m : Str) (sp : Sp) : Prop where
  ex : ∃ (p f : Addr) (fd : FuncData) (ps : List Str) (mc : Value), FnOk P w K mg base CX0 k f fd ps sp ∧ ClX.CRead K C mc ∧ CSt K C mc m p f ∧ Binds K fd ps []
def tSt (C : Addr) (sp : Sp) (ta : TE) (t : TA) : TE := fun σ H Q => ta σ H fun x H1 => x = .ref C ∧ t σ H1 fun vs H2 => sp vs H2 Q E0
section
variable {X : Cx} {k j : Nat} {m : Str} {sp : Sp} {C : Addr} {pos apos : Pos} {e o : Expr} {es : List Expr} {t : TA} {ta : TE}
theorem getst_ok {pl : Sem Bool} {pins : List (Addr × Obj)} {σ : L2.St} {H : Hp} {s : Shared} {p g : Addr} {mc : Value} {A : Around} {E : Value → Shared → Prop} {Q : Value × List Value → Shared → Prop} (I : L2.Inv X pins σ H s) (r : ClX.CRead X.K C mc) (k : CSt X.K C mc m p g)
    (h : ∀ s', L2.Inv X pins σ H s' → Q (.ref g, []) s') : wpAny (model X.prog X.w) A (getMethod (.ref C) m pl) Q E s := by
  obtain ⟨rest, hp⟩ := k.rc
  refine PySem.W.method_cls I.kIn r.ga ?_
  refine PySem.W.cls_bind I.kIn r.rd k.at_ ?_
  exact wpAny_call (PySem.W.sm_get (s := { s with toks := s.toks + 1 }) I.kIn hp (PySem.W.handed_on rfl (h _ (I.tok _))))
theorem pe_st {pl : Sem Bool} (c : CalT X.prog X.w X.K X.mg X.base k C m sp) (hr : Room j X.A) (hk : k ≤ j) (ho : PE X o ta) (ha : PA X (e :: es) t)
    (hst : starEach (e :: es) X.env = (false, eval e X.env) :: starEach es X.env := by rfl) (hpl : (backTo pos (starEach es X.env)).any (·.1) = false := by rfl)
    (ht : eval (.Call (.Attribute o m apos) (e :: es) [] pos) X.env = (do
      let ov ← eval o X.env
      standAt apos.atName
      let (f, first) ← holding [ov] (getMethod ov m pl)
      callWith pos f first (backTo pos (starEach (e :: es) X.env)) (backToKw pos (keywordEach [] X.env))) := by rfl) :
    PE X (.Call (.Attribute o m apos) (e :: es) [] pos) (tSt C sp ta t) := by
  obtain ⟨p, f, fd, ps, mc, F, r, cm, b⟩ := c.ex
  refine ⟨fun pins s σ H Q I h => ?_⟩
  refine PySem.W.methodCall_KW (pl := pl) (thn (ho.run pins s σ H _ I h) fun u s1 ⟨x, H1, I1, rx, ex, q⟩ => ?_) ht
  subst ex
  obtain rfl : u = Value.ref C := rx
  refine getst_ok I1 r cm fun s2 I2 => ?_
  refine PySem.W.callWith_K (first := []) (h₀ := X.base) I.ok.mod.kin cm.kp (thn (ha.run pos pins s2 σ H1 _ I2 q) fun us s3 ⟨vs, H2, I3, rv, q2⟩ => ⟨I3.kIn, ?_⟩) hst hpl
  exact wpAny_call (run_fnR (fnR_of F b) (hr.mono hk) pass0 I3 rv q2)
end
end G
namespace G
open PySem PySem.Spec PyProof.Rows L2
section
variable {X : Cx} {k j : Nat} {m : Str} {sp : Sp} {C : Addr} {pos apos : Pos} {e o : Expr} {es : List Expr} {t : TA} {ta : TE}
/-- a method runs -/
theorem run_m {pins : List (Addr × Obj)} {σ : L2.St} {H : Hp} {s : Shared} {Q : VK} {us : List Value} {vs : List V} {f : Addr} {fd : FuncData} {ps : List Str} (F : FnOk X.prog X.w X.K X.mg X.base CX0 k f fd ps sp) (b : Binds X.K fd ps []) (hr : Room k X.A)
    (I : L2.Inv X pins σ H s) (r : Vals vs us) (h : sp vs H Q E0) : wpAny (model X.prog X.w) X.A (call (.ref f) us) (EP X pins σ Q) X.xe s :=
  wpAny_call (run_fnR (fnR_of F b) hr pass0 I r h)
/-! ### own == -/
def rEqM (C : Addr) (sp : Sp) : R2 := fun x y H Q => ∃ a b dx fs dy gs, x = .ref a ∧ y = .ref b ∧ H a = some (.ins C dx fs) ∧ H b = some (.ins C dy gs) ∧ sp [.ref a, .ref b] H (fun v H1 => (∃ k, v = .bl k) ∧ Q v H1) E0
theorem o_eqM (c : CalM X.prog X.w X.K X.mg X.base k C "__eq__" sp) (hr : Room j X.A) (hk : k ≤ j) : OpR X (compareOp .Eq) (rEqM C sp) := by
  intro pins s σ H x y v u Q I rx ry h
  obtain ⟨a, b, dx, fs, dy, gs, rfl, rfl, ha, hb, h⟩ := h
  obtain ⟨f, fd, ps, F, hm, bn, cl⟩ := c.ex
  cases rx
  cases ry
  obtain ⟨mA, J, _⟩ := ins_get I.hok ha
  obtain ⟨mB, J', _⟩ := ins_get I.hok hb
  obtain ⟨od, J, _⟩ := J.look
  obtain ⟨od', J', _⟩ := J'.look
  obtain ⟨m, hF⟩ := I.fr
  refine PySem.W.cmp_K (op := .Eq) (tb := .ref C) hr.units0 hF I.ok.mod.kin J J'.type (by simp [PySem.W.notFirst]) hm.at_ hm.fn ?_
  refine thn (run_m (us := [.ref a, .ref b]) (vs := [.ref a, .ref b]) F bn (hr.mono hk) I (.cons rfl (.cons rfl .nil)) h) fun r s' ⟨z, H1, I1, rz, ⟨k, ez⟩, q⟩ => ?_
  subst ez
  cases rz
  exact ⟨.bl k, H1, I1, rfl, q⟩
/-! ### len(o) -/
def rLenO (C : Addr) (sp : Sp) : List V → Hp → VK → Prop := fun xs H Q => ∃ a dx fs, xs = [.ref a] ∧ H a = some (.ins C dx fs) ∧ sp [.ref a] H (fun v H1 => (∃ n : Nat, v = .int n ∧ n < 1000000) ∧ Q v H1) E0
/-! ### x in o -/
def rInO (C : Addr) (sp : Sp) : R2 := fun x y H Q => ∃ a dx fs, y = .ref a ∧ H a = some (.ins C dx fs) ∧ sp [.ref a, x] H (fun v H1 => ∃ k, v = .bl k ∧ Q (.bl k) H1) E0
def rNiO (C : Addr) (sp : Sp) : R2 := fun x y H Q => ∃ a dx fs, y = .ref a ∧ H a = some (.ins C dx fs) ∧ sp [.ref a, x] H (fun v H1 => ∃ k, v = .bl k ∧ Q (.bl (!k)) H1) E0
theorem o_inO (c : CalM X.prog X.w X.K X.mg X.base k C "__contains__" sp) (hr : Room j X.A) (hk : k ≤ j) : OpR X (compareOp .In) (rInO C sp) := by
  intro pins s σ H x y v u Q I rx ry h
  obtain ⟨a, dx, fs, rfl, ha, h⟩ := h
  obtain ⟨f, fd, ps, F, hm, bn, cl⟩ := c.ex
  cases ry
  obtain ⟨mA, J, _⟩ := ins_get I.hok ha
  obtain ⟨od, J, _⟩ := J.look
  obtain ⟨m, hF⟩ := I.fr
  refine PySem.W.in_K hF I.ok.mod.kin J hm.at_ hm.fn ?_
  refine thn (run_m (us := [.ref a, v]) (vs := [.ref a, x]) F bn (hr.mono hk) I (.cons rfl (.cons rx .nil)) h) fun r s' ⟨z, H1, I1, rz, k, ez, q⟩ => ?_
  subst ez
  cases rz
  exact wpAny_pure ⟨.bl k, H1, I1, rfl, q⟩
theorem o_niO (c : CalM X.prog X.w X.K X.mg X.base k C "__contains__" sp) (hr : Room j X.A) (hk : k ≤ j) : OpR X (compareOp .NotIn) (rNiO C sp) := by
  intro pins s σ H x y v u Q I rx ry h
  obtain ⟨a, dx, fs, rfl, ha, h⟩ := h
  obtain ⟨f, fd, ps, F, hm, bn, cl⟩ := c.ex
  cases ry
  obtain ⟨mA, J, _⟩ := ins_get I.hok ha
  obtain ⟨od, J, _⟩ := J.look
  obtain ⟨m, hF⟩ := I.fr
  refine PySem.W.notIn_K hF I.ok.mod.kin J hm.at_ hm.fn ?_
  refine thn (run_m (us := [.ref a, v]) (vs := [.ref a, x]) F bn (hr.mono hk) I (.cons rfl (.cons rx .nil)) h) fun r s' ⟨z, H1, I1, rz, k, ez, q⟩ => ?_
  subst ez
  cases rz
  exact wpAny_pure ⟨.bl (!k), H1, I1, rfl, q⟩
theorem c_lenO (c : CalM X.prog X.w X.K X.mg X.base k C "__len__" sp) (hr : Room j X.A) (hk : k + 1 ≤ j) : CallR X (.builtin "len") (rLenO C sp) := by
  intro pins s σ H xs us Q I r h
  obtain ⟨a, dx, fs, rfl, ha, h⟩ := h
  obtain ⟨f, fd, ps, F, hm, bn, cl⟩ := c.ex
  obtain ⟨mA, J, _⟩ := ins_get I.hok ha
  obtain ⟨od, J, _⟩ := J.look
  obtain ⟨m, hF⟩ := I.fr
  rw [Vals.ref1 r]
  have hl : [Value.ref a].length = ps.length := by
    have e := F.len _ _ _ _ h
    exact e
  refine PySem.W.len_K hF I.ok.mod.kin J hm.at_ hm.fn (wpAny_call (codeAny_mono (F.run X.A.in1 X.stack s H ⟨[.ref a], []⟩ [.ref a] [.ref a] _ E0 (hr.mono hk).in1 I.env0.in1 (by
    have := bn s [.ref a] I.kIn (by simpa using hl)
    simpa using this) (.cons rfl .nil) h) fun r s' hq => ?_))
  cases r with
  | error er => exact False.elim hq
  | ok fl =>
    cases fl with
    | ret u =>
      obtain ⟨v, H1, I1, rv, ⟨n, en, hn⟩, q⟩ := I.after hq
      subst en
      obtain ⟨tk, rfl⟩ := rv
      exact ⟨⟨by omega, by omega⟩, ⟨.int n, H1, I1.tok _, ⟨_, rfl⟩, q⟩⟩
    | next => exact False.elim hq
    | brk => exact False.elim hq
    | cont => exact False.elim hq
end
end G
namespace G
open PySem PySem.Spec PyProof.Rows L2
/-! ### a lambda with parameters of its own and no captured name, called -/
theorem run_lam {CX : CXT} {P : Program} {w : World} {K : PySem.W.Frag} {mg : Str → Option Value} {base : Heap} {k : Nat} {f c : Addr} {q : Str} {params : Arguments} {body : Expr} {scope : Scope} {pm ct : Value} {N ps : List Str} (S : FnScope N ps scope)
    {A : Around} {outer : List Env} {s : Shared} {H : Hp} {us : List Value} {vs : List V} {Q : VK} {E : XK} (hr : Room (k + 1) A) (e0 : Env0 P w K mg base A outer s H) (hf : s.heap.get? f = some (PySem.W.kla_obj "<lambda>" q params body scope [] pm c ct)) (hc : s.heap.CodeRec (.ref c) q)
    (hb : bindArgs (PySem.W.kla_fn "<lambda>" q params body scope [] pm (.ref c) ct) ⟨us, []⟩ = pure (ps.zip us)) (r : Vals vs us) (hl : vs.length = ps.length)
    (hbody : Room k (A.deeper (envOfC q scope s.heap.objs.size f (.ref c))) → ∃ t, PE (cxOf CX P w K mg base N q scope f (.ref c) A outer s H E) body t ∧ t (L2.start N vs) H Q) :
    codeAny (model P w) A (.call (.ref f) ⟨us, []⟩) (CR CX outer P w H s Q E) s := by
  have lim : s.heap.NoLimit := e0.mod.nolimit.keeps fun b o e => (e0.bs b o e).1
  have kinds : ∀ y ∈ ps.zip us, scope.names.lookup y.1 = some .local ∨ (scope.names.lookup y.1 = some .cell ∧ ((cellsFrom (s.heap.objs.size + 1) scope.names []).lookup y.1).isSome = true) := by
    rintro ⟨n, v⟩ hy
    rcases S.par n (List.of_mem_zip hy).1 with z | z
    · exact Or.inl z
    · exact Or.inr ⟨z, PySem.W.cellsFrom_some _ _ _ (Or.inl z)⟩
  refine PySem.W.kla_callFunE hr.depth hf rfl S.co S.gen rfl hc ?_
  rw [hb]
  refine wpAny_pure (wpAny_newFunctionEnv_cells S.kind kinds fun env he s1 x => ?_)
  subst he
  obtain ⟨t, ht, hq⟩ := hbody (hr.deeper _)
  have I : L2.Inv (cxOf CX P w K mg base N q scope f (.ref c) A outer s H E) [] (L2.start N vs) H s1 := inv_start S hr.hd e0 hl r x
  refine ⟨lim.keeps x.toInCall.keep, PySem.W.kla_codeExpr (wpAny_mono (ht.run [] s1 _ H _ I hq) (fun u s' z => ?_) fun e s' z => z)⟩
  obtain ⟨v, H', J, rv, q2⟩ := z
  exact ⟨v, H', J.os, J.bare, J.base, J.hok, rv, q2⟩
/-! ### sorted(xs, key=lambda ..), the keys texts -/
section
variable {X : Cx} {pins : List (Addr × Obj)} {σ : L2.St} {H : Hp} {s : Shared}
theorem key_call {k : Nat} {A : Around} {f c : Addr} {q : Str} {params : Arguments} {body : Expr} {scope : Scope} {pm ct u : Value} {x : V} {N ps : List Str} {tb : TE} {t : List Nat} {E : Value → Shared → Prop} (I : L2.Inv X pins σ H s) (e0 : Env0 X.prog X.w X.K X.mg X.base A X.stack s H) (S0 : FnScope N ps scope) (hr : Room (k + 1) A)
    (hf : s.heap.get? f = some (PySem.W.kla_obj "<lambda>" q params body scope [] pm c ct)) (hfn : H f = none) (hfr : f ∉ frs X.stack) (hc : H c = some (LamX.CodeO c q))
    (hb : bindArgs (PySem.W.kla_fn "<lambda>" q params body scope [] pm (.ref c) ct) ⟨[u], []⟩ = pure (ps.zip [u])) (hl : ps.length = 1) (r : RelV x u)
    (hbody : ∀ (A : Around) (outer : List Env) (s : Shared) (H : Hp) (E : XK) (f c : Addr), Room k (A.deeper (envOfC q scope s.heap.objs.size f (.ref c))) → PE (cxOf CX0 X.prog X.w X.K X.mg X.base N q scope f (.ref c) A outer s H E).nox body tb)
    (ht : tb (L2.start N [x]) H fun y H' => H' = H ∧ y = G.S t) :
    wpAny (model X.prog X.w) A (call (.ref f) [u]) (fun v s' => L2.Inv X pins σ H s' ∧ s'.heap.get? f = some (PySem.W.kla_obj "<lambda>" q params body scope [] pm c ct) ∧ RelV (G.S t) v) E s := by
  obtain ⟨⟨oc, us, tk, h1, h2, h3⟩, _, _⟩ := I.hok c _ hc
  refine wpAny_call (codeAny_mono (run_lam (CX := CX0) (E := E0) (vs := [x]) (Q := fun y H' => H' = H ∧ y = G.S t) S0 hr e0 hf ⟨c, oc, us, tk, rfl, h1, h2, h3⟩ hb (.cons r .nil) hl.symm fun hr2 => ⟨tb, (hbody _ _ _ _ _ _ _ hr2).nox, ht⟩) fun z s' hq => ?_)
  cases z with
  | error e => exact (show False from hq).elim
  | ok fl =>
    cases fl with
    | ret v =>
      obtain ⟨y, H', J, ry, rfl, rfl⟩ := I.after hq
      obtain ⟨_, _, _, _, un, _, _⟩ := hq
      exact ⟨J, un.keep f _ hf hfn hfr (by simp), ry⟩
    | next => exact False.elim hq
    | brk => exact False.elim hq
    | cont => exact False.elim hq
/-- the pairs of keys and items, by their keys -/
def srtP {A : Type} (ps : List (List Nat × A)) : List (List Nat × A) := ps.mergeSort fun p q => !decide (q.1 < p.1)
def srtK {A : Type} (ks : List (List Nat)) (vs : List A) : List A := (srtP (ks.zip vs)).map Prod.snd
theorem toks_lt (a b : List Nat) : (PySem.W.dataLt (eS a) (eS b)) = decide (a < b) := PySem.W.dataLt_str ⟨⟨a⟩⟩ ⟨⟨b⟩⟩
theorem each_pairs : ∀ {ks : List (List Nat)} {vs : List V} {us : List Value}, ks.length = vs.length → Vals vs us → PySem.W.EachIs (fun u (p : List Nat × V) => RelV p.2 u) us (ks.zip vs)
  | [], _, _, hl, .nil => .nil
  | k :: ks, _, _, hl, .cons r rs => .cons r (each_pairs (Nat.succ.inj hl) rs)
  | [], _, _, hl, .cons r rs => absurd hl (by simp)
  | k :: ks, _, _, hl, .nil => absurd hl (by simp)
theorem vals_pairs : ∀ {us : List Value} {ps : List (List Nat × V)}, PySem.W.EachIs (fun u (p : List Nat × V) => RelV p.2 u) us ps → Vals (ps.map Prod.snd) us
  | _, _, .nil => .nil
  | _, _, .cons r rs => .cons r (vals_pairs rs)
theorem each_keyV {h : Heap} : ∀ {ks : List (List Nat)} {us : List Value}, Vals (ks.map G.S) us → PySem.W.EachIs (fun u d => ∃ as, Reads h u d as) us (ks.map eS)
  | [], _, h => by cases h; exact .nil
  | k :: ks, _, h => by
    cases h with
    | cons r rs =>
      obtain ⟨t, rfl⟩ := r
      exact .cons ⟨_, .str _ t⟩ (each_keyV rs)
theorem each_keyZ {α : Type} {R : Value → α → Prop} {f : List Nat → α} : ∀ {ks : List (List Nat)} {vs : List V} {us : List Value}, ks.length = vs.length → PySem.W.EachIs (fun u k => R u (f k)) us ks → PySem.W.EachIs (fun u (p : List Nat × V) => R u (f p.1)) us (ks.zip vs)
  | [], vs, _, hl, .nil => by
    rw [List.zip_nil_left]
    exact .nil
  | k :: ks, v :: vs, _, hl, .cons r rs => .cons r (each_keyZ (Nat.succ.inj hl) rs)
  | k :: ks, [], _, hl, .cons r rs => absurd hl (by simp)
theorem sortV_pairs {h : Heap} {ks : List (List Nat)} {vs : List V} {kv us : List Value} (hl : ks.length = vs.length) (rk : Vals (ks.map G.S) kv) (rv : Vals vs us) :
    Vals (srtK ks vs) (PySem.W.sortVals (PySem.W.dataKind h (ks.map eS)) false kv us) := by
  have al : PySem.W.AllAlike (ks.map eS) := by
    intro d hd d' hd'
    obtain ⟨a, _, rfl⟩ := List.mem_map.mp hd
    obtain ⟨b, _, rfl⟩ := List.mem_map.mp hd'
    simp [PySem.W.alike, eS]
  have e1 := PySem.W.each_keys al (each_keyV (h := h) rk)
  have e2 := each_keyZ (f := eS) (vs := vs) (R := fun u d => (PySem.W.dataKind h (ks.map eS)).keyOf u = some (PySem.W.keyToks d)) hl (PySem.W.each_of_map eS e1)
  have e3 := PySem.W.sortVals_each (κ := PySem.W.dataKind h (ks.map eS)) (rev := false) (fun p : List Nat × V => PySem.W.keyToks (eS p.1)) (each_pairs hl rv) e2
  have e4 : (ks.zip vs).mergeSort (PySem.W.sortLe (PySem.W.dataKind h (ks.map eS)).toKeyOrd false fun p : List Nat × V => PySem.W.keyToks (eS p.1)) = srtP (ks.zip vs) := by
    unfold srtP
    congr 1
    funext p q
    show (!PySem.W.dataLt (eS q.1) (eS p.1)) = _
    rw [toks_lt]
  rw [e4] at e3
  exact vals_pairs e3
theorem srtK_len {A : Type} {ks : List (List Nat)} {vs : List A} (hl : ks.length = vs.length) : (srtK ks vs).length = vs.length := by
  unfold srtK srtP
  rw [List.length_map, List.length_mergeSort, List.length_zip, hl, Nat.min_self]
/-- an empty list, to its very object -/
def EL (a : Addr) (n : Nat) : HO := .ext fun h => h.get? a = some (seqObj "list" #[] n)
theorem el_ok {P : Program} {w : World} {h : Heap} {a : Addr} {n : Nat} (e : h.get? a = some (seqObj "list" #[] n)) : ObjOk P w H h a (EL a n) := ⟨e, ⟨_, e⟩, fun h1 h2 z k => k _ z⟩
theorem el_at {P : Program} {w : World} {h : Heap} {a : Addr} {n : Nat} (hok : HOk P w H h) (e : H a = some (EL a n)) : h.get? a = some (seqObj "list" #[] n) := by
  have x : ObjOk P w H h a (.ext fun h => h.get? a = some (seqObj "list" #[] n)) := hok a _ e
  exact x.1
/-- the list at a is sorted by the keys that lie at b -/
theorem key_fin {A : Around} {a b : Addr} {ks : List (List Nat)} {vs : List V} {us : List Value} {e1 n : Nat} {kA : Array Value} {R : PySem.Fin → Shared → Prop} {E : Value → Shared → Prop} (I : L2.Inv X pins σ H s) (hne : b ≠ a) (hl : ks.length = vs.length) (hz : vs.length ≤ sizeLine) (rv : Vals vs us)
    (ha : H a = some (EL a e1)) (hae : s.heap.get? a = some (seqObj "list" #[] e1)) (hb : H b = some (.lst (ks.map G.S))) (hk : s.heap.get? b = some (seqObj "list" kA n)) (rk : Vals (ks.map G.S) kA.toList) (hu : A.units < cLine)
    (h : ∀ s', L2.Inv X pins σ (upd (upd H b (.lst [])) a (.lst (srtK ks vs))) s' → R (.done (.ret .none)) s') :
    wpAny (model X.prog X.w) A (ksk_end a false us.toArray e1 (.ref b) kA) R E s := by
  have al : PySem.W.AllAlike (ks.map eS) := by
    intro d hd d' hd'
    obtain ⟨z, _, rfl⟩ := List.mem_map.mp hd
    obtain ⟨z', _, rfl⟩ := List.mem_map.mp hd'
    simp [PySem.W.alike, eS]
  have so : PySem.W.Sortable (ks.map eS) := Or.inr fun d hd => by
    obtain ⟨z, _, rfl⟩ := List.mem_map.mp hd
    exact ⟨(fun e => by cases e), (fun xs e => by cases e)⟩
  have SA : PySem.W.SortsAt X.prog X.w A s (PySem.W.dataKind s.heap (ks.map eS)) kA.toList := PySem.W.SortsAt.data (each_keyV rk) al so fun d hd => by
    obtain ⟨z, _, rfl⟩ := List.mem_map.mp hd
    show A.units + (eS z).depth < cLine
    rw [show (eS z).depth = 0 from by simp [eS, PyData.depth]]
    exact hu
  have lv : us.length = vs.length := rv.length.symm
  have lk : kA.size = us.length := by
    have z : (ks.map G.S).length = kA.toList.length := rk.length
    rw [List.length_map] at z
    rw [lv, ← hl, z]
    simp
  obtain ⟨kd, k1, k2⟩ := SA.kind
  have hK := PySem.W.keysOf_zip (vs := us) SA.keys
  have out := sortV_pairs (h := s.heap) hl rk rv
  have lo : (srtK ks vs).length ≤ sizeLine := by
    rw [srtK_len hl]
    exact hz
  -- the tail
  have tail : ∀ st : SortSt, failedOf st = none → (arrOf st).map (·.2) = (PySem.W.sortVals (PySem.W.dataKind s.heap (ks.map eS)) false kA.toList us).toArray → wpAny (model X.prog X.w) A (ksk_tail a false e1 (.ref b) st) R E s := by
    intro st hf ho
    have q1 : (s.heap.update b (Obj.mapSeq fun _ => (#[] : Array Value))).get? a = some (seqObj "list" #[] e1) := (Heap.get?_update_ne _ _ _ _ hne.symm).trans hae
    have J1 : L2.Inv X pins σ (upd H b (.lst [])) { s with heap := s.heap.update b (Obj.mapSeq fun _ => (#[] : Array Value)), toks := s.toks } :=
      I.write (x := b) (e := b) (by rw [hb]; trivial) (Or.inl rfl) (fun c o hc e => (Heap.get?_update_ne _ _ _ _ hc).trans e) ⟨_, get?_update_seq hk fun _ => #[]⟩ ⟨Nat.zero_le _, [], _, .nil, get?_update_seq hk fun _ => #[]⟩
    have ha1 : upd H b (.lst []) a = some (EL a e1) := by
      rw [upd_ne hne.symm]
      exact ha
    unfold ksk_tail
    dsimp only
    rw [ho]
    refine wpAny_bind (listUpdate_at hk rfl (wpAny_bind (wpAny_letGo (wpAny_bind (seqEpoch_at q1 rfl (wpAny_bind (listUpdate_at q1 rfl ?_ (Nat.zero_le _) ?_)))))) (by rw [lk, lv]; exact hz) (Nat.zero_le _))
    · rw [hf]
      simp only [bne_self_eq_false, Bool.false_eq_true, if_false]
      refine wpAny_pure (h _ (J1.write (x := a) (e := a) (t' := s.toks) (by rw [ha1]; trivial) (Or.inl rfl) (fun c o hc e => (Heap.get?_update_ne _ _ _ _ hc).trans e) ⟨_, get?_update_seq q1 _⟩ ⟨lo, _, _, out, get?_update_seq q1 _⟩))
    · show (PySem.W.sortVals (PySem.W.dataKind s.heap (ks.map eS)) false kA.toList us).toArray.size ≤ sizeLine + 1
      rw [List.size_toArray, ← out.length]
      omega
  have fin : ∀ st : SortSt, (arrOf st).Perm (kA.zip us.toArray) → SortedToK (PySem.W.dataKind s.heap (ks.map eS)) (arrOf st) (kA.zip us.toArray).size → Stable (PySem.W.dataKind s.heap (ks.map eS)) (arrOf st) (kA.zip us.toArray) →
      (arrOf st).map (·.2) = (PySem.W.sortVals (PySem.W.dataKind s.heap (ks.map eS)) false kA.toList us).toArray := by
    intro st p1 p2 p3
    have z := congrArg List.toArray (PySem.W.sort_out (rev := false) (items := us.toArray) hK p1 p2 p3)
    rw [Array.toArray_toList] at z
    exact z
  unfold ksk_end
  simp only [Bool.false_eq_true, if_false]
  have sz : (kA.zip us.toArray).size = us.length := by rw [Array.size_zip, lk, List.size_toArray, Nat.min_self]
  by_cases two : us.toArray.size < 2
  · rw [if_pos two, if_pos two]
    refine wpAny_bind (wpAny_pure ?_)
    rw [StateT.run_pure]
    refine wpAny_bind (wpAny_pure ?_)
    refine tail _ rfl (fin (SortSt.mk' general' (kA.zip us.toArray) #[] 7 none) (Array.Perm.refl _) ?_ (Stable.refl _))
    intro i j hij hj
    rw [sz] at hj
    rw [List.size_toArray] at two
    obtain rfl : i = j := by omega
    exact KeyOrd.kle_refl _
  · rw [if_neg two, if_neg two]
    rw [List.size_toArray] at two
    refine wpAny_bind (k2 (by rw [Array.length_toList]; omega) E ?_)
    refine wpAny_bind (wpAny_mono (PyProof.Rows.H.wpS_sortRunsSt (κ := PySem.W.dataKind s.heap (ks.map eS)) (kd := kd) (a₀ := kA.zip us.toArray) (st := SortSt.mk' kd (kA.zip us.toArray) #[] 7 none)
      (Q := fun _ st => failedOf st = none ∧ (arrOf st).map (·.2) = (PySem.W.sortVals (PySem.W.dataKind s.heap (ks.map eS)) false kA.toList us).toArray) k1 hK ⟨Array.Perm.refl _, rfl, rfl⟩ rfl (Stable.refl _) (by omega) fun st p1 p2 p3 p4 => ⟨p2, fin st p1 p3 p4⟩) ?_ fun _ _ e => e)
    rintro ⟨⟨⟩, st⟩ s' ⟨rfl, p1, p2⟩
    exact tail st p1 p2
/-- what is asked of the key's lambda, and its calls -/
theorem sortK_call {k : Nat} {f c l : Addr} {q : Str} {params : Arguments} {body : Expr} {scope : Scope} {pm ct : Value} {N ps : List Str} {tb : TE} {ks : List (List Nat)} {vs : List V} {Q : VK} {E : Value → Shared → Prop} (I : L2.Inv X pins σ H s) (hr : Room (k + 1) X.A.in1.in1) (e2 : ∀ {s' : Shared} {H' : Hp}, Env0 X.prog X.w X.K X.mg X.base X.A X.stack s' H' → Env0 X.prog X.w X.K X.mg X.base X.A.in1.in1 X.stack s' H') (S0 : FnScope N ps scope)
    (hf : s.heap.get? f = some (PySem.W.kla_obj "<lambda>" q params body scope [] pm c ct)) (hfn : H f = none) (hfr : f ∉ frs X.stack) (hc : H c = some (LamX.CodeO c q))
    (hb : ∀ u : Value, bindArgs (PySem.W.kla_fn "<lambda>" q params body scope [] pm (.ref c) ct) ⟨[u], []⟩ = pure (ps.zip [u])) (hp : ps.length = 1)
    (hbody : ∀ (A : Around) (outer : List Env) (s : Shared) (H : Hp) (E : XK) (f c : Addr), Room k (A.deeper (envOfC q scope s.heap.objs.size f (.ref c))) → PE (cxOf CX0 X.prog X.w X.K X.mg X.base N q scope f (.ref c) A outer s H E).nox body tb)
    (hs : SqL X.K H l vs) (hl : ks.length = vs.length) (hu : X.A.in1.in1.units < cLine)
    (ht : ∀ (i : Nat) (x : V) (t : List Nat), vs[i]? = some x → ks[i]? = some t → ∀ H', Ext H H' → tb (L2.start N [x]) H' fun y H2 => H2 = H' ∧ y = G.S t)
    (hq : ∀ a H2, H a = none → Ext H H2 → H2 a = some (.lst (srtK ks vs)) → Q (.ref a) H2) :
    wpAny (model X.prog X.w) X.A (call (.builtin "sorted") [.ref l] [(Str.ofString "key", .ref f)]) (EP X pins σ Q) E s := by
  obtain ⟨us, rv, pl, hz⟩ := I.list hs
  have hzu : us.length ≤ sizeLine := by
    rw [← rv.length]
    exact hz
  refine PySem.W.sorted_of_sort pl.isList hzu (ksk_s1 _ _) (fun _ => ksk_l1 _ _) fun E' => ?_
  rw [ksk_t1]
  have h0 := PySem.W.copyHeap_at s.heap us
  have sz0 : (PySem.W.copyHeap s.heap us).objs.size = s.heap.objs.size + 2 := by
    unfold PySem.W.copyHeap
    rw [size_push', Heap.size_update, size_push']
  obtain ⟨e1, h1⟩ : ∃ e1, ((PySem.W.copyHeap s.heap us).update (s.heap.objs.size + 1) (Obj.mapSeq fun _ => (#[] : Array Value))).get? (s.heap.objs.size + 1) = some (seqObj "list" #[] e1) := ⟨_, get?_update_seq h0 fun _ => #[]⟩
  have ltn : ∀ {b : Addr} {o : Obj}, s.heap.get? b = some o → b < s.heap.objs.size := fun e => Heap.lt_size e
  have k1 : ∀ b o, s.heap.get? b = some o → (((PySem.W.copyHeap s.heap us).update (s.heap.objs.size + 1) (Obj.mapSeq fun _ => (#[] : Array Value))).push (seqObj "tuple" us.toArray 0)).get? b = some o := fun b o e =>
    Heap.get?_push_of_some _ ((Heap.get?_update_ne _ _ _ _ (Nat.ne_of_lt (Nat.lt_succ_of_lt (ltn e)))).trans (PySem.W.copyHeap_old e))
  have h2 := Heap.get?_push_of_some (h := (PySem.W.copyHeap s.heap us).update (s.heap.objs.size + 1) (Obj.mapSeq fun _ => (#[] : Array Value))) (seqObj "tuple" us.toArray 0) h1
  have I1 : L2.Inv X pins σ (upd H (s.heap.objs.size + 1) (EL (s.heap.objs.size + 1) e1)) { s with heap := ((PySem.W.copyHeap s.heap us).update (s.heap.objs.size + 1) (Obj.mapSeq fun _ => (#[] : Array Value))).push (seqObj "tuple" us.toArray 0), toks := s.toks } :=
    I.laid k1 (Nat.le_succ _) (el_ok h2)
  have sz1 : (((PySem.W.copyHeap s.heap us).update (s.heap.objs.size + 1) (Obj.mapSeq fun _ => (#[] : Array Value))).push (seqObj "tuple" us.toArray 0)).objs.size = s.heap.objs.size + 3 := by rw [size_push', Heap.size_update, sz0]
  have I2 : L2.Inv X pins σ (upd (upd H (s.heap.objs.size + 1) (EL (s.heap.objs.size + 1) e1)) (s.heap.objs.size + 3) (.lst [])) { s with heap := (((PySem.W.copyHeap s.heap us).update (s.heap.objs.size + 1) (Obj.mapSeq fun _ => (#[] : Array Value))).push (seqObj "tuple" us.toArray 0)).push (seqObj "list" #[] 0), toks := s.toks } :=
    I1.laid (fun b o e => Heap.get?_push_of_some _ e) (by show (((PySem.W.copyHeap s.heap us).update (s.heap.objs.size + 1) (Obj.mapSeq fun _ => (#[] : Array Value))).push (seqObj "tuple" us.toArray 0)).objs.size ≤ _; rw [sz1]; exact Nat.le_refl _) ⟨Nat.zero_le _, [], 0, .nil, by rw [← sz1]; exact Heap.get?_push_size _ rfl⟩
  have fa : H (s.heap.objs.size + 1) = none := I.hok.fresh (Nat.le_succ _)
  have fb : H (s.heap.objs.size + 3) = none := I.hok.fresh (by omega)
  have hne : s.heap.objs.size + 3 ≠ s.heap.objs.size + 1 := by omega
  unfold ksk_tree
  refine wpAny_bind (listItems_at h0 rfl (wpAny_bind (listUpdate_at h0 rfl (wpAny_bind (seqEpoch_at h1 rfl (wpAny_bind (wpAny_newTuple (wpAny_bind (wpAny_newList (wpAny_holding ?_) (Nat.zero_le _))) hzu)))) (by rw [List.size_toArray]; exact hzu) (Nat.zero_le _))))
  show wpAny _ _ (ksk_rest _ _ _ _ _ (.ref _)) _ _ { s with heap := (((PySem.W.copyHeap s.heap us).update (s.heap.objs.size + 1) (Obj.mapSeq fun _ => (#[] : Array Value))).push (seqObj "tuple" us.toArray 0)).push (seqObj "list" #[] 0) }
  rw [sz1]
  have hf2 : ((((PySem.W.copyHeap s.heap us).update (s.heap.objs.size + 1) (Obj.mapSeq fun _ => (#[] : Array Value))).push (seqObj "tuple" us.toArray 0)).push (seqObj "list" #[] 0)).get? f = some (PySem.W.kla_obj "<lambda>" q params body scope [] pm c ct) := Heap.get?_push_of_some _ (k1 _ _ hf)
  have ha2 : ((((PySem.W.copyHeap s.heap us).update (s.heap.objs.size + 1) (Obj.mapSeq fun _ => (#[] : Array Value))).push (seqObj "tuple" us.toArray 0)).push (seqObj "list" #[] 0)).get? (s.heap.objs.size + 1) = some (seqObj "list" #[] e1) := Heap.get?_push_of_some _ h2
  generalize ((((PySem.W.copyHeap s.heap us).update (s.heap.objs.size + 1) (Obj.mapSeq fun _ => (#[] : Array Value))).push (seqObj "tuple" us.toArray 0)).push (seqObj "list" #[] 0)) = hp0 at I2 hf2 ha2 ⊢
  generalize s.heap.objs.size + 1 = a at fa fb hne I2 ha2 ⊢
  generalize s.heap.objs.size + 3 = b at fb hne I2 ⊢
  have fna : f ≠ a := fun z => by
    rw [z, ha2] at hf2
    have z2 := congrArg Obj.data (Option.some.inj hf2)
    cases z2
  have fnb : f ≠ b := fun z => by
    obtain ⟨_, us2, n2, _, z2⟩ := I2.hok b _ upd_same
    rw [← z, hf2] at z2
    have z3 := congrArg Obj.data (Option.some.inj z2)
    cases z3
  have cna : c ≠ a := ne_of_none hc fa
  have cnb : c ≠ b := ne_of_none hc fb
  unfold ksk_rest
  refine wpAny_bind (wpAny_rule ?_)
  rw [← Array.forIn_toList]
  refine wpAny_bind (ksk_fold (fun i s' => L2.Inv X pins σ (upd (upd H a (EL a e1)) b (.lst ((ks.take i).map G.S))) s' ∧ s'.heap.get? f = some (PySem.W.kla_obj "<lambda>" q params body scope [] pm c ct)) us 0 _ ⟨I2, hf2⟩ (fun j u s' hx hI => ?_) (fun s' hI => ?_))
  · obtain ⟨J, jf⟩ := hI
    rw [Nat.zero_add] at J ⊢
    have hj : j < us.length := (List.getElem?_eq_some_iff.mp hx).1
    have hjk : j < ks.length := by rw [hl, rv.length]; exact hj
    have hjv : j < vs.length := by rw [← hl]; exact hjk
    obtain ⟨u', hu', rx⟩ := rv.get (List.getElem?_eq_getElem hjv)
    obtain rfl : u' = u := Option.some.inj (hu'.symm.trans hx)
    have hkj : ks[j]? = some ks[j] := List.getElem?_eq_getElem hjk
    have ext : Ext H (upd (upd H a (EL a e1)) b (.lst ((ks.take j).map G.S))) := fun d o e => by
      rw [upd_ne (ne_of_none e fb), upd_ne (ne_of_none e fa)]
      exact e
    refine wpAny_bind (wpAny_attempt (wpAny_mono (key_call (E := fun _ _ => False) J (e2 J.env0) S0 hr jf (by rw [upd_ne fnb, upd_ne fna]; exact hfn) hfr (by rw [upd_ne cnb, upd_ne cna]; exact hc) (hb _) hp rx hbody (ht j _ _ (List.getElem?_eq_getElem hjv) hkj _ ext)) (fun v s2 hv => ?_) fun _ _ z => z.elim))
    obtain ⟨J2, jf2, rv2⟩ := hv
    obtain ⟨z0, us2, n2, r2, z2⟩ := J2.hok b _ upd_same
    have l2 : us2.length ≤ j := by
      rw [← r2.length, List.length_map, List.length_take]
      omega
    obtain ⟨n3, up⟩ : ∃ n3, (s2.heap.update b (Obj.mapSeq fun z => z.push v)).get? b = some (seqObj "list" (us2 ++ [v]).toArray n3) := ⟨_, by
      rw [get?_update_seq (show s2.heap.get? b = some (seqObj "list" us2.toArray n2) from z2) fun z => z.push v]
      simp only [List.push_toArray]
      rfl⟩
    have et : (ks.take (j + 1)).map G.S = (ks.take j).map G.S ++ [G.S ks[j]] := by
      rw [List.take_add_one, hkj, List.map_append]
      rfl
    have hH : upd (upd H a (EL a e1)) b (.lst ((ks.take (j + 1)).map G.S)) = upd (upd (upd H a (EL a e1)) b (.lst ((ks.take j).map G.S))) b (.lst ((ks.take (j + 1)).map G.S)) := upd_upd.symm
    dsimp only
    refine wpAny_bind (listUpdate_at z2 rfl (wpAny_pure ⟨rfl, ?_, ?_⟩) (by rw [List.size_toArray]; omega) (by rw [Array.size_push, List.size_toArray]; omega))
    · rw [hH]
      refine J2.write (x := b) (e := b) (t' := s2.toks) (by rw [upd_same]; trivial) (Or.inl rfl) (fun d o hd e => (Heap.get?_update_ne _ _ _ _ hd).trans e) ⟨_, up⟩ ⟨?_, us2 ++ [v], n3, ?_, up⟩
      · rw [List.length_map, List.length_take]
        omega
      · rw [et]
        exact r2.append (.cons rv2 .nil)
    · exact (Heap.get?_update_ne _ _ _ _ fnb).trans jf2
  · obtain ⟨J, jf⟩ := hI
    rw [Nat.zero_add, List.take_of_length_le (by rw [hl, rv.length]; exact Nat.le_refl _)] at J
    obtain ⟨z0, us2, n2, r2, z2⟩ := J.hok b _ upd_same
    have ja : upd (upd H a (EL a e1)) b (.lst (ks.map G.S)) a = some (EL a e1) := by rw [upd_ne hne.symm, upd_same]
    refine wpAny_bind (listItems_at z2 rfl ?_)
    refine key_fin J hne hl hz rv ja (el_at J.hok ja) upd_same z2 (by simpa using r2) hu fun s' J' => ⟨rfl, .ref a, _, J', rfl, hq a _ fa (fun d o e => ?_) upd_same⟩
    rw [upd_ne (ne_of_none e fa), upd_ne (ne_of_none e fb), upd_ne (ne_of_none e fb), upd_ne (ne_of_none e fa)]
    exact e
/-- sorted(e, key=lambda p: body) -/
def tSortK (T : Tbs) (K : PySem.W.Frag) (N : List Str) (tb : TE) (t : TA) : TE := fun σ H Q => t σ H fun ys H1 => ∃ (l : Addr) (vs : List V) (ks : List (List Nat)), ys = [.ref l] ∧ SqL K H1 l vs ∧ ks.length = vs.length ∧ LamX.Tabs T H1 ∧
  (∀ (i : Nat) (x : V) (t : List Nat), vs[i]? = some x → ks[i]? = some t → ∀ H', LamX.ExtN H1 H' → tb (L2.start N [x]) H' fun y H2 => H2 = H' ∧ y = G.S t) ∧
  ∀ H1' a H2, LamX.ExtN H1 H1' → LamX.Tabs T H1' → H1' a = none → Ext H1' H2 → H2 a = some (.lst (srtK ks vs)) → Q (.ref a) H2
theorem pe_sortK {T : Tbs} {k j : Nat} {c P : Addr} {params : Arguments} {body e : Expr} {scope : Scope} {N ps : List Str} {tb : TE} {ta : TA} {p kp lp pos : Pos} (TB : LamX.TabB X.base X.mg c P) (hcode : X.env.code = .ref c) (hmT : (P, X.env.qual ++ "<lambda>") ∈ T) (huT : ∀ p ∈ T, p.1 = P → p.2 = X.env.qual ++ "<lambda>")
    (hr : Room j X.A) (hk : k + 3 ≤ j) (hg : Gl X "sorted") (hm : X.mg "sorted" = none) (ha : PA X [e] ta) (S0 : FnScope N ps scope) (hp : ps.length = 1) (hdef : defaultsOf params X.env = ([], [])) (hnf : ∀ y ∈ scope.names, y.2 ≠ .free) (hcl : ∀ cells : List (Str × Addr), cloFrom cells scope.names [] = [])
    (hb : ∀ (q : Str) (pm cv ct u : Value), bindArgs (PySem.W.kla_fn "<lambda>" q params body scope [] pm cv ct) ⟨[u], []⟩ = pure (ps.zip [u]))
    (hbody : ∀ (A : Around) (outer : List Env) (s : Shared) (H : Hp) (E : XK) (f c : Addr), Room k (A.deeper (envOfC (X.env.qual ++ "<lambda>") scope s.heap.objs.size f (.ref c))) → PE (cxOf CX0 X.prog X.w X.K X.mg X.base N (X.env.qual ++ "<lambda>") scope f (.ref c) A outer s H E).nox body tb)
    (hes : backTo pos (starEach [e] X.env) = (false, eval e X.env) :: backTo pos (starEach [] X.env) := by rfl) (hpl : (backTo pos (starEach [e] X.env)).any (·.1) = false := by rfl) :
    PE X (.Call (.Name "sorted" p) [e] [⟨some "key", .Lambda params body scope lp, kp⟩] pos) (tSortK T X.K N tb ta) := by
  refine ⟨fun pins s σ H Q I h => ?_⟩
  refine wpAny_Call_Name_kw (ld_blt I hg hm (by decide +kernel : bootBuiltins "sorted" = some (.builtin "sorted")) ?_ (by decide) (by decide))
  refine PyProof.Rows.callWith_kw (thn (ha.run pos pins s σ H _ I h) fun us s1 ⟨ys, H1, I1, r1, l, vs, ks, ey, hs, hl, hT, ht, hq⟩ => ?_) hes hpl
  subst ey
  obtain rfl := Vals.ref1 r1
  refine wpAny_evalAll_cons (wpAny_bind (LamX.lam_make2 I1 TB hcode hmT huT hT hdef (fun y hy e => absurd e (hnf y hy)) fun f c' pm ctv H2 s2 I2 eN T2 hf hfn hfr hco => wpAny_bind (wpAny_standAt (wpAny_pure (wpAny_evalAll_nil ?_)))))
  rw [hcl] at hf
  have hu : X.A.in1.in1.units < cLine := ((hr.mono hk).in1.in1).units0
  exact sortK_call I2 (hr.mono hk).in1.in1 (fun z => z.in1.in1) S0 hf hfn hfr hco (fun u => hb _ _ _ _ u) hp hbody (by
      rcases hs with hs | hs
      · refine Or.inl ?_
        rcases hs with hs | ⟨o, hs⟩
        · exact Or.inl (eN _ _ hs fun ps z => by cases z)
        · exact Or.inr ⟨o, eN _ _ hs fun ps z => by cases z⟩
      · exact Or.inr hs) hl hu (fun i x t hx hk H' e => ht i x t hx hk H' (eN.trans (LamX.ExtN.of e))) fun a H3 ha e3 h3 => hq H2 a H3 eN T2 ha e3 h3
end
section
variable {T : Tbs} {P H H2 : Hp} {cs : Cs} {p : Addr} {o : HO}
/-- a new cell, other things besides -/
theorem Wd.new2 (w : Wd T P H cs) (hp : H p = none) (e : Ext H H2) (h : H2 p = some o) (hn : nt o = true := by rfl) : Wd T P H2 ((p, o) :: cs) where
  sub := w.sub.trans e
  nd := (w.new hp o hn).nd
  ok := fun q hq => by
    rcases List.mem_cons.mp hq with z | z
    · subst z
      exact ⟨h, w.pnone hp⟩
    · exact ⟨e _ _ (w.ok q z).1, (w.ok q z).2⟩
  np := w.np
  ct := (w.new hp o hn).ct
  tb := w.tb.ext e
end
/-- the mirror's side -/
def sortBy {A : Type} (key : A → List Nat) (xs : List A) : List A := xs.mergeSort fun x y => !decide (key y < key x)
theorem ar_of_each {A : Type} {R : Rel A} {P : Hp} : ∀ {ps : List (List Nat × V)} {xs : List A} {key : A → List Nat}, PySem.W.EachIs (fun (p : List Nat × V) x => p.1 = key x ∧ R P p.2 x) ps xs → AR R P (ps.map Prod.snd) xs
  | _, _, _, .nil => .nil
  | _, _, _, .cons r rs => .cons r.2 (ar_of_each rs)
theorem each_of_ar {A : Type} {R : Rel A} {P : Hp} {key : A → List Nat} : ∀ {vs : List V} {xs : List A}, AR R P vs xs → PySem.W.EachIs (fun (p : List Nat × V) x => p.1 = key x ∧ R P p.2 x) ((xs.map key).zip vs) xs
  | _, _, .nil => .nil
  | _, _, .cons r rs => .cons ⟨rfl, r⟩ (each_of_ar rs)
theorem AR.sortBy {A : Type} {R : Rel A} {P : Hp} {vs : List V} {xs : List A} (key : A → List Nat) (h : AR R P vs xs) : AR R P (srtK (xs.map key) vs) (G.sortBy key xs) := by
  have e := each_of_ar (key := key) h
  unfold srtK srtP G.sortBy
  refine ar_of_each (key := key) (PySem.W.sort_each e fun p hp q hq => ?_)
  rw [(e.zip p hp).1, (e.zip q hq).1]
end G
namespace G
open PySem PySem.Spec PyProof.Rows L2
section
variable {A B C D : Type} {K : PySem.W.Frag} {R1 : Rel A} {R2 : Rel B} {R3 : Rel C} {R4 : Rel D} {ok1 : A → Bool} {ok2 : B → Bool} {ok3 : C → Bool} {ok4 : D → Bool} {n1 n2 n3 n4 n : Nat}
/-- data in order -/
class Od (K : PySem.W.Frag) (R : Rel A) {ok : A → Bool} {n : Nat} [e : En K R ok n] (lt : outParam (A → A → Bool)) : Prop where
  lt_eq : ∀ x y, PySem.W.dataLt (e.enc x) (e.enc y) = lt x y
  al : ∀ x y, PySem.W.alike (e.enc x) (e.enc y) = true
  so : (∀ x, ∃ a r, e.enc x = .tuple (a :: r)) ∨ ∀ x, e.enc x ≠ .none ∧ ∀ xs, e.enc x ≠ .tuple xs
def ltI (x y : Int) : Bool := decide (x < y)
def ltT (x y : List Nat) : Bool := decide (x < y)
def oLt2 [DecidableEq A] (l1 : A → A → Bool) (l2 : B → B → Bool) (x y : A × B) : Bool := if x.1 = y.1 then l2 x.2 y.2 else l1 x.1 y.1
def oLt3 [DecidableEq A] [DecidableEq B] (l1 : A → A → Bool) (l2 : B → B → Bool) (l3 : C → C → Bool) (x y : A × B × C) : Bool := if x.1 = y.1 then (if x.2.1 = y.2.1 then l3 x.2.2 y.2.2 else l2 x.2.1 y.2.1) else l1 x.1 y.1
def oLt4 [DecidableEq A] [DecidableEq B] [DecidableEq C] (l1 : A → A → Bool) (l2 : B → B → Bool) (l3 : C → C → Bool) (l4 : D → D → Bool) (x y : A × B × C × D) : Bool := if x.1 = y.1 then (if x.2.1 = y.2.1 then (if x.2.2.1 = y.2.2.1 then l4 x.2.2.2 y.2.2.2 else l3 x.2.2.1 y.2.2.1) else l2 x.2.1 y.2.1) else l1 x.1 y.1
instance : Od K yI ltI where
  lt_eq x y := PySem.W.dataLt_int x y
  al x y := by show PySem.W.alike (.int x) (.int y) = true; simp [PySem.W.alike]
  so := Or.inr fun x => ⟨(fun e => by cases e), fun xs e => by cases e⟩
instance : Od K yS ltT where
  lt_eq x y := toks_lt x y
  al x y := by show PySem.W.alike (eS x) (eS y) = true; simp [PySem.W.alike, eS]
  so := Or.inr fun x => ⟨(fun e => by cases e), fun xs e => by cases e⟩
theorem lex_cons [DecidableEq A] [e : En K R1 ok1 n1] {l1 : A → A → Bool} [o : Od K R1 l1] {x y : A} {xs ys : List PyData} :
    PyProof.Rows.lexLt PyProof.Rows.itemOrd (PySem.W.keyToksAll (e.enc x :: xs)) (PySem.W.keyToksAll (e.enc y :: ys)) = if x = y then PyProof.Rows.lexLt PyProof.Rows.itemOrd (PySem.W.keyToksAll xs) (PySem.W.keyToksAll ys) else l1 x y := by
  by_cases h : x = y
  · rw [if_pos h, PySem.W.dataLt_all_yes (o.al x y) (e.inj.mpr h)]
  · rw [if_neg h, PySem.W.dataLt_all_no (o.al x y) (by
      cases q : PyData.eqv (e.enc x) (e.enc y) with
      | false => rfl
      | true => exact absurd (e.inj.mp q) h), o.lt_eq]
theorem lex_nil : PyProof.Rows.lexLt PyProof.Rows.itemOrd (PySem.W.keyToksAll []) (PySem.W.keyToksAll []) = false := by
  first
    | rfl
    | simp [PySem.W.keyToksAll, PyProof.Rows.lexLt]
    | (unfold PySem.W.keyToksAll; rfl)
theorem lex_last [DecidableEq A] [e : En K R1 ok1 n1] {l1 : A → A → Bool} [o : Od K R1 l1] {x y : A} :
    PyProof.Rows.lexLt PyProof.Rows.itemOrd (PySem.W.keyToksAll [e.enc x]) (PySem.W.keyToksAll [e.enc y]) = l1 x y := by
  rw [lex_cons (e := e) (o := o)]
  by_cases h : x = y
  · rw [if_pos h, lex_nil, h, ← o.lt_eq]
    exact (PyProof.Rows.lex_irrefl (O := PyProof.Rows.itemOrd) _).symm
  · rw [if_neg h]
variable [e1 : En K R1 ok1 n1] [e2 : En K R2 ok2 n2] [e3 : En K R3 ok3 n3] [e4 : En K R4 ok4 n4] {l1 : A → A → Bool} {l2 : B → B → Bool} {l3 : C → C → Bool} {l4 : D → D → Bool} [o1 : Od K R1 l1] [o2 : Od K R2 l2] [o3 : Od K R3 l3] [o4 : Od K R4 l4]
instance [DecidableEq A] [DecidableEq B] : Od K (y2 K R1 R2) (oLt2 l1 l2) where
  lt_eq x y := by
    show PySem.W.dataLt (.tuple [e1.enc x.1, e2.enc x.2]) (.tuple [e1.enc y.1, e2.enc y.2]) = _
    rw [PySem.W.dataLt_tuple, lex_cons (e := e1), lex_last (e := e2)]
    rfl
  al x y := by
    show PySem.W.alike (.tuple [e1.enc x.1, e2.enc x.2]) (.tuple [e1.enc y.1, e2.enc y.2]) = true
    simp only [PySem.W.alike, PySem.W.alikeAll, o1.al, o2.al, Bool.and_true, Bool.and_self]
  so := Or.inl fun x => ⟨_, _, rfl⟩
instance [DecidableEq A] [DecidableEq B] [DecidableEq C] : Od K (y3 K R1 R2 R3) (oLt3 l1 l2 l3) where
  lt_eq x y := by
    show PySem.W.dataLt (.tuple [e1.enc x.1, e2.enc x.2.1, e3.enc x.2.2]) (.tuple [e1.enc y.1, e2.enc y.2.1, e3.enc y.2.2]) = _
    rw [PySem.W.dataLt_tuple, lex_cons (e := e1), lex_cons (e := e2), lex_last (e := e3)]
    rfl
  al x y := by
    show PySem.W.alike (.tuple [e1.enc x.1, e2.enc x.2.1, e3.enc x.2.2]) (.tuple [e1.enc y.1, e2.enc y.2.1, e3.enc y.2.2]) = true
    simp only [PySem.W.alike, PySem.W.alikeAll, o1.al, o2.al, o3.al, Bool.and_true, Bool.and_self]
  so := Or.inl fun x => ⟨_, _, rfl⟩
instance [DecidableEq A] [DecidableEq B] [DecidableEq C] [DecidableEq D] : Od K (y4 K R1 R2 R3 R4) (oLt4 l1 l2 l3 l4) where
  lt_eq x y := by
    show PySem.W.dataLt (.tuple [e1.enc x.1, e2.enc x.2.1, e3.enc x.2.2.1, e4.enc x.2.2.2]) (.tuple [e1.enc y.1, e2.enc y.2.1, e3.enc y.2.2.1, e4.enc y.2.2.2]) = _
    rw [PySem.W.dataLt_tuple, lex_cons (e := e1), lex_cons (e := e2), lex_cons (e := e3), lex_last (e := e4)]
    rfl
  al x y := by
    show PySem.W.alike (.tuple [e1.enc x.1, e2.enc x.2.1, e3.enc x.2.2.1, e4.enc x.2.2.2]) (.tuple [e1.enc y.1, e2.enc y.2.1, e3.enc y.2.2.1, e4.enc y.2.2.2]) = true
    simp only [PySem.W.alike, PySem.W.alikeAll, o1.al, o2.al, o3.al, o4.al, Bool.and_true, Bool.and_self]
  so := Or.inl fun x => ⟨_, _, rfl⟩
end
/-! ### sorted(xs) of data in order -/
def srt {A : Type} (lt : A → A → Bool) (xs : List A) : List A := xs.mergeSort fun x y => !lt y x
section
variable {A : Type} {X : Cx} {R : Rel A} {ok : A → Bool} {n : Nat} {lt : A → A → Bool}
def rSrt (K : PySem.W.Frag) (R : Rel A) (lt : A → A → Bool) : List V → Hp → VK → Prop := fun ys H Q => ∃ (a : Addr) (vs : List V) (xs : List A), ys = [.ref a] ∧ SqL K H a vs ∧ AR R H vs xs ∧ ∀ p ws, H p = none → (∀ P, AR R P vs xs → AR R P ws (srt lt xs)) → Q (.ref p) (upd H p (.lst ws))
theorem each_ar {P : Hp} : ∀ {vs : List V} {us : List Value} {xs : List A}, Vals vs us → AR R P vs xs → PySem.W.EachIs (fun u (p : V × A) => RelV p.1 u) us (vs.zip xs)
  | _, _, _, .nil, .nil => .nil
  | _, _, _, .cons r rs, .cons z zs => .cons r (each_ar rs zs)
theorem each_enc [e : En X.K R ok n] {pins : List (Addr × Obj)} {σ : L2.St} {H P : Hp} {s : Shared} (I : L2.Inv X pins σ H s) : ∀ {vs : List V} {us : List Value} {xs : List A}, Vals vs us → AR R H vs xs → PySem.W.EachIs (fun u d => ∃ as, Reads s.heap u d as) us (xs.map e.enc)
  | _, _, _, .nil, .nil => .nil
  | _, _, _, .cons r rs, .cons z zs => .cons (Dp.reads I _ _ _ (e.dp z) r) (each_enc (P := P) I rs zs)
theorem ar_zip {P : Hp} : ∀ {vs : List V} {xs : List A}, AR R P vs xs → PySem.W.EachIs (fun (p : V × A) x => p.2 = x ∧ R P p.1 x) (vs.zip xs) xs
  | _, _, .nil => .nil
  | _, _, .cons z zs => .cons ⟨rfl, z⟩ (ar_zip zs)
theorem ar_each {P : Hp} : ∀ {ps : List (V × A)} {xs : List A}, PySem.W.EachIs (fun (p : V × A) x => p.2 = x ∧ R P p.1 x) ps xs → AR R P (ps.map Prod.fst) xs
  | _, _, .nil => .nil
  | _, _, .cons r rs => .cons r.2 (ar_each rs)
theorem each_keys_zip {kk : PyProof.Rows.KeyKind} {f : A → kk.α} : ∀ {us : List Value} {vs : List V} {xs : List A}, vs.length = xs.length → PySem.W.EachIs (fun u x => kk.keyOf u = some (f x)) us xs → PySem.W.EachIs (fun u (p : V × A) => kk.keyOf u = some (f p.2)) us (vs.zip xs)
  | _, [], [], _, .nil => .nil
  | _, v :: vs, x :: xs, h, .cons r rs => .cons r (each_keys_zip (Nat.succ.inj h) rs)
  | _, [], x :: xs, h, _ => absurd h (by simp)
  | _, v :: vs, [], h, _ => absurd h (by simp)
theorem vals_fst : ∀ {us : List Value} {ps : List (V × A)}, PySem.W.EachIs (fun u (p : V × A) => RelV p.1 u) us ps → Vals (ps.map Prod.fst) us
  | _, _, .nil => .nil
  | _, _, .cons r rs => .cons r (vals_fst rs)
theorem c_sorted [e : En X.K R ok n] [o : Od X.K R lt] (hu : X.A.in1.in1.units + 64 < cLine) (hn : n < 64 := by decide) : CallR X (.builtin "sorted") (rSrt X.K R lt) := by
  intro pins s σ H ys us0 Q I r h
  obtain ⟨a, vs, xs, rfl, hs, har, hq⟩ := h
  obtain rfl := Vals.ref1 r
  obtain ⟨us, rv, pl, hz⟩ := I.list hs
  have hzu : us.length ≤ sizeLine := by
    rw [← rv.length]
    exact hz
  have hal : PySem.W.AllAlike (xs.map e.enc) := by
    intro d hd d' hd'
    obtain ⟨x, _, rfl⟩ := List.mem_map.mp hd
    obtain ⟨y, _, rfl⟩ := List.mem_map.mp hd'
    exact o.al x y
  have hso : PySem.W.Sortable (xs.map e.enc) := by
    rcases o.so with z | z
    · refine Or.inl fun d hd => ?_
      obtain ⟨x, _, rfl⟩ := List.mem_map.mp hd
      exact z x
    · refine Or.inr fun d hd => ?_
      obtain ⟨x, _, rfl⟩ := List.mem_map.mp hd
      exact z x
  have I2 : L2.Inv X pins σ H { s with heap := PySem.W.sortingHeap (PySem.W.copyHeap s.heap us) (s.heap.objs.size + 1) us, toks := s.toks } := I.kept fun b u z => PySem.W.sorting_copy_old z
  have ee := each_enc (e := e) (P := H) I2 rv har
  refine PySem.W.sorted_vals pl.isList (PySem.W.SortsAt.data (s := { s with heap := PySem.W.sortingHeap (PySem.W.copyHeap s.heap us) (s.heap.objs.size + 1) us }) ee hal hso fun d hd => ?_) hzu ?_
  · obtain ⟨x, _, rfl⟩ := List.mem_map.mp hd
    have := e.dep (x := x)
    omega
  · have k1 := each_keys_zip (vs := vs) (har.len) (PySem.W.each_of_map e.enc (PySem.W.each_keys hal ee))
    have k2 := PySem.W.sortVals_each (κ := PySem.W.dataKind (PySem.W.sortingHeap (PySem.W.copyHeap s.heap us) (s.heap.objs.size + 1) us) (xs.map e.enc)) (rev := false) (fun p : V × A => PySem.W.keyToks (e.enc p.2)) (each_ar rv har) k1
    have k3 : (vs.zip xs).mergeSort (PySem.W.sortLe (PySem.W.dataKind (PySem.W.sortingHeap (PySem.W.copyHeap s.heap us) (s.heap.objs.size + 1) us) (xs.map e.enc)).toKeyOrd false fun p : V × A => PySem.W.keyToks (e.enc p.2)) = (vs.zip xs).mergeSort fun p q => !lt q.2 p.2 := by
      congr 1
      funext p q
      show (!PySem.W.dataLt (e.enc q.2) (e.enc p.2)) = _
      rw [o.lt_eq]
    rw [k3] at k2
    have k4 := vals_fst k2
    obtain ⟨ep, he'⟩ := PyProof.Rows.sortedAll_at s.heap us (PySem.W.sortVals (PySem.W.dataKind (PySem.W.sortingHeap (PySem.W.copyHeap s.heap us) (s.heap.objs.size + 1) us) (xs.map e.enc)) false us us).toArray
    have hlen : (((vs.zip xs).mergeSort fun p q => !lt q.2 p.2).map Prod.fst).length ≤ sizeLine := by
      rw [List.length_map, List.length_mergeSort, List.length_zip]
      exact Nat.le_trans (Nat.min_le_left _ _) hz
    refine ⟨.ref _, upd H (s.heap.objs.size + 1) (.lst _), I.laid (t' := s.toks) (fun _ _ => PyProof.Rows.sortedAll_old) (Nat.le_succ _) ⟨hlen, _, ep, k4, he'⟩, rfl, hq _ _ (I.hok.fresh (Nat.le_succ _)) fun P hP => ?_⟩
    exact ar_each (PySem.W.sort_each (ar_zip hP) fun p hp q hq => by rw [((ar_zip hP).zip p hp).1, ((ar_zip hP).zip q hq).1])
end
end G
namespace G
open PySem PySem.Spec PyProof.Rows L2
/-- what the row asks of law, tables told -/
def spT (T : Tbs) (K : PySem.W.Frag) : Sp := fun vs H Q _ => ∃ (a : Addr) (ns : List Int), vs = [.ref a] ∧ SqL K H a (ns.map V.int) ∧ ns.length ≤ 63 ∧ LamX.Tabs T H ∧ ∀ H1, Q (.bl true) H1
def codeTab (K : PySem.W.Frag) (c : Addr) : Option Addr := match K.lookup c with
  | some ⟨_, _, .fields vs, _⟩ => match (vs[11]? : Option Value) with
    | some (.ref p) => some p
    | _ => none
  | _ => none
end G
namespace G
open PySem PySem.Spec PyProof.Rows L2
/-- a def with *rest whose code object is known -/
theorem okStarL {P : Program} {w : World} {K : PySem.W.Frag} {mg : Str → Option Value} {base : Heap} {x qual pv : Str} {st : Stmt} {f c : Addr} {N ps : List Str} {k : Nat} {sp : Sp} {oc kV doc pm ct : Value} {od an : Option Addr} {osl : Array (Option Value)}
    (lk : K.lookup f = some ⟨oc, od, .func (PySem.W.fnOf x qual (defArgs st) (defBody st) (defScope st) .none kV doc pm an (.ref c) ct), osl⟩) (hcd : PySem.W.codeIn K (.ref c) qual = true) (S : FnScope N (ps ++ [pv]) (defScope st))
    (hb : ∀ (us rest : List Value), us.length = ps.length → bindArgs (PySem.W.fnOf x qual (defArgs st) (defBody st) (defScope st) .none kV doc pm an (.ref c) ct) ⟨us ++ rest, []⟩ = (newTuple rest >>= fun t => pure (ps.zip us ++ [(pv, t)])))
    (hbody : ∀ (A : Around) (outer : List Env) (s : Shared) (H : Hp) (vs : List V) (Q : VK) (E : XK), Room k (A.deeper (envOfC qual (defScope st) s.heap.objs.size f (.ref c))) → sp vs H Q E →
      ∃ t, PSs (cxOf CX0 P w K mg base N qual (defScope st) f (.ref c) A outer s H E).nox (defBody st) t ∧ t { nx := fun _ H' => Q .non H', rt := Q } (start N vs) H) : FnR P w K mg base CX0 (k + 1) f (starSp ps.length sp) := by
  refine StX.fn_star lk hcd S StX.cxUp_none hb fun A outer s H vs Q E hr hsp => ?_
  obtain ⟨t, h, q⟩ := hbody A outer s H vs Q E hr hsp
  exact ⟨t, h.nox, q⟩
/-! ### a cell is lent -/
def hid (P : Hp) (a : Addr) : Hp := fun b => if b = a then none else P b
theorem hid_same {P : Hp} {a : Addr} : hid P a a = none := by unfold hid; rw [if_pos rfl]
theorem hid_ne {P : Hp} {a b : Addr} (h : b ≠ a) : hid P a b = P b := by unfold hid; rw [if_neg h]
section
variable {T : Tbs} {P H : Hp} {cs : Cs} {a : Addr} {o : HO}
/-- back from the one who had it lent: all but the cell is as it was left -/
def Back (T : Tbs) (P Pf : Hp) (a : Addr) (o : HO) : Prop := ∀ (P2 H2 : Hp) (cs2 : Cs), Ext Pf P2 → Wd T P2 H2 cs2 → ∃ P3, Ext P P3 ∧ Wd T P3 H2 ((a, o) :: cs2)
theorem Wd.lend (w : Wd T P H ((a, o) :: cs)) : ∃ Pf, Ext P Pf ∧ Pf a = some o ∧ Wd T Pf H cs ∧ Back T P Pf a o := by
  have hn : P a = none := (w.ok _ List.mem_cons_self).2
  refine ⟨upd P a o, w.kext, upd_same, w.keep, fun P2 H2 cs2 e w2 => ?_⟩
  have h2 : P2 a = some o := e a o upd_same
  have hc : ∀ q ∈ cs2, q.1 ≠ a := fun q hq z => by
    have := (w2.ok q hq).2
    rw [z, h2] at this
    cases this
  refine ⟨hid P2 a, fun b u q => ?_, ?_⟩
  · have hb : b ≠ a := ne_of_none q hn
    rw [hid_ne hb]
    exact e b u (by rw [upd_ne hb]; exact q)
  · refine ⟨fun b u q => ?_, ?_, fun q hq => ?_, fun b ps q => ?_, fun q hq => ?_, w2.tb⟩
    · by_cases hb : b = a
      · rw [hb, hid_same] at q
        cases q
      · rw [hid_ne hb] at q
        exact w2.sub b u q
    · refine List.nodup_cons.mpr ⟨fun hm => ?_, w2.nd⟩
      obtain ⟨q, hq, z⟩ := List.mem_map.mp hm
      exact hc q hq z
    · rcases List.mem_cons.mp hq with z | z
      · subst z
        exact ⟨w2.sub _ _ h2, hid_same⟩
      · rw [hid_ne (hc q z)]
        exact w2.ok q z
    · by_cases hb : b = a
      · rw [hb, hid_same] at q
        cases q
      · rw [hid_ne hb] at q
        exact w2.np b ps q
    · rcases List.mem_cons.mp hq with z | z
      · subst z
        exact w.ct _ List.mem_cons_self
      · exact w2.ct q z
end
end G
namespace G
open PySem PySem.Spec PyProof.Rows L2
/-- a def by its very lookup, its code object at c -/
structure LkL (K : PySem.W.Frag) (x qual : Str) (st : Stmt) (f c : Addr) : Prop where
  ex : ∃ (oc : Value) (od : Option Addr) (kV doc pm : Value) (an : Option Addr) (ct : Value) (osl : Array (Option Value)), K.lookup f = some ⟨oc, od, .func (PySem.W.fnOf x qual (defArgs st) (defBody st) (defScope st) .none kV doc pm an (.ref c) ct), osl⟩ ∧ PySem.W.codeIn K (.ref c) qual = true
section
variable {A B C D : Type} {K : PySem.W.Frag} {R2 : Rel B} {R3 : Rel C} {R4 : Rel D} {P H : Hp} {N : List Str} {x : Str}
theorem key2 {vs : List V} {xs : List (List Nat × B)} (np : ∀ a ps, P a ≠ some (.tbl ps)) (e : Ext P H) (al : AR (y2 K yS R2) P vs xs) (i : Nat) (v : V) (t : List Nat) (hv : vs[i]? = some v) (ht : (xs.map (fun x => x.1))[i]? = some t) (H' : Hp) (hn : LamX.ExtN H H') :
    (tOp (L2.rIxT K) (tVar 0) (tC (V.int 0))) (L2.start [x] [v]) H' fun y H2 => H2 = H' ∧ y = G.S t := by
  obtain ⟨z, hz, ⟨a, v1, v2, rfl, fq, h1, _⟩, _⟩ := al.get hv
  rw [List.getElem?_map, hz] at ht
  obtain rfl : z.1 = t := Option.some.inj ht
  exact ⟨_, rfl, a, _, _, _, rfl, rfl, .inl (.inl (hn _ _ (e _ _ fq) fun ps z => by cases z)), atI_nat (j := 0) rfl, rfl, h1⟩
theorem key4 {vs : List V} {xs : List (List Nat × B × C × D)} (np : ∀ a ps, P a ≠ some (.tbl ps)) (e : Ext P H) (al : AR (y4 K yS R2 R3 R4) P vs xs) (i : Nat) (v : V) (t : List Nat) (hv : vs[i]? = some v) (ht : (xs.map (fun x => x.1))[i]? = some t) (H' : Hp) (hn : LamX.ExtN H H') :
    (tOp (L2.rIxT K) (tVar 0) (tC (V.int 0))) (L2.start [x] [v]) H' fun y H2 => H2 = H' ∧ y = G.S t := by
  obtain ⟨z, hz, ⟨a, v1, v2, v3, v4, rfl, fq, h1, _⟩, _⟩ := al.get hv
  rw [List.getElem?_map, hz] at ht
  obtain rfl : z.1 = t := Option.some.inj ht
  exact ⟨_, rfl, a, _, _, _, rfl, rfl, .inl (.inl (hn _ _ (e _ _ fq) fun ps z => by cases z)), atI_nat (j := 0) rfl, rfl, h1⟩
end
end G
namespace G
open PySem PySem.Spec PyProof.Rows L2
section
variable {A : Type} {X : Cx} {K : PySem.W.Frag} {R1 R : Rel A} {ok1 ok : A → Bool} {n : Nat} {lt : A → A → Bool}
theorem o_eqRK [DecidableEq A] [e : En K R1 ok1 n] (hu : X.A.units + 64 < cLine) (hK : X.K = K := by rfl) (hn : n ≤ 64 := by decide) : OpR X (compareOp .Eq) (rEqR R1 ok1) := by
  subst hK
  exact o_eqR (e := e) hu hn
theorem o_neRK [DecidableEq A] [e : En K R1 ok1 n] (hu : X.A.units + 64 < cLine) (hK : X.K = K := by rfl) (hn : n ≤ 64 := by decide) : OpR X (compareOp .NotEq) (rNeR R1 ok1) := by
  subst hK
  exact o_neR (e := e) hu hn
theorem c_sortedK [e : En K R ok n] [o : Od K R lt] (hu : X.A.in1.in1.units + 64 < cLine) (hK : X.K = K := by rfl) (hn : n < 64 := by decide) : CallR X (.builtin "sorted") (rSrt K R lt) := by
  subst hK
  exact c_sorted (e := e) hu hn
end
end G
namespace G
open PySem PySem.Spec PyProof.Rows L2
/-! ### != of own objects with an own == -/
section
variable {X : Cx} {C : Addr} {k j : Nat} {sp : Sp}
def rNeM (C : Addr) (sp : Sp) : R2 := fun x y H Q => ∃ a b dx fs dy gs, x = .ref a ∧ y = .ref b ∧ H a = some (.ins C dx fs) ∧ H b = some (.ins C dy gs) ∧ sp [.ref a, .ref b] H (fun v H1 => ∃ k, v = .bl k ∧ Q (.bl (!k)) H1) E0
theorem one_ne : Slot "object" "__ne__" "object.__ne__" := .of (owner := "object") (n := "__ne__") (by rw [typeLookup_type, builtinLookup_eq_fast]; kernel_rfl) (by decide +kernel) (by decide +kernel) (by decide +kernel) (.inl (by decide +kernel)) (by rw [isSubtype_type]; kernel_rfl)
theorem o_neM (c : CalM X.prog X.w X.K X.mg X.base k C "__eq__" sp) (hn : PySem.W.findIn X.K (.ref C) "__ne__" = some (some (.builtin "object.__ne__"))) (hr : Room j X.A) (hk : k + 1 ≤ j) : OpR X (compareOp .NotEq) (rNeM C sp) := by
  intro pins s σ H x y v u Q I rx ry h
  obtain ⟨a, b, dx, fs, dy, gs, rfl, rfl, ha, hb, h⟩ := h
  obtain ⟨f, fd, ps, F, hm, bn, cl⟩ := c.ex
  cases rx
  cases ry
  obtain ⟨mA, J, _⟩ := ins_get I.hok ha
  obtain ⟨mB, J', _⟩ := ins_get I.hok hb
  obtain ⟨od, J, _⟩ := J.look
  obtain ⟨od', J', _⟩ := J'.look
  obtain ⟨m, hF⟩ := I.fr
  have XK := I.ok.mod.kin.keeps hF.keep
  have hl : [Value.ref a, Value.ref b].length = ps.length := by
    have e := F.len _ _ _ _ h
    exact e
  obtain ⟨cd, hc, ho⟩ := PySem.W.any_some cl.po
  have ne : cd.mro.isEmpty = false := by cases q : cd.mro with | nil => rw [q] at ho; cases ho | cons _ _ => rfl
  have sub : PySem.W.Looks (model X.prog X.w) s.heap (isInstance (.ref a) (.type "object")) true := J.type.andThen (PySem.W.looks_mroIn XK (by unfold PySem.W.mroIn; rw [hc, Option.bind_some, if_neg (by rw [ne]; decide), PySem.W.only_has ho]))
  have inner : wpAny (model X.prog X.w) X.A.in1 (callSpecialIfBound? (.ref a) "__eq__" [.ref b]) (fun r s' => ∃ k, r = some (.bool k) ∧ EP X pins σ Q (.bool (!k)) s') X.xe s := by
    refine PySem.W.ifBound_K XK J hm.at_ hm.fn (wpAny_call (codeAny_mono (F.run X.A.in1 X.stack s H ⟨[.ref a, .ref b], []⟩ [.ref a, .ref b] [.ref a, .ref b] _ E0 (hr.mono hk).in1 I.env0.in1 (by
      have := bn s [.ref a, .ref b] I.kIn (by simpa using hl)
      simpa using this) (.cons rfl (.cons rfl .nil)) h) fun r s' hq => ?_))
    cases r with
    | error er => exact False.elim hq
    | ok fl =>
      cases fl with
      | ret u =>
        obtain ⟨v, H1, I1, rv, kk, en, q⟩ := I.after hq
        subst en
        cases rv
        exact ⟨kk, rfl, ⟨.bl (!kk), H1, I1, rfl, q⟩⟩
      | next => exact False.elim hq
      | brk => exact False.elim hq
      | cont => exact False.elim hq
  have entry : wpAny (model X.prog X.w) X.A (call (.builtin "object.__ne__") [.ref a, .ref b]) (fun v s' => ∃ k, v = .bool k ∧ EP X pins σ Q (.bool k) s') X.xe s := by
    refine wpAny_call (codeAny_call_builtin one_ne.plain PySem.F.cmpEntry_ne (PySem.W.check_slot PySem.F.cmpKind_ne PySem.F.cmpSplit_ne sub (PySem.F.cmpArgs_ne _ _) ?_))
    unfold Builtin.«object.__ne__»
    refine wpAny_bind (wpAny_pure ?_)
    refine wpAny_bind (wpAny_cRoomFor (hr.mono hk).in1.units0 ?_)
    refine wpAny_bind (wpAny_mono inner (fun r s' ⟨kk, e, q⟩ => ?_) fun _ _ z => z)
    subst e
    exact wpAny_bind (wpAny_truthy_bool (wpAny_pure ⟨_, rfl, q⟩))
  have one : wpAny (model X.prog X.w) X.A (tryCompare (.ref a) "__ne__" (.ref b)) (fun r s' => ∃ v, r = some v ∧ EP X pins σ Q v s') X.xe s := by
    unfold tryCompare
    simp only [callSpecialIfBound?, bindSpecialIfBound?]
    refine wpAny_bind (wpAny_holding (wpAny_bind (wpAny_bind (wpAny_bind (J.type.here ((PySem.W.looks_findIn XK hn).here ?_))))))
    simp only [one_ne.bind]
    refine wpAny_bind (wpAny_askSetting (wpAny_ite ?_))
    have fin : wpAny (model X.prog X.w) X.A (call (.builtin "object.__ne__") ([.ref a] ++ [.ref b]) >>= fun v => pure (some v)) (fun r s' => ∃ k, r = some (.bool k) ∧ EP X pins σ Q (.bool k) s') X.xe s := wpAny_bind (wpAny_mono entry (fun v s' ⟨k, e, q⟩ => wpAny_pure ⟨k, by rw [e], q⟩) fun _ _ h' => h')
    have fin2 := wpAny_mono fin (Q' := fun r s' => wpAny (model X.prog X.w) X.A (match r with | some .notImplemented | none => pure none | some v => pure (some v)) (fun r s' => ∃ v, r = some v ∧ EP X pins σ Q v s') X.xe s') (fun r s' ⟨k, e, q⟩ => by subst e; exact wpAny_pure ⟨_, rfl, q⟩) fun _ _ z => z
    split
    · exact wpAny_bind (wpAny_pure (wpAny_pure fin2))
    · exact wpAny_tryCatch (wpAny_bind (wpAny_pure (wpAny_pure fin2)))
  show wpAny _ _ (richCompare .NotEq (.ref a) (.ref b)) _ _ s
  unfold richCompare
  simp only [oneThing_ref]
  refine wpAny_holding (wpAny_bind (wpAny_cRoomFor hr.units0 ?_))
  refine wpAny_bind (J.type.here (wpAny_bind (J'.type.here ?_)))
  rw [if_neg (by simp)]
  refine wpAny_bind (wpAny_pure ?_)
  simp only [Bool.false_eq_true, if_false]
  refine wpAny_bind (wpAny_mono one (fun r s' z => ?_) fun _ _ e => e)
  obtain ⟨v, rfl, hq⟩ := z
  exact wpAny_pure hq
end
/-! ### list(tuple), l[i] = x -/
section
variable {X : Cx} {A : Type} {R : Rel A} {P : Hp}
def rListT (K : PySem.W.Frag) : List V → Hp → VK → Prop := fun xs H Q => ∃ (p : Addr) (ys : List V), xs = [.ref p] ∧ SqT K H p ys ∧ ∀ l, H l = none → Q (.ref l) (upd H l (.lst ys))
theorem c_listT : CallR X (.type "list") (rListT X.K) := fun pins s σ H xs us Q I r h => by
  obtain ⟨p, ys, rfl, hs, q⟩ := h
  exact call_list_of pins s σ H _ us Q I r ⟨p, ys, rfl, .inr hs, q⟩
theorem AR.set {v : V} {x : A} (hx : R P v x) : ∀ {vs : List V} {xs : List A} (n : Nat), AR R P vs xs → AR R P (vs.set n v) (xs.set n x)
  | _, _, _, .nil => .nil
  | _, _, 0, .cons _ t => .cons hx t
  | _, _, n + 1, .cons h t => .cons h (AR.set hx n t)
theorem AR.ixN {vs : List V} {xs : List A} {i : Int} (h : AR R P vs xs) (hi : inR xs.length i) : ixN vs.length i = some (ixP xs.length i) := by
  rw [h.len]
  exact ixN_ixP hi
end
end G
namespace G
open PySem PySem.Spec PyProof.Rows L2 PySem.W
/-! ### an own exception's __init__ that says super().__init__('..') -/
section
variable {prog : Program} {w : World} {A : Around} {E : Value → Shared → Prop} {h : Heap} {g : Array GenState} {d : Drawn} {t : Nat} {os : OsState}
variable {nm q : Str} {C N : Addr} {bs bm : List Value} {hdct : Bool} {sn : List Str} {sub : List Value} {ab : Bool} {col : Option Bool} {dd : Option Addr} {k0 k1 k2 k3 k5 : Option Value}
/-- ValueError.__init__, bound to the exception, is called -/
theorem call_mw {u e t0 : Addr} {rest : List Value} {Q : Value → Shared → Prop}
    (hC : h.get? C = some (excClassObj nm q C N bs bm hdct sn sub ab col dd k0 k1 k2 k3 k5 "ValueError.__new__")) (he : h.get? e = some (HandSPX.excO C t0)) (hu : h.get? u = some (kxs_mw "ValueError.__init__" e)) (hrest : rest.length ≤ sizeLine)
    (hq : ∀ h' t1, (∀ b o, b ≠ e → h.get? b = some o → h'.get? b = some o) → h'.get? e = some (HandSPX.excO C t1) → Q .none ⟨h', g, d, t, os⟩) :
    wpAny (model prog w) A (call (.ref u) rest) Q E ⟨h, g, d, t, os⟩ := by
  refine wpAny_call (codeAny_of_tree ?_)
  show wpAny _ A.in1 (callAny (.ref u) ⟨rest, []⟩) _ _ _
  simp only [callAny]
  refine wpAny_bind (wpAny_load hu ?_)
  simp only [kxs_mw, show (Value.type "method-wrapper" == Value.type "method" || Value.type "method-wrapper" == Value.type "builtin_function_or_method" || Value.type "method-wrapper" == Value.type "method-wrapper") = true by decide, if_true]
  refine KFB.if_so (by decide) ?_
  refine wpAny_bind (check_bound_init PySem.F.excBase_ValueError.toExcCallFacts hC he rfl ?_)
  refine wpAny_bind (wpAny_pure (wpAny_pure ?_))
  refine ⟨plainId_quiet PySem.F.excBase_ValueError.init.plain _, codeAny_builtin PySem.F.excBase_ValueError.initEntry ?_⟩
  exact exc_init_tree (cls := .ref C) (t0 := t0) (dv := none) (c2 := .none) (c3 := .none) (b4 := .bool false) he hrest fun h' k e' t' => hq h' _ k e'
end

section
variable {X : Cx} {σ : L2.St} {H : Hp} {s : Shared} {a C f cda cc : Addr} {m : Str → Option Value}
/-- a new object is pinned -/
theorem pin_new {pins : List (Addr × Obj)} {o : Obj} {h' : Heap} {tk : Nat} (I : L2.Inv X pins σ H s) (k : ∀ b u, s.heap.get? b = some u → h'.get? b = some u) (e : h'.get? s.heap.objs.size = some o) (hd : ∀ v, o.data ≠ .cell v) :
    L2.Inv X ((s.heap.objs.size, o) :: pins) σ H { s with heap := h', toks := tk } := by
  have J := I.kept (t' := tk) k
  refine J.pins_of fun p hp => ?_
  rcases List.mem_cons.mp hp with rfl | hp
  · exact ⟨e, I.hok.fresh (Nat.le_refl _), fun z => absurd I.lt (by rw [← z]; exact Nat.lt_irrefl _), I.nofs (Nat.le_refl _), hd⟩
  · exact J.pin p (List.mem_append_right _ hp)
/-- what stands written of the __init__ -/
structure ExI (P : Program) (K : PySem.W.Frag) (qual : Str) (st : Stmt) (C f cda cc : Addr) (fd : FuncData) : Prop where
  lk : ∃ oc od doc pm ct osl, K.lookup f = some ⟨oc, od, .func fd, osl⟩ ∧ fd = PySem.W.fnX "__init__" qual (defArgs st) (defBody st) (defScope st) [("__class__", cc)] .none .none doc pm none (.ref cda) ct
  code : codeIn K (.ref cda) qual = true
  hcode : ∃ ccl cdd vs ccs file tf, K.lookup cda = some ⟨ccl, cdd, .fields vs, ccs⟩ ∧ vs[2]? = some (.str file tf) ∧ ((P.main.file : Str) == file) = true
  cell : ∃ cl cld csl, K.lookup cc = some ⟨cl, cld, .cell (some (.ref C)), csl⟩
  top : (P.main.scope.names.lookup ("super" : Str)).isSome = false
  sup : nsIn K mainGlobals "super" = some none
  op : nsIn K cStatics "thirdparty.any" = some none
  oex : OexC K C
  sin : ks_superIn K C C "__init__" = some (some (.builtin "ValueError.__init__"))
  sub : subIn K (.ref C) (.type "ValueError") = some true
  own : mroIn K C (.ref C) = some true
theorem super_init {qual : Str} {st : Stmt} {fd : FuncData} {body : List Stmt} {msg : Str} {j : Nat} {p0 p1 p2 p3 p4 p5 : Pos} {ar : Arg} (T : ExI X.prog X.K qual st C f cda cc fd) (henv : X.env = envX qual (defScope st) X.env.locals f (.ref cda) [("__class__", cc)]) (hmg : X.mg "super" = none)
    (hp : (fd.params.posonlyargs ++ fd.params.args).head? = some ar) (hks : (defScope st).names.lookup ("super" : Str) = some .globalImplicit) (hkc : (defScope st).names.lookup ("__class__" : Str) = some .free) (hka : (defScope st).names.lookup ar.arg = some .local) (hk : (defScope st).kind = .function)
    (I : L2.Inv X [] σ H s) (hns : s.heap.Ns X.env.locals m) (hv : m ar.arg = some (.ref a)) (ha : H a = some (exo a C none)) {pl : Sem Bool}
    (he : eval (.Call (.Attribute (.Call (.Name "super" p0) [] [] p1) "__init__" p2) [.Constant (.str msg) j p3] [] p4) X.env = (do
      let ov ← attributeBase (.Call (.Name "super" p0) [] [] p1) "__init__" X.env (eval (.Call (.Name "super" p0) [] [] p1) X.env)
      standAt p2.atName
      let (f, first) ← holding [ov] (getMethod ov "__init__" pl)
      callWith p4 f first (backTo p4 (starEach [.Constant (.str msg) j p3] X.env)) []) := by rfl) (hsw : swapsWith (.Call (.Attribute (.Call (.Name "super" p0) [] [] p1) "__init__" p2) [.Constant (.str msg) j p3] [] p4) none p5.line X.env = pure false := by rfl) :
    PySem.wpAt (model X.prog X.w) X.A (.func body X.env) (exec (.Expr (.Call (.Attribute (.Call (.Name "super" p0) [] [] p1) "__init__" p2) [.Constant (.str msg) j p3] [] p4) p5) X.env) (fun fl s' => fl = .next ∧ L2.Inv X [] σ H s') X.xe s := by
  obtain ⟨oc, od, doc, pm, ct, osl, lk, efd⟩ := T.lk
  obtain ⟨ccl, cdd, vs, ccs, file, tf, lcode, hvs, hfile⟩ := T.hcode
  obtain ⟨cl, cld, csl, lcell⟩ := T.cell
  obtain ⟨nm, q, N, bs, bm, sn, sb, ab, col, dd, k0, k1, k2, k3, k5, hC, hbm⟩ := T.oex.cls
  have KX := I.kIn
  have hD1 := KX _ _ hC
  obtain ⟨t1, ho⟩ := exo_at I.hok ha
  have hcl : PySem.W.clsIn X.K C = some { name := nm, bases := bs, mro := .ref C :: bm, ns := N, qualname := q, hasDict := true, slotNames := sn, subclasses := sb, abstract := ab, collection := col, hasDel := false } := by unfold PySem.W.clsIn; rw [hC] <;> rfl
  have hkE : X.env.scope = defScope st := by rw [henv]
  have ek : ∀ y, X.env.kindOf y = (defScope st).names.lookup y := fun y => by
    show X.env.scope.names.lookup y = _
    rw [hkE]
  refine ks_wpAt_Expr_any (ks_wpAt_MethodCall (pl := pl) ?_ he) I.quiet hsw
  refine ks_wpAt_super_base (f := f) (cc := cda) (fd := fd) (ar := ar) ((ek _).trans hks) ((ek _).trans hkc) (by decide) (by rw [henv]) (KX _ _ lk) rfl hp (by rw [henv]) (KX _ _ lcode) rfl hvs hfile T.top ?_
  obtain ⟨mb, b1, b2⟩ := I.mod.blt
  refine ks_loadName_global (by rw [hkE]; exact hk) ((ek _).trans hks) (Calls.loadGlobal_builtin (by rw [I.ok.glob]; exact I.mod.glob.keeps I.bk) hmg (by rw [I.ok.blt]; exact b1.keeps I.bk) ((b2 _ (by decide +kernel)).trans (by rfl)) ⟨rfl, ?_⟩)
  refine wpAny_loadName_free (by rw [hkE]; exact hk) ((ek _).trans hkc) (by rw [henv]; rfl) ⟨_, KX _ _ lcell, rfl⟩ ?_
  refine wpAny_loadName_local (by rw [hkE]; exact hk) ((ek _).trans hka) hns hv ?_
  refine ks_wpAny_isType_cls hD1 rfl ⟨rfl, ?_⟩
  obtain ⟨hh, g, d, tk, os⟩ := s
  refine ks_wpAny_call_super hD1 rfl ho rfl (fun c e => by cases e) (looks_mroIn KX T.own) (fun h1 e1 kk1 => ?_)
  have I1 := pin_new (tk := tk) I kk1 e1 (fun v e => by cases e)
  have hI : Looks (model X.prog X.w) h1 (isInstance (.ref a) (.type "ValueError")) true := by
    have L1 : PySem.W.InstAt h1 a { cls := .ref C, data := .fields #[.ref t1, .none, .none, .none, .bool false, .none] } C none := ⟨kk1 _ _ ho, rfl, rfl, trivial⟩
    exact L1.type.andThen (looks_subIn I1.kIn T.sub)
  have hne : a ≠ C := fun z => by
    have e2 := KX _ _ hC
    rw [← z, show hh.get? a = _ from ho] at e2
    cases e2
  have hsin := T.sin
  unfold ks_superIn at hsin
  rw [hcl] at hsin
  refine kxs_getMethod kxs_ValueError e1 (looks_opaque I1.kIn T.op) (l₀ := .ref C :: bm) (fun A Q E s k q => wpAny_bind ((looks_clsIn I1.kIn hcl) A _ E s k (wpAny_pure q))) rfl I1.kIn hsin hI hne (by decide) ?_
  have I2 := pin_new (tk := tk + 1) I1 (h' := h1.push (kxs_mw "ValueError.__init__" a)) (fun b u e => Heap.get?_push_of_some _ e) (Heap.get?_push_at rfl rfl) (fun v e => by cases e)
  refine kxs_callWith (i := "ValueError.__init__") (x := a) (by rfl) (Calls.evalArgs_plain (thn ((pa_cons (pe_str (x := msg) (j := j) (pos := p3)) pa_nil).run p4 _ _ σ H (fun vs' H' => vs'.length ≤ 1000 ∧ H' = H) I2 ?_) fun us s3 ⟨vs3, H3, I3, r3, hl3, eH⟩ => ?_))
  · exact ⟨by show 1 ≤ 1000; decide, rfl⟩
  · subst eH
    have pm := I3.pin (h1.objs.size, kxs_mw "ValueError.__init__" a) (List.mem_append_right _ List.mem_cons_self)
    refine ⟨pm.1, ?_⟩
    obtain ⟨t3, ho3⟩ := exo_at I3.hok ha
    obtain ⟨h3, g3, d3, tk3, os3⟩ := s3
    refine call_mw (I3.kIn _ _ hC) ho3 pm.1 (by have := r3.length; show us.length ≤ sizeLine; rw [sizeLine_eq]; omega) (fun h4 t4 k4 e4 => ⟨rfl, ?_⟩)
    have J := I3.write (t' := tk3) (x := a) (e := a) (o := exo a C none) (by rw [ha]; exact True.intro) (.inl rfl) k4 ⟨_, e4⟩ (exo_ok e4)
    have eu : upd H3 a (exo a C none) = H3 := by
      funext b
      by_cases hb : b = a
      · rw [hb, upd_same, ha]
      · rw [upd_ne hb]
    rw [eu] at J
    exact J.pins_of fun p hp => by cases hp
/-- THE RULE: such an __init__ by what stands behind super().__init__('..') -/
theorem exc_fn {P : Program} {w : World} {K : PySem.W.Frag} {mg : Str → Option Value} {base : Heap} {k : Nat} {qual : Str} {st : Stmt} {fd : FuncData} {rest : List Stmt} {msg : Str} {j : Nat} {p0 p1 p2 p3 p4 p5 : Pos} {ar : Arg} {N ps : List Str} {sp : Sp}
    (T : ExI P K qual st C f cda cc fd) (hmg : mg "super" = none) (hbd : defBody st = .Expr (.Call (.Attribute (.Call (.Name "super" p0) [] [] p1) "__init__" p2) [.Constant (.str msg) j p3] [] p4) p5 :: rest)
    (hp : ((defArgs st).posonlyargs ++ (defArgs st).args).head? = some ar) (hks : (defScope st).names.lookup ("super" : Str) = some .globalImplicit) (S : NdefX.NScope N ps ["__class__"] (defScope st)) (h0 : ps[0]? = some ar.arg)
    (len : ∀ vs H Q E, sp vs H Q E → vs.length = ps.length) (hsp : ∀ vs H Q E, sp vs H Q E → ∃ a vr, vs = .ref a :: vr ∧ H a = some (exo a C none))
    (hbody : ∀ (A : Around) (outer : List Env) (s : Shared) (H : Hp) (vs : List V) (Q : VK) (E : XK), sp vs H Q E →
      ∃ t, PSs (NdefX.ncx CX0 P w K mg base N ⟨"__init__", qual, defArgs st, defBody st, defScope st, [("__class__", cc)], cda⟩ f A outer s H E) rest t ∧ t { nx := fun _ H' => Q .non H', rt := Q } (NdefX.startF N vs [some (.ref C)]) H)
    (he : ∀ L, ∃ pl : Sem Bool, eval (.Call (.Attribute (.Call (.Name "super" p0) [] [] p1) "__init__" p2) [.Constant (.str msg) j p3] [] p4) (envX qual (defScope st) L f (.ref cda) [("__class__", cc)]) = (do
      let ov ← attributeBase (.Call (.Name "super" p0) [] [] p1) "__init__" (envX qual (defScope st) L f (.ref cda) [("__class__", cc)]) (eval (.Call (.Name "super" p0) [] [] p1) (envX qual (defScope st) L f (.ref cda) [("__class__", cc)]))
      standAt p2.atName
      let (g, first) ← holding [ov] (getMethod ov "__init__" pl)
      callWith p4 g first (backTo p4 (starEach [.Constant (.str msg) j p3] (envX qual (defScope st) L f (.ref cda) [("__class__", cc)]))) [])) (hsw : ∀ L, swapsWith (.Call (.Attribute (.Call (.Name "super" p0) [] [] p1) "__init__" p2) [.Constant (.str msg) j p3] [] p4) none p5.line (envX qual (defScope st) L f (.ref cda) [("__class__", cc)]) = pure false) :
    FnOk P w K mg base CX0 (k + 1) f fd ps sp := by
  refine ⟨len, fun A outer s H args us vs Q E hr e0 hb r hq => ?_⟩
  have hl := len _ _ _ _ hq
  obtain ⟨a, vr, rfl, ha⟩ := hsp _ _ _ _ hq
  have KX : K.In s.heap := e0.mod.kin.keeps fun b o e => (e0.bs b o e).1
  have lim : s.heap.NoLimit := e0.mod.nolimit.keeps fun b o e => (e0.bs b o e).1
  obtain ⟨oc, od, doc, pm, ct, osl, lk, efd⟩ := T.lk
  obtain ⟨cl, cld, csl, lcell⟩ := T.cell
  subst efd
  refine ks_codeAny_call_defAt (body := defBody st) hr.depth (KX _ _ lk) rfl lim (codeRec_of KX T.code) rfl hb S.nocell (fun ⟨n, _⟩ hy => S.par n (List.of_mem_zip hy).1) (fun h₁ hns kp => ?_) S.co S.gen S.kind
  have bC := e0.bs _ _ (e0.mod.kin _ _ lcell)
  have CA : NdefX.CellsAt [("__class__", cc)] ["__class__"] [some (.ref C)] s.heap H := by
    have one : ∀ {y : Str} {c : Addr}, List.lookup y [(("__class__" : Str), cc)] = some c → y = "__class__" ∧ c = cc := fun {y c} e => by
      rw [List.lookup_cons] at e
      split at e
      · rename_i hy
        exact ⟨by simpa using hy, (Option.some.inj e).symm⟩
      · cases e
    refine ⟨rfl, fun y c e => ?_, fun x y c e1 e2 => ?_, fun i y e => ?_⟩
    · obtain ⟨rfl, rfl⟩ := one e
      exact ⟨bC.2, _, ⟨_, bC.1, rfl⟩⟩
    · rw [(one e1).1, (one e2).1]
    · match i with
      | 0 =>
        cases e
        refine ⟨cc, by simp [List.lookup], fun v hv => ?_⟩
        cases hv
        exact ⟨.ref C, rfl, ⟨_, bC.1, rfl⟩⟩
      | i + 1 => cases e
  have I := NdefX.inv_startN (CX := CX0) (E := E) (F := ⟨"__init__", qual, defArgs st, defBody st, defScope st, [("__class__", cc)], cda⟩) (f := f) (tk := s.toks + (ps.zip us).length) S hr.hd e0 hl r CA hns kp
  obtain ⟨t, ht, hq2⟩ := hbody A outer s H _ Q E hq
  have hus : us[0]? = some (.ref a) := by
    cases r with
    | cons r1 _ =>
      cases r1
      rfl
  have ndP : ps.Nodup := by
    have q := S.nd.sublist (List.take_sublist (ps.length + [("__class__" : Str)].length) N)
    rw [S.pre] at q
    exact (List.nodup_append.mp q).1
  have hv := NdefX.zip_look ndP h0 hus
  have eb : execs (defBody st) (NdefX.ncx CX0 P w K mg base N ⟨"__init__", qual, defArgs st, defBody st, defScope st, [("__class__", cc)], cda⟩ f A outer s H E).env = execs (.Expr (.Call (.Attribute (.Call (.Name "super" p0) [] [] p1) "__init__" p2) [.Constant (.str msg) j p3] [] p4) p5 :: rest) (NdefX.ncx CX0 P w K mg base N ⟨"__init__", qual, defArgs st, defBody st, defScope st, [("__class__", cc)], cda⟩ f A outer s H E).env := by rw [hbd]
  show PySem.wpAt (model P w) (NdefX.ncx CX0 P w K mg base N ⟨"__init__", qual, defArgs st, defBody st, defScope st, [("__class__", cc)], cda⟩ f A outer s H E).A (.func (defBody st) (NdefX.ncx CX0 P w K mg base N ⟨"__init__", qual, defArgs st, defBody st, defScope st, [("__class__", cc)], cda⟩ f A outer s H E).env) (execs (defBody st) (NdefX.ncx CX0 P w K mg base N ⟨"__init__", qual, defArgs st, defBody st, defScope st, [("__class__", cc)], cda⟩ f A outer s H E).env) _ (NdefX.ncx CX0 P w K mg base N ⟨"__init__", qual, defArgs st, defBody st, defScope st, [("__class__", cc)], cda⟩ f A outer s H E).xe _
  rw [eb]
  obtain ⟨pl, he⟩ := he s.heap.objs.size
  refine ks_wpAt_execs_cons (ks_wpAt_mono (super_init (body := defBody st) T rfl hmg hp hks (S.frk _ (by simp)) (S.par _ (List.mem_of_getElem? h0)) S.kind I hns hv ha he (hsw _)) (fun fl s2 hfl => ?_) fun _ _ z => z)
  obtain ⟨rfl, I2⟩ := hfl
  refine wpAt_of_wpAny (wpAny_mono (ht.run [] s2 _ H _ I2 hq2) (fun fl s' hs => ?_) fun e s' hs => hs)
  have fin : ∀ {σ' : L2.St} {H' : Hp} {v : V} {u : Value}, L2.Inv (NdefX.ncx CX0 P w K mg base N ⟨"__init__", qual, defArgs st, defBody st, defScope st, [("__class__", cc)], cda⟩ f A outer s H E) [] σ' H' s' → L2.RelV v u → Q v H' → CE outer P w H s Q u s' :=
    fun {σ' H' v u} J rv q => ⟨v, H', J.os, J.bare, J.base, J.hok, rv, q⟩
  cases fl with
  | ret u =>
    obtain ⟨v, σ', H', J, rv, q⟩ := hs
    exact fin J rv q
  | next =>
    obtain ⟨σ', H', J, q⟩ := hs
    exact fin (v := V.non) (u := Value.none) J rfl q
  | brk =>
    obtain ⟨_, _, _, q⟩ := hs
    exact False.elim q
  | cont =>
    obtain ⟨_, _, _, q⟩ := hs
    exact False.elim q
end
end G
namespace G
open PySem PySem.Spec PyProof.Rows L2
/-! ### results that may be exceptions -/
inductive FV where
  | i (n : Int)
  | s (t : List Nat)
  deriving DecidableEq
def FV.v : FV → V
  | .i n => .int n
  | .s t => S t
def FV.gi : FV → Option Int
  | .i n => some n
  | .s _ => none
def FV.gs : FV → Option (List Nat)
  | .i _ => none
  | .s t => some t
theorem FV.gi_v {a : FV} {n : Int} (h : a.gi = some n) : a.v = .int n := by
  cases a with
  | i m => cases h; rfl
  | s t => cases h
theorem FV.gs_v {a : FV} {t : List Nat} (h : a.gs = some t) : a.v = S t := by
  cases a with
  | i m => cases h
  | s t => cases h; rfl
/-- an exception: its class's number, its fields -/
abbrev Er := Nat × FV × FV
inductive Rs (A : Type) where
  | ok (x : A)
  | er (e : Er)
def Rs.el {A B : Type} (t : Rs A) (f : Er → Option B) (g : A → Option B) : Option B := match t with
  | .ok x => g x
  | .er e => f e
theorem Rs.el_ok {A B : Type} {x : A} {f : Er → Option B} {g : A → Option B} : Rs.el (.ok x) f g = g x := rfl
theorem Rs.el_er {A B : Type} {e : Er} {f : Er → Option B} {g : A → Option B} : Rs.el (.er e) f g = f e := rfl
abbrev wE (E : XK) : WX := fun cls d _ H => E cls d H
/-! ### a def that may raise -/
section
variable {P : Program} {w : World} {K : PySem.W.Frag} {mg : Str → Option Value} {base : Heap} {N : List Str} {qual : Str} {scope : Scope} {f : Addr} {cd : Value} {A : Around} {outer : List Env} {s : Shared} {H : Hp} {E : XK}
theorem takes_def : Takes (cxOf (L2.CX P w) P w K mg base N qual scope f cd A outer s H E) (wE E) := takes_of rfl rfl rfl rfl
theorem passes_def : PassesOwn (model P w) (cxOf (L2.CX P w) P w K mg base N qual scope f cd A outer s H E).A (cxOf (L2.CX P w) P w K mg base N qual scope f cd A outer s H E).env (cxOf (L2.CX P w) P w K mg base N qual scope f cd A outer s H E).xe := passes_of (X := cxOf (L2.CX P w) P w K mg base N qual scope f cd A outer s H E) rfl
theorem FnOk.toX {k : Nat} {fd : FuncData} {ps : List Str} {sp : Sp} (F : FnOk P w K mg base CX0 k f fd ps sp) : FnOk P w K mg base (L2.CX P w) k f fd ps sp :=
  ⟨F.len, fun A outer s H args us vs Q E hr e0 hb r h => codeAny_mono (F.run A outer s H args us vs Q E hr e0 hb r h) fun r s' hq => by
    cases r with
    | error e => exact False.elim hq
    | ok fl => cases fl <;> exact hq⟩
end
theorem okStarLX {P : Program} {w : World} {K : PySem.W.Frag} {mg : Str → Option Value} {base : Heap} {x qual pv : Str} {st : Stmt} {f c : Addr} {N ps : List Str} {k : Nat} {sp : Sp} {oc kV doc pm ct : Value} {od an : Option Addr} {osl : Array (Option Value)}
    (lk : K.lookup f = some ⟨oc, od, .func (PySem.W.fnOf x qual (defArgs st) (defBody st) (defScope st) .none kV doc pm an (.ref c) ct), osl⟩) (hcd : PySem.W.codeIn K (.ref c) qual = true) (S : FnScope N (ps ++ [pv]) (defScope st))
    (hb : ∀ (us rest : List Value), us.length = ps.length → bindArgs (PySem.W.fnOf x qual (defArgs st) (defBody st) (defScope st) .none kV doc pm an (.ref c) ct) ⟨us ++ rest, []⟩ = (newTuple rest >>= fun t => pure (ps.zip us ++ [(pv, t)])))
    (hbody : ∀ (A : Around) (outer : List Env) (s : Shared) (H : Hp) (vs : List V) (Q : VK) (E : XK), Room k (A.deeper (envOfC qual (defScope st) s.heap.objs.size f (.ref c))) → sp vs H Q E →
      ∃ t, PSs (cxOf (L2.CX P w) P w K mg base N qual (defScope st) f (.ref c) A outer s H E) (defBody st) t ∧ t { nx := fun _ H' => Q .non H', rt := Q } (start N vs) H) : FnR P w K mg base (L2.CX P w) (k + 1) f (starSp ps.length sp) :=
  StX.fn_star lk hcd S StX.cxUp hb fun A outer s H vs Q E hr hsp => hbody A outer s H vs Q E hr hsp
/-! ### calls whose exceptions are wished for at the caller's slots -/
structure CalE (P : Program) (w : World) (K : PySem.W.Frag) (mg : Str → Option Value) (base : Heap) (k : Nat) (x : Str) (sp : Sp) : Prop where
  ex : ∃ (f : Addr) (fd : FuncData) (ps : List Str), FnOk P w K mg base (L2.CX P w) k f fd ps sp ∧ mg x = some (.ref f) ∧ PySem.W.keepIn K (.ref f) = true ∧ Binds K fd ps []
structure CalSE (P : Program) (w : World) (K : PySem.W.Frag) (mg : Str → Option Value) (base : Heap) (k : Nat) (C : Addr) (sp : Sp) : Prop where
  ex : ∃ f : Addr, FnR P w K mg base (L2.CX P w) k f sp ∧ Mk K C f
structure CalCE (P : Program) (w : World) (K : PySem.W.Frag) (mg : Str → Option Value) (base : Heap) (k : Nat) (C : Addr) (m : Str) (sp : Sp) : Prop where
  ex : ∃ (p f : Addr) (fd : FuncData) (ps : List Str) (mc : Value), FnOk P w K mg base (L2.CX P w) k f fd ps sp ∧ ClX.CRead K C mc ∧ ClX.CMet K C mc m p f ∧ Binds K fd ps []
structure CalME (P : Program) (w : World) (K : PySem.W.Frag) (mg : Str → Option Value) (base : Heap) (k : Nat) (C : Addr) (m : Str) (sp : Sp) : Prop where
  ex : ∃ (f : Addr) (fd : FuncData) (ps : List Str), FnOk P w K mg base (L2.CX P w) k f fd ps sp ∧ Meth K C m f ∧ Binds K fd ps [] ∧ Cls K C
section
variable {X : Cx} {W : WX} {k j : Nat} {x m : Str} {sp : Sp} {C : Addr} {p pos apos sp_ : Pos} {e o : Expr} {es : List Expr} {t : TA} {tn te ta : TE}
theorem pe_ce (c : CalE X.prog X.w X.K X.mg X.base k x sp) (tk : Takes X W) (hr : Room j X.A) (hk : k ≤ j) (hg : Gl X x) (ha : PA X (e :: es) t)
    (hdb : (x == ("__debug__" : Str)) = false := by decide) (he : starEach (e :: es) X.env = (false, eval e X.env) :: starEach es X.env := by rfl) (hpl : (backTo pos (starEach es X.env)).any (·.1) = false := by rfl) :
    PE X (.Call (.Name x p) (e :: es) [] pos) (tCallS sp (WE W) t) := by
  obtain ⟨f, fd, ps, F, hm, kp, b⟩ := c.ex
  exact pe_callS F (hr.mono hk) hg hm kp b (passAt tk) ha hdb he hpl
theorem run_fnRS {pins : List (Addr × Obj)} {σ : L2.St} {H : Hp} {s : Shared} {f : Addr} {E : XK} {Q : VK} {us : List Value} {vs : List V} (F : FnR X.prog X.w X.K X.mg X.base (L2.CX X.prog X.w) k f sp) (hr : Room k X.A) (hx : PassesAt (L2.CX X.prog X.w) X σ E) (I : L2.Inv X pins σ H s) (r : Vals vs us) (h : sp vs H Q E) :
    codeAny (model X.prog X.w) X.A (.call (.ref f) ⟨us, []⟩) (fun r s' => match r with | .ok (.ret v) => EP X pins σ Q v s' | .ok _ => False | .error e => X.xe e s') s := by
  refine codeAny_mono (F X.A X.stack s H us vs Q E hr I.env0 r h) fun r s' hq => ?_
  cases r with
  | error e => exact hx pins H s e s' I hq
  | ok fl =>
    cases fl with
    | ret u => exact I.after hq
    | next => exact False.elim hq
    | brk => exact False.elim hq
    | cont => exact False.elim hq
theorem run_makeRS {pins : List (Addr × Obj)} {σ : L2.St} {H : Hp} {s : Shared} {f : Addr} {E : XK} {Q : VK} {us : List Value} {vs : List V} (M : Mk X.K C f) (F : FnR X.prog X.w X.K X.mg X.base (L2.CX X.prog X.w) k f sp) (hr : Room (k + 1) X.A) (hx : PassesAt (L2.CX X.prog X.w) X σ E) (I : L2.Inv X pins σ H s) (r : Vals vs us)
    (h : ∀ x dx, H x = Option.none → H dx = Option.none → dx ≠ x → sp (V.ref x :: vs) (upd (upd H dx (.own x)) x (.ins C dx [])) (fun v H2 => v = .non ∧ Q (.ref x) H2) E) :
    wpAny (model X.prog X.w) X.A (call (.ref C) us) (EP X pins σ Q) X.xe s := by
  have hq := h (s.heap.objs.size + 1) s.heap.objs.size (I.hok.fresh (Nat.le_succ _)) (I.hok.fresh (Nat.le_refl _)) (Nat.ne_of_lt (Nat.lt_succ_self _))
  have I2 := Inv.made (C := C) I
  have r2 : Vals (V.ref (s.heap.objs.size + 1) :: vs) (Value.ref (s.heap.objs.size + 1) :: us) := .cons rfl r
  refine wpAny_call (make_map (f := f) I.kIn M.makes M.init (beq_iff_eq.mp M.fn) (codeAny_mono (F _ X.stack _ _ (Value.ref (s.heap.objs.size + 1) :: us) _ _ E (hr.make C us []) (I2.env0.make C us []) r2 hq) fun r s' hq' => ?_))
  cases r with
  | error e => exact hx pins _ _ e s' I2 hq'
  | ok fl =>
    cases fl with
    | ret u =>
      obtain ⟨v, H', I3, rv, ev, q3⟩ := I2.after hq'
      subst ev
      exact ⟨rv, ⟨V.ref (s.heap.objs.size + 1), H', I3, rfl, q3⟩⟩
    | next => exact False.elim hq'
    | brk => exact False.elim hq'
    | cont => exact False.elim hq'
def tMkE (C : Addr) (sp : Sp) (W : WX) (tn : TE) (t : TA) : TE := fun σ H Q => tn σ H fun y H0 => y = .ref C ∧ t σ H0 fun vs H1 => ∀ x dx, H1 x = Option.none → H1 dx = Option.none → dx ≠ x → sp (V.ref x :: vs) (upd (upd H1 dx (.own x)) x (.ins C dx [])) (fun v H2 => v = .non ∧ Q (.ref x) H2) (WE W σ)
theorem pe_cse (c : CalSE X.prog X.w X.K X.mg X.base k C sp) (tk : Takes X W) (hr : Room j X.A) (hk : k + 1 ≤ j) (hn : PE X (.Name x p) tn) (ha : PA X (e :: es) t)
    (he : starEach (e :: es) X.env = (false, eval e X.env) :: starEach es X.env := by rfl) (hpl : (backTo pos (starEach es X.env)).any (·.1) = false := by rfl) : PE X (.Call (.Name x p) (e :: es) [] pos) (tMkE C sp W tn t) := by
  obtain ⟨f, F, M⟩ := c.ex
  refine ⟨fun pins s σ H Q I h => ?_⟩
  refine wpAny_Call_Name_kw (thn (hn.run pins s σ H _ I h) fun u s0 ⟨y, H0, I0, ry, ey, q0⟩ => ?_)
  subst ey
  obtain rfl : u = Value.ref C := ry
  refine PySem.W.callWith_K (h₀ := X.base) I0.ok.mod.kin M.kp (thn (ha.run pos pins s0 σ H0 _ I0 q0) fun us s1 ⟨vs, H1, I1, r, q⟩ => ⟨I1.kIn, ?_⟩) he hpl
  exact run_makeRS M F (hr.mono hk) (passAt tk σ) I1 r q
theorem pe_cse0 (c : CalSE X.prog X.w X.K X.mg X.base k C sp) (tk : Takes X W) (hr : Room j X.A) (hk : k + 1 ≤ j) (hn : PE X (.Name x p) tn) : PE X (.Call (.Name x p) [] [] pos) (tMkE C sp W tn tNil) := by
  obtain ⟨f, F, M⟩ := c.ex
  refine ⟨fun pins s σ H Q I h => ?_⟩
  refine wpAny_Call_Name_kw (thn (hn.run pins s σ H _ I h) fun u s0 ⟨y, H0, I0, ry, ey, q0⟩ => ?_)
  subst ey
  obtain rfl : u = Value.ref C := ry
  exact PySem.W.callWith_K0 I0.kIn M.kp (run_makeRS (us := []) M F (hr.mono hk) (passAt tk σ) I0 .nil q0)
theorem pe_cse1 (c : CalSE X.prog X.w X.K X.mg X.base k C sp) (tk : Takes X W) (hr : Room j X.A) (hk : k + 1 ≤ j) (hn : PE X (.Name x p) tn) (he : PE X e te) (hst : starEach [.Starred e sp_] X.env = [(true, eval e X.env)] := by rfl) :
    PE X (.Call (.Name x p) [.Starred e sp_] [] pos) (tMkE C sp W tn (tLone X.K te)) := by
  obtain ⟨f, F, M⟩ := c.ex
  refine ⟨fun pins s σ H Q I h => ?_⟩
  refine wpAny_Call_Name_kw (thn (hn.run pins s σ H _ I h) fun u s0 ⟨y, H0, I0, ry, ey, q0⟩ => ?_)
  subst ey
  obtain rfl : u = Value.ref C := ry
  refine PySem.W.callWith_S (h₀ := X.base) I0.ok.mod.kin M.kp (thn (he.run pins s0 σ H0 _ I0 q0) fun v s1 ⟨y, H1, I1, ry, a, xs, ey, hxs, q⟩ => ?_) hst
  subst ey
  obtain rfl : v = Value.ref a := ry
  exact StX.star_any I1 hxs fun us s2 I2 rv => ⟨I2.kIn, run_makeRS M F (hr.mono hk) (passAt tk σ) I2 rv q⟩
theorem fnR_ofX {f : Addr} {fd : FuncData} {ps : List Str} (F : FnOk X.prog X.w X.K X.mg X.base (L2.CX X.prog X.w) k f fd ps sp) (b : Binds X.K fd ps []) : FnR X.prog X.w X.K X.mg X.base (L2.CX X.prog X.w) k f sp :=
  (F.raw b .nil).imp fun vs H Q E h => by rw [List.append_nil]; exact h
def tCMethE (C : Addr) (sp : Sp) (W : WX) (ta : TE) (t : TA) : TE := fun σ H Q => ta σ H fun x H1 => x = .ref C ∧ t σ H1 fun vs H2 => sp (.ref C :: vs) H2 Q (WE W σ)
theorem pe_cce {pl : Sem Bool} (c : CalCE X.prog X.w X.K X.mg X.base k C m sp) (tk : Takes X W) (hr : Room j X.A) (hk : k ≤ j) (ho : PE X o ta) (ha : PA X (e :: es) t)
    (hst : starEach (e :: es) X.env = (false, eval e X.env) :: starEach es X.env := by rfl) (hpl : (backTo pos (starEach es X.env)).any (·.1) = false := by rfl)
    (ht : eval (.Call (.Attribute o m apos) (e :: es) [] pos) X.env = (do
      let ov ← eval o X.env
      standAt apos.atName
      let (f, first) ← holding [ov] (getMethod ov m pl)
      callWith pos f first (backTo pos (starEach (e :: es) X.env)) (backToKw pos (keywordEach [] X.env))) := by rfl) :
    PE X (.Call (.Attribute o m apos) (e :: es) [] pos) (tCMethE C sp W ta t) := by
  obtain ⟨p, f, fd, ps, mc, F, r, cm, b⟩ := c.ex
  refine ⟨fun pins s σ H Q I h => ?_⟩
  refine PySem.W.methodCall_KW (pl := pl) (thn (ho.run pins s σ H _ I h) fun u s1 ⟨x, H1, I1, rx, ex, q⟩ => ?_) ht
  subst ex
  obtain rfl : u = Value.ref C := rx
  refine ClX.getmethcm_ok I1 r cm fun s2 I2 => ?_
  refine ClX.callwith_cm I2 (ClX.base_none I1 (Nat.le_refl _)) cm.fi (thn (ha.run pos _ s2 σ H1 _ I2 q) fun us s3 ⟨vs, H2, I3, rv, q2⟩ => ⟨⟨ClX.pin_at I3, I3.kIn⟩, ?_⟩) hst hpl
  have z : wpAny (model X.prog X.w) X.A (call (.ref s1.heap.objs.size) us) (EP X ((s1.heap.objs.size, PySem.W.methodObj (.ref f) (.ref C)) :: pins) σ Q) X.xe s3 :=
    wpAny_call (PySem.W.method_call (ClX.pin_at I3) (run_fnRS (us := .ref C :: us) (vs := .ref C :: vs) (fnR_ofX F b) (hr.mono hk) (passAt tk σ) I3 (.cons rfl rv) q2))
  exact thn z fun _ _ y => ClX.unpinE y
def tMethE (C : Addr) (m : Str) (sp : Sp) (W : WX) (ta : TE) (t : TA) : TE := fun σ H Q => ta σ H fun x H1 => ∃ a dx fs, x = .ref a ∧ H1 a = some (.ins C dx fs) ∧ fs.lookup m = none ∧ t σ H1 fun vs H2 => sp (x :: vs) H2 Q (WE W σ)
theorem pe_cme {pl : Sem Bool} (c : CalME X.prog X.w X.K X.mg X.base k C m sp) (tk : Takes X W) (hr : Room j X.A) (hk : k ≤ j) (ho : PE X o ta) (ha : PA X (e :: es) t)
    (hst : starEach (e :: es) X.env = (false, eval e X.env) :: starEach es X.env := by rfl) (hpl : (backTo pos (starEach es X.env)).any (·.1) = false := by rfl)
    (ht : eval (.Call (.Attribute o m apos) (e :: es) [] pos) X.env = (do
      let ov ← eval o X.env
      standAt apos.atName
      let (f, first) ← holding [ov] (getMethod ov m pl)
      callWith pos f first (backTo pos (starEach (e :: es) X.env)) (backToKw pos (keywordEach [] X.env))) := by rfl) :
    PE X (.Call (.Attribute o m apos) (e :: es) [] pos) (tMethE C m sp W ta t) := by
  obtain ⟨f, fd, ps, F, hm, b, cl⟩ := c.ex
  refine ⟨fun pins s σ H Q I h => ?_⟩
  refine PySem.W.methodCall_KW (pl := pl) (thn (ho.run pins s σ H _ I h) fun u s1 ⟨x, H1, I1, rx, a, dx, fs, ex, ea, l, q⟩ => ?_) ht
  subst ex
  obtain rfl : u = Value.ref a := rx
  refine getmeth_ok I1 ea cl hm l ?_
  refine PySem.W.callWith_K (first := [.ref a]) (h₀ := X.base) I.ok.mod.kin hm.kp (thn (ha.run pos pins s1 σ H1 _ I1 q) fun us s2 ⟨vs, H2, I2, r, q2⟩ => ⟨I2.kIn, ?_⟩) hst hpl
  exact wpAny_call (run_fnRS (us := .ref a :: us) (vs := .ref a :: vs) (fnR_ofX F b) (hr.mono hk) (passAt tk σ) I2 (.cons rfl r) q2)
end
end G
namespace G
open PySem PySem.Spec PyProof.Rows L2
/-! ### raise C(..) -/
def spX1 (C : Addr) (f : Str) : Sp := fun vs H Q _ => ∃ a v, vs = [.ref a, v] ∧ H a = some (exo a C none) ∧ ∀ dx, H dx = none → dx ≠ a → Q .non (upd (upd H dx (exd dx [(f, v)])) a (exo a C (some dx)))
def spX2 (C : Addr) (f g : Str) : Sp := fun vs H Q _ => ∃ a v u, vs = [.ref a, v, u] ∧ H a = some (exo a C none) ∧ ∀ dx, H dx = none → dx ≠ a → Q .non (upd (upd (upd H dx (exd dx [(f, v)])) a (exo a C (some dx))) dx (exd dx [(g, u), (f, v)]))
/-- the class at C, of the name x: it can be raised -/
structure ExC (P : Program) (w : World) (K : PySem.W.Frag) (mg : Str → Option Value) (base : Heap) (k : Nat) (x : Str) (C : Addr) (sp : Sp) : Prop where
  oex : OexC K C
  ex : ∃ (f : Addr) (fd : FuncData) (ps : List Str), PySem.W.findIn K (.ref C) "__init__" = some (some (.ref f)) ∧ PySem.W.typeIn K (.ref f) = some (.type "function") ∧ FnOk P w K mg base CX0 k f fd ps sp ∧ Binds K fd ps [] ∧ mg x = some (.ref C)
def tUp (t : TA) : TA := fun σ H Q => ∃ Q0 : List V → Hp → Prop, t σ H Q0 ∧ ∀ vs H1, Q0 vs H1 → Q vs H1
section
variable {X : Cx} {W : WX} {k j : Nat} {x f g : Str} {C : Addr} {p pos pos' : Pos} {e e1 e2 : Expr} {es : List Expr} {t : TA}
theorem pa_up (h : PA X es t) : PA X es (tUp t) := ⟨fun pos pins s σ H Q I ⟨Q0, h0, hm⟩ => thn (h.run pos pins s σ H Q0 I h0) fun us s' ⟨vs, H1, I1, r, q⟩ => ⟨vs, H1, I1, r, hm _ _ q⟩⟩
def tRaise1 (C : Addr) (f : Str) (W : WX) (t : TA) : TS := fun _ σ H => t σ H fun vs H1 => ∃ v, vs = [v] ∧ ∀ d, H1 d = none → W (.ref C) (some d) σ (upd H1 d (.xd [(f, v)]))
def tRaise2 (C : Addr) (f g : Str) (W : WX) (t : TA) : TS := fun _ σ H => t σ H fun vs H1 => ∃ v u, vs = [v, u] ∧ ∀ d, H1 d = none → W (.ref C) (some d) σ (upd H1 d (.xd [(g, u), (f, v)]))
theorem upd_end {H1 : Hp} {a d : Addr} {o o1 o2 : HO} (ha : H1 a = none) (hd : d ≠ a) : upd (del (upd (upd (upd H1 a o) d o1) a o2) a) d o = upd H1 d o := by
  funext b
  by_cases hb : b = d
  · rw [hb, upd_same, upd_same]
  · rw [upd_ne hb, upd_ne hb]
    by_cases hba : b = a
    · rw [hba, del_same, ha]
    · rw [del_ne hba, upd_ne hba, upd_ne hb, upd_ne hba]
theorem upd_end' {H1 : Hp} {a d : Addr} {o o0 o1 o2 : HO} (ha : H1 a = none) (hd : d ≠ a) : upd (del (upd (upd (upd H1 a o0) d o1) a o2) a) d o = upd H1 d o := by
  funext b
  by_cases hb : b = d
  · rw [hb, upd_same, upd_same]
  · rw [upd_ne hb, upd_ne hb]
    by_cases hba : b = a
    · rw [hba, del_same, ha]
    · rw [del_ne hba, upd_ne hba, upd_ne hb, upd_ne hba]
theorem upd_end2 {H1 : Hp} {a d : Addr} {o o0 o1 o2 o3 : HO} (ha : H1 a = none) (hd : d ≠ a) : upd (del (upd (upd (upd (upd H1 a o0) d o1) a o2) d o3) a) d o = upd H1 d o := by
  funext b
  by_cases hb : b = d
  · rw [hb, upd_same, upd_same]
  · rw [upd_ne hb, upd_ne hb]
    by_cases hba : b = a
    · rw [hba, del_same, ha]
    · rw [del_ne hba, upd_ne hb, upd_ne hba, upd_ne hb, upd_ne hba]
theorem ps_raise1 (T : ExC X.prog X.w X.K X.mg X.base k x C (spX1 C f)) (tk : Takes X W) (hr : Room j X.A) (hk : k + 1 ≤ j) (hg : Gl X x) (ha : PA X [e] t) (hc : X.calm = true := by rfl) (hdb : (x == ("__debug__" : Str)) = false := by decide)
    (he : starEach [e] X.env = (false, eval e X.env) :: starEach [] X.env := by rfl) : PS X (.Raise (some (.Call (.Name x p) [e] [] pos')) none pos) (tRaise1 C f W t) := by
  obtain ⟨fI, fd, ps, h1, h2, F, b, hm⟩ := T.ex
  refine ⟨fun pins s σ H D I h => (ps_raise hc tk (pmk_oex (dvs := []) (ds := []) T.oex h1 h2 F (hr.mono hk) b .nil (pass0 (X := X)) hg hm (pa_up ha) hdb he rfl)).run pins s σ H D I ⟨_, h, fun vs H1 q => ?_⟩⟩
  obtain ⟨v, rfl, q⟩ := q
  refine ⟨by show 1 ≤ 1000; decide, fun a na => ⟨a, v, rfl, upd_same, fun dx n1 n2 => ⟨rfl, dx, [(f, v)], upd_same, by rw [upd_ne n2, upd_same], ?_, ?_⟩⟩⟩
  · rw [upd_ne n2] at n1
    exact n1
  · rw [upd_end' na n2]
    rw [upd_ne n2] at n1
    exact q dx n1
theorem ps_raise2 (T : ExC X.prog X.w X.K X.mg X.base k x C (spX2 C f g)) (tk : Takes X W) (hr : Room j X.A) (hk : k + 1 ≤ j) (hg : Gl X x) (ha : PA X [e1, e2] t) (hc : X.calm = true := by rfl) (hdb : (x == ("__debug__" : Str)) = false := by decide)
    (he : starEach [e1, e2] X.env = (false, eval e1 X.env) :: starEach [e2] X.env := by rfl) (hpl : (backTo pos' (starEach [e2] X.env)).any (·.1) = false := by rfl) : PS X (.Raise (some (.Call (.Name x p) [e1, e2] [] pos')) none pos) (tRaise2 C f g W t) := by
  obtain ⟨fI, fd, ps, h1, h2, F, b, hm⟩ := T.ex
  refine ⟨fun pins s σ H D I h => (ps_raise hc tk (pmk_oex (dvs := []) (ds := []) T.oex h1 h2 F (hr.mono hk) b .nil (pass0 (X := X)) hg hm (pa_up ha) hdb he hpl)).run pins s σ H D I ⟨_, h, fun vs H1 q => ?_⟩⟩
  obtain ⟨v, u, rfl, q⟩ := q
  refine ⟨by show 2 ≤ 1000; decide, fun a na => ⟨a, v, u, rfl, upd_same, fun dx n1 n2 => ⟨rfl, dx, [(g, u), (f, v)], by rw [upd_ne (Ne.symm n2), upd_same], upd_same, ?_, ?_⟩⟩⟩
  · rw [upd_ne n2] at n1
    exact n1
  · rw [upd_end2 na n2]
    rw [upd_ne n2] at n1
    exact q dx n1
end
/-! ### the __init__s -/
section
variable {P : Program} {w : World} {K : PySem.W.Frag} {mg : Str → Option Value} {base : Heap} {k : Nat} {qual : Str} {st : Stmt} {fd : FuncData} {msg : Str} {j : Nat} {p0 p1 p2 p3 p4 p5 q1 q2 q3 q4 q5 q6 q7 q8 q9 : Pos} {ar : Arg} {C f cda cc : Addr} {fn gn pn pm : Str}
theorem init1 (T : ExI P K qual st C f cda cc fd) (hmg : mg "super" = none) (hbd : defBody st = [.Expr (.Call (.Attribute (.Call (.Name "super" p0) [] [] p1) "__init__" p2) [.Constant (.str msg) j p3] [] p4) p5, .Assign [.Attribute (.Name "self" q1) fn q2] (.Name pn q3) q4])
    (hp : ((defArgs st).posonlyargs ++ (defArgs st).args).head? = some ar) (har : ar.arg = "self") (hks : (defScope st).names.lookup ("super" : Str) = some .globalImplicit) (S : NdefX.NScope ["self", pn, "__class__"] ["self", pn] ["__class__"] (defScope st)) (hno : PySem.W.findIn K (.ref C) fn = some none)
    (hd : (pn == ("__debug__" : Str)) = false) (hcd : (pn == ("__classdict__" : Str)) = false)
    (hs : ∀ L, swapsWith (.Name pn q3) (some (.Attribute (.Name "self" q1) fn q2)) q4.line (PySem.W.envX qual (defScope st) L f (.ref cda) [("__class__", cc)]) = pure false)
    (he : ∀ L, ∃ pl : Sem Bool, eval (.Call (.Attribute (.Call (.Name "super" p0) [] [] p1) "__init__" p2) [.Constant (.str msg) j p3] [] p4) (PySem.W.envX qual (defScope st) L f (.ref cda) [("__class__", cc)]) = (do
      let ov ← attributeBase (.Call (.Name "super" p0) [] [] p1) "__init__" (PySem.W.envX qual (defScope st) L f (.ref cda) [("__class__", cc)]) (eval (.Call (.Name "super" p0) [] [] p1) (PySem.W.envX qual (defScope st) L f (.ref cda) [("__class__", cc)]))
      standAt p2.atName
      let (g, first) ← holding [ov] (getMethod ov "__init__" pl)
      callWith p4 g first (backTo p4 (starEach [.Constant (.str msg) j p3] (PySem.W.envX qual (defScope st) L f (.ref cda) [("__class__", cc)]))) []))
    (hsw : ∀ L, swapsWith (.Call (.Attribute (.Call (.Name "super" p0) [] [] p1) "__init__" p2) [.Constant (.str msg) j p3] [] p4) none p5.line (PySem.W.envX qual (defScope st) L f (.ref cda) [("__class__", cc)]) = pure false) :
    FnOk P w K mg base CX0 (k + 1) f fd ["self", pn] (spX1 C fn) := by
  refine exc_fn T hmg hbd hp hks S (by rw [har]; rfl) (fun vs H Q E ⟨a, v, h, _⟩ => by rw [h]; rfl) (fun vs H Q E ⟨a, v, h, ha, _⟩ => ⟨a, [v], h, ha⟩) (fun A outer s H vs Q E h => ?_) he hsw
  refine ⟨_, pss_one (ps_ost (pe_var (i := 0) rfl (.inl (S.par _ (by simp)))) (pe_var (i := 1) rfl (.inl (S.par _ (by simp))) hd hcd) (hs _)), ?_⟩
  obtain ⟨a, v, rfl, ha, q⟩ := h
  exact ⟨v, rfl, .ref a, rfl, a, C, rfl, T.oex, hno, .inl ⟨ha, fun dx n1 n2 => q dx n1 n2⟩⟩
theorem init2 (T : ExI P K qual st C f cda cc fd) (hmg : mg "super" = none) (hbd : defBody st = [.Expr (.Call (.Attribute (.Call (.Name "super" p0) [] [] p1) "__init__" p2) [.Constant (.str msg) j p3] [] p4) p5, .Assign [.Attribute (.Name "self" q1) fn q2] (.Name pn q3) q4, .Assign [.Attribute (.Name "self" q5) gn q6] (.Name pm q7) q8])
    (hp : ((defArgs st).posonlyargs ++ (defArgs st).args).head? = some ar) (har : ar.arg = "self") (hks : (defScope st).names.lookup ("super" : Str) = some .globalImplicit) (S : NdefX.NScope ["self", pn, pm, "__class__"] ["self", pn, pm] ["__class__"] (defScope st)) (hno : PySem.W.findIn K (.ref C) fn = some none) (hno2 : PySem.W.findIn K (.ref C) gn = some none)
    (hd2 : (pm == ("__debug__" : Str)) = false) (hcd2 : (pm == ("__classdict__" : Str)) = false)
    (hs2 : ∀ L, swapsWith (.Name pm q7) (some (.Attribute (.Name "self" q5) gn q6)) q8.line (PySem.W.envX qual (defScope st) L f (.ref cda) [("__class__", cc)]) = pure false)
    (hd : (pn == ("__debug__" : Str)) = false) (hcd : (pn == ("__classdict__" : Str)) = false)
    (hs : ∀ L, swapsWith (.Name pn q3) (some (.Attribute (.Name "self" q1) fn q2)) q4.line (PySem.W.envX qual (defScope st) L f (.ref cda) [("__class__", cc)]) = pure false)
    (he : ∀ L, ∃ pl : Sem Bool, eval (.Call (.Attribute (.Call (.Name "super" p0) [] [] p1) "__init__" p2) [.Constant (.str msg) j p3] [] p4) (PySem.W.envX qual (defScope st) L f (.ref cda) [("__class__", cc)]) = (do
      let ov ← attributeBase (.Call (.Name "super" p0) [] [] p1) "__init__" (PySem.W.envX qual (defScope st) L f (.ref cda) [("__class__", cc)]) (eval (.Call (.Name "super" p0) [] [] p1) (PySem.W.envX qual (defScope st) L f (.ref cda) [("__class__", cc)]))
      standAt p2.atName
      let (g, first) ← holding [ov] (getMethod ov "__init__" pl)
      callWith p4 g first (backTo p4 (starEach [.Constant (.str msg) j p3] (PySem.W.envX qual (defScope st) L f (.ref cda) [("__class__", cc)]))) []))
    (hsw : ∀ L, swapsWith (.Call (.Attribute (.Call (.Name "super" p0) [] [] p1) "__init__" p2) [.Constant (.str msg) j p3] [] p4) none p5.line (PySem.W.envX qual (defScope st) L f (.ref cda) [("__class__", cc)]) = pure false) :
    FnOk P w K mg base CX0 (k + 1) f fd ["self", pn, pm] (spX2 C fn gn) := by
  refine exc_fn T hmg hbd hp hks S (by rw [har]; rfl) (fun vs H Q E ⟨a, v, u, h, _⟩ => by rw [h]; rfl) (fun vs H Q E ⟨a, v, u, h, ha, _⟩ => ⟨a, [v, u], h, ha⟩) (fun A outer s H vs Q E h => ?_) he hsw
  refine ⟨_, pss_cons (ps_ost (pe_var (i := 0) rfl (.inl (S.par _ (by simp)))) (pe_var (i := 1) rfl (.inl (S.par _ (by simp))) hd hcd) (hs _)) (pss_one (ps_ost (pe_var (i := 0) rfl (.inl (S.par _ (by simp)))) (pe_var (i := 2) rfl (.inl (S.par _ (by simp))) hd2 hcd2) (hs2 _))), ?_⟩
  obtain ⟨a, v, u, rfl, ha, q⟩ := h
  exact ⟨v, rfl, .ref a, rfl, a, C, rfl, T.oex, hno, .inl ⟨ha, fun dx n1 n2 => ⟨u, rfl, .ref a, rfl, a, C, rfl, T.oex, hno2, .inr ⟨dx, [(fn, v)], upd_same, by rw [upd_ne n2, upd_same], by show 1 ≤ 900; decide, q dx n1 n2⟩⟩⟩⟩
end
/-! ### try: several clauses, with names or without -/
abbrev Clz := Value × Option Nat × (Addr → Value → Option Addr → TS)
def atO (σ : L2.St) : Option Nat → Option V → L2.St
  | none, _ => σ
  | some i, v => σ.set i v
def wCl (K : PySem.W.Frag) (Wout : WX) (D : Ends) : List Clz → WX
  | [] => Wout
  | (c, i, ts) :: r => fun cls d σ H => ∃ b, PySem.W.exmOne K cls c = some b ∧ (b = true → ∀ a, H a = none → ts a cls d { nx := fun σ' H' => D.nx (atO σ' i none) H', rt := D.rt, bk := fun σ' H' => D.bk (atO σ' i none) H', ct := fun σ' H' => D.ct (atO σ' i none) H' } (atO σ i (some (.ref a))) H) ∧ (b = false → wCl K Wout D r cls d σ H)
inductive HdsC (X : Cx) : List ExceptHandler → List Clz → Prop
  | nil : HdsC X [] []
  | cons {x : Str} {c : Value} {ts : Addr → Value → Option Addr → TS} {b₀ : Stmt} {suite : List Stmt} {np pos' : Pos} {hds : List ExceptHandler} {l : List Clz} (hc : Names X x c)
      (hsu : ∀ (a : Addr) (oe : Obj) (cls : Value) (d : Option Addr) (pn : List (Addr × Obj)), Zc cls d oe → (∃ vs, oe.data = .fields vs) → PSs (X.suite a ((a, oe) :: pn)) (b₀ :: suite) (ts a cls d)) (r : HdsC X hds l) :
      HdsC X (.ExceptHandler (some (.Name x np)) none (b₀ :: suite) pos' :: hds) ((c, none, ts) :: l)
  | conn {x n : Str} {i : Nat} {c : Value} {ts : Addr → Value → Option Addr → TS} {b₀ : Stmt} {suite : List Stmt} {np pos' : Pos} {hds : List ExceptHandler} {l : List Clz} (hN : X.N.Nodup) (hi : X.N[i]? = some n) (hln : X.env.kindOf n = some .local) (hc : Names X x c)
      (hsu : ∀ (a : Addr) (oe : Obj) (cls : Value) (d : Option Addr) (pn : List (Addr × Obj)), Zc cls d oe → (∃ vs, oe.data = .fields vs) → PSs (X.suite a ((a, oe) :: pn)) (b₀ :: suite) (ts a cls d)) (r : HdsC X hds l) :
      HdsC X (.ExceptHandler (some (.Name x np)) (some n) (b₀ :: suite) pos' :: hds) ((c, some i, ts) :: l)
section
variable {X : Cx} {body : List Stmt} {h₀ : ExceptHandler} {hds : List ExceptHandler} {l : List Clz} {pos : Pos} {tb : WX → TS} {Wout : WX}
theorem ps_tryc (hs : X.stack = X.env :: X.outer) (hf : X.env.frame = some X.env.locals) (tk : Takes X Wout)
    (hb : ∀ (W : WX) (pn : List (Addr × Obj)) (xe : Value → Shared → Prop), Takes (X.tr pn xe) W → PassesOwn (model X.prog X.w) X.A X.env xe → PSs (X.tr pn xe) body (tb W))
    (hh : HdsC X (h₀ :: hds) l) : PS X (.Try body (h₀ :: hds) [] [] pos) (fun D σ H => tb (wCl X.K Wout D l) D σ H) := by
  refine ⟨fun pins s σ H D I h => ?_⟩
  have ok := I.ok
  have hfr : X.A.frames = some (X.env :: X.outer) := by rw [ok.frames, hs]
  refine wpAny_Try_except ?_
  refine wpAny_mono ((hb (wCl X.K Wout D l) (X.pn ++ pins) (fun e s₁ => wpAny (model X.prog X.w) X.A (noteFrame e X.env) (fun _ s₂ => wpAny (model X.prog X.w) X.A (setFlight e none) (fun _ s₃ =>
    wpAny (model X.prog X.w) X.A (handleBy e X.env (h₀ :: hds)) (SP X pins D) X.xe s₃) X.xe s₂) X.xe s₁) (fun u s' xx => ?_) PassesOwn.looking).run [] s σ H D (I.toTry _) h) (fun f s1 hsp => ?_) (fun e s1 he => he)
  · obtain ⟨a, B, sI, pins', σ', H', cls, d, rfl, J', nb, up, sky, na, os, ag, w⟩ := xx
    have J : L2.Inv X pins σ' H' sI := J'.ofTry ok
    have sky' : Sky B (X.env :: X.outer) a (Zc cls d) X.env.locals s'.heap := by rw [← hs]; exact sky
    show wpAny (model X.prog X.w) X.A (noteFrame (.ref a) X.env) _ _ _
    refine Sky.land Zc.steady hfr hf sky' fun h3 fl3 up3 => ?_
    have J3 : L2.Inv X pins σ' H' { s' with heap := h3 } := J.landed nb fl3.1 (up.trans up3) os ag
    obtain ⟨oe3, vs3, he3, hz3, hd3⟩ := fl3.there
    have notFr : ∀ {h : Heap} {o : Obj} {vs : Array Value}, h.FunFrames B (X.env :: X.outer) → h.get? a = some o → o.data = .fields vs → a ∉ frs (X.env :: X.outer) := fun {h o vs} ff e dd hm => by
      obtain ⟨_, o', e', hnf⟩ := ff.mem hm
      rw [e] at e'; cases e'
      exact hnf _ dd
    have nfr := notFr fl3.2.2.1 he3 hd3
    have nL : a ≠ X.env.locals := fun z => nfr (List.mem_filterMap.mpr ⟨X.env, List.mem_cons_self, by rw [hf, z]⟩)
    have nF : a ∉ X.fs := fun hm => by
      obtain ⟨e, he, q⟩ := List.mem_filterMap.mp hm
      exact nfr (List.mem_filterMap.mpr ⟨e, List.mem_cons_of_mem _ he, q⟩)
    have S3 := J3.suite he3 hd3 na nL nF
    have LT : PySem.W.Looks (model X.prog X.w) h3 (typeOf (.ref a)) cls := fun A Q E s k q => wpAny_typeOf_ref (k _ _ he3) (by rw [hz3.1]; exact q)
    have test : ∀ {x : Str} {c : Value} {np : Pos} {Q : Value → Shared → Prop} {E : Value → Shared → Prop}, Names X x c → Q c { s' with heap := h3 } → wpAny (model X.prog X.w) (X.A.mark (some (.ref a))) (eval (.Name x np) X.env) Q E { s' with heap := h3 } := fun {x c np Q E} hc q => by
      obtain ⟨hg, hdbg, hm | ⟨hm, hv, hnn⟩⟩ := hc
      · exact ld_glob (X := X.suite a ((a, oe3) :: (X.pn ++ pins))) S3 hg hm q hdbg
      · exact ld_blt (X := X.suite a ((a, oe3) :: (X.pn ++ pins))) S3 hg hm hv q hnn hdbg
    have go : ∀ {hds' : List ExceptHandler} {l' : List Clz}, HdsC X hds' l' → wCl X.K Wout D l' cls d σ' H' →
        wpAny (model X.prog X.w) X.A (handleBy (.ref a) X.env hds') (SP X pins D) X.xe { s' with heap := h3 } := by
      intro hds' l' hk
      induction hk with
      | nil =>
        intro w
        refine wpAny_handleBy_nil ?_
        obtain ⟨k1, k2, k3, oe, vs, T, oT, ts', he, hz, hd, h1, hr⟩ := id fl3
        unfold PySem.passOn
        refine wpAny_bind (wpAny_field he hd h1 ?_)
        rw [if_neg (show ¬ ((Value.ref T == Value.none) = true) from by simp)]
        have fin : wpAny (model X.prog X.w) X.A (setFlight (.ref a) X.env.frame) (fun _ s4 => wpAny (model X.prog X.w) X.A (throw (.ref a) : Sem Flow) (SP X pins D) X.xe s4) X.xe { s' with heap := h3 } := by
          rw [hf]
          refine HandSPX.setFlight_upZ fl3 fun h4 hh4 up4 => wpAny_throw (tk _ _ ?_)
          exact ⟨a, B, sI, pins, σ', H', cls, d, rfl, J, nb, (up.trans up3).trans up4, .inr (.inr (by rw [hs]; exact hh4)), na, os, ag, w⟩
        first
          | exact wpAny_bind (wpAny_pure (wpAny_bind fin))
          | exact wpAny_bind fin
      | @cons x c ts b₀ suite np pos' hds2 l2 hc hsu r ih =>
        intro w
        obtain ⟨b, hb1, hyes, hno⟩ := w
        refine wpAny_handleBy_cons (codeAny_handlers_test ?_) (by intro q; cases q)
        have LM := PySem.W.exm_one (M := model X.prog X.w) (J3.kIn) LT hb1
        refine test hc (LM.here ?_)
        cases b with
        | true =>
          refine codeAny_handlers_suite ?_
          refine HandSPX.lands_againZ fl3 fun h4 fl4 up4 => ?_
          have J4 : L2.Inv X pins σ' H' { s' with heap := h4 } := J.landed nb fl4.1 ((up.trans up3).trans up4) os ag
          obtain ⟨oe4, vs4, he4, hz4, hd4⟩ := fl4.there
          have S4 := J4.suite he4 hd4 na nL nF
          refine wpAny_mono ((hsu a oe4 cls d (X.pn ++ pins) hz4 ⟨_, hd4⟩).run [] _ _ H' _ S4 (hyes rfl a na)) (fun f s6 hsp => ?_) (fun _ _ z => False.elim z)
          cases f with
          | next =>
            obtain ⟨σ6, H6, S6, q6⟩ := hsp
            exact ⟨_, _, S6.unsuite ok, q6⟩
          | brk =>
            obtain ⟨σ6, H6, S6, q6⟩ := hsp
            exact ⟨_, _, S6.unsuite ok, q6⟩
          | cont =>
            obtain ⟨σ6, H6, S6, q6⟩ := hsp
            exact ⟨_, _, S6.unsuite ok, q6⟩
          | ret u =>
            obtain ⟨v6, σ6, H6, S6, r6, q6⟩ := hsp
            exact ⟨_, _, _, S6.unsuite ok, r6, q6⟩
        | false =>
          show wpAny _ X.A (handleBy (.ref a) X.env hds2) _ _ _
          exact ih (hno rfl)
      | @conn x n i c ts b₀ suite np pos' hds2 l2 hN hi hln hc hsu r ih =>
        intro w
        obtain ⟨b, hb1, hyes, hno⟩ := w
        refine wpAny_handleBy_cons (codeAny_handlers_test ?_) (by intro q; cases q)
        have LM := PySem.W.exm_one (M := model X.prog X.w) (J3.kIn) LT hb1
        refine test hc (LM.here ?_)
        cases b with
        | true =>
          refine codeAny_handlers_suite_as ?_
          refine HandSPX.lands_againZ fl3 fun h4 fl4 up4 => ?_
          have J4 : L2.Inv X pins σ' H' { s' with heap := h4 } := J.landed nb fl4.1 ((up.trans up3).trans up4) os ag
          obtain ⟨oe4, vs4, he4, hz4, hd4⟩ := fl4.there
          have S4 := J4.suite he4 hd4 na nL nF
          have hloc : Loc X.env.scope n := .inl hln
          refine store_ok (X := X.suite a ((a, oe4) :: (X.pn ++ pins))) (v := .ref a) S4 hN hi hloc rfl (fun s5 S5 => ?_) (.inr hln)
          refine wpAny_mono ((hsu a oe4 cls d (X.pn ++ pins) hz4 ⟨_, hd4⟩).run [] s5 _ H' _ S5 (hyes rfl a na)) (fun f s6 hsp => ?_) (fun _ _ z => False.elim z)
          have end_ : ∀ {σ6 : L2.St} {H6 : Hp} {Q : Shared → Prop}, L2.Inv (X.suite a ((a, oe4) :: (X.pn ++ pins))) [] σ6 H6 s6 → (∀ s7, L2.Inv X pins (σ6.set i none) H6 s7 → Q s7) →
              wpAny (model X.prog X.w) X.A (do bindName X.env n .none; unbindBehindTheSuite X.env n pos') (fun _ s7 => Q s7) X.xe s6 := fun {σ6 H6 Q} S6 hq => gone_ok (S6.unsuite ok) hN hi hln hq
          cases f with
          | next =>
            obtain ⟨σ6, H6, S6, q6⟩ := hsp
            exact end_ S6 fun s7 J7 => ⟨_, _, J7, q6⟩
          | brk =>
            obtain ⟨σ6, H6, S6, q6⟩ := hsp
            exact end_ S6 fun s7 J7 => ⟨_, _, J7, q6⟩
          | cont =>
            obtain ⟨σ6, H6, S6, q6⟩ := hsp
            exact end_ S6 fun s7 J7 => ⟨_, _, J7, q6⟩
          | ret u =>
            obtain ⟨v6, σ6, H6, S6, r6, q6⟩ := hsp
            exact end_ S6 fun s7 J7 => ⟨_, _, _, J7, r6, q6⟩
        | false =>
          show wpAny _ X.A (handleBy (.ref a) X.env hds2) _ _ _
          exact ih (hno rfl)
    exact go hh w
  · cases f with
    | next =>
      obtain ⟨σ', H', J', q⟩ := hsp
      exact wpAny_execs_nil ⟨σ', H', J'.ofTry ok, q⟩
    | brk =>
      obtain ⟨σ', H', J', q⟩ := hsp
      exact ⟨σ', H', J'.ofTry ok, q⟩
    | cont =>
      obtain ⟨σ', H', J', q⟩ := hsp
      exact ⟨σ', H', J'.ofTry ok, q⟩
    | ret u =>
      obtain ⟨v, σ', H', J', r, q⟩ := hsp
      exact ⟨v, σ', H', J'.ofTry ok, r, q⟩
end
end G
namespace G
open PySem PySem.Spec PyProof.Rows L2
/-! ### data of unlike shapes -/
mutual
/-- data whose lists and tuples are known to the frozen heap -/
def Df (P : Hp) : PyData → V → Prop
  | .none, v => v = .non
  | .bool b, v => v = .bl b
  | .int i, v => v = .int i
  | .str x, v => v = .str x
  | .list ds, v => ∃ a vs, v = .ref a ∧ P a = some (.lst vs) ∧ DfAll P ds vs
  | .tuple ds, v => ∃ a vs, v = .ref a ∧ P a = some (.tup vs) ∧ DfAll P ds vs
  | .dict _, _ => False
def DfAll (P : Hp) : List PyData → List V → Prop
  | [], vs => vs = []
  | d :: ds, vs => ∃ u us, vs = u :: us ∧ Df P d u ∧ DfAll P ds us
end
section
variable {K : PySem.W.Frag} {P P' : Hp}
mutual
theorem df_mono (e : Ext P P') : ∀ (d : PyData) (v : V), Df P d v → Df P' d v
  | .none, _, h => by rw [Df] at h ⊢; exact h
  | .bool b, _, h => by rw [Df] at h ⊢; exact h
  | .int i, _, h => by rw [Df] at h ⊢; exact h
  | .str x, _, h => by rw [Df] at h ⊢; exact h
  | .list ds, _, h => by
    rw [Df] at h ⊢
    obtain ⟨a, vs, h1, h2, h3⟩ := h
    exact ⟨a, vs, h1, e _ _ h2, df_monoAll e ds vs h3⟩
  | .tuple ds, _, h => by
    rw [Df] at h ⊢
    obtain ⟨a, vs, h1, h2, h3⟩ := h
    exact ⟨a, vs, h1, e _ _ h2, df_monoAll e ds vs h3⟩
  | .dict _, _, h => by rw [Df] at h; exact h.elim
theorem df_monoAll (e : Ext P P') : ∀ (ds : List PyData) (vs : List V), DfAll P ds vs → DfAll P' ds vs
  | [], _, h => by rw [DfAll] at h ⊢; exact h
  | d :: ds, _, h => by
    rw [DfAll] at h ⊢
    obtain ⟨u, us, h1, h2, h3⟩ := h
    exact ⟨u, us, h1, df_mono e d u h2, df_monoAll e ds us h3⟩
end
mutual
theorem df_dp : ∀ (d : PyData) (v : V), Df P d v → Dp K P v d
  | .none, _, h => by rw [Df] at h; subst h; exact .non
  | .bool b, _, h => by rw [Df] at h; subst h; exact .bl b
  | .int i, _, h => by rw [Df] at h; subst h; exact .int i
  | .str x, _, h => by rw [Df] at h; subst h; exact .str x
  | .list ds, _, h => by
    rw [Df] at h
    obtain ⟨a, vs, rfl, h2, h3⟩ := h
    exact .lst (.inl (.inl h2)) (df_dpAll ds vs h3)
  | .tuple ds, _, h => by
    rw [Df] at h
    obtain ⟨a, vs, rfl, h2, h3⟩ := h
    exact .tup (.inl (.inl h2)) (df_dpAll ds vs h3)
  | .dict _, _, h => by rw [Df] at h; exact h.elim
theorem df_dpAll : ∀ (ds : List PyData) (vs : List V), DfAll P ds vs → DpAll K P vs ds
  | [], _, h => by rw [DfAll] at h; subst h; exact .nil
  | d :: ds, _, h => by
    rw [DfAll] at h
    obtain ⟨u, us, rfl, h2, h3⟩ := h
    exact .cons (df_dp d u h2) (df_dpAll ds us h3)
end
end
def yDt (K : PySem.W.Frag) : Rel PyData := fun P v d => Df P d v
theorem yDt_dp {K : PySem.W.Frag} {P : Hp} {v : V} {d : PyData} (h : yDt K P v d) : Dp K P v d := df_dp d v h
instance {K : PySem.W.Frag} : Mo (yDt K) := ⟨fun e h => df_mono e _ _ h⟩
def rEqDt (K : PySem.W.Frag) : R2 := fun x y H Q => ∃ d e, yDt K H x d ∧ yDt K H y e ∧ (SeqAt.shaped d = true ∧ SeqAt.shaped e = true) ∧ Q (.bl (PyData.eqv d e)) H
def rNeDt (K : PySem.W.Frag) : R2 := fun x y H Q => ∃ d e, yDt K H x d ∧ yDt K H y e ∧ (SeqAt.shaped d = true ∧ SeqAt.shaped e = true) ∧ Q (.bl (!PyData.eqv d e)) H
section
variable {X : Cx}
theorem o_eqDt (hu : X.A.units + 64 < cLine) : OpR X (compareOp .Eq) (rEqDt X.K) := fun pins s σ H x y v u Q I rx ry h => by
  obtain ⟨d, e, r1, r2, o, q⟩ := h
  exact op_eqD hu pins s σ H _ _ v u Q I rx ry ⟨_, _, yDt_dp r1, yDt_dp r2, o.1, o.2, q⟩
theorem o_neDt (hu : X.A.units + 64 < cLine) : OpR X (compareOp .NotEq) (rNeDt X.K) := fun pins s σ H x y v u Q I rx ry h => by
  obtain ⟨d, e, r1, r2, o, q⟩ := h
  exact op_neD hu pins s σ H _ _ v u Q I rx ry ⟨_, _, yDt_dp r1, yDt_dp r2, o.1, o.2, q⟩
end
/-- a typed value as data -/
class EnF {A : Type} (R : Rel A) (f : outParam (A → PyData)) : Prop where
  df : ∀ {P : Hp} {v : V} {x : A}, R P v x → Df P (f x) v
section
variable {A B C D E : Type} {K : PySem.W.Frag} {R1 : Rel A} {R2 : Rel B} {R3 : Rel C} {R4 : Rel D} {R5 : Rel E} {f1 : A → PyData} {f2 : B → PyData} {f3 : C → PyData} {f4 : D → PyData} {f5 : E → PyData}
instance : EnF yI PyData.int := ⟨fun h => by rw [Df]; exact h⟩
instance : EnF yB PyData.bool := ⟨fun h => by rw [Df]; exact h⟩
instance : EnF yS eS := ⟨fun {P v x} h => by show Df P (.str _) v; rw [Df]; exact h⟩
instance : EnF (yDt K) (fun x => x) := ⟨fun h => h⟩
theorem dfAll_map [e : EnF R1 f1] {P : Hp} : ∀ {vs : List V} {xs : List A}, AR R1 P vs xs → DfAll P (xs.map f1) vs
  | _, _, .nil => by rw [List.map_nil, DfAll]
  | _, _, .cons h t => by rw [List.map_cons, DfAll]; exact ⟨_, _, rfl, e.df h, dfAll_map t⟩
instance [e : EnF R1 f1] : EnF (yL R1) (fun xs => .list (xs.map f1)) := ⟨fun ⟨a, vs, h, s, r⟩ => by rw [Df]; exact ⟨a, vs, h, s, dfAll_map r⟩⟩
/-- a tuple of like things, known to the frozen heap -/
def yUt (R : Rel A) : Rel (List A) := fun P v xs => ∃ a vs, v = .ref a ∧ P a = some (.tup vs) ∧ AR R P vs xs
instance [Mo R1] : Mo (yUt R1) := ⟨fun e ⟨a, vs, h, s, r⟩ => ⟨a, vs, h, e _ _ s, AR.up e r⟩⟩
instance : NN (yUt R1) := ⟨fun ⟨a, vs, h, _⟩ e => by rw [h] at e; cases e⟩
instance {ok : A → Bool} {n : Nat} [e : En K R1 ok n] : En K (yUt R1) (okL ok) (n + 1) where
  enc := fun xs => .tuple (xs.map e.enc)
  dp := fun ⟨a, vs, h, s, r⟩ => by subst h; exact .tup (.inl (.inl s)) (dpa_of r)
  inj := by
    intro x y
    rw [PyData.eqv]
    exact eqvAll_map
  lay h := by
    rw [PyData.canLay0]
    exact lay_map h
  dep := by
    intro x
    rw [PyData.depth]
    exact Nat.succ_le_succ dep_map
instance [e : EnF R1 f1] : EnF (yUt R1) (fun xs => .tuple (xs.map f1)) := ⟨fun ⟨a, vs, h, s, r⟩ => by rw [Df]; exact ⟨a, vs, h, s, dfAll_map r⟩⟩
theorem dfAll_nil {P : Hp} : DfAll P [] [] := by rw [DfAll]
theorem dfAll_cons {P : Hp} {d : PyData} {ds : List PyData} {u : V} {us : List V} (h : Df P d u) (t : DfAll P ds us) : DfAll P (d :: ds) (u :: us) := by rw [DfAll]; exact ⟨u, us, rfl, h, t⟩
instance [e1 : EnF R1 f1] : EnF (y1 K R1) (fun x => .tuple [f1 x]) := ⟨fun ⟨a, v1, h, s, r1⟩ => by rw [Df]; exact ⟨a, _, h, s, dfAll_cons (e1.df r1) dfAll_nil⟩⟩
instance [e1 : EnF R1 f1] [e2 : EnF R2 f2] : EnF (y2 K R1 R2) (fun x => .tuple [f1 x.1, f2 x.2]) := ⟨fun ⟨a, v1, v2, h, s, r1, r2⟩ => by rw [Df]; exact ⟨a, _, h, s, dfAll_cons (e1.df r1) (dfAll_cons (e2.df r2) dfAll_nil)⟩⟩
instance [e1 : EnF R1 f1] [e2 : EnF R2 f2] [e3 : EnF R3 f3] : EnF (y3 K R1 R2 R3) (fun x => .tuple [f1 x.1, f2 x.2.1, f3 x.2.2]) := ⟨fun ⟨a, v1, v2, v3, h, s, r1, r2, r3⟩ => by rw [Df]; exact ⟨a, _, h, s, dfAll_cons (e1.df r1) (dfAll_cons (e2.df r2) (dfAll_cons (e3.df r3) dfAll_nil))⟩⟩
instance [e1 : EnF R1 f1] [e2 : EnF R2 f2] [e3 : EnF R3 f3] [e4 : EnF R4 f4] : EnF (y4 K R1 R2 R3 R4) (fun x => .tuple [f1 x.1, f2 x.2.1, f3 x.2.2.1, f4 x.2.2.2]) := ⟨fun ⟨a, v1, v2, v3, v4, h, s, r1, r2, r3, r4⟩ => by rw [Df]; exact ⟨a, _, h, s, dfAll_cons (e1.df r1) (dfAll_cons (e2.df r2) (dfAll_cons (e3.df r3) (dfAll_cons (e4.df r4) dfAll_nil)))⟩⟩
instance [e1 : EnF R1 f1] [e2 : EnF R2 f2] [e3 : EnF R3 f3] [e4 : EnF R4 f4] [e5 : EnF R5 f5] : EnF (y5 K R1 R2 R3 R4 R5) (fun x => .tuple [f1 x.1, f2 x.2.1, f3 x.2.2.1, f4 x.2.2.2.1, f5 x.2.2.2.2]) := ⟨fun ⟨a, v1, v2, v3, v4, v5, h, s, r1, r2, r3, r4, r5⟩ => by rw [Df]; exact ⟨a, _, h, s, dfAll_cons (e1.df r1) (dfAll_cons (e2.df r2) (dfAll_cons (e3.df r3) (dfAll_cons (e4.df r4) (dfAll_cons (e5.df r5) dfAll_nil))))⟩⟩
end
theorem yDt_of {A : Type} {K : PySem.W.Frag} {R1 : Rel A} {f : A → PyData} [e : EnF R1 f] {P : Hp} {v : V} {x : A} {d : PyData} (h : R1 P v x) (ed : f x = d) : yDt K P v d := ed ▸ e.df h
/-! data taken at a type -/
def dStr : PyData → Option (List Nat)
  | .str x => some x.cps.toList
  | _ => none
def dBool : PyData → Option Bool
  | .bool b => some b
  | _ => none
def dInt : PyData → Option Int
  | .int i => some i
  | _ => none
class UnF {A : Type} (R : Rel A) (g : PyData → Option A) : Prop where
  un : ∀ {P : Hp} {v : V} {d : PyData} {x : A}, Df P d v → g d = some x → R P v x
section
variable {A B C D : Type} {K : PySem.W.Frag} {R1 : Rel A} {R2 : Rel B} {R3 : Rel C} {R4 : Rel D} {g1 : PyData → Option A} {g2 : PyData → Option B} {g3 : PyData → Option C} {g4 : PyData → Option D}
theorem un_S : UnF yS dStr := ⟨fun {P v d x} h e => by
  cases d with
  | str y => rw [Df] at h; cases e; exact h
  | _ => cases e⟩
theorem un_I : UnF yI dInt := ⟨fun {P v d x} h e => by
  cases d with
  | int y => rw [Df] at h; cases e; exact h
  | _ => cases e⟩
theorem un_B : UnF yB dBool := ⟨fun {P v d x} h e => by
  cases d with
  | bool y => rw [Df] at h; cases e; exact h
  | _ => cases e⟩
theorem un_D : UnF (yDt K) some := ⟨fun {P v d x} h e => by cases e; exact h⟩
def uAll (g : PyData → Option A) : List PyData → Option (List A)
  | [] => some []
  | d :: ds => match g d, uAll g ds with
    | some x, some xs => some (x :: xs)
    | _, _ => none
def uL (g : PyData → Option A) : PyData → Option (List A)
  | .list ds => uAll g ds
  | _ => none
theorem uAll_ar (u : UnF R1 g1) {P : Hp} : ∀ {ds : List PyData} {vs : List V} {xs : List A}, DfAll P ds vs → uAll g1 ds = some xs → AR R1 P vs xs
  | [], vs, xs, h, e => by rw [DfAll] at h; subst h; cases e; exact .nil
  | d :: ds, vs, xs, h, e => by
    rw [DfAll] at h
    obtain ⟨v, us, rfl, h1, h2⟩ := h
    rw [uAll] at e
    cases e1 : g1 d with
    | none => rw [e1] at e; cases e
    | some x =>
      cases e2 : uAll g1 ds with
      | none => rw [e1, e2] at e; cases e
      | some ys =>
        rw [e1, e2] at e
        cases e
        exact .cons (u.un h1 e1) (uAll_ar u h2 e2)
theorem un_L (u : UnF R1 g1) : UnF (yL R1) (uL g1) := ⟨fun {P v d x} h e => by
  cases d with
  | list ds =>
    rw [Df] at h
    obtain ⟨a, vs, h1, h2, h3⟩ := h
    exact ⟨a, vs, h1, h2, uAll_ar u h3 e⟩
  | _ => cases e⟩
def u2 (g1 : PyData → Option A) (g2 : PyData → Option B) : PyData → Option (A × B)
  | .tuple [a, b] => match g1 a, g2 b with
    | some x, some y => some (x, y)
    | _, _ => none
  | _ => none
def u3 (g1 : PyData → Option A) (g2 : PyData → Option B) (g3 : PyData → Option C) : PyData → Option (A × B × C)
  | .tuple [a, b, c] => match g1 a, g2 b, g3 c with
    | some x, some y, some z => some (x, y, z)
    | _, _, _ => none
  | _ => none
def u4 (g1 : PyData → Option A) (g2 : PyData → Option B) (g3 : PyData → Option C) (g4 : PyData → Option D) : PyData → Option (A × B × C × D)
  | .tuple [a, b, c, d] => match g1 a, g2 b, g3 c, g4 d with
    | some x, some y, some z, some w => some (x, y, z, w)
    | _, _, _, _ => none
  | _ => none
theorem un_2 (h1 : UnF R1 g1) (h2 : UnF R2 g2) : UnF (y2 K R1 R2) (u2 g1 g2) := ⟨fun {P v d x} h e => by
  unfold u2 at e
  split at e
  · rename_i a b
    rw [Df] at h
    obtain ⟨p, vs, e1, e2, e3⟩ := h
    simp only [DfAll] at e3
    obtain ⟨v1, _, rfl, k1, v2, _, rfl, k2, rfl⟩ := e3
    split at e
    · rename_i q1 q2
      cases e
      exact ⟨p, v1, v2, e1, e2, h1.un k1 q1, h2.un k2 q2⟩
    · cases e
  · cases e⟩
theorem un_3 (h1 : UnF R1 g1) (h2 : UnF R2 g2) (h3 : UnF R3 g3) : UnF (y3 K R1 R2 R3) (u3 g1 g2 g3) := ⟨fun {P v d x} h e => by
  unfold u3 at e
  split at e
  · rename_i a b c
    rw [Df] at h
    obtain ⟨p, vs, e1, e2, e3⟩ := h
    simp only [DfAll] at e3
    obtain ⟨v1, _, rfl, k1, v2, _, rfl, k2, v3, _, rfl, k3, rfl⟩ := e3
    split at e
    · rename_i q1 q2 q3
      cases e
      exact ⟨p, v1, v2, v3, e1, e2, h1.un k1 q1, h2.un k2 q2, h3.un k3 q3⟩
    · cases e
  · cases e⟩
theorem un_4 (h1 : UnF R1 g1) (h2 : UnF R2 g2) (h3 : UnF R3 g3) (h4 : UnF R4 g4) : UnF (y4 K R1 R2 R3 R4) (u4 g1 g2 g3 g4) := ⟨fun {P v d x} h e => by
  unfold u4 at e
  split at e
  · rename_i a b c d
    rw [Df] at h
    obtain ⟨p, vs, e1, e2, e3⟩ := h
    simp only [DfAll] at e3
    obtain ⟨v1, _, rfl, k1, v2, _, rfl, k2, v3, _, rfl, k3, v4, _, rfl, k4, rfl⟩ := e3
    split at e
    · rename_i q1 q2 q3 q4
      cases e
      exact ⟨p, v1, v2, v3, v4, e1, e2, h1.un k1 q1, h2.un k2 q2, h3.un k3 q3, h4.un k4 q4⟩
    · cases e
  · cases e⟩
end
abbrev wF : WX := fun _ _ _ _ => False
theorem takesF {X : Cx} : Takes X wF := takes0
theorem FV.gs_eq {a : FV} {t : List Nat} (h : a.gs = some t) : a = .s t := by
  cases a with
  | i m => cases h
  | s t => cases h; rfl
theorem FV.gi_eq {a : FV} {n : Int} (h : a.gi = some n) : a = .i n := by
  cases a with
  | i m => cases h; rfl
  | s t => cases h
end G
namespace G
open PySem PySem.Spec PyProof.Rows L2 PySem.W
/-! ### o + x, o - x: the own method, x of a built-in type that has no such number slot -/
section
variable {prog : Program} {w : World} {A : Around} {E : Value → Shared → Prop} {s : Shared} {K : Frag} {x C L f : Addr} {h₀ : Heap} {m : Str → Option Value} {ox : Obj} {od : Option Obj}
theorem binop_T {op : Operator} {b : Value} {T : String} {Q : Value → Shared → Prop} (F : Fr h₀ L s.heap m) (X₀ : K.In h₀) (I : InstAt s.heap x ox C od) (hb : Looks (model prog w) s.heap (typeOf b) (.type T)) (h0 : fillsNumberSlot (.type T) op.info.2 = pure false) (hc : selfFirst K C = true)
    (hs : findIn K (.ref C) (PySem.dunder op.info.2) = some (some (.ref f))) (hf : isFn K (.ref f) = true)
    (h : wpAny (model prog w) A (call (.ref f) [.ref x, b]) (PySem.W.CmpBack Q) E s) : wpAny (model prog w) A (binaryOp op (.ref x) b) Q E s := by
  have X := X₀.keeps F.keep
  obtain ⟨cd, hcd, hm⟩ := any_some hc
  obtain ⟨rest, hm⟩ : ∃ rest, cd.mro = .ref C :: rest := by
    cases q : cd.mro with
    | nil => rw [q] at hm; cases hm
    | cons a r => rw [q] at hm; exact ⟨r, by rw [List.head?_cons] at hm; cases (beq_iff_eq.mp hm); rfl⟩
  unfold binaryOp
  refine wpAny_holding (wpAny_bind ?_)
  unfold binaryOp1
  refine wpAny_bind (I.type.here (wpAny_bind (hb.here (wpAny_bind ((fills_K X hcd hm hs).here ?_)))))
  rw [if_neg (show ¬ ((Value.ref C == Value.type T) = true) from by simp)]
  refine wpAny_bind (wpAny_of_eq h0 ?_)
  simp only [Bool.and_false, Bool.false_eq_true, if_false, Bool.false_and]
  refine wpAny_bind (wpAny_pure ?_)
  simp only [Bool.false_eq_true, if_false]
  refine wpAny_bind (m := tryMethod (.ref x) _ b) ?_
  unfold tryMethod
  refine wpAny_bind (special_fn X I hs (beq_iff_eq.mp hf) (wpAny_mono h (fun v s' hv => ?_) fun _ _ e => e))
  cases v <;> first | exact hv.elim | exact wpAny_pure (wpAny_pure (wpAny_pure hv))
theorem fn_add_tuple : fillsNumberSlot (.type "tuple") "add" = pure false := by first | rfl | kernel_rfl
theorem fn_sub_str : fillsNumberSlot (.type "str") "sub" = pure false := by first | rfl | kernel_rfl
end
section
variable {X : Cx} {W : WX} {k j : Nat} {sp : Sp} {C : Addr} {pos : Pos} {l r : Expr} {tl tr : TE} {T : String} {op : Operator}
/-- a value of the built-in type T -/
inductive OfT (K : Frag) (H : Hp) : String → V → Prop
  | str (t : Str) : OfT K H "str" (.str t)
  | tup {a : Addr} {xs : List V} (h : SqT K H a xs) : OfT K H "tuple" (.ref a)
def tBinE (K : Frag) (C : Addr) (T : String) (sp : Sp) (W : WX) (tl tr : TE) : TE := fun σ H Q => tl σ H fun x H1 => tr σ H1 fun y H2 => ∃ a dx fs, x = .ref a ∧ H2 a = some (.ins C dx fs) ∧ OfT K H2 T y ∧ sp [.ref a, y] H2 (fun v H3 => (∃ p, v = .ref p) ∧ Q v H3) (WE W σ)
theorem pe_binE {nm : Str} (c : CalME X.prog X.w X.K X.mg X.base k C nm sp) (hnm : nm = PySem.dunder op.info.2) (tk : Takes X W) (h0 : fillsNumberSlot (.type T) op.info.2 = pure false) (hc : selfFirst X.K C = true) (hr : Room j X.A) (hk : k ≤ j) (hl : PE X l tl) (hrr : PE X r tr) : PE X (.BinOp l op r pos) (tBinE X.K C T sp W tl tr) := by
  subst hnm
  obtain ⟨f, fd, ps, F, hm, b, cl⟩ := c.ex
  refine ⟨fun pins s σ H Q I h => ?_⟩
  refine wpAny_BinOp (thn (hl.run pins s σ H _ I h) fun u s1 ⟨x, H1, I1, rx, q1⟩ => thn (hrr.run pins s1 σ H1 _ I1 q1) fun u2 s2 ⟨y, H2, I2, ry, a, dx, fs, ex, ha, ht, q⟩ => ?_)
  subst ex
  obtain rfl : u = Value.ref a := rx
  obtain ⟨mA, J, _⟩ := ins_get I2.hok ha
  obtain ⟨od, J, _⟩ := J.look
  obtain ⟨m, hF⟩ := I2.fr
  have LT : Looks (model X.prog X.w) s2.heap (typeOf u2) (.type T) := by
    cases ht with
    | str t =>
      obtain ⟨tk, rfl⟩ := ry
      exact .now
    | tup hq =>
      obtain rfl : u2 = _ := ry
      obtain ⟨its, rv, ⟨o, ho, hcl, _⟩, hz⟩ := I2.tuple hq
      exact fun A Q E s k q => wpAny_typeOf_ref (k _ _ ho) (by rw [hcl]; exact q)
  refine binop_T hF I2.ok.mod.kin J LT h0 hc hm.at_ hm.fn ?_
  refine thn (wpAny_call (run_fnRS (us := [.ref a, u2]) (vs := [.ref a, y]) (fnR_ofX F b) (hr.mono hk) (passAt tk σ) I2 (.cons rfl (.cons ry .nil)) q)) fun v s' ⟨z, H3, I3, rz, ⟨p, ez⟩, q3⟩ => ?_
  subst ez
  obtain rfl : v = Value.ref p := rz
  exact ⟨.ref p, H3, I3, rfl, q3⟩
/-! ### C(*xs, e, ..) -/
variable {x : Str} {p sp_ : Pos} {e e1 : Expr} {es : List Expr} {t : TA} {tn te : TE}
theorem evalArgs_star {M : Model} {A : Around} {E : Value → Shared → Prop} {s : Shared} {f : Value} {y : Bool × Sem Value} {z : Bool × Sem Value} {rest : List (Bool × Sem Value)} {Q : Args → Shared → Prop}
    (h : wpAny M A (spliced (y :: z :: rest)) (fun vs s' => Q ⟨vs, []⟩ s') E s) : wpAny M A (evalArgs f true (y :: z :: rest) []) Q E s := by
  unfold evalArgs
  obtain ⟨b, y⟩ := y
  cases b <;>
  · show wpAny M A (spliced _ >>= _) Q E s
    refine wpAny_bind (wpAny_mono h (fun vs s' h' => ?_) fun _ _ x => x)
    refine wpAny_holding ?_
    exact wpAny_bind (wpAny_pure (wpAny_bind (wpAny_pure (wpAny_pure h'))))
theorem pe_csem (c : CalSE X.prog X.w X.K X.mg X.base k C sp) (tk : Takes X W) (hr : Room j X.A) (hk : k + 1 ≤ j) (hn : PE X (.Name x p) tn) (ha : PA X (.Starred e sp_ :: e1 :: es) t)
    (hst : starEach (.Starred e sp_ :: e1 :: es) X.env = (true, eval e X.env) :: (false, eval e1 X.env) :: starEach es X.env := by rfl) :
    PE X (.Call (.Name x p) (.Starred e sp_ :: e1 :: es) [] pos) (tMkE C sp W tn t) := by
  obtain ⟨f, F, M⟩ := c.ex
  refine ⟨fun pins s σ H Q I h => ?_⟩
  refine wpAny_Call_Name_kw (thn (hn.run pins s σ H _ I h) fun u s0 ⟨y, H0, I0, ry, ey, q0⟩ => ?_)
  subst ey
  obtain rfl : u = Value.ref C := ry
  have hh := ha.run pos pins s0 σ H0 _ I0 q0
  rw [hst] at hh ⊢
  refine ks_call (P := fun h => X.K.In h) rfl (keeps_K M.kp) (evalArgs_star (thn hh fun us s1 ⟨vs, H1, I1, r, q⟩ => ⟨I1.kIn, ?_⟩))
  exact run_makeRS M F (hr.mono hk) (passAt tk σ) I1 r q
end
section
variable {P : Program} {w : World} {K : Frag} {mg : Str → Option Value} {base : Heap} {k : Nat} {C : Addr} {m : Str} {sp : Sp}
theorem CalM.toE (c : CalM P w K mg base k C m sp) : CalME P w K mg base k C m sp := by
  obtain ⟨f, fd, ps, F, a⟩ := c.ex
  exact ⟨f, fd, ps, G.FnOk.toX F, a⟩
theorem CalS.toE (c : CalS P w K mg base k C sp) : CalSE P w K mg base k C sp := by
  obtain ⟨f, F, a⟩ := c.ex
  refine ⟨f, fun A outer s H us vs Q E hr e0 r h => codeAny_mono (F A outer s H us vs Q E hr e0 r h) fun r s' hq => ?_, a⟩
  cases r with
  | error e => exact False.elim hq
  | ok fl => cases fl <;> exact hq
end
/-! ### d[n], d a tuple of data -/
def dAt : PyData → Nat → Option PyData
  | .tuple ds, n => ds[n]?
  | _, _ => none
theorem dpa_nth {K : Frag} {P : Hp} : ∀ {vs : List V} {ds : List PyData} {n : Nat} {d : PyData}, DpAll K P vs ds → ds[n]? = some d → ∃ u, vs[n]? = some u ∧ Dp K P u d
  | _, _, _, _, .nil, e => by cases e
  | _, _, 0, _, .cons h _, e => by cases e; exact ⟨_, rfl, h⟩
  | _, _, n + 1, _, .cons _ t, e => by
    obtain ⟨u, h1, h2⟩ := dpa_nth (n := n) t e
    exact ⟨u, h1, h2⟩
theorem dfa_nth {P : Hp} : ∀ {vs : List V} {ds : List PyData} {n : Nat} {d : PyData}, DfAll P ds vs → ds[n]? = some d → ∃ u, vs[n]? = some u ∧ Df P d u
  | vs, [], n, _, _, e => by cases n <;> cases e
  | vs, d :: ds, 0, _, h, e => by
    rw [DfAll] at h
    obtain ⟨u, us, rfl, h1, _⟩ := h
    cases e
    exact ⟨u, rfl, h1⟩
  | vs, d :: ds, n + 1, _, h, e => by
    rw [DfAll] at h
    obtain ⟨u, us, rfl, _, h2⟩ := h
    obtain ⟨w, k1, k2⟩ := dfa_nth (n := n) h2 e
    exact ⟨w, k1, k2⟩
theorem yDt_at {K : Frag} {P : Hp} {v : V} {d x : PyData} {n : Nat} (h : yDt K P v d) (e : dAt d n = some x) : ∃ a vs u, v = .ref a ∧ SqT K P a vs ∧ vs[n]? = some u ∧ yDt K P u x := by
  cases d with
  | tuple ds =>
    have h : Df P (.tuple ds) v := h
    rw [Df] at h
    obtain ⟨a, vs, h1, h2, h3⟩ := h
    obtain ⟨u, k1, k2⟩ := dfa_nth h3 e
    exact ⟨a, vs, u, h1, .inl (.inl h2), k1, k2⟩
  | _ => cases e
end G
namespace G
open PySem PySem.Spec PyProof.Rows L2 PySem.W
section
variable {X : Cx} {W : WX} {k j : Nat} {sp : Sp} {C : Addr} {pos : Pos} {a b : Expr} {ta tb : TE}
/-! ### o[x] -/
def tIxE (C : Addr) (sp : Sp) (W : WX) (ta tb : TE) : TE := fun σ H Q => ta σ H fun x H1 => tb σ H1 fun y H2 => ∃ p dx fs, x = .ref p ∧ H2 p = some (.ins C dx fs) ∧ sp [.ref p, y] H2 Q (WE W σ)
/-- the callee runs one deeper -/
theorem run_in1 {pins : List (Addr × Obj)} {σ : L2.St} {H : Hp} {s : Shared} {f : Addr} {E : XK} {Q : VK} {us : List Value} {vs : List V} (F : FnR X.prog X.w X.K X.mg X.base (L2.CX X.prog X.w) k f sp) (hr : Room (k + 1) X.A) (hx : PassesAt (L2.CX X.prog X.w) X σ E) (I : L2.Inv X pins σ H s) (r : Vals vs us) (h : sp vs H Q E) :
    wpAny (model X.prog X.w) X.A.in1 (call (.ref f) us) (EP X pins σ Q) X.xe s := by
  refine wpAny_call (codeAny_mono (F X.A.in1 X.stack s H us vs Q E hr.in1 I.env0.in1 r h) fun r s' hq => ?_)
  cases r with
  | error e => exact hx pins H s e s' I hq
  | ok fl =>
    cases fl with
    | ret u => exact I.after hq
    | next => exact False.elim hq
    | brk => exact False.elim hq
    | cont => exact False.elim hq
theorem pe_ixE (c : CalME X.prog X.w X.K X.mg X.base k C "__getitem__" sp) (hfn : ∀ f, Meth X.K C "__getitem__" f → fnIn X.K f = true) (tk : Takes X W) (hr : Room j X.A) (hk : k + 1 ≤ j) (ha : PE X a ta) (hb : PE X b tb) (hs : ∀ o i, subscripted b true o i = runValue (.builtin "lifetime.subscript" ⟨[o, i], []⟩)) : PE X (.Subscript a b pos) (tIxE C sp W ta tb) := by
  obtain ⟨f, fd, ps, F, hm, bn, cl⟩ := c.ex
  refine ⟨fun pins s σ H Q I h => ?_⟩
  refine Subscript_ (binT ha hb I h fun v u s2 x y H2 I2 rx ry q => ?_)
  obtain ⟨p, dx, fs, ex, hp, q⟩ := q
  subst ex
  obtain rfl : v = Value.ref p := rx
  obtain ⟨mA, J, _⟩ := ins_get I2.hok hp
  obtain ⟨od, J, _⟩ := J.look
  obtain ⟨m, hF⟩ := I2.fr
  exact sub_K hF I2.ok.mod.kin J hm.at_ (hfn f hm) hm.fn (run_in1 (us := [.ref p, u]) (vs := [.ref p, y]) (fnR_ofX F bn) (hr.mono hk) (passAt tk σ) I2 (.cons rfl (.cons ry .nil)) q) (hs _ _)
/-! ### str(o) -/
def rStrO (C : Addr) (sp : Sp) : List V → Hp → VK → Prop := fun xs H Q => ∃ a dx fs, xs = [.ref a] ∧ H a = some (.ins C dx fs) ∧ sp [.ref a] H (fun v H1 => (∃ t, v = .str t) ∧ Q v H1) E0
theorem c_strO (c : CalM X.prog X.w X.K X.mg X.base k C "__str__" sp) (hr : Room j X.A) (hk : k + 2 ≤ j) : CallR X (.type "str") (rStrO C sp) := by
  intro pins s σ H xs us Q I r h
  obtain ⟨a, dx, fs, rfl, ha, h⟩ := h
  obtain ⟨f, fd, ps, F, hm, bn, cl⟩ := c.ex
  obtain ⟨mA, J, _⟩ := ins_get I.hok ha
  obtain ⟨od, J, _⟩ := J.look
  obtain ⟨m, hF⟩ := I.fr
  rw [Vals.ref1 r]
  have hl : [Value.ref a].length = ps.length := F.len _ _ _ _ h
  have hr2 : Room (k + 1 + 1) X.A := hr.mono hk
  refine kso_call hr2.in1.in1.units0 I.kIn J hm.at_ hm.fn (wpAny_call (codeAny_mono (F.run X.A.in1.in1 X.stack s H ⟨[.ref a], []⟩ [.ref a] [.ref a] _ E0 hr2.in1.in1 I.env0.in1.in1 (by
    have := bn s [.ref a] I.kIn (by simpa using hl)
    simpa using this) (.cons rfl .nil) h) fun r s' hq => ?_))
  cases r with
  | error er => exact False.elim hq
  | ok fl =>
    cases fl with
    | ret u =>
      obtain ⟨v, H1, I1, rv, ⟨n, en⟩, q⟩ := I.after hq
      subst en
      obtain ⟨tk, rfl⟩ := rv
      exact ⟨.str n, H1, I1, ⟨_, rfl⟩, q⟩
    | next => exact False.elim hq
    | brk => exact False.elim hq
    | cont => exact False.elim hq
/-! ### C.m() -/
variable {m : Str} {o : Expr} {apos : Pos}
theorem pe_cce0 {pl : Sem Bool} (c : CalCE X.prog X.w X.K X.mg X.base k C m sp) (tk : Takes X W) (hr : Room j X.A) (hk : k ≤ j) (ho : PE X o ta)
    (ht : eval (.Call (.Attribute o m apos) [] [] pos) X.env = (do
      let ov ← eval o X.env
      standAt apos.atName
      let (f, first) ← holding [ov] (getMethod ov m pl)
      callWith pos f first (backTo pos (starEach [] X.env)) (backToKw pos (keywordEach [] X.env))) := by rfl) :
    PE X (.Call (.Attribute o m apos) [] [] pos) (tCMethE C sp W ta tNil) := by
  obtain ⟨p, f, fd, ps, mc, F, r, cm, b⟩ := c.ex
  refine ⟨fun pins s σ H Q I h => ?_⟩
  refine PySem.W.methodCall_KW (pl := pl) (thn (ho.run pins s σ H _ I h) fun u s1 ⟨x, H1, I1, rx, ex, q⟩ => ?_) ht
  subst ex
  obtain rfl : u = Value.ref C := rx
  refine ClX.getmethcm_ok I1 r cm fun s2 I2 => ?_
  refine callWith_M0 (K := X.K) ⟨ClX.pin_at I2, I2.kIn⟩ cm.fi ?_
  have z : wpAny (model X.prog X.w) X.A (call (.ref s1.heap.objs.size) []) (EP X ((s1.heap.objs.size, PySem.W.methodObj (.ref f) (.ref C)) :: pins) σ Q) X.xe s2 :=
    wpAny_call (PySem.W.method_call (ClX.pin_at I2) (run_fnRS (us := [.ref C]) (vs := [.ref C]) (fnR_ofX F b) (hr.mono hk) (passAt tk σ) I2 (.cons rfl .nil) q))
  exact thn z fun _ _ y => ClX.unpinE y
end
end G
namespace G
open L2 PySem
theorem CalC.toE {P : Program} {w : World} {K : PySem.W.Frag} {mg : Str → Option Value} {base : Heap} {k : Nat} {C : Addr} {m : Str} {sp : Sp} (c : CalC P w K mg base k C m sp) : CalCE P w K mg base k C m sp := by
  obtain ⟨p, f, fd, ps, mc, F, a⟩ := c.ex
  exact ⟨p, f, fd, ps, mc, G.FnOk.toX F, a⟩
end G
namespace G
open PySem PySem.Spec PyProof.Rows L2 PySem.W
/-! ### enumerate(text) -/
/-- a text sign by sign, each sign in a new pair with its place -/
def ItU (x : Str) : It :=
  ⟨fun i _ => i < x.cps.size, fun i H v H' => ∃ T c, v = .ref T ∧ H T = none ∧ H' = upd H T (.tup [.int (i : Nat), .str ⟨#[c]⟩]) ∧ x.cps[i]? = some c, fun i _ => x.cps.size = i⟩
theorem turn_enumS {P : Program} {w : World} {K : PySem.W.Frag} {elts : List Expr} {kk : Nat} {tpos : Pos} (x : Str) (t : Tok) (e it : Addr) :
    Turn P w K (.Tuple elts kk tpos) (ItU x) [e, it] e (fun i h => (∃ old, IsEnum h e it ((i : Nat) : Int) old) ∧ h.IsStrIter it (strIterType x) x t i ∧ e ≠ it) where
  mem := by simp
  obj := fun i h st b hb => by
    obtain ⟨⟨old, he⟩, ⟨o, ho, hc, hd⟩, _⟩ := st
    have e' : b = e ∨ b = it := by simpa using hb
    rcases e' with z | z
    · rw [z]; exact ⟨_, he, fun v q => nomatch q⟩
    · rw [z]; exact ⟨o, ho, fun v q => by rw [hd] at q; cases q⟩
  keep := fun i h h' st k => let ⟨⟨old, he⟩, ⟨o, ho, r⟩, hne⟩ := st; ⟨⟨old, k e (by simp) _ he⟩, ⟨o, k it (by simp) o ho, r⟩, hne⟩
  item := by
    intro X hP hw hK hc i pins s σ H E I hf st hg
    subst hP hw hK
    obtain ⟨⟨old, he⟩, hit, hne⟩ := st
    have hel : e < s.heap.objs.size := Heap.lt_size he
    have hil : it < s.heap.objs.size := by obtain ⟨_, q, _⟩ := hit; exact Heap.lt_size q
    have D : Draws X.prog X.w X.A.in1 it [it] x.cps.size (SignAt x) (fun i h => h.IsStrIter it (strIterType x) x t i) := Draws.text (A := X.A.in1) (I.ok.hd hc) it x t
    refine wpAny_pyNext_enum_itemC D he hit hg hne (by simpa using hne) fun u h' tk hu ho hit' hT hsz hk => ?_
    obtain ⟨c, t', hcx, rfl⟩ := hu
    refine ⟨_, rfl, wpAny_letOwnedTupleGo_enum (s := { s with heap := h', toks := tk + 1 }) ho fun h'' he' sb => ?_⟩
    have hT2 : h''.get? s.heap.objs.size = some { cls := .type "tuple", data := .seq #[.int i tk, .str ⟨#[c]⟩ t'] } := (sb.2 _ (Nat.ne_of_gt hel)).trans hT
    have new : ObjOk X.prog X.w (upd H s.heap.objs.size (.tup [.int (i : Nat), .str ⟨#[c]⟩])) h'' s.heap.objs.size (.tup [.int (i : Nat), .str ⟨#[c]⟩]) :=
      ⟨by show 2 ≤ sizeLine; decide, [.int i tk, .str ⟨#[c]⟩ t'], .cons ⟨_, rfl⟩ (.cons ⟨_, rfl⟩ .nil), ⟨_, hT2, rfl, _, rfl⟩⟩
    have I1 : Inv X pins σ (upd H s.heap.objs.size (.tup [.int (i : Nat), .str ⟨#[c]⟩])) { s with heap := h'', toks := tk + 1 } :=
      I.turnedNew (ch := [e, it]) (fun b ob hb q => (sb.2 b (fun z => hb (by simp [z]))).trans (hk b ob (fun z => hb (by simp [z])) (fun z => hb (by simp [z])) q)) hf (Nat.le_refl _) new
    refine ⟨.ref s.heap.objs.size, _, I1, rfl, ⟨_, c, rfl, I.hok.fresh (Nat.le_refl _), rfl, hcx⟩, ⟨⟨.str ⟨#[c]⟩ t', ?_⟩, ?_, hne⟩, fun b hb => ?_⟩
    · have e1 : ((i + 1 : Nat) : Int) = (i : Int) + 1 := by omega
      rw [e1]; exact he'
    · obtain ⟨o, ho', r⟩ := hit'
      exact ⟨o, (sb.2 it (Ne.symm hne)).trans ho', r⟩
    · have hb' : b < s.heap.objs.size := by
        have e' : b = e ∨ b = it := by simpa using hb
        rcases e' with z | z
        · rw [z]; exact hel
        · rw [z]; exact hil
      rw [upd_ne (Nat.ne_of_lt hb')]
      exact (hf b hb).1
  done := by
    intro X hP hw hK hc i pins s σ H E I hf st hg
    subst hP hw hK
    obtain ⟨⟨old, he⟩, hit, hne⟩ := st
    subst hg
    obtain ⟨f0, f1, f2, f3, f4, f5⟩ := hf it (by simp)
    have D : Draws X.prog X.w X.A.in1 it [it] x.cps.size (SignAt x) (fun i h => h.IsStrIter it (strIterType x) x t i) := Draws.text (A := X.A.in1) (I.ok.hd hc) it x t
    exact wpAny_pyNext_enum_endD D he hit fun h' eb => ⟨rfl, I.turned (t' := s.toks) (fun b o hb q => eb b o hb q) f0 f1 f3 f4 f5⟩
  self := fun A i s Q E st h => let ⟨⟨_, he⟩, _⟩ := st; wpAny_pyIter_enum he h
def iEnumS (ta : TA) : TI := fun σ H R => ta σ H fun vs H1 => ∃ x, vs = [.str x] ∧ R (ItU x) H1
theorem pi_enumS {X : Cx} {e : Expr} {ta : TA} {p pos tpos : Pos} {elts : List Expr} {kk : Nat} (hg : Gl X "enumerate") (hm : X.mg "enumerate" = none) (ha : PA X [e] ta) (hs : starEach [e] X.env = [(false, eval e X.env)] := by rfl) :
    PI X (.Tuple elts kk tpos) (.Call (.Name "enumerate" p) [e] [] pos) (iEnumS ta) := by
  refine ⟨fun pins s σ H R I h => ?_⟩
  refine Call_ (ld_blt I hg hm boot_enumerate (PyProof.Rows.callWith_type1 (thn (ha.run pos pins s σ H _ I h) fun us s1 ⟨vs, H1, I1, r1, q1⟩ => ?_) hs rfl))
  obtain ⟨x, ex, q⟩ := q1
  subst ex
  cases r1 with
  | cons r rr =>
    cases rr
    obtain ⟨t, rfl⟩ := r
    refine call_enumerate_str fun h' he hit hsz hk => wpAny_pyIter_enum he ?_
    have I2 : Inv X pins σ H1 { s1 with heap := h' } := I1.kept (t' := s1.toks) hk
    refine ⟨s1.heap.objs.size + 1, [s1.heap.objs.size + 1, s1.heap.objs.size], _, _, H1, rfl, I2, turn_enumS x t (s1.heap.objs.size + 1) s1.heap.objs.size, ⟨⟨.none, he⟩, hit, Nat.succ_ne_self _⟩, fun b hb => ?_, q⟩
    have e' : b = s1.heap.objs.size + 1 ∨ b = s1.heap.objs.size := by simpa using hb
    have hle : s1.heap.objs.size ≤ b := by
      rcases e' with z | z
      · rw [z]; exact Nat.le_add_right _ _
      · rw [z]; exact Nat.le_refl _
    exact I1.fpOk hle (I1.hok.fresh hle)
theorem walk_enumS {z : Str} : Walk (ItU z) z.cps.size (fun _ => True) (fun i H v H' => ∃ T c, v = .ref T ∧ H T = none ∧ H' = upd H T (.tup [.int ((i : Nat) : Int), .str ⟨⟨[c]⟩⟩]) ∧ z.cps[i]? = some c) :=
  ⟨fun _ _ hi _ => hi, fun _ _ => rfl, fun _ _ _ _ _ _ y => y⟩
theorem enm_drop {t : List Nat} {it : Nat × Nat} (h : ((⟨⟨t⟩⟩ : Str).cps)[it.2]? = some it.1) : t.zipIdx.drop it.2 = it :: t.zipIdx.drop (it.2 + 1) := by
  have h' : t[it.2]? = some it.1 := by simpa using h
  refine get_drop ?_
  rw [List.getElem?_zipIdx, h']
  simp
theorem drop_enm_all {t : List Nat} : t.zipIdx.drop (⟨⟨t⟩⟩ : Str).cps.size = [] := List.drop_of_length_le (by rw [List.length_zipIdx]; exact Nat.le_refl _)
theorem take_enm_all {t : List Nat} : t.zipIdx.take (⟨⟨t⟩⟩ : Str).cps.size = t.zipIdx := List.take_of_length_le (by rw [List.length_zipIdx]; exact Nat.le_refl _)
end G
namespace G
open PySem PySem.Spec PyProof.Rows L2
/-! ### dicts -/
class Kf {κ C : Type} (f : κ → C) : Prop where
  inj : ∀ {a b : κ}, f a = f b → a = b
def kI : Int → Key := .inl
def kS : List Nat → Key := fun t => .inr ⟨⟨t⟩⟩
instance : Kf kI := ⟨fun h => Sum.inl.inj h⟩
instance : Kf kS := ⟨fun h => by injection h with h; injection h with h; injection h⟩
theorem kV_kI (i : Int) : kV (kI i) = .int i := rfl
theorem kV_kS (t : List Nat) : kV (kS t) = S t := rfl
section
variable {A B C D : Type}
def kT2 (f : A → Key) (g : B → Key) : A × B → List Key := fun x => [f x.1, g x.2]
def kT3 (f : A → Key) (g : B → Key) (h : C → Key) : A × B × C → List Key := fun x => [f x.1, g x.2.1, h x.2.2]
def kT4 (f : A → Key) (g : B → Key) (h : C → Key) (k : D → Key) : A × B × C × D → List Key := fun x => [f x.1, g x.2.1, h x.2.2.1, k x.2.2.2]
instance {f : A → Key} {g : B → Key} [Kf f] [Kf g] : Kf (kT2 f g) := ⟨fun {a b} h => by
  obtain ⟨a1, a2⟩ := a
  obtain ⟨b1, b2⟩ := b
  injection h with h1 h
  injection h with h2 h
  rw [show a1 = b1 from Kf.inj h1, show a2 = b2 from Kf.inj h2]⟩
instance {f : A → Key} {g : B → Key} {h : C → Key} [Kf f] [Kf g] [Kf h] : Kf (kT3 f g h) := ⟨fun {a b} h => by
  obtain ⟨a1, a2, a3⟩ := a
  obtain ⟨b1, b2, b3⟩ := b
  injection h with h1 h
  injection h with h2 h
  injection h with h3 h
  rw [show a1 = b1 from Kf.inj h1, show a2 = b2 from Kf.inj h2, show a3 = b3 from Kf.inj h3]⟩
instance {f : A → Key} {g : B → Key} {h : C → Key} {k : D → Key} [Kf f] [Kf g] [Kf h] [Kf k] : Kf (kT4 f g h k) := ⟨fun {a b} h => by
  obtain ⟨a1, a2, a3, a4⟩ := a
  obtain ⟨b1, b2, b3, b4⟩ := b
  injection h with h1 h
  injection h with h2 h
  injection h with h3 h
  injection h with h4 h
  rw [show a1 = b1 from Kf.inj h1, show a2 = b2 from Kf.inj h2, show a3 = b3 from Kf.inj h3, show a4 = b4 from Kf.inj h4]⟩
end
/-! the mirror: the pairs in order -/
section
variable {κ A : Type} [DecidableEq κ]
def dL (m : List (κ × A)) (k : κ) : Option A := (m.find? fun p => decide (p.1 = k)).map (·.2)
def dH (m : List (κ × A)) (k : κ) : Bool := m.any fun p => decide (p.1 = k)
def dP (m : List (κ × A)) (k : κ) (x : A) : List (κ × A) := if dH m k = true then m.map (fun p => if p.1 = k then (p.1, x) else p) else m ++ [(k, x)]
def dX (m : List (κ × A)) (k : κ) : List (κ × A) := m.filter fun p => decide (p.1 ≠ k)
def dM (m more : List (κ × A)) : List (κ × A) := more.foldl (fun acc p => dP acc p.1 p.2) m
end
inductive DR {κ C A : Type} (f : κ → C) (R : Rel A) (P : Hp) : List (C × V) → List (κ × A) → Prop where
  | nil : DR f R P [] []
  | cons {k : κ} {v : V} {x : A} {kvs : List (C × V)} {xs : List (κ × A)} : R P v x → DR f R P kvs xs → DR f R P ((f k, v) :: kvs) ((k, x) :: xs)
section
variable {κ C A : Type} {f : κ → C} {R : Rel A} {P P' : Hp}
theorem DR.up [Mo R] (e : Ext P P') : ∀ {vs : List (C × V)} {xs : List (κ × A)}, DR f R P vs xs → DR f R P' vs xs
  | _, _, .nil => .nil
  | _, _, .cons h t => .cons (Mo.mo e h) (DR.up e t)
theorem DR.len : ∀ {vs : List (C × V)} {xs : List (κ × A)}, DR f R P vs xs → vs.length = xs.length
  | _, _, .nil => rfl
  | _, _, .cons h t => by rw [List.length_cons, List.length_cons, DR.len t]
theorem DR.app : ∀ {vs us : List (C × V)} {xs ys : List (κ × A)}, DR f R P vs xs → DR f R P us ys → DR f R P (vs ++ us) (xs ++ ys)
  | _, _, _, _, .nil, h => h
  | _, _, _, _, .cons h t, h' => .cons h (DR.app t h')
theorem DR.keyAt : ∀ {vs : List (C × V)} {xs : List (κ × A)} {i : Nat} {c : C} {v : V}, DR f R P vs xs → vs[i]? = some (c, v) → ∃ k, c = f k ∧ (xs.map (·.1)).drop i = k :: (xs.map (·.1)).drop (i + 1)
  | _, _, _, _, _, .nil, h => by simp at h
  | _, _, 0, c, v, .cons (k := k) h t, hi => by
    cases hi
    exact ⟨k, rfl, rfl⟩
  | _, _, i + 1, c, v, .cons h t, hi => DR.keyAt (i := i) t hi
theorem DR.valAt : ∀ {vs : List (C × V)} {xs : List (κ × A)} {i : Nat} {c : C} {v : V}, DR f R P vs xs → vs[i]? = some (c, v) → ∃ x, R P v x ∧ (xs.map (·.2)).drop i = x :: (xs.map (·.2)).drop (i + 1)
  | _, _, _, _, _, .nil, h => by simp at h
  | _, _, 0, c, v, .cons (x := x) h t, hi => by
    cases hi
    exact ⟨x, h, rfl⟩
  | _, _, i + 1, c, v, .cons h t, hi => DR.valAt (i := i) t hi
variable [DecidableEq κ] [DecidableEq C] [Kf f]
theorem kf_dec (a b : κ) : decide (f a = f b) = decide (a = b) := by
  by_cases h : a = b
  · rw [h, decide_eq_true rfl, decide_eq_true rfl]
  · rw [decide_eq_false h, decide_eq_false (fun e => h (Kf.inj e))]
theorem DR.look (k : κ) : ∀ {vs : List (C × V)} {xs : List (κ × A)}, DR f R P vs xs → (valV vs (f k) = none ∧ dL xs k = none) ∨ ∃ v x, valV vs (f k) = some v ∧ dL xs k = some x ∧ R P v x
  | _, _, .nil => .inl ⟨rfl, rfl⟩
  | _, _, .cons (k := j) (v := v) (x := x) h t => by
    by_cases e : j = k
    · refine .inr ⟨v, x, valV_pos (by rw [e]), ?_, h⟩
      unfold dL
      rw [List.find?_cons, decide_eq_true e]
      rfl
    · rw [valV_neg (fun z => e (Kf.inj z))]
      rw [show ∀ l : List (κ × A), dL ((j, x) :: l) k = dL l k from fun l => by
        unfold dL
        rw [List.find?_cons, decide_eq_false e]]
      exact DR.look k t
theorem DR.get {vs : List (C × V)} {xs : List (κ × A)} {k : κ} {d : A} (h : DR f R P vs xs) (hs : (dL xs k).isSome = true) : ∃ v, valV vs (f k) = some v ∧ R P v ((dL xs k).getD d) := by
  rcases h.look k with ⟨_, e⟩ | ⟨v, x, e1, e2, r⟩
  · rw [e] at hs
    cases hs
  · exact ⟨v, e1, by rw [e2]; exact r⟩
theorem DR.opt {vs : List (C × V)} {xs : List (κ × A)} {k : κ} (h : DR f R P vs xs) : ∃ v, (valV vs (f k)).getD .non = v ∧ yO R P v (dL xs k) := by
  rcases h.look k with ⟨e1, e2⟩ | ⟨v, x, e1, e2, r⟩
  · exact ⟨.non, by rw [e1]; rfl, by rw [e2]; rfl⟩
  · exact ⟨v, by rw [e1]; rfl, by rw [e2]; exact r⟩
theorem DR.dflt {vs : List (C × V)} {xs : List (κ × A)} {k : κ} {z : V} {d : A} (h : DR f R P vs xs) (hz : R P z d) : ∃ v, (valV vs (f k)).getD z = v ∧ R P v ((dL xs k).getD d) := by
  rcases h.look k with ⟨e1, e2⟩ | ⟨v, x, e1, e2, r⟩
  · exact ⟨z, by rw [e1]; rfl, by rw [e2]; exact hz⟩
  · exact ⟨v, by rw [e1]; rfl, by rw [e2]; exact r⟩
theorem DR.has {vs : List (C × V)} {xs : List (κ × A)} {k : κ} (h : DR f R P vs xs) : (valV vs (f k)).isSome = (dL xs k).isSome := by
  rcases h.look k with ⟨e1, e2⟩ | ⟨v, x, e1, e2, r⟩
  · rw [e1, e2]; rfl
  · rw [e1, e2]; rfl
theorem dH_eq (m : List (κ × A)) (k : κ) : dH m k = (dL m k).isSome := by
  unfold dH dL
  induction m with
  | nil => rfl
  | cons p r ih =>
    rw [List.any_cons, List.find?_cons]
    by_cases e : p.1 = k
    · rw [decide_eq_true e]
      rfl
    · rw [decide_eq_false e, Bool.false_or]
      exact ih
theorem DR.repl {v : V} {x : A} (k : κ) (hv : R P v x) : ∀ {vs : List (C × V)} {xs : List (κ × A)}, DR f R P vs xs → DR f R P (vs.map fun kv => if kv.1 = f k then (kv.1, v) else kv) (xs.map fun p => if p.1 = k then (p.1, x) else p)
  | _, _, .nil => .nil
  | _, _, .cons (k := j) h t => by
    rw [List.map_cons, List.map_cons]
    by_cases e : j = k
    · rw [if_pos (show (f j = f k) by rw [e]), if_pos e]
      exact .cons hv (DR.repl k hv t)
    · rw [if_neg (show ¬ f j = f k from fun z => e (Kf.inj z)), if_neg e]
      exact .cons h (DR.repl k hv t)
theorem DR.put {vs : List (C × V)} {xs : List (κ × A)} {k : κ} {v : V} {x : A} (h : DR f R P vs xs) (hv : R P v x) : DR f R P (putK vs (f k) v) (dP xs k x) := by
  unfold putK dP
  rw [valV_any, h.has, dH_eq]
  by_cases e : (dL xs k).isSome = true
  · rw [if_pos e, if_pos e]
    exact DR.repl k hv h
  · rw [if_neg e, if_neg e]
    exact h.app (.cons hv .nil)
theorem DR.del {k : κ} : ∀ {vs : List (C × V)} {xs : List (κ × A)}, DR f R P vs xs → DR f R P (dropK vs (f k)) (dX xs k)
  | _, _, .nil => .nil
  | _, _, .cons (k := j) h t => by
    unfold dropK dX
    rw [List.filter_cons, List.filter_cons]
    by_cases e : j = k
    · rw [if_neg (by simp [e]), if_neg (by simp [e])]
      exact DR.del t
    · rw [if_pos (by simp; exact fun z => e (Kf.inj z)), if_pos (by simp [e])]
      exact .cons h (DR.del t)
end
theorem DR.merge {κ A : Type} [DecidableEq κ] {f : κ → Key} [Kf f] {R : Rel A} {P : Hp} : ∀ {ms : List (κ × A)} {more vs : List (Key × V)} {xs : List (κ × A)}, DR f R P vs xs → DR f R P more ms → DR f R P (mergeK vs more) (dM xs ms)
  | _, _, _, _, h, .nil => h
  | _, _, vs, xs, h, .cons (k := k) (v := v) (x := x) hv t => DR.merge (vs := putK vs (f k) v) (xs := dP xs k x) (h.put hv) t
/-! frozen dicts -/
def yD {κ A : Type} (f : κ → Key) (R : Rel A) : Rel (List (κ × A)) := fun P v x => ∃ (a : Addr) (o : Obj) (vs : List (Key × V)), v = .ref a ∧ P a = some (.frz o (.dK vs)) ∧ DR f R P vs x
def yDT {κ A : Type} (f : κ → List Key) (R : Rel A) : Rel (List (κ × A)) := fun P v x => ∃ (a : Addr) (o : Obj) (vs : List (List Key × V)), v = .ref a ∧ P a = some (.frz o (.dT vs)) ∧ DR f R P vs x
instance {κ A : Type} {f : κ → Key} {R : Rel A} [Mo R] : Mo (yD f R) := ⟨fun e ⟨a, o, vs, h, s, r⟩ => ⟨a, o, vs, h, e _ _ s, r.up e⟩⟩
instance {κ A : Type} {f : κ → List Key} {R : Rel A} [Mo R] : Mo (yDT f R) := ⟨fun e ⟨a, o, vs, h, s, r⟩ => ⟨a, o, vs, h, e _ _ s, r.up e⟩⟩
instance {κ A : Type} {f : κ → Key} {R : Rel A} : NN (yD f R) := ⟨fun ⟨a, o, vs, h, _⟩ e => by rw [h] at e; cases e⟩
instance {κ A : Type} {f : κ → List Key} {R : Rel A} : NN (yDT f R) := ⟨fun ⟨a, o, vs, h, _⟩ e => by rw [h] at e; cases e⟩
/-! ### locks that stay -/
def tLockA (t : TE) : TE := fun σ H Q => t σ H fun v H' => ∃ d u, H' d = some u ∧ Mut (some u) ∧ ∀ od, Q v (upd H' d (.frz od u))
def tLockB (t : TS) : TS := fun D σ H => ∃ d u, H d = some u ∧ Mut (some u) ∧ ∀ od, t D σ (upd H d (.frz od u))
section
variable {X : Cx}
theorem pe_lockA {e : Expr} {t : TE} (h : PE X e t) : PE X e (tLockA t) := by
  refine ⟨fun pins s σ H Q I hw => ?_⟩
  refine thn (h.run pins s σ _ _ I hw) fun v s1 ⟨x, H1, I2, r, d, u, hd, mu, q⟩ => ?_
  obtain ⟨od, I3⟩ := I2.lock hd mu
  exact ⟨x, _, I3, r, q od⟩
theorem ps_lockB {st : Stmt} {t : TS} (h : PS X st t) : PS X st (tLockB t) := by
  refine ⟨fun pins s σ H D I hw => ?_⟩
  obtain ⟨d, u, hd, mu, q⟩ := hw
  obtain ⟨od, I1⟩ := I.lock hd mu
  exact h.run pins s σ _ _ I1 (q od)
/-! ### in, not in -/
def rInD : R2 := fun y x H Q => ∃ a o, x = .ref a ∧ DGet H a y o ∧ Q (.bl o.isSome) H
def rNiD : R2 := fun y x H Q => ∃ a o, x = .ref a ∧ DGet H a y o ∧ Q (.bl (!o.isSome)) H
theorem o_inD (hu : X.A.units + 1 < cLine) : OpR X (compareOp .In) rInD := fun pins s σ H y x v u Q I ry rx h => by
  obtain ⟨a, o, rfl, g, q⟩ := h
  obtain rfl : u = Value.ref a := rx
  exact d_in hu I g ry fun s3 I3 => ⟨.bl o.isSome, H, I3, rfl, q⟩
theorem o_niD (hu : X.A.units + 1 < cLine) : OpR X (compareOp .NotIn) rNiD := fun pins s σ H y x v u Q I ry rx h => by
  obtain ⟨a, o, rfl, g, q⟩ := h
  obtain rfl : u = Value.ref a := rx
  exact d_notIn hu I g ry fun s3 I3 => ⟨.bl (!o.isSome), H, I3, rfl, q⟩
/-! ### list(d) -/
def rListK : List V → Hp → VK → Prop := fun xs H Q => ∃ p kvs, xs = [.ref p] ∧ Rd H p (.dK kvs) ∧ ∀ q, H q = none → Q (.ref q) (upd H q (.lst (kvs.map fun kv => kV kv.1)))
theorem c_listK (hc : X.calm = true) : CallR X (.type "list") rListK := by
  intro pins s σ H xs us Q I r h
  obtain ⟨p, kvs, e, hk, q⟩ := h
  subst e
  obtain ⟨u, eu, rx⟩ := vals1 r
  subst eu
  obtain rfl : u = Value.ref p := rx
  obtain ⟨z, lo, vs, rk, hd⟩ := dk_rd I.hok hk
  obtain ⟨ep, hat⟩ := hd.dictAt
  have hl : kvs.length = vs.length := Paired.length rk
  refine PySem.W.kdl_call (PySem.W.kdl_dict (knd := mixKind X.prog X.w) (kvs := vs) (ep := ep) lo) (I.ok.hd hc) hat (by rw [← hl]; exact z) fun h' tk acc' c' hkeep hS hacc => ?_
  refine ⟨.ref s.heap.objs.size, upd H s.heap.objs.size (.lst (kvs.map fun kv => kV kv.1)), I.laid hkeep (Nat.le_refl _) (show ObjOk X.prog X.w _ _ _ (.lst (kvs.map fun kv => kV kv.1)) from ⟨?_, acc'.toList, c', ?_, ?_⟩), rfl, q _ (I.hok.fresh (Nat.le_refl _))⟩
  · rw [List.length_map]; exact z
  · have el : acc'.toList.length = acc'.size := by simp
    refine vals_of_at (by rw [List.length_map, el, hacc.1, hl]) fun j x w h1 h2 => ?_
    obtain ⟨k, y, hky, hi⟩ := hacc.2 j w (by rw [← Array.getElem?_toList]; exact h2)
    have e1 : (kvs.map (·.1))[j]? = some k := by
      rw [KV.keys rk, List.getElem?_map, hky] <;> rfl
    have e2 : (kvs.map fun kv => kV kv.1)[j]? = some (kV k) := by
      have e3 : (kvs.map fun kv => kV kv.1) = (kvs.map (·.1)).map kV := by rw [List.map_map] <;> rfl
      rw [e3, List.getElem?_map, e1] <;> rfl
    rw [e2] at h1
    cases h1
    exact keyIs_rel hi
  · rw [Array.toArray_toList]; exact hS
end
/-- a dict comprehension over a walk -/
theorem dc_it {J : It} {n : Nat} {G : Hp → Prop} {Y : Nat → Hp → V → Hp → Prop} (w : Walk J n G Y) {g : TG} {tt : TT} {tk tv : TE} {vs : List Nat} {σ : L2.St} {H1 : Hp} {D : Addr} {Qd : Hp → Prop} (Pv : Nat → Hp → Prop) (h0 : Pv 0 (upd H1 D (.dK []))) (hG : ∀ i H, i ≤ n → Pv i H → G H)
    (hs : ∀ i x H H', i < n → Pv i H → Y i H x H' → g x (wipe σ vs) H' fun σ2 H2 => wipe σ2 vs = wipe σ vs ∧ tt σ2 H2 fun b H3 =>
      if b = true then tk σ2 H3 fun y H4 => tv σ2 H4 fun z H5 => ∃ kvs k, y = kV k ∧ H5 D = some (.dK kvs) ∧ kvs.length < sizeLine ∧ Pv (i + 1) (upd H5 D (.dK (putK kvs k z))) else Pv (i + 1) H3) (hd : ∀ H, Pv n H → Qd H) :
    ∃ W : Nat → Nat → Hp → Prop, (∃ m, W 0 m (upd H1 D (.dK []))) ∧ ∀ i m H, W i m H →
      (J.stop i H ∧ Qd H) ∨ (J.go i H ∧ ∃ Nx : Hp → Prop, (∀ H', Nx H' → ∃ m', m' < m ∧ W (i + 1) m' H') ∧ ∀ x H', J.yld i H x H' → g x (wipe σ vs) H' fun σ2 H2 => wipe σ2 vs = wipe σ vs ∧ tt σ2 H2 fun b H3 =>
        if b = true then tk σ2 H3 fun y H4 => tv σ2 H4 fun z H5 => ∃ kvs k, y = kV k ∧ H5 D = some (.dK kvs) ∧ kvs.length < sizeLine ∧ Nx (upd H5 D (.dK (putK kvs k z))) else Nx H3) := by
  refine ⟨fun i m H => m = n - i ∧ i ≤ n ∧ Pv i H, ⟨n, by simp, Nat.zero_le _, h0⟩, ?_⟩
  rintro i m H ⟨rfl, hi, p⟩
  have q := hG i H hi p
  by_cases hlt : i < n
  · refine .inr ⟨w.goes i H hlt q, Pv (i + 1), fun H' p' => ⟨n - (i + 1), by omega, rfl, hlt, p'⟩, fun x H' y => hs i x H H' hlt p (w.yields i H x H' hlt q y)⟩
  · have e : i = n := by omega
    subst e
    exact .inl ⟨w.stops H q, hd H p⟩
/-- {(..): v} -/
def tDispT (tk tv : TE) : TE := fun σ H Q => ∀ p, H p = none → tk σ (upd H p (.dT [])) fun x H1 => tv σ H1 fun y H2 => ∃ (b : Addr) (ks : List Key), x = .ref b ∧ H2 b = some (.tup (ks.map kV)) ∧ H2 p = some (.dT []) ∧ Q (.ref p) (upd H2 p (.dT [(ks, y)]))
theorem pe_dispT {X : Cx} {pos : Pos} {k v : Expr} {tk tv : TE} (hu : X.A.units + 1 < cLine) (hk : PE X k tk) (hv : PE X v tv) : PE X (.Dict [some k] [v] pos) (tDispT tk tv) := by
  refine ⟨fun pins s σ H Q I q => ?_⟩
  have hn := I.hok.fresh (Nat.le_refl s.heap.objs.size)
  have I1 := I.laid (a := s.heap.objs.size) (o := .dT []) (h' := s.heap.push { cls := .type "dict", data := .dict #[] }) (t' := s.toks) (fun _ _ q => Heap.get?_push_of_some _ q) (Nat.le_refl _) (dt_empty s.heap I.big)
  refine wpAny_Dict_any rfl rfl (by simp) (by simp) (pairTrees_cons_walk (thn (hk.run pins _ σ _ _ I1 (q _ hn)) fun u s1 ⟨x, H1, I1', rx, q1⟩ => thn (hv.run pins s1 σ H1 _ I1' q1) fun w2 s2 ⟨y, H2, I2, ry, b, ks, ex, hb, hp, q2⟩ => pairTrees_nil_walk ?_))
  subst ex
  cases (show u = Value.ref b from rx)
  unfold storeAll
  rw [List.forIn_cons]
  obtain ⟨z, hd, xs, rel, dd⟩ := dt_of I2.hok hp
  cases rel
  refine wpAny_bind (wpAny_bind (wpAny_dictSet_heap (hsz := by decide) (show X.A.units < cLine by omega) (key_of I2.hok hb) dd fun h' dd' hs => wpAny_pure ?_))
  dsimp only
  rw [List.forIn_nil]
  refine wpAny_pure ⟨.ref s.heap.objs.size, _, ?_, rfl, q2⟩
  obtain ⟨o, es, ep, ho, h2, h3, h4, _, h5⟩ := dd'
  refine d_write I2 (by rw [hp]; exact True.intro) hs ⟨o, ho⟩ ⟨by show 1 ≤ sizeLine; decide, hd, _, (KT.put (H := H2) (kvs := []) Paired.nil ks hb ry).keeps fun c ys ec => ?_, o, es, ep, ho, h2, h3, h4, h5⟩
  rw [upd_ne (ne_of ec hp (fun z => nomatch z))]
  exact ec
theorem un1 {A : Around} (h : A.units + 64 < cLine) : A.units + 1 < cLine := by omega
theorem pss_lockB {X : Cx} {st : List Stmt} {t : TS} (h : PSs X st t) : PSs X st (tLockB t) := by
  refine ⟨fun pins s σ H D I hw => ?_⟩
  obtain ⟨d, u, hd, mu, q⟩ := hw
  obtain ⟨od, I1⟩ := I.lock hd mu
  exact h.run pins s σ _ _ I1 (q od)
def iKeysK (td : TE) : TI := fun σ H R => td σ H fun x H1 => ∃ d o kvs, x = .ref d ∧ H1 d = some (.frz o (.dK kvs)) ∧ R (Itk d o kvs) H1
theorem pi_keysK {X : Cx} {tg e : Expr} {td : TE} (he : PE X e td) : PI X tg e (iKeysK td) := by
  refine ⟨fun pins s σ H R I h => ?_⟩
  refine thn (he.run pins s σ H _ I h) fun u s1 ⟨x, H1, I1, rx, d, o, kvs, ex, hd, q⟩ => ?_
  subst ex
  obtain rfl : u = Value.ref d := rx
  obtain ⟨hs, hgd, hx, es, ep, vs, hdt, hsz, kv, hm⟩ := I1.frzK hd
  refine iter_keys hs hgd hx hdt (pi_one (tk := s1.toks) I1 _ (turn_keys _ hdt) ⟨_, Heap.get?_push_size _ rfl, rfl, ?_⟩ q)
  rw [hsz] <;> rfl
section
variable {κ C A B : Type} {f : κ → C} {R : Rel A} {P : Hp}
theorem DR.dropall {g : κ × A → B} {vs : List (C × V)} {xs : List (κ × A)} (h : DR f R P vs xs) : (xs.map g).drop vs.length = [] := by
  rw [h.len]
  exact List.drop_eq_nil_of_le (by rw [List.length_map]; exact Nat.le_refl _)
theorem DR.takeall {g : κ × A → B} {vs : List (C × V)} {xs : List (κ × A)} (h : DR f R P vs xs) : (xs.map g).take vs.length = xs.map g := by
  rw [h.len]
  exact List.take_of_length_le (by rw [List.length_map]; exact Nat.le_refl _)
theorem DR.bnd {g : κ × A → B} {vs : List (C × V)} {xs : List (κ × A)} {n : Nat} (h : DR f R P vs xs) (hn : (xs.map g).length ≤ n) : vs.length ≤ n := by
  rw [h.len]
  rw [List.length_map] at hn
  exact hn
theorem dP_len [DecidableEq κ] {m : List (κ × A)} {k : κ} {x : A} {i : Nat} (h : m.length ≤ i) : (dP m k x).length ≤ i + 1 := by
  unfold dP
  split
  · rw [List.length_map]; omega
  · rw [List.length_append]; simp only [List.length_cons, List.length_nil]; omega
end
theorem DR.keysI {A : Type} {R : Rel A} {P Q : Hp} : ∀ {vs : List (Key × V)} {xs : List (Int × A)}, DR kI R P vs xs → AR yI Q (vs.map fun kv => kV kv.1) (xs.map (·.1))
  | _, _, .nil => .nil
  | _, _, .cons h t => .cons rfl (DR.keysI t)
theorem DR.keysS {A : Type} {R : Rel A} {P Q : Hp} : ∀ {vs : List (Key × V)} {xs : List (List Nat × A)}, DR kS R P vs xs → AR yS Q (vs.map fun kv => kV kv.1) (xs.map (·.1))
  | _, _, .nil => .nil
  | _, _, .cons h t => .cons rfl (DR.keysS t)
end G
namespace G
open PySem PySem.Spec PyProof.Rows L2
/-- the scope of a comprehension that is assigned as a whole, the n-th of the def's own -/
def lcOf : Stmt → Option Scope
  | .Assign _ (.ListComp _ _ sc _) _ => some sc
  | _ => none
def cScope (st : Stmt) (n : Nat) : Scope := ((defBody st).filterMap lcOf).getD n { kind := .module, names := [], isGenerator := false, isCoroutine := false, more := [] }
/-! ### a slot that may be empty -/
def yM {A : Type} (R : Rel A) (P : Hp) (y : Option V) (x : Option A) : Prop := ∀ a, x = some a → ∃ v, y = some v ∧ R P v a
theorem yM_none {A : Type} {R : Rel A} {P : Hp} {y : Option V} : yM R P y none := fun _ h => nomatch h
theorem yM_some {A : Type} {R : Rel A} {P : Hp} {v : V} {x : A} (h : R P v x) : yM R P (some v) (some x) := fun a e => by cases e; exact ⟨v, rfl, h⟩
theorem yM_up {A : Type} {R : Rel A} [Mo R] {P P' : Hp} {y : Option V} {x : Option A} (e : Ext P P') (h : yM R P y x) : yM R P' y x := fun a q => by
  obtain ⟨v, h1, h2⟩ := h a q
  exact ⟨v, h1, Mo.mo e h2⟩
theorem yM_get {A : Type} {R : Rel A} {P : Hp} {y : Option V} {x : Option A} (d : A) (h : yM R P y x) (hs : x.isSome = true) : ∃ v, y = some v ∧ R P v (x.getD d) := by
  cases x with
  | none => cases hs
  | some a => exact h a rfl
section
variable {S R T : Type}
theorem Lr.el_nx {s : S} {r : R → T} {k : S → T} : Lr.el (.nx s) r k = k s := rfl
theorem Lr.el_bk {s : S} {r : R → T} {k : S → T} : Lr.el (.bk s) r k = k s := rfl
theorem Lr.el_rt {x : R} {r : R → T} {k : S → T} : Lr.el (.rt x) r k = r x := rfl
end
/-! ### list(text) -/
def rListS : List V → Hp → VK → Prop := fun xs H Q => ∃ t : List Nat, xs = [S t] ∧ t.length ≤ sizeLine ∧ ∀ q, H q = none → Q (.ref q) (upd H q (.lst (t.map fun c => S [c])))
theorem c_listS {X : Cx} (hc : X.calm = true) : CallR X (.type "list") rListS := by
  intro pins s σ H xs us Q I r h
  obtain ⟨t, rfl, z, q⟩ := h
  obtain ⟨u, rfl, tk0, rfl⟩ := vals1 r
  refine call_list_str (I.ok.hd hc) ⟨⟨t⟩⟩ tk0 (fun h' tk acc' c' hkeep hS hacc => ?_) z
  refine ⟨.ref s.heap.objs.size, upd H s.heap.objs.size (.lst (t.map fun c => S [c])), I.laid hkeep (Nat.le_refl _) (show ObjOk X.prog X.w _ _ _ (.lst (t.map fun c => S [c])) from ⟨?_, acc'.toList, c', ?_, ?_⟩), rfl, q _ (I.hok.fresh (Nat.le_refl _))⟩
  · rw [List.length_map]; exact z
  · have el : acc'.toList.length = acc'.size := by simp
    have e0 : acc'.size = t.length := hacc.1
    refine vals_of_at (by rw [List.length_map, el, e0]) fun j x w h1 h2 => ?_
    obtain ⟨c, u, hc, hw⟩ := hacc.2 j w (by rw [← Array.getElem?_toList]; exact h2)
    have e1 : t[j]? = some c := by simpa using hc
    rw [List.getElem?_map, e1] at h1
    cases h1
    exact ⟨u, hw⟩
  · rw [Array.toArray_toList]; exact hS
theorem signs_ar {P : Hp} : ∀ t : List Nat, AR yS P (t.map fun c => S [c]) (t.map fun c => [c])
  | [] => .nil
  | c :: r => .cons rfl (signs_ar r)
/-! ### max of three ints -/
def mx3 (i j k : Int) : Int := if (if i < j then j else i) < k then k else if i < j then j else i
def rMax3 : List V → Hp → VK → Prop := fun xs H Q => ∃ i j k, xs = [.int i, .int j, .int k] ∧ Q (.int (mx3 i j k)) H
theorem c_max3 {X : Cx} (hc : X.calm = true) : CallR X (.builtin "max") rMax3 := by
  intro pins s σ H xs us Q I r h
  obtain ⟨i, j, k, rfl, q⟩ := h
  refine call_max3Nu hc pins s σ H _ us Q I r ⟨.int i, .int j, .int k, .int (mx3 i j k), rfl, ?_, q⟩
  unfold mx3
  by_cases h1 : i < j
  · by_cases h2 : j < k
    · simp [nuMax3, nuMax2, nuLt, nuCB, h1, h2]
    · simp [nuMax3, nuMax2, nuLt, nuCB, h1, h2]
  · by_cases h2 : i < k
    · simp [nuMax3, nuMax2, nuLt, nuCB, h1, h2]
    · simp [nuMax3, nuMax2, nuLt, nuCB, h1, h2]
section
variable {X : Cx} {W : WX} {k j : Nat} {sp : Sp} {C : Addr} {pos p : Pos} {l r o e : Expr} {es : List Expr} {tl tr ta te : TE} {t : TA} {op : Operator} {x : Str}
/-! ### a op b, both of one own class -/
def tBinO (C : Addr) (sp : Sp) (W : WX) (tl tr : TE) : TE := fun σ H Q => tl σ H fun x H1 => tr σ H1 fun y H2 => ∃ a dx fs b dy gs, x = .ref a ∧ y = .ref b ∧ H2 a = some (.ins C dx fs) ∧ H2 b = some (.ins C dy gs) ∧ sp [.ref a, .ref b] H2 (fun v H3 => (∃ p, v = .ref p) ∧ Q v H3) (WE W σ)
theorem pe_binO {nm : Str} (c : CalME X.prog X.w X.K X.mg X.base k C nm sp) (hnm : nm = PySem.dunder op.info.2) (tk : Takes X W) (hc : PySem.W.selfFirst X.K C = true) (hr : Room j X.A) (hk : k ≤ j) (hl : PE X l tl) (hrr : PE X r tr) : PE X (.BinOp l op r pos) (tBinO C sp W tl tr) := by
  subst hnm
  obtain ⟨f, fd, ps, F, hm, b, cl⟩ := c.ex
  refine ⟨fun pins s σ H Q I h => ?_⟩
  refine wpAny_BinOp (thn (hl.run pins s σ H _ I h) fun u s1 ⟨x, H1, I1, rx, q1⟩ => thn (hrr.run pins s1 σ H1 _ I1 q1) fun u2 s2 ⟨y, H2, I2, ry, a, dx, fs, b', dy, gs, ex, ey, ha, hb, q⟩ => ?_)
  subst ex ey
  obtain rfl : u = Value.ref a := rx
  obtain rfl : u2 = Value.ref b' := ry
  obtain ⟨mA, J, _⟩ := ins_get I2.hok ha
  obtain ⟨od, J, _⟩ := J.look
  obtain ⟨mB, J', _⟩ := ins_get I2.hok hb
  obtain ⟨od', J', _⟩ := J'.look
  obtain ⟨m, hF⟩ := I2.fr
  refine PySem.W.binop_K hF I2.ok.mod.kin J J'.type hc hm.at_ hm.fn ?_
  refine thn (wpAny_call (run_fnRS (us := [.ref a, .ref b']) (vs := [.ref a, .ref b']) (fnR_ofX F b) (hr.mono hk) (passAt tk σ) I2 (.cons rfl (.cons rfl .nil)) q)) fun v s' ⟨z, H3, I3, rz, ⟨p, ez⟩, q3⟩ => ?_
  subst ez
  obtain rfl : v = Value.ref p := rz
  exact ⟨.ref p, H3, I3, rfl, q3⟩
/-! ### o(e, ..), o an instance -/
def tCoE (C : Addr) (sp : Sp) (W : WX) (ta : TE) (t : TA) : TE := fun σ H Q => ta σ H fun y H1 => ∃ a, y = V.ref a ∧ t σ H1 fun vs H2 => ∃ dx fs, H2 a = some (.ins C dx fs) ∧ sp (V.ref a :: vs) H2 Q (WE W σ)
theorem pe_coe (c : CalME X.prog X.w X.K X.mg X.base k C "__call__" sp) (hfi : ∀ g, PySem.W.findIn X.K (.ref C) "__call__" = some (some (.ref g)) → PySem.W.fnIn X.K g = true) (tk : Takes X W) (hr : Room j X.A) (hk : k ≤ j) (hf : PE X o ta) (ha : PA X (e :: es) t)
    (ht : eval (.Call o (e :: es) [] pos) X.env = (do callWith pos (← eval o X.env) [] (backTo pos (starEach (e :: es) X.env)) (backToKw pos (keywordEach [] X.env))) := by rfl)
    (he : starEach (e :: es) X.env = (false, eval e X.env) :: starEach es X.env := by rfl) (hpl : (backTo pos (starEach es X.env)).any (·.1) = false := by rfl) : PE X (.Call o (e :: es) [] pos) (tCoE C sp W ta t) := by
  obtain ⟨f, fd, ps, F, hm, b, cl⟩ := c.ex
  refine ⟨fun pins s σ H Q I h => ?_⟩
  refine Call_ (thn (hf.run pins s σ H _ I h) fun u s1 ⟨y, H1, I1, ry, a, ey, q⟩ => ?_) ht
  subst ey
  obtain rfl : u = Value.ref a := ry
  refine StX.callO_with (thn (ha.run pos pins s1 σ H1 _ I1 q) fun us s2 ⟨vs, H2, I2, r, dx, fs, hi, q2⟩ => ?_) he hpl
  obtain ⟨ox, od, J, hd⟩ := StX.insC_at (X := X) (C := C) I2 (.inr ⟨dx, fs, hi⟩)
  exact ⟨⟨C, ox, od, J, hd⟩, wpAny_call (PySem.W.kco_code I2.kIn J hd hm.at_ hm.fn (hfi _ hm.at_) (run_fnRS (us := .ref a :: us) (vs := .ref a :: vs) (fnR_ofX F b) (hr.mono hk) (passAt tk σ) I2 (.cons rfl r) q2))⟩
/-! ### C(e, ..), __init__ may raise -/
structure CalIE (P : Program) (w : World) (K : PySem.W.Frag) (mg : Str → Option Value) (base : Heap) (k : Nat) (x : Str) (C : Addr) (sp : Sp) : Prop where
  ex : ∃ (f : Addr) (fd : FuncData) (ps : List Str), FnOk P w K mg base (L2.CX P w) k f fd ps sp ∧ mg x = some (.ref C) ∧ Mk K C f ∧ Binds K fd ps []
def tMakeE (C : Addr) (sp : Sp) (W : WX) (t : TA) : TE := fun σ H Q => t σ H fun vs H1 => ∀ x dx, H1 x = Option.none → H1 dx = Option.none → dx ≠ x → sp (V.ref x :: vs) (upd (upd H1 dx (.own x)) x (.ins C dx [])) (fun v H2 => v = .non ∧ Q (.ref x) H2) (WE W σ)
theorem pe_cie (c : CalIE X.prog X.w X.K X.mg X.base k x C sp) (tk : Takes X W) (hr : Room j X.A) (hk : k + 1 ≤ j) (hg : Gl X x) (ha : PA X (e :: es) t)
    (hdb : (x == ("__debug__" : Str)) = false := by decide) (he : starEach (e :: es) X.env = (false, eval e X.env) :: starEach es X.env := by rfl) (hpl : (backTo pos (starEach es X.env)).any (·.1) = false := by rfl) : PE X (.Call (.Name x p) (e :: es) [] pos) (tMakeE C sp W t) := by
  obtain ⟨f, fd, ps, F, hmg, M, b⟩ := c.ex
  refine ⟨fun pins s σ H Q I h => ?_⟩
  refine wpAny_Call_Name_kw (thn ((pe_gc (v := V.ref C) hg ⟨_, hmg, rfl⟩ hdb).run pins s σ H (fun v H' => v = .ref C ∧ H' = H) I ⟨rfl, rfl⟩) fun u s0 ⟨y, H0, I0, ry, ey, eh⟩ => ?_)
  subst ey
  subst eh
  obtain rfl : u = Value.ref C := ry
  refine PySem.W.callWith_K (h₀ := X.base) I0.ok.mod.kin M.kp (thn (ha.run pos pins s0 σ _ _ I0 h) fun us s1 ⟨vs, H1, I1, r, q⟩ => ⟨I1.kIn, ?_⟩) he hpl
  exact run_makeRS M (fnR_ofX F b) (hr.mono hk) (passAt tk σ) I1 r q
/-! ### o.m() that may raise -/
theorem pe_cme0 {m : Str} {apos : Pos} {pl : Sem Bool} (c : CalME X.prog X.w X.K X.mg X.base k C m sp) (tk : Takes X W) (hr : Room j X.A) (hk : k ≤ j) (ho : PE X o ta)
    (ht : eval (.Call (.Attribute o m apos) [] [] pos) X.env = (do
      let ov ← eval o X.env
      standAt apos.atName
      let (f, first) ← holding [ov] (getMethod ov m pl)
      callWith pos f first (backTo pos (starEach [] X.env)) (backToKw pos (keywordEach [] X.env))) := by rfl) :
    PE X (.Call (.Attribute o m apos) [] [] pos) (tMethE C m sp W ta tNil) := by
  obtain ⟨f, fd, ps, F, hm, b, cl⟩ := c.ex
  refine ⟨fun pins s σ H Q I h => ?_⟩
  refine PySem.W.methodCall_KW (pl := pl) (thn (ho.run pins s σ H _ I h) fun u s1 ⟨x, H1, I1, rx, a, dx, fs, ex, ea, l, q⟩ => ?_) ht
  subst ex
  obtain rfl : u = Value.ref a := rx
  refine getmeth_ok I1 ea cl hm l ?_
  refine PySem.W.callWith_K0 (first := [.ref a]) I1.kIn hm.kp ?_
  exact wpAny_call (run_fnRS (us := [.ref a]) (vs := [.ref a]) (fnR_ofX F b) (hr.mono hk) (passAt tk σ) I1 (.cons rfl .nil) q)
end
end G
namespace G
open PySem PySem.Spec PyProof.Rows L2
section
variable {X : Cx}
/-! ### x = {k: v for ..} as a statement -/
theorem sw_trueD {kx vx : Expr} {gs : List Comprehension} {scope : Scope} {pos py : Pos} {y : Str} {l : Nat} {env : Env} (hk : env.scope.kind = .function) (hy : env.scope.names.lookup y = some .local) (hl : (py.line == pos.line) = true)
    (ha : (scope.names.any fun (n, k) => n == y && (k == .local || k == .cell)) = false) : swapsWith (.DictComp kx vx gs scope pos) (some (.Name y py)) l env = pure true := by
  have k1 : env.kindOf y = some .local := hy
  have k2 : env.blockKind = .function := by unfold Env.blockKind; rw [hk]; rfl
  unfold swapsWith
  simp only [k2, k1, ha, Expr.pos, hl]
  rfl
theorem ps_setDc {i : Nat} {y : Str} {py : Pos} {kx vx tg iter : Expr} {ifs : List Expr} {scope : Scope} {own : List (Str × Nat)} {pos spos : Pos} {wi : TI} {g : TG} {tt : TT} {tk tv : TE} (hc : X.calm = true) (hN : X.N.Nodup) (hy : X.N[i]? = some y) (hyl : X.env.scope.names.lookup y = some .local)
    (hsw : swapsWith (.DictComp kx vx [⟨tg, iter, ifs, 0⟩] scope pos) (some (.Name y py)) spos.line X.env = pure true) (hi : PI X tg iter wi) (ok : BlkOk X.N X.env.scope scope own)
    (hg : ∀ (s : Shared) (H : Hp) (C : Addr) (cl : List (Str × Addr)) (fp : List Addr), PG (X.blk s H scope (compEnvC scope cl C X.env) fp) tg g)
    (ht : ∀ (s : Shared) (H : Hp) (C : Addr) (cl : List (Str × Addr)) (fp : List Addr), PTs (X.blk s H scope (compEnvC scope cl C X.env) fp) ifs tt)
    (hk : ∀ (s : Shared) (H : Hp) (C : Addr) (cl : List (Str × Addr)) (fp : List Addr), PE (X.blk s H scope (compEnvC scope cl C X.env) fp) kx tk)
    (hv : ∀ (s : Shared) (H : Hp) (C : Addr) (cl : List (Str × Addr)) (fp : List Addr), PE (X.blk s H scope (compEnvC scope cl C X.env) fp) vx tv) (hs : ∀ x, foldedSetIterable iter X.env x = pure x := by intro _; rfl) :
    PS X (.Assign [.Name y py] (.DictComp kx vx [⟨tg, iter, ifs, 0⟩] scope pos) spos) (tAsg (tDc wi g tt tk tv (own.map (·.2))) (gName i)) := by
  refine ⟨fun pins s σ H D I h => ?_⟩
  rw [exec_Assign_Name_used _ _ _ _ hsw]
  refine wpAny_bind (wpAny_standAt (wpAny_bind ?_))
  show wpAny _ X.A (do let _ ← comprehension (.DictComp kx vx [⟨tg, iter, ifs, 0⟩] scope pos) scope X.env (firstIterPos [⟨tg, iter, ifs, 0⟩] pos) newDict false (eval iter X.env) (some (assign (.Name y py) X.env))) _ _ s
  have h' : tDc wi g tt tk tv (own.map (·.2)) σ H (fun x H1 => gName i x σ H1 D.nx) := h
  refine wpAny_bind (thn (dc_core (Qf := fun _ s' => SP X pins D .next s') hc hN I hi ok hg ht hk hv hs h' fun E C s' m H' I' q hn f => ?_) fun _ s' hq => wpAny_pure (wpAny_pure hq))
  show wpAny _ _ (assign (.Name y py) X.env (.ref E)) _ _ _
  obtain ⟨f0, f1, f2, f3, f4, f5⟩ := f
  refine wpAny_assign_Name (store_ok2 (v := V.ref E) I' hN hy (.inl hyl) rfl (fun s2 I2 ⟨a, sb, ha⟩ => ?_) (.inr hyl))
  have hne : C ≠ a := by
    rcases ha with z | z
    · rw [z]
      exact f1
    · exact fun e => f4 y a z e.symm
  exact ⟨m, hn.sameBut sb hne, fun h3 sb3 => ⟨_, H', I2.turned (t' := s2.toks) (fun b o hb e => (sb3.2 b hb).trans e) f0 f1 f3 f4 f5, q⟩⟩
theorem ip_addS : PIp X .Add G.rAddS := fun pins s σ H x y u v Q I rx ry h => by
  obtain ⟨a, b, rfl, rfl, hl, q⟩ := h
  refine in_addS pins s σ H _ _ u v Q I rx ry ⟨_, _, rfl, rfl, ?_, ?_⟩
  · exact hl
  · rw [S_app]
    exact q
end
instance : EnF yN (fun _ => PyData.none) := ⟨fun h => by rw [Df]; exact h⟩
instance {K : PySem.W.Frag} : En K yN okA 0 where
  enc := fun _ => .none
  dp h := by cases h; exact .non
  inj := by intro x y; simp [PyData.eqv]
  lay _ := by simp [PyData.canLay0]
  dep := by intro x; simp [PyData.depth]
end G
namespace G
open PySem PySem.Spec PyProof.Rows L2
section
variable {X : Cx}
/-! ### i in range(n) -/
def rRng1 : List V → Hp → VK → Prop := fun vs H Q => ∃ j, vs = [.int j] ∧ ∀ p, H p = none → Q (.ref p) (upd H p (.rng 0 j))
theorem c_range1 : CallR X (.type "range") rRng1 := by
  intro pins s σ H vs us Q I r h
  obtain ⟨j, rfl, q⟩ := h
  obtain ⟨u, rfl, rj⟩ := vals1 r
  obtain ⟨t, rfl⟩ := rj
  refine call_range_1 ⟨.ref s.heap.objs.size, upd H s.heap.objs.size (.rng 0 j), I.laid (t' := s.toks + 2) (fun b o e => Heap.get?_push_of_some _ e) (Nat.le_refl _) ?_, rfl, q _ (I.hok.fresh (Nat.le_refl _))⟩
  exact ⟨s.toks, t, s.toks + 1, Heap.get?_push_size _ rfl⟩
def rInRg : R2 := fun x y H Q => ∃ i a lo hi, x = V.int i ∧ y = V.ref a ∧ H a = some (.rng lo hi) ∧ Q (.bl (decide (lo ≤ i ∧ i < hi))) H
theorem o_inRg : OpR X (compareOp .In) rInRg := op_in_rng
/-! ### x in xs, where the items are data of any depth -/
section
variable {A : Type} {K : PySem.W.Frag} {R1 : Rel A} {ok1 : A → Bool} {n : Nat}
def memD [DecidableEq A] (a : A) (bs : List A) : Bool := decide (a ∈ bs)
theorem memD_iff [DecidableEq A] {a : A} {bs : List A} : memD a bs = true ↔ a ∈ bs := decide_eq_true_iff
def rInRr [DecidableEq A] (R : Rel A) (ok : A → Bool) : L2.R2 := fun x y H Q => ∃ (a : A) (bs : List A), R H x a ∧ yL R H y bs ∧ (ok a = true ∧ okL ok bs = true) ∧ Q (.bl (memD a bs)) H
def rNiRr [DecidableEq A] (R : Rel A) (ok : A → Bool) : L2.R2 := fun x y H Q => ∃ (a : A) (bs : List A), R H x a ∧ yL R H y bs ∧ (ok a = true ∧ okL ok bs = true) ∧ Q (.bl (!memD a bs)) H
theorem any_mem [DecidableEq A] [e : En K R1 ok1 n] (a : A) : ∀ bs : List A, ((bs.map e.enc).any fun z => PyData.eqv z (e.enc a)) = memD a bs
  | [] => by simp [memD]
  | b :: bs => by
    rw [List.map_cons, List.any_cons, any_mem a bs, eqv_dec (e := e)]
    unfold memD
    rw [Bool.eq_iff_iff, Bool.or_eq_true, decide_eq_true_eq, decide_eq_true_eq, decide_eq_true_eq, List.mem_cons]
    exact ⟨fun h => h.imp Eq.symm id, fun h => h.imp Eq.symm id⟩
theorem o_inRK [DecidableEq A] [e : En K R1 ok1 n] (hu : X.A.in1.units + 64 < cLine) (hK : X.K = K := by rfl) (hn : n + 1 ≤ 64 := by decide) : OpR X (compareOp .In) (rInRr R1 ok1) := by
  subst hK
  intro pins s σ H x y v u Q I rx ry h
  obtain ⟨a, bs, r1, r2, o, q⟩ := h
  have hu' : X.A.units + 65 < cLine := by
    have h2 : X.A.units + 1 + 64 < cLine := hu
    omega
  exact op_inD hu' pins s σ H x y v u Q I rx ry ⟨e.enc a, bs.map e.enc, e.dp r1, (inferInstance : En X.K (yL R1) (okL ok1) (n + 1)).dp r2, shp o.1 (by omega), shp (K := X.K) (R1 := yL R1) (i := bs) o.2 hn, by rw [any_mem]; exact q⟩
theorem o_niRK [DecidableEq A] [e : En K R1 ok1 n] (hu : X.A.in1.units + 64 < cLine) (hK : X.K = K := by rfl) (hn : n + 1 ≤ 64 := by decide) : OpR X (compareOp .NotIn) (rNiRr R1 ok1) := by
  subst hK
  intro pins s σ H x y v u Q I rx ry h
  obtain ⟨a, bs, r1, r2, o, q⟩ := h
  have hu' : X.A.units + 65 < cLine := by
    have h2 : X.A.units + 1 + 64 < cLine := hu
    omega
  exact op_notInD hu' pins s σ H x y v u Q I rx ry ⟨e.enc a, bs.map e.enc, e.dp r1, (inferInstance : En X.K (yL R1) (okL ok1) (n + 1)).dp r2, shp o.1 (by omega), shp (K := X.K) (R1 := yL R1) (i := bs) o.2 hn, by rw [any_mem]; exact q⟩
end
end
end G
namespace G
open PySem PySem.Spec PyProof.Rows L2
/-! ### data: an optional text; a text, a truth value, a number within data; is None -/
def eO {A : Type} (f : A → PyData) : Option A → PyData
  | none => .none
  | some x => f x
def okO {A : Type} (ok : A → Bool) : Option A → Bool
  | none => true
  | some x => ok x
instance {K : PySem.W.Frag} : En K (yO yS) (okO okS) 0 where
  enc := eO eS
  dp {P v x} h := by
    cases x with
    | none => cases (show v = .non from h); exact .non
    | some y => cases (show v = S y from h); exact pd_str _
  inj := by
    intro x y
    cases x <;> cases y <;> simp [eO, eS, PyData.eqv]
  lay {x} h := by
    cases x with
    | none => simp [eO, PyData.canLay0]
    | some y =>
      have h : okS y = true := h
      simp only [eO, eS, PyData.canLay0, PyData.strOk]
      unfold okS at h
      simpa using h
  dep := by intro x; cases x <;> simp [eO, eS, PyData.depth]
instance {A : Type} {R1 : Rel A} {f1 : A → PyData} [e : EnF R1 f1] : EnF (yO R1) (eO f1) := ⟨fun {P v x} h => by
  cases x with
  | none => cases (show v = .non from h); show Df P .none .non; rw [Df]
  | some y => exact e.df h⟩
def dNon : PyData → Bool
  | .none => true
  | _ => false
theorem dStr_eS (t : List Nat) : dStr (eS t) = some t := rfl
section
variable {K : PySem.W.Frag} {P : Hp} {v : V} {d : PyData}
theorem yDt_str {t : List Nat} (h : yDt K P v d) (e : dStr d = some t) : v = S t := un_S.un h e
theorem yDt_bool {b : Bool} (h : yDt K P v d) (e : dBool d = some b) : v = V.bl b := un_B.un h e
theorem yDt_int {i : Int} (h : yDt K P v d) (e : dInt d = some i) : v = V.int i := un_I.un h e
theorem yDt_is (h : yDt K P v d) : decide (v = .non) = dNon d := by
  have h : Dp K P v d := yDt_dp h
  cases h <;> rfl
end
def rIsDt (K : PySem.W.Frag) : R2 := fun x y H Q => ∃ d, yDt K H x d ∧ y = .non ∧ Q (.bl (dNon d)) H
def rNsDt (K : PySem.W.Frag) : R2 := fun x y H Q => ∃ d, yDt K H x d ∧ y = .non ∧ Q (.bl (!dNon d)) H
section
variable {X : Cx}
theorem o_isDt : OpR X (compareOp .Is) (rIsDt X.K) := fun pins s σ H x y v u Q I rx ry h => by
  obtain ⟨o, ho, rfl, q⟩ := h
  exact op_isN pins s σ H _ _ v u Q I rx ry ⟨rfl, by rw [yDt_is ho]; exact q⟩
theorem o_nsDt : OpR X (compareOp .IsNot) (rNsDt X.K) := fun pins s σ H x y v u Q I rx ry h => by
  obtain ⟨o, ho, rfl, q⟩ := h
  exact op_notN pins s σ H _ _ v u Q I rx ry ⟨rfl, by rw [yDt_is ho]; exact q⟩
end
end G
namespace G
open PySem PySem.Spec PyProof.Rows L2
set_option synthInstance.maxHeartbeats 400000 in
set_option synthInstance.maxSize 1000 in
instance : DecidableEq (List Nat × Int × Int × List Nat × List Nat) := inferInstance
set_option synthInstance.maxHeartbeats 400000 in
set_option synthInstance.maxSize 1000 in
instance : DecidableEq (List (List Nat × Int × Int × List Nat × List Nat)) := inferInstance
/-! ### an optional pair as data -/
section
variable {A1 A2 : Type} {K : PySem.W.Frag} {R1 : Rel A1} {R2 : Rel A2} {ok1 : A1 → Bool} {ok2 : A2 → Bool} {n1 n2 : Nat}
def eP [e1 : En K R1 ok1 n1] [e2 : En K R2 ok2 n2] (x : A1 × A2) : PyData := .tuple [e1.enc x.1, e2.enc x.2]
instance [e1 : En K R1 ok1 n1] [e2 : En K R2 ok2 n2] : En K (yO (y2 K R1 R2)) (okO (ok_2 ok1 ok2)) (max n1 n2 + 1) where
  enc := eO fun x => .tuple [e1.enc x.1, e2.enc x.2]
  dp {P v x} h := by
    cases x with
    | none => cases (show v = .non from h); exact .non
    | some y => exact (inferInstance : En K (y2 K R1 R2) (ok_2 ok1 ok2) (max n1 n2 + 1)).dp h
  inj := by
    intro x y
    cases x with
    | none => cases y <;> simp [eO, PyData.eqv]
    | some a =>
      cases y with
      | none => simp [eO, PyData.eqv]
      | some b =>
        rw [Option.some.injEq]
        exact (inferInstance : En K (y2 K R1 R2) (ok_2 ok1 ok2) (max n1 n2 + 1)).inj
  lay {x} h := by
    cases x with
    | none => simp [eO, PyData.canLay0]
    | some y => exact (inferInstance : En K (y2 K R1 R2) (ok_2 ok1 ok2) (max n1 n2 + 1)).lay h
  dep := by
    intro x
    cases x with
    | none => simp [eO, PyData.depth]
    | some y => exact (inferInstance : En K (y2 K R1 R2) (ok_2 ok1 ok2) (max n1 n2 + 1)).dep
end
/-! ### t[::-1] of a text -/
def tRevS (te : TE) : TE := fun σ H Q => te σ H fun x H1 => ∃ t : List Nat, x = S t ∧ t.length ≤ 1000000 ∧ Q (S t.reverse) H1
theorem strIx_rev (n : Nat) : Builtin.Str.strSliceIndices none none (-1) n = (List.range n).map fun k => n - 1 - k := by
  unfold Builtin.Str.strSliceIndices
  show sliceRange ((n : Int) - 1) (-1) (-1) = _
  exact PySem.W.krv_sliceRange n
theorem strPick_rev (t : List Nat) : ((List.range t.length).map fun k => t.length - 1 - k).filterMap (t.toArray[·]?) = t.reverse := by
  rw [PySem.W.krv_range, List.filterMap_reverse]
  congr 1
  have := PySem.W.krv_all t.toArray
  rw [List.size_toArray] at this
  exact this
section
variable {X : Cx}
theorem pe_revS {e : Expr} {te : TE} {k : Nat} {p1 p2 p3 pos : Pos} (he : PE X e te) : PE X (.Subscript e (.Slice none none (some (.UnaryOp .USub (.Constant (.int 1) k p1) p2)) p3) pos) (tRevS te) := by
  refine ⟨fun pins s σ H Q I h => ?_⟩
  refine Subscript_ (thn (he.run pins s σ H _ I h) fun v s1 ⟨x, H1, I1, r1, q1⟩ => ?_)
  obtain ⟨t, ex, hz, q⟩ := q1
  subst ex
  obtain ⟨tk, rfl⟩ := r1
  have hst : PO X (some (.UnaryOp .USub (.Constant (.int 1) k p1) p2)) (tPart (tUn (rU fun i => .int (-i)) (tC (.int 1)))) := po_some (pe_un un_neg pe_int)
  refine wpAny_Slice (thn (po_none.run pins s1 σ H1 (fun o H2 => o = none ∧ H2 = H1) I1 ⟨rfl, rfl⟩) fun vl s2 ⟨l, H2, I2, pl, el, e2⟩ => ?_)
  subst el e2
  refine thn (po_none.run pins s2 σ H2 (fun o H3 => o = none ∧ H3 = H2) I2 ⟨rfl, rfl⟩) fun vu s3 ⟨u, H3, I3, pu, eu, e3⟩ => ?_
  subst eu e3
  refine thn (hst.run pins s3 σ H3 (fun o H4 => o = some (-1) ∧ H4 = H3) I3 ⟨1, rfl, -1, rfl, rfl, rfl⟩) fun vs s4 ⟨o, H4, I4, ps, eo, e4⟩ => ?_
  subst eo e4
  have I5 : Inv X pins σ H4 { s4 with heap := s4.heap.push { cls := .type "slice", data := .fields #[vl, vu, vs] } } := I4.kept (t' := s4.toks) fun b ob q => Heap.get?_push_of_some _ q
  cases pl
  cases pu
  cases ps with
  | int i tk2 =>
  show wpAny (model X.prog X.w) X.A (subscriptTail e (.Slice none none (some (.UnaryOp .USub (.Constant (.int 1) k p1) p2)) p3) (.str ⟨⟨t⟩⟩ tk) (.ref s4.heap.objs.size)) (EP X pins σ Q) X.xe { s4 with heap := s4.heap.push { cls := .type "slice", data := .fields #[.none, .none, .int (-1) tk2] } }
  refine tail_any (ops := [.ref s4.heap.objs.size, .str ⟨⟨t⟩⟩ tk]) (typeIs_str _ _ _) F.slot_str_getitem.lookup ?_ (by with_unfolding_all rfl)
  refine wpAny_getItem_str_slice (l := none) (u := none) (st := some (-1, tk2)) ⟨_, Heap.get?_push_size _ rfl, rfl, rfl⟩ rfl ?_
  show Made.post (if ((-1 : Int) == 1 && _) = true then _ else Made.str ⟨((Builtin.Str.strSliceIndices none none (-1) t.length).filterMap (t.toArray[·]?)).toArray⟩) (EP X pins σ Q) _
  rw [if_neg (by rw [show ((-1 : Int) == 1) = false from rfl, Bool.false_and]; exact Bool.false_ne_true), strIx_rev, strPick_rev]
  refine ⟨?_, .str _, H4, I5.tok _, ⟨_, rfl⟩, q⟩
  show t.reverse.toArray.size ≤ sizeLine
  rw [List.size_toArray, List.length_reverse]
  exact Nat.le_trans hz (by decide)
end
end G
namespace G
open PySem PySem.Spec PyProof.Rows L2
/-! ### a def with one keyword-only parameter that may raise -/
structure CalKE (P : Program) (w : World) (K : PySem.W.Frag) (mg : Str → Option Value) (base : Heap) (k : Nat) (x : Str) (sp : Sp) (n : Nat) (kw : Str) (dv : V) : Prop where
  ex : ∃ (f : Addr) (fd : FuncData) (ps : List Str), FnOk P w K mg base (L2.CX P w) k f fd ps sp ∧ mg x = some (.ref f) ∧ PySem.W.keepIn K (.ref f) = true ∧ KBn K fd ps n [kw] (fun us ws => us ++ ws) (fun vs zs => vs ++ zs) ∧ ∃ ds, Vals [dv] ds ∧ Binds K fd ps ds
def tCallNS (n m : Nat) (sp : Sp) (gV : List V → List V → List V) (E : L2.St → XK) (t tk : TA) : TE := fun σ H Q => t σ H fun vs H1 => tk σ H1 fun zs H2 => vs.length = n ∧ zs.length = m ∧ sp (gV vs zs) H2 Q (E σ)
section
variable {X : Cx} {W : WX} {k j n : Nat} {x kw : Str} {dv : V} {sp : Sp} {p pos : Pos} {e : Expr} {es : List Expr} {t tk : TA} {kws : List Keyword}
theorem pe_cke (c : CalKE X.prog X.w X.K X.mg X.base k x sp n kw dv) (tk' : Takes X W) (hr : Room j X.A) (hk : k ≤ j) (hg : Gl X x) (ha : PA X (e :: es) t) (hkw : PK X kws tk)
    (hall : (backToKw pos (keywordEach kws X.env)).all (·.1.isSome) = true := by rfl) (hks : (backToKw pos (keywordEach kws X.env)).filterMap (·.1) = [kw] := by rfl)
    (hdb : (x == ("__debug__" : Str)) = false := by decide) (he : starEach (e :: es) X.env = (false, eval e X.env) :: starEach es X.env := by rfl)
    (hpl : ((backTo pos (starEach (e :: es) X.env)).any (·.1) || (backToKw pos (keywordEach kws X.env)).any (·.1.isNone)) = false := by rfl) :
    PE X (.Call (.Name x p) (e :: es) kws pos) (tCallNS n 1 sp (fun vs zs => vs ++ zs) (WE W) t tk) := by
  obtain ⟨f, fd, ps, F, hm, kp, hb, _⟩ := c.ex
  have hx : ∀ σ, PassesAt (L2.CX X.prog X.w) X σ (WE W σ) := passAt tk'
  refine ⟨fun pins s σ H Q I h => ?_⟩
  refine wpAny_Call_Name_kw (ld_glob I hg hm ?_ hdb)
  refine PySem.W.callWith_KW (h₀ := X.base) I.ok.mod.kin kp hall (thn (ha.run pos pins s σ H _ I h) fun us s1 ⟨vs, H1, I1, r, q⟩ => ?_) hpl he
  refine thn (hkw.run pos pins s1 σ H1 _ I1 q) fun ws s2 ⟨zs, H2, I2, rz, l1, l2, q2⟩ => ⟨I2.kIn, ?_⟩
  rw [hks]
  have r2 := hb.rel r rz
  refine wpAny_call (codeAny_mono (F.run X.A X.stack s2 H2 ⟨us, [kw].zip ws⟩ (us ++ ws) (vs ++ zs) Q (WE W σ) (hr.mono hk) I2.env0 (hb.to s2 us ws I2.kIn (r.length.symm.trans l1) (rz.length.symm.trans l2)) r2 q2) fun r s' hq => ?_)
  cases r with
  | error e => exact hx σ pins H2 s2 e s' I2 hq
  | ok fl =>
    cases fl with
    | ret u => exact I2.after hq
    | next => exact False.elim hq
    | brk => exact False.elim hq
    | cont => exact False.elim hq
theorem pe_cde (c : CalKE X.prog X.w X.K X.mg X.base k x sp n kw dv) (tk' : Takes X W) (hr : Room j X.A) (hk : k ≤ j) (hg : Gl X x) (ha : PA X (e :: es) t)
    (hdb : (x == ("__debug__" : Str)) = false := by decide) (he : starEach (e :: es) X.env = (false, eval e X.env) :: starEach es X.env := by rfl) (hpl : (backTo pos (starEach es X.env)).any (·.1) = false := by rfl) :
    PE X (.Call (.Name x p) (e :: es) [] pos) (tCallSD sp [dv] (WE W) t) := by
  obtain ⟨f, fd, ps, F, hm, kp, _, ds, d, b⟩ := c.ex
  exact pe_callSD F (hr.mono hk) hg hm kp b d (passAt tk') ha hdb he hpl
end
end G
namespace G
open PySem PySem.Spec PyProof.Rows L2
/-! ### a list of dicts that still change: the list's cell, behind it a cell for each dict -/
abbrev Dz := List (Addr × List (Key × V))
def dlV (z : Dz) : List V := z.map fun p => .ref p.1
def dlC (z : Dz) : Cs := z.map fun p => (p.1, HO.dK p.2)
inductive DLR {κ A : Type} (f : κ → Key) (R : Rel A) (P : Hp) : Dz → List (List (κ × A)) → Prop where
  | nil : DLR f R P [] []
  | cons {p : Addr × List (Key × V)} {x : List (κ × A)} {z : Dz} {m : List (List (κ × A))} : DR f R P p.2 x → DLR f R P z m → DLR f R P (p :: z) (x :: m)
section
variable {κ A : Type} {f : κ → Key} {R : Rel A} {P P' : Hp}
theorem DLR.up [Mo R] (e : Ext P P') : ∀ {z : Dz} {m : List (List (κ × A))}, DLR f R P z m → DLR f R P' z m
  | _, _, .nil => .nil
  | _, _, .cons h t => .cons (h.up e) (DLR.up e t)
theorem DLR.len : ∀ {z : Dz} {m : List (List (κ × A))}, DLR f R P z m → z.length = m.length
  | _, _, .nil => rfl
  | _, _, .cons h t => by rw [List.length_cons, List.length_cons, DLR.len t]
theorem DLR.snoc {d : Addr} {kvs : List (Key × V)} {x : List (κ × A)} (h : DR f R P kvs x) : ∀ {z : Dz} {m : List (List (κ × A))}, DLR f R P z m → DLR f R P (z ++ [(d, kvs)]) (m ++ [x])
  | _, _, .nil => .cons h .nil
  | _, _, .cons h' t => .cons h' (DLR.snoc h t)
theorem DLR.at : ∀ {z : Dz} {m : List (List (κ × A))} {i : Nat}, DLR f R P z m → i < m.length → ∃ p, z[i]? = some p ∧ DR f R P p.2 (m.getD i [])
  | _, _, _, .nil, h => absurd h (by simp)
  | _, _, 0, .cons (p := p) h t, _ => ⟨p, rfl, h⟩
  | _, _, i + 1, .cons h t, hl => by
    obtain ⟨p, e, r⟩ := DLR.at (i := i) t (by simpa using hl)
    exact ⟨p, by simpa using e, by simpa using r⟩
theorem DLR.get {z : Dz} {m : List (List (κ × A))} {i : Int} (h : DLR f R P z m) (hi : inR m.length i) : ∃ p, z[ixP m.length i]? = some p ∧ DR f R P p.2 (m.getD (ixP m.length i) []) := by
  refine h.at ?_
  unfold inR at hi
  unfold ixP
  split <;> omega
theorem DLR.getI {z : Dz} {m : List (List (κ × A))} {i : Int} (h : DLR f R P z m) (hi : inR m.length i) : ∃ p : Addr × List (Key × V), z[ixP m.length i]? = some p ∧ atI (z.map fun p => V.ref p.1) i = some (.ref p.1) ∧ DR f R P p.2 (m.getD (ixP m.length i) []) := by
  obtain ⟨p, h1, h2⟩ := h.get hi
  refine ⟨p, h1, ?_, h2⟩
  have hl : (z.map fun p => V.ref p.1).length = m.length := by rw [List.length_map, h.len]
  rw [← hl] at hi
  refine atI_ixP hi ?_
  rw [hl, List.getElem?_map, h1]
  rfl
theorem DLR.set {p : Addr × List (Key × V)} {x : List (κ × A)} (h : DR f R P p.2 x) : ∀ {z : Dz} {m : List (List (κ × A))} {i : Nat}, DLR f R P z m → DLR f R P (z.set i p) (m.set i x)
  | _, _, _, .nil => .nil
  | _, _, 0, .cons _ t => .cons h t
  | _, _, i + 1, .cons h' t => .cons h' (DLR.set h t)
end
theorem dlV_at {z : Dz} {i : Nat} {p : Addr × List (Key × V)} (h : z[i]? = some p) : (dlV z)[i]? = some (.ref p.1) := by
  unfold dlV
  rw [List.getElem?_map, h]
  rfl
theorem dlV_len (z : Dz) : (dlV z).length = z.length := by unfold dlV; rw [List.length_map]
theorem dlV_snoc (z : Dz) (p : Addr × List (Key × V)) : dlV (z ++ [p]) = dlV z ++ [.ref p.1] := by unfold dlV; rw [List.map_append]; rfl
theorem dlV_set {z : Dz} {i : Nat} {p : Addr × List (Key × V)} {kvs : List (Key × V)} (h : z[i]? = some p) : dlV (z.set i (p.1, kvs)) = dlV z := by
  unfold dlV
  rw [List.map_set]
  obtain ⟨hi, e⟩ := List.getElem?_eq_some_iff.mp h
  apply List.ext_getElem?
  intro j
  rw [List.getElem?_set]
  split
  · subst_vars
    rw [List.length_map, if_pos hi, List.getElem?_map, h]
    rfl
  · rfl
section
variable {T : Tbs} {P H : Hp} {a d : Addr} {o : HO} {z : Dz} {kvs : List (Key × V)} {rest l : Cs} {x c : Addr × HO}
theorem Wd.dlback (w : Wd T P H (x :: (l ++ (c :: rest)))) : Wd T P H (c :: x :: (l ++ rest)) := w.perm (by
  have h1 : (x :: (l ++ (c :: rest))).Perm (x :: c :: (l ++ rest)) := List.Perm.cons _ List.perm_middle
  exact h1.trans (List.Perm.swap _ _ _))
theorem Wd.absorb (w : Wd T P H ((d, HO.dK kvs) :: (a, HO.lst (dlV z ++ [.ref d])) :: (l ++ (dlC z ++ rest)))) : Wd T P H ((a, HO.lst (dlV (z ++ [(d, kvs)]))) :: (l ++ (dlC (z ++ [(d, kvs)]) ++ rest))) := by
  rw [dlV_snoc]
  refine w.perm ?_
  refine (List.Perm.swap _ _ _).trans (List.Perm.cons _ ?_)
  unfold dlC
  rw [List.map_append, List.append_assoc]
  have h1 : ((d, HO.dK kvs) :: (l ++ (z.map (fun p => (p.1, HO.dK p.2)) ++ rest))).Perm (l ++ ((d, HO.dK kvs) :: (z.map (fun p => (p.1, HO.dK p.2)) ++ rest))) := List.perm_middle.symm
  exact h1.trans (List.Perm.append_left l List.perm_middle.symm)
theorem Wd.extract {i : Nat} {p : Addr × List (Key × V)} (hz : z[i]? = some p) (w : Wd T P H ((a, HO.lst (dlV z)) :: (l ++ (dlC z ++ rest)))) : Wd T P H ((p.1, HO.dK p.2) :: (a, HO.lst (dlV z)) :: (l ++ (dlC (z.eraseIdx i) ++ rest))) := by
  refine w.perm ?_
  refine List.Perm.trans (List.Perm.cons _ ?_) (List.Perm.swap _ _ _)
  have h : (dlC z).Perm ((p.1, HO.dK p.2) :: dlC (z.eraseIdx i)) := by
    unfold dlC
    have := (perm_pull z i p hz).map fun q : Addr × List (Key × V) => (q.1, HO.dK q.2)
    simpa using this
  exact (List.Perm.append_left l (h.append_right rest)).trans List.perm_middle
theorem Wd.giveback {i : Nat} {p : Addr × List (Key × V)} (hz : z[i]? = some p) (w : Wd T P H ((p.1, HO.dK kvs) :: (a, HO.lst (dlV z)) :: (l ++ (dlC (z.eraseIdx i) ++ rest)))) : Wd T P H ((a, HO.lst (dlV (z.set i (p.1, kvs)))) :: (l ++ (dlC (z.set i (p.1, kvs)) ++ rest))) := by
  rw [dlV_set hz]
  refine w.perm ?_
  refine (List.Perm.swap _ _ _).trans (List.Perm.cons _ ?_)
  have hi := (List.getElem?_eq_some_iff.mp hz).1
  have hz' : (z.set i (p.1, kvs))[i]? = some (p.1, kvs) := by rw [List.getElem?_set_self hi]
  have h : (dlC (z.set i (p.1, kvs))).Perm ((p.1, HO.dK kvs) :: dlC ((z.set i (p.1, kvs)).eraseIdx i)) := by
    unfold dlC
    have := (perm_pull (z.set i (p.1, kvs)) i (p.1, kvs) hz').map fun q : Addr × List (Key × V) => (q.1, HO.dK q.2)
    simpa using this
  have e : (z.set i (p.1, kvs)).eraseIdx i = z.eraseIdx i := by rw [List.eraseIdx_set_eq]
  rw [e] at h
  exact ((List.Perm.append_left l (h.append_right rest)).trans List.perm_middle).symm
end
/-! ### all dicts are locked for good -/
def lockAll : Hp → Dz → List Obj → Hp
  | H, p :: z, o :: os => lockAll (upd H p.1 (.frz o (.dK p.2))) z os
  | H, _, _ => H
def tLockD (t : TS) : TS := fun D σ H => ∃ z : Dz, (∀ p ∈ z, H p.1 = some (.dK p.2)) ∧ (z.map (·.1)).Nodup ∧ ∀ os : List Obj, os.length = z.length → t D σ (lockAll H z os)
theorem pss_lockD {X : Cx} {st : List Stmt} {t : TS} (h : PSs X st t) : PSs X st (tLockD t) := by
  refine ⟨fun pins s σ H D I hw => ?_⟩
  obtain ⟨z, hz, hn, q⟩ := hw
  have key : ∀ (z : Dz) (H : Hp), L2.Inv X pins σ H s → (∀ p ∈ z, H p.1 = some (.dK p.2)) → (z.map (·.1)).Nodup → ∃ os : List Obj, os.length = z.length ∧ L2.Inv X pins σ (lockAll H z os) s := by
    intro z
    induction z with
    | nil => intro H I _ _; exact ⟨[], rfl, I⟩
    | cons p z ih =>
      intro H I hz hn
      rw [List.map_cons, List.nodup_cons] at hn
      obtain ⟨od, I1⟩ := I.lock (hz p List.mem_cons_self) trivial
      obtain ⟨os, hl, I2⟩ := ih _ I1 (fun q hq => by
        have hne : q.1 ≠ p.1 := fun e => hn.1 (by rw [← e]; exact List.mem_map.mpr ⟨q, hq, rfl⟩)
        rw [upd_ne hne]
        exact hz q (List.mem_cons_of_mem _ hq)) hn.2
      exact ⟨od :: os, by rw [List.length_cons, List.length_cons, hl], I2⟩
  obtain ⟨os, hl, I2⟩ := key z H I hz hn
  exact h.run pins s σ _ _ I2 (q os hl)
section
variable {κ A : Type} {f : κ → Key} {R : Rel A} {T : Tbs} {a : Addr}
theorem Wd.dlHas {P H : Hp} {z : Dz} {x : Addr × HO} {l rest : Cs} (w0 : Wd T P H (x :: (l ++ (dlC z ++ rest)))) : (∀ p ∈ z, H p.1 = some (.dK p.2)) ∧ (z.map (·.1)).Nodup := by
  have w : Wd T P H (x :: (dlC z ++ (l ++ rest))) := w0.perm (List.Perm.cons _ (by rw [← List.append_assoc, ← List.append_assoc]; exact List.Perm.append_right rest List.perm_append_comm))
  refine ⟨fun p hp => (w.ok (p.1, .dK p.2) (List.mem_cons_of_mem _ (List.mem_append_left _ (List.mem_map.mpr ⟨p, hp, rfl⟩)))).1, ?_⟩
  have hn := w.nd
  rw [List.map_cons, List.nodup_cons, List.map_append] at hn
  have h2 := (List.nodup_append.mp hn.2).1
  unfold dlC at h2
  rw [List.map_map] at h2
  exact h2
theorem Wd.dlLock [Mo R] {x : Addr × HO} {rest : Cs} : ∀ {z : Dz} {os : List Obj} {m : List (List (κ × A))} {P H : Hp}, os.length = z.length → DLR f R P z m → Wd T P H (x :: (dlC z ++ rest)) → ∃ P', Ext P P' ∧ Wd T P' (lockAll H z os) (x :: rest) ∧ AR (yD f R) P' (dlV z) m
  | [], [], _, P, H, _, .nil, w => ⟨P, Ext.refl _, w, .nil⟩
  | p :: z, o :: os, _, P, H, hl, .cons (x := y) h t, w => by
    have w1 : Wd T P (upd H p.1 (.frz o (.dK p.2))) (x :: (p.1, .frz o (.dK p.2)) :: (dlC z ++ rest)) := w.put 1 (.frz o (.dK p.2)) rfl
    have w2 := w1.pull 1 rfl
    have e2 : Ext P (upd P p.1 (.frz o (.dK p.2))) := w2.kext
    have w3 : Wd T (upd P p.1 (.frz o (.dK p.2))) (upd H p.1 (.frz o (.dK p.2))) (x :: (dlC z ++ rest)) := w2.keep
    obtain ⟨P', e3, w4, r⟩ := Wd.dlLock (z := z) (os := os) (by simpa using hl) (t.up e2) w3
    exact ⟨P', e2.trans e3, w4, .cons ⟨p.1, o, p.2, rfl, e3 _ _ upd_same, h.up (e2.trans e3)⟩ r⟩
  | [], _ :: _, _, _, _, hl, _, _ => absurd hl (by simp)
  | _ :: _, [], _, _, _, hl, _, _ => absurd hl (by simp)
theorem Wd.dlLocked [Mo R] {x : Addr × HO} {l rest : Cs} {z : Dz} {os : List Obj} {m : List (List (κ × A))} {P H : Hp} (hl : os.length = z.length) (h : DLR f R P z m) (w : Wd T P H (x :: (l ++ (dlC z ++ rest)))) : ∃ P', Ext P P' ∧ Wd T P' (lockAll H z os) (x :: (l ++ rest)) ∧ AR (yD f R) P' (dlV z) m :=
  Wd.dlLock hl h (w.perm (List.Perm.cons _ (by rw [← List.append_assoc, ← List.append_assoc]; exact List.Perm.append_right rest List.perm_append_comm)))
end
end G
namespace G
open PySem PySem.Spec PyProof.Rows L2
section
variable {X : Cx}
/-! ### len of a tuple, min of two ints -/
def rLenT (K : PySem.W.Frag) : List V → Hp → VK → Prop := fun xs H Q => ∃ (p : Addr) (ys : List V) (n : Nat), xs = [.ref p] ∧ SqT K H p ys ∧ ys.length = n ∧ Q (.int n) H
theorem c_lenT : CallR X (.builtin "len") (rLenT X.K) := fun pins s σ H xs us Q I r h => by
  obtain ⟨p, ys, n, rfl, hs, rfl, q⟩ := h
  exact call_len_seq pins s σ H _ us Q I r ⟨p, ys, rfl, .inr hs, q⟩
def mn2 (i j : Int) : Int := if j < i then j else i
def rMin2 : List V → Hp → VK → Prop := fun xs H Q => ∃ i j, xs = [.int i, .int j] ∧ Q (.int (mn2 i j)) H
theorem c_min2 (hc : X.calm = true) : CallR X (.builtin "min") rMin2 := by
  intro pins s σ H xs us Q I r h
  obtain ⟨i, j, rfl, q⟩ := h
  refine call_min2Nu hc pins s σ H _ us Q I r ⟨.int i, .int j, .int (mn2 i j), rfl, ?_, q⟩
  unfold mn2
  by_cases h1 : j < i
  · simp [nuMin2, nuLt, nuCB, h1]
  · simp [nuMin2, nuLt, nuCB, h1]
end
end G
namespace G
open PySem PySem.Spec PyProof.Rows L2
/-! ### set comprehensions of any kind of set: O its object at D, t0 the empty one, Ad what set.add does -/
abbrev freshS (w : World) : Obj := { cls := .type "set", dict := none, data := .set #[] 0 (.fresh 0 0 (!w.params.followText "set-order")) }
structure SetKd (w : World) {T : Type} (O : Addr → T → HO) (t0 : T) (Ad : V → T → T → Prop) : Prop where
  new : ∀ {P : Program} {H : Hp} {h : Heap}, ObjOk P w H (h.push (freshS w)) h.objs.size (O h.objs.size t0)
  add : ∀ {Y : Cx} {pins : List (Addr × Obj)} {s : Shared} {σ : L2.St} {H : Hp} {D : Addr} {y : V} {u : Value} {t t' : T} {Q : Value → Shared → Prop} {E : Value → Shared → Prop}, Y.w = w → Inv Y pins σ H s → H D = some (O D t) → Ad y t t' → RelV y u →
    (∀ s', Inv Y pins σ (upd H D (O D t')) s' → Q .none s') → wpAny (model Y.prog Y.w) Y.A (call (.builtin "set.add") [.ref D, u]) Q E s
def tScG {T : Type} (O : Addr → T → HO) (t0 : T) (Ad : V → T → T → Prop) (wi : TI) (g : TG) (tt : TT) (te : TE) (vs : List Nat) : TE := fun σ H Q => wi σ H fun J H1 => ∀ D, H1 D = none → ∃ W : Nat → Nat → Hp → Prop, (∃ m, W 0 m (upd H1 D (O D t0))) ∧ ∀ i m H, W i m H →
  (J.stop i H ∧ Q (.ref D) H) ∨ (J.go i H ∧ ∃ Nx : Hp → Prop, (∀ H', Nx H' → ∃ m', m' < m ∧ W (i + 1) m' H') ∧ ∀ x H', J.yld i H x H' → g x (wipe σ vs) H' fun σ2 H2 => wipe σ2 vs = wipe σ vs ∧ tt σ2 H2 fun b H3 =>
    if b = true then te σ2 H3 fun y H4 => ∃ t t', H4 D = some (O D t) ∧ Ad y t t' ∧ Nx (upd H4 D (O D t')) else Nx H3)
section
variable {X : Cx} {T : Type} {O : Addr → T → HO} {t0 : T} {Ad : V → T → T → Prop}
theorem pe_scG {elt tg iter : Expr} {ifs : List Expr} {scope : Scope} {own : List (PySem.Str × Nat)} {pos : Pos} {wi : TI} {g : TG} {tt : TT} {te : TE} (kd : SetKd X.w O t0 Ad) (hc : X.calm = true) (hN : X.N.Nodup) (hi : PI X tg iter wi) (ok : BlkOk X.N X.env.scope scope own)
    (hg : ∀ (s : Shared) (H : Hp) (C : Addr) (cl : List (PySem.Str × Addr)) (fp : List Addr), PG (X.blk s H scope (compEnvC scope cl C X.env) fp) tg g) (ht : ∀ (s : Shared) (H : Hp) (C : Addr) (cl : List (PySem.Str × Addr)) (fp : List Addr), PTs (X.blk s H scope (compEnvC scope cl C X.env) fp) ifs tt)
    (he : ∀ (s : Shared) (H : Hp) (C : Addr) (cl : List (PySem.Str × Addr)) (fp : List Addr), PE (X.blk s H scope (compEnvC scope cl C X.env) fp) elt te) (hs : ∀ x, foldedSetIterable iter X.env x = pure x := by intro _; rfl) :
    PE X (.SetComp elt [⟨tg, iter, ifs, 0⟩] scope pos) (tScG O t0 Ad wi g tt te (own.map (·.2))) := by
  refine ⟨fun pins s σ H Q I h => ?_⟩
  rw [PpSet.eval_SetComp]
  have hfree : ∀ y ∈ scope.names, y.2 = .free → ∃ c, X.env.cells.lookup y.1 = some c := fun y hy e => (ok.free y hy e).elim (fun k => I.ok.has _ (.inl k)) (fun k => I.ok.has _ (.inr k))
  refine wpAny_comprehension_free rfl hs (closure_ok hfree) ok.kind (fun y hy e => by rw [ok.uniq y hy, e]) (thn (hi.run pins s σ H _ I h) fun xv s1 hx => thn hx fun itv s2 ⟨it, fp, tn, J, H2, e, I2, T, st2, f2, q⟩ => ?_)
  subst e
  refine PpSet.newSet_ok (newEnv_comp ?_)
  generalize hD : s2.heap.objs.size = D
  obtain ⟨W, ⟨m0, w0⟩, turn⟩ := q D (I2.hok.fresh (Nat.le_of_eq hD))
  -- the world with the new set
  generalize hs3 : ({ s2 with heap := s2.heap.push (freshS X.w) } : Shared) = s3
  generalize hH3 : upd H2 D (O D t0) = H3 at w0
  have h3 : s3.heap = s2.heap.push (freshS X.w) := by rw [← hs3]
  have I3 : Inv X pins σ H3 s3 := by
    rw [← hs3, ← hH3]
    refine I2.laid (t' := s2.toks) (fun b o e => Heap.get?_push_of_some _ e) (Nat.le_of_eq hD) ?_
    rw [← hD]
    exact kd.new
  have f3 : ∀ b ∈ fp, FpOk X pins H3 b ∧ b < s3.heap.objs.size := fun b hb => by
    obtain ⟨o, e, _⟩ := T.obj _ _ st2 b hb
    have hlt := Heap.lt_size e
    refine ⟨⟨?_, (f2 b hb).2⟩, by rw [h3, Heap.size_push]; exact Nat.lt_succ_of_lt hlt⟩
    rw [← hH3, upd_ne (by rw [← hD]; exact Nat.ne_of_lt hlt)]
    exact (f2 b hb).1
  have st3 : tn 0 s3.heap := T.keep _ _ _ st2 fun b _ o e => by rw [h3]; exact Heap.get?_push_of_some _ e
  -- the block
  have I4 := block_start I3 ok hN f3
  have pg := hg s3 H3 s3.heap.objs.size (cellsFrom (s3.heap.objs.size + 1) scope.names (cloFrom X.env.cells scope.names [])) fp
  have pt := ht s3 H3 s3.heap.objs.size (cellsFrom (s3.heap.objs.size + 1) scope.names (cloFrom X.env.cells scope.names [])) fp
  have pe := he s3 H3 s3.heap.objs.size (cellsFrom (s3.heap.objs.size + 1) scope.names (cloFrom X.env.cells scope.names [])) fp
  show codeAny _ _ (.compStart (.SetComp elt [⟨tg, iter, ifs, 0⟩] scope pos) 0 (.ref it) (.ref D) (compEnvC scope (cellsFrom (s3.heap.objs.size + 1) scope.names (cloFrom X.env.cells scope.names [])) s3.heap.objs.size X.env)) (compPost (model X.prog X.w) X.A X.xe none (EP X pins σ Q) (.ref D) s3.heap.objs.size) { s3 with heap := pushCells (s3.heap.push { cls := .type "dict", data := .dict #[] }) scope.names }
  have nfp : ∀ b ∈ fp, H3 b = none := fun b hb => (f3 b hb).1.1
  generalize hce : compEnvC scope (cellsFrom (s3.heap.objs.size + 1) scope.names (cloFrom X.env.cells scope.names [])) s3.heap.objs.size X.env = ce at I4 pg pt pe ⊢
  have cL : ce.locals = s3.heap.objs.size := by rw [← hce]; rfl
  generalize hs4 : ({ s3 with heap := pushCells (s3.heap.push { cls := .type "dict", data := .dict #[] }) scope.names } : Shared) = s4 at I4 ⊢
  have st4 : tn 0 s4.heap := T.keep _ _ _ st3 fun b _ o e => by rw [← hs4]; exact pushCells_keeps _ _ _ _ (Heap.get?_push_of_some _ e)
  generalize hY : X.blk s3 H3 scope ce fp = Y at I4 pg pt pe
  have Yw : Y.w = X.w := by rw [← hY]
  have stat : ∀ {σ' : L2.St} {H' : Hp} {s' : Shared}, Inv Y [] σ' H' s' → (∀ b ∈ fp, H' b = none) → ∀ b ∈ fp, FpOk Y [] H' b := fun {σ' H' s'} I' hn b hb => by
    subst hY
    exact ⟨hn b hb, (I'.ok.exf b hb).1, I'.ok.exfs b hb, .inl hb, fun x c e => (I'.ok.exf b hb).2 x c e, fun p hp => absurd (show p ∈ ([] : List (Addr × Obj)) ++ [] from hp) (by simp)⟩
  have loop : codeAny (model X.prog X.w) X.A (.compLoop (.SetComp elt [⟨tg, iter, ifs, 0⟩] scope pos) 0 (.ref it) (.ref D) ce) (compPost (model X.prog X.w) X.A X.xe none (EP X pins σ Q) (.ref D) s3.heap.objs.size) s4 := by
    refine PpSet.compLoopS_any (fun n s' => ∃ i H', Inv Y [] (wipe σ (own.map (·.2))) H' s' ∧ tn i s'.heap ∧ (∀ b ∈ fp, H' b = none) ∧ W i n H') ?_ m0 ⟨0, H3, I4, st4, nfp, w0⟩
    rintro n s5 ⟨i, H5, I5, st5, n5, w5⟩
    subst hY
    rcases turn i n H5 w5 with ⟨stop, qq⟩ | ⟨go, Nx, hNx, step⟩
    · refine thnF (T.done (X.blk s3 H3 scope ce fp) rfl rfl rfl hc i [] s5 _ H5 (fun _ _ => False) I5 (stat I5 n5) st5 stop) fun r s6 ⟨hr, I6⟩ => ?_
      subst hr
      have I7 : Inv X pins σ H5 s6 := I3.call' (ch := fp) I6.os I6.base I6.hok I6.bare fun b hb => ⟨(f3 b hb).1.2.2.2.1, (f3 b hb).1.2.1, (f3 b hb).1.2.2.2.2.1, (f3 b hb).1.2.2.2.2.2⟩
      have nC : H5 s3.heap.objs.size = none := by
        have z : H5 ce.locals = none := I6.free
        rw [cL] at z
        exact z
      obtain ⟨m, hn, _⟩ := I6.loc
      have hn : s6.heap.Ns ce.locals m := hn
      rw [cL] at hn
      refine ⟨m, hn, fun h'' sb => ?_⟩
      obtain ⟨f0, f1, f2, f3, f4, f5⟩ := I3.fpOk (Nat.le_refl _) nC
      exact ⟨.ref D, H5, I7.turned (t' := s6.toks) (fun b o hb e => (sb.2 b hb).trans e) f0 f1 f3 f4 f5, rfl, qq⟩
    · refine thnF (T.item (X.blk s3 H3 scope ce fp) rfl rfl rfl hc i [] s5 _ H5 (fun _ _ => False) I5 (stat I5 n5) st5 go) fun r s6 ⟨u, hr, h6⟩ => ?_
      subst hr
      refine thnF h6 fun _ s7 ⟨x, H7, I7, r7, y7, st7, n7⟩ => ?_
      refine thnF (pg.run _ s7 _ H7 x u _ (I7.pinned (stat I7 n7) (T.obj _ _ st7)) r7 (step x H7 y7)) fun _ s8 ⟨σ8, H8, I8, hw8, q8⟩ => ?_
      refine thnF (pt.run _ s8 σ8 H8 _ I8 q8) fun b s9 ⟨H9, I9, q9⟩ => ?_
      have fin : ∀ {s' : Shared} {H' : Hp}, Inv (X.blk s3 H3 scope ce fp) ([] ++ pinsAt fp s7.heap) σ8 H' s' → Nx H' → ∃ m, m < n ∧ ∃ i H', Inv (X.blk s3 H3 scope ce fp) [] (wipe σ (own.map (·.2))) H' s' ∧ tn i s'.heap ∧ (∀ b ∈ fp, H' b = none) ∧ W i m H' := fun {s' H'} I' nx => by
        obtain ⟨m', hm, w'⟩ := hNx H' nx
        have pin' : ∀ b ∈ fp, ∀ o, s7.heap.get? b = some o → s'.heap.get? b = some o ∧ H' b = none := fun b hb o e =>
          let z := I'.pin (b, o) (List.mem_append_right _ (List.mem_append_right _ (mem_pinsAt hb e)))
          ⟨z.1, z.2.1⟩
        refine ⟨m', hm, i + 1, H', (I'.unpinned (pins := [])).weak (by rw [← hw8, wipe_length]) (fun j v e => ?_), T.keep _ _ _ st7 fun b hb o e => (pin' b hb o e).1, fun b hb => ?_, w'⟩
        · rw [← hw8] at e
          exact (wipe_some e).1
        · obtain ⟨o, e, _⟩ := T.obj _ _ st7 b hb
          exact (pin' b hb o e).2
      cases b with
      | false =>
        simp only [Bool.false_eq_true, if_false] at q9 ⊢
        exact fin I9 q9
      | true =>
        simp only [if_true] at q9 ⊢
        refine thnF (pe.run _ s9 σ8 H9 _ I9 q9) fun z s10 ⟨yv, H10, I10, r10, t, t', hD10, ad, nx⟩ => ?_
        exact kd.add (Y := X.blk s3 H3 scope ce fp) rfl I10 hD10 ad r10 fun s11 I11 => fin I11 nx
  exact PpSet.codeAny_compStart_set loop (T.self X.A 0 _ _ _ st4 loop)
end
/-! sets of ints -/
abbrev ISt := (Int → Bool) × Nat
abbrev iO (w : World) : Addr → ISt → HO := fun a t => SetO w a t.1 t.2
def stpI (t : ISt) (c : Int) : ISt := (fun j => t.1 j || decide (j = c), if t.1 c = true then t.2 else t.2 + 1)
def isN (ks : List Int) : ISt := ks.foldl stpI (fun _ => false, 0)
theorem isN_snoc (ks : List Int) (c : Int) : isN (ks ++ [c]) = stpI (isN ks) c := by
  unfold isN
  rw [List.foldl_append]
  rfl
theorem isN_app : ∀ (rs ks : List Int), (isN ks).2 ≤ (isN (ks ++ rs)).2
  | [], ks => by rw [List.append_nil]; exact Nat.le_refl _
  | c :: rs, ks => by
    have h := isN_app rs (ks ++ [c])
    rw [List.append_assoc] at h
    refine Nat.le_trans ?_ h
    rw [isN_snoc]
    unfold stpI
    dsimp only
    split
    · exact Nat.le_refl _
    · exact Nat.le_succ _
theorem isN_take {A : Type} (f : A → Int) (xs : List A) (i : Nat) : (isN ((xs.take i).map f)).2 ≤ (isN (xs.map f)).2 := by
  have h := isN_app ((xs.drop i).map f) ((xs.take i).map f)
  rw [← List.map_append, List.take_append_drop] at h
  exact h
def iAd : V → ISt → ISt → Prop := fun y t t' => ∃ c : Int, y = .int c ∧ t.2 + 1 < scanBound ∧ t' = stpI t c
theorem kd_int (w : World) : SetKd w (iO w) (fun _ => false, 0) iAd where
  new := setO_new (setR_fresh w)
  add := fun {Y pins s σ H D y u t t' Q E} hw I hD ad r h => by
    subst hw
    obtain ⟨c, rfl, room, rfl⟩ := ad
    obtain ⟨tk, rfl⟩ := r
    refine setR_add (setO_get I hD) room fun h' sb new => ?_
    have he : ∃ u, h'.get? D = some u := by
      have ⟨o, _, _, _, ho, _⟩ := new
      exact ⟨o, ho⟩
    exact h _ (I.write (e := D) (t' := s.toks + 1) (by rw [hD]; trivial) (.inl rfl) (fun b u hb hu => (sb.2 b hb).trans hu) he (setO_new new))
/-- len of a set of ints -/
def rLenI (w : World) : List V → Hp → VK → Prop := fun xs H Q => ∃ (p : Addr) (t : ISt), xs = [.ref p] ∧ H p = some (iO w p t) ∧ Q (.int t.2) H
theorem c_lenI {X : Cx} : CallR X (.builtin "len") (rLenI X.w) := by
  intro pins s σ H xs us Q I r h
  obtain ⟨p, t, rfl, hp, q⟩ := h
  cases r with
  | cons r1 r2 =>
    cases r2
    cases r1
    obtain ⟨o, es, ep, tb, ho, hex, hd, _, _, _, hz, hf, hn, _⟩ := setO_get I hp
    refine call_len_set ho hex hd hf (by unfold scanBound at hz; omega) ⟨.int t.2, H, I.tok _, ⟨_, by rw [hn]⟩, q⟩
/-! len({e for x in xs}), e an int: the set's object is any O -/
def tLenSc (wi : TI) (g : TG) (te : TE) (vs : List Nat) : TE := fun σ H Q => ∀ O : Addr → ISt → HO, tScG O (isN []) iAd wi g tYes te vs σ H fun v H' => ∃ (p : Addr) (t : ISt), [v] = [V.ref p] ∧ H' p = some (O p t) ∧ Q (.int t.2) H'
theorem pe_lenSc {X : Cx} {elt tg iter : Expr} {scope : Scope} {own : List (PySem.Str × Nat)} {p pos q : Pos} {wi : TI} {g : TG} {te : TE} (hc : X.calm = true) (hN : X.N.Nodup) (hi : PI X tg iter wi) (ok : BlkOk X.N X.env.scope scope own)
    (hg : ∀ (s : Shared) (H : Hp) (C : Addr) (cl : List (PySem.Str × Addr)) (fp : List Addr), PG (X.blk s H scope (compEnvC scope cl C X.env) fp) tg g)
    (he : ∀ (s : Shared) (H : Hp) (C : Addr) (cl : List (PySem.Str × Addr)) (fp : List Addr), PE (X.blk s H scope (compEnvC scope cl C X.env) fp) elt te)
    (hgl : Gl X "len") (hm : X.mg "len" = none) (hs : ∀ x, foldedSetIterable iter X.env x = pure x := by intro _; rfl) :
    PE X (.Call (.Name "len" p) [.SetComp elt [⟨tg, iter, [], 0⟩] scope q] [] pos) (tLenSc wi g te (own.map (·.2))) := by
  have h := pe_callB (X := X) (p := p) (pos := pos) (c_lenI (X := X)) hgl hm PySem.boot_len (pa_cons (pe_scG (pos := q) (kd_int X.w) hc hN hi ok hg (fun _ _ _ _ _ => pts_nil) he hs) pa_nil)
  exact ⟨fun pins s σ H Q I hq => h.run pins s σ H Q I (hq (iO X.w))⟩
theorem upd_twice {H : Hp} {a : Addr} {o o' : HO} : upd (upd H a o) a o' = upd H a o' := funext fun b => by
  by_cases h : b = a
  · rw [h, upd_same, upd_same]
  · rw [upd_ne h, upd_ne h, upd_ne h]
theorem isN_room {A : Type} {f : A → Int} {xs : List A} {i : Nat} (h : (isN (xs.map f)).2 + 1 < 4096) : (isN ((xs.take i).map f)).2 + 1 < scanBound := by
  have := isN_take f xs i
  show _ < 4096
  omega
section
variable {J : It} {n : Nat} {Gd : Hp → Prop} {Y : Nat → Hp → V → Hp → Prop} {T : Type} {O : Addr → T → HO} {t0 : T} {Ad : V → T → T → Prop}
theorem sc_it (w : Walk J n Gd Y) {g : TG} {tt : TT} {te : TE} {vs : List Nat} {σ : L2.St} {H1 : Hp} {D : Addr} {Qd : Hp → Prop} (Pv : Nat → Hp → Prop) (h0 : Pv 0 (upd H1 D (O D t0))) (hG : ∀ i H, i ≤ n → Pv i H → Gd H)
    (hs : ∀ i x H H', i < n → Pv i H → Y i H x H' → g x (wipe σ vs) H' fun σ2 H2 => wipe σ2 vs = wipe σ vs ∧ tt σ2 H2 fun b H3 => if b = true then te σ2 H3 fun y H4 => ∃ t t', H4 D = some (O D t) ∧ Ad y t t' ∧ Pv (i + 1) (upd H4 D (O D t')) else Pv (i + 1) H3) (hd : ∀ H, Pv n H → Qd H) :
    ∃ W : Nat → Nat → Hp → Prop, (∃ m, W 0 m (upd H1 D (O D t0))) ∧ ∀ i m H, W i m H →
      (J.stop i H ∧ Qd H) ∨ (J.go i H ∧ ∃ Nx : Hp → Prop, (∀ H', Nx H' → ∃ m', m' < m ∧ W (i + 1) m' H') ∧ ∀ x H', J.yld i H x H' → g x (wipe σ vs) H' fun σ2 H2 => wipe σ2 vs = wipe σ vs ∧ tt σ2 H2 fun b H3 =>
        if b = true then te σ2 H3 fun y H4 => ∃ t t', H4 D = some (O D t) ∧ Ad y t t' ∧ Nx (upd H4 D (O D t')) else Nx H3) := by
  refine ⟨fun i m H => i + m = n ∧ Pv i H, ⟨n, Nat.zero_add n, h0⟩, fun i m H ⟨e, p⟩ => ?_⟩
  have q := hG i H (by omega) p
  rcases Nat.lt_or_ge i n with hlt | hge
  · exact .inr ⟨w.goes i H hlt q, Pv (i + 1), fun H' p' => ⟨m - 1, by omega, by omega, p'⟩, fun x H' y => hs i x H H' hlt p (w.yields i H x H' hlt q y)⟩
  · obtain rfl : i = n := by omega
    exact .inl ⟨w.stops H q, hd H p⟩
end
/-! ### list.index of an int that is there -/
def rIdxI (K : PySem.W.Frag) : V → List V → Hp → VK → Prop := fun x xs H Q => ∃ (a : Addr) (ks : List Int) (c : Int), x = V.ref a ∧ xs = [.int c] ∧ SqL K H a (ks.map V.int) ∧ c ∈ ks ∧ Q (.int (ks.idxOf c : Nat)) H
theorem mt_idxI {X : Cx} : MtR X "list.index" (rIdxI X.K) := by
  intro pins s σ H x xs v us Q I rx rxs h
  obtain ⟨a, ks, c, rfl, rfl, hs, hc, q⟩ := h
  have hlt := List.idxOf_lt_length_of_mem hc
  refine mt_index pins s σ H _ _ v us Q I rx rxs ⟨a, ks.map V.int, .int c, ks.idxOf c, .int c, rfl, rfl, hs, rfl, ?_, ?_, ?_, ?_, q⟩
  · rw [List.all_map, List.all_eq_true]
    exact fun k _ => rfl
  · rw [List.getElem?_map, List.getElem?_eq_getElem hlt, List.getElem_idxOf]
    rfl
  · show (c == c) = true
    exact beq_self_eq_true c
  · intro m z hm hz
    rw [List.getElem?_map] at hz
    have hml : m < ks.length := Nat.lt_trans hm hlt
    rw [List.getElem?_eq_getElem hml] at hz
    rw [← Option.some.inj hz]
    show (ks[m] == c) = false
    rw [beq_eq_false_iff_ne]
    intro e
    have := List.not_of_lt_findIdx (p := (· == c)) hm
    rw [e] at this
    simp at this
end G
namespace G
open PySem PySem.Spec PyProof.Rows L2
/-! ### max of a list of ints -/
theorem reads_ints {h : Heap} : ∀ {ks : List Int} {us : List Value}, Vals (ks.map V.int) us → ∃ as, ReadsAll h us (ks.map PyData.int) as
  | [], _, .nil => ⟨[], .nil⟩
  | k :: ks, _, .cons r t => by
    obtain ⟨tk, rfl⟩ := r
    obtain ⟨as, ih⟩ := reads_ints (ks := ks) t
    exact ⟨_, .cons (.int k tk) ih⟩
theorem depth_ints : ∀ ks : List Int, PyData.depthAll (ks.map PyData.int) ≤ 1
  | [] => by decide
  | k :: ks => by
    have := depth_ints ks
    show max (PyData.depth (.int k)) (PyData.depthAll (ks.map PyData.int)) ≤ 1
    have h1 : PyData.depth (.int k) ≤ 1 := by show 0 ≤ 1; decide
    omega
def mxI (ks : List Int) : Int := ks.tail.foldl max (ks.headD 0)
def rMaxI (K : PySem.W.Frag) : List V → Hp → VK → Prop := fun xs H Q => ∃ (p : Addr) (ks : List Int), xs = [.ref p] ∧ SqL K H p (ks.map V.int) ∧ 0 < ks.length ∧ Q (.int (mxI ks)) H
theorem c_maxI {X : Cx} (hc : X.calm = true) (hu : X.A.units + 64 < cLine) : CallR X (.builtin "max") (rMaxI X.K) := by
  intro pins s σ H xs us Q I r h
  obtain ⟨p, ks, rfl, hs, hk, q⟩ := h
  obtain rfl := Vals.ref1 r
  obtain ⟨its, rv, pl, hz⟩ := I.list hs
  cases ks with
  | nil => cases hk
  | cons k ks =>
    obtain ⟨as, hr⟩ := reads_ints (h := s.heap) rv
    have hd := depth_ints (k :: ks)
    refine PySem.W.max_list_data (I.ok.hd hc) pl.isList (by simpa using hr) ⟨fun x hx y hy => ?_, fun x hx => ?_⟩ (by have : PyData.depthAll (PyData.int k :: ks.map PyData.int) ≤ 1 := hd; omega) fun i v h' tk bs hv hR hk' => ?_
    · have hx : x ∈ (k :: ks).map PyData.int := hx
      have hy : y ∈ (k :: ks).map PyData.int := hy
      obtain ⟨a, _, rfl⟩ := List.mem_map.mp hx
      obtain ⟨b, _, rfl⟩ := List.mem_map.mp hy
      rfl
    · have hx : x ∈ (k :: ks).map PyData.int := hx
      obtain ⟨a, _, rfl⟩ := List.mem_map.mp hx
      exact fun e => by cases e
    · rw [PySem.W.maxD_ints] at hR
      cases hR
      exact ⟨.int (mxI (k :: ks)), H, I.kept hk', ⟨_, rfl⟩, q⟩
end G
namespace G
open PySem PySem.Spec PyProof.Rows L2
/-! ### min of a list of data in order -/
section
variable {A : Type} {X : Cx} {R : Rel A} {ok : A → Bool} {n : Nat} {lt : A → A → Bool}
def mnT (lt : A → A → Bool) (x : A) (xs : List A) : A := xs.foldl (fun a y => if lt y a = true then y else a) x
def mnL (lt : A → A → Bool) (d : A) (xs : List A) : A := mnT lt (xs.headD d) xs.tail
theorem minD_enc {K : PySem.W.Frag} [e : En K R ok n] [o : Od K R lt] : ∀ (xs : List A) (x : A), PySem.W.minD (e.enc x) (xs.map e.enc) = e.enc (mnT lt x xs)
  | [], x => rfl
  | y :: xs, x => by
    have ih := minD_enc (K := K) xs (if lt y x = true then y else x)
    unfold PySem.W.minD mnT at ih ⊢
    rw [List.map_cons, List.foldl_cons, List.foldl_cons, ← ih, o.lt_eq]
    congr 1
    split <;> rfl
theorem mnT_mem (lt : A → A → Bool) : ∀ (xs : List A) (x : A), mnT lt x xs = x ∨ mnT lt x xs ∈ xs
  | [], x => .inl rfl
  | y :: xs, x => by
    have ih := mnT_mem lt xs (if lt y x = true then y else x)
    have e : mnT lt x (y :: xs) = mnT lt (if lt y x = true then y else x) xs := rfl
    rw [e]
    rcases ih with z | z
    · rw [z]
      split
      · exact .inr List.mem_cons_self
      · exact .inl rfl
    · exact .inr (List.mem_cons_of_mem _ z)
def rMin (K : PySem.W.Frag) (R : Rel A) (lt : A → A → Bool) : List V → Hp → VK → Prop := fun ys H Q => ∃ (a : Addr) (vs : List V) (xs : List A), ys = [.ref a] ∧ SqL K H a vs ∧ AR R H vs xs ∧ 0 < xs.length ∧ ∀ v, (∀ P d, AR R P vs xs → R P v (mnL lt d xs)) → Q v H
theorem each_all {h : Heap} : ∀ {us : List Value} {ds : List PyData}, PySem.W.EachIs (fun u d => ∃ as, Reads h u d as) us ds → ∃ as, ReadsAll h us ds as
  | _, _, .nil => ⟨[], .nil⟩
  | _, _, .cons r rs => by
    obtain ⟨a, ha⟩ := r
    obtain ⟨as, ih⟩ := each_all rs
    exact ⟨_, .cons ha ih⟩
theorem each_at {U D : Type} {P : U → D → Prop} : ∀ {us : List U} {ds : List D}, PySem.W.EachIs P us ds → ∀ {i : Nat} {u : U}, us[i]? = some u → ∃ d, ds[i]? = some d ∧ P u d
  | _, _, .nil, i, u, h => by cases h
  | _, _, .cons r rs, 0, u, h => by
    cases h
    exact ⟨_, rfl, r⟩
  | _, _, .cons r rs, i + 1, u, h => each_at (i := i) rs h
theorem vals_at : ∀ {vs : List V} {us : List Value}, Vals vs us → ∀ {i : Nat} {u : Value}, us[i]? = some u → ∃ v, vs[i]? = some v ∧ RelV v u
  | _, _, .nil, i, u, h => by cases h
  | _, _, .cons r rs, 0, u, h => by
    cases h
    exact ⟨_, rfl, r⟩
  | _, _, .cons r rs, i + 1, u, h => vals_at (i := i) rs h
theorem ar_at {P : Hp} : ∀ {vs : List V} {xs : List A}, AR R P vs xs → ∀ {i : Nat} {v : V}, vs[i]? = some v → ∃ x, xs[i]? = some x ∧ R P v x
  | _, _, .nil, i, u, h => by cases h
  | _, _, .cons r rs, 0, u, h => by
    cases h
    exact ⟨_, rfl, r⟩
  | _, _, .cons r rs, i + 1, u, h => ar_at (i := i) rs h
theorem depth_encs {K : PySem.W.Frag} [e : En K R ok n] : ∀ xs : List A, PyData.depthAll (xs.map e.enc) ≤ n
  | [] => Nat.zero_le _
  | x :: xs => by
    have := depth_encs (e := e) xs
    have h1 := e.dep (x := x)
    show max (PyData.depth (e.enc x)) (PyData.depthAll (xs.map e.enc)) ≤ n
    omega
theorem c_min [e : En X.K R ok n] [o : Od X.K R lt] (hc : X.calm = true) (hu : X.A.units + 64 < cLine) (hn : n < 64 := by decide) : CallR X (.builtin "min") (rMin X.K R lt) := by
  intro pins s σ H ys us Q I r h
  obtain ⟨p, vs, xs, rfl, hs, har, hk, q⟩ := h
  obtain rfl := Vals.ref1 r
  obtain ⟨its, rv, pl, hz⟩ := I.list hs
  cases xs with
  | nil => cases hk
  | cons x xs =>
    have hea := each_enc (e := e) (P := H) I rv har
    obtain ⟨as, hr⟩ := each_all hea
    have hd := depth_encs (e := e) (x :: xs)
    refine PySem.W.min_list_data (I.ok.hd hc) pl.isList (by simpa using hr) ⟨fun a ha b hb => ?_, fun a ha => ?_⟩ (by have : PyData.depthAll (e.enc x :: xs.map e.enc) ≤ n := hd; omega) fun i v h' tk bs hv hR hk' => ?_
    · have ha : a ∈ (x :: xs).map e.enc := ha
      have hb : b ∈ (x :: xs).map e.enc := hb
      obtain ⟨a, _, rfl⟩ := List.mem_map.mp ha
      obtain ⟨b, _, rfl⟩ := List.mem_map.mp hb
      exact o.al a b
    · have ha : a ∈ (x :: xs).map e.enc := ha
      obtain ⟨a, _, rfl⟩ := List.mem_map.mp ha
      rcases o.so with z | z
      · obtain ⟨c, l, e1⟩ := z a
        rw [e1]
        exact fun e => by cases e
      · exact (z a).1
    · have hv : its[i]? = some v := by simpa using hv
      obtain ⟨w, hw, hrel⟩ := vals_at rv hv
      obtain ⟨y, hy, hry⟩ := ar_at har hw
      obtain ⟨d, hd', asd, hrd⟩ := each_at hea hv
      have ed : d = e.enc y := by
        rw [List.getElem?_map, hy] at hd'
        exact (Option.some.inj hd').symm
      subst ed
      have hrd' := PySem.W.reads_keeps hk' hrd
      have eu := (PySem.Reads.unique hrd' _ _ hR).1
      rw [minD_enc] at eu
      have ey : y = mnT lt x xs := e.inj.mp (by rw [eu]; exact e.inj.mpr rfl)
      refine ⟨w, H, I.kept hk', hrel, q w fun P d0 hP => ?_⟩
      obtain ⟨y', hy', hr'⟩ := ar_at hP hw
      rw [hy] at hy'
      cases hy'
      show R P w (mnT lt x xs)
      rw [← ey]
      exact hr'
theorem c_minK {K : PySem.W.Frag} [e : En K R ok n] [o : Od K R lt] (hu : X.A.units + 64 < cLine) (hc : X.calm = true := by rfl) (hK : X.K = K := by rfl) (hn : n < 64 := by decide) : CallR X (.builtin "min") (rMin K R lt) := by
  subst hK
  exact c_min (e := e) hc hu hn
end
/-! ### <= of texts -/
def rLeS : R2 := fun x y H Q => ∃ a b : List Nat, x = S a ∧ y = S b ∧ Q (.bl (!decide (b < a))) H
theorem o_leS {X : Cx} : OpR X (compareOp .LtE) rLeS := fun pins s σ H x y v u Q I rx ry h => by
  obtain ⟨a, b, rfl, rfl, q⟩ := h
  exact op_le_str pins s σ H _ _ v u Q I rx ry ⟨_, _, rfl, rfl, q⟩
/-! ### str of an int -/
def rStrI : List V → Hp → VK → Prop := fun xs H Q => ∃ i : Int, xs = [.int i] ∧ i.natAbs.log2 < 1920 ∧ Q (S (cs (toString i))) H
theorem c_strI {X : Cx} : CallR X (.type "str") rStrI := fun pins s σ H xs us Q I r h => by
  obtain ⟨i, e, hz, q⟩ := h
  exact call_str_int pins s σ H xs us Q I r ⟨i, e, hz, q⟩
end G
namespace G
open PySem L2
/-! ### mirrors that come through -/
def Ok {A : Type} (m : Option A) (Q : A → Prop) : Prop := ∃ a, m = some a ∧ Q a
section
variable {A B Z R : Type} {Q Q' : A → Prop}
theorem Ok.pure {a : A} (h : Q a) : Ok (some a) Q := ⟨a, rfl, h⟩
theorem Ok.mono {m : Option A} (h : Ok m Q) (k : ∀ a, Q a → Q' a) : Ok m Q' := by
  obtain ⟨a, e, q⟩ := h
  exact ⟨a, e, k a q⟩
theorem Ok.chk {c : Prop} [Decidable c] {k : Option A} (h : c) (hk : Ok k Q) : Ok (chk c k) Q := by
  rw [chk_eq h]
  exact hk
theorem Ok.chk' {c : Prop} [Decidable c] {k : Option A} (h : c) (hk : c → Ok k Q) : Ok (G.chk c k) Q := by
  rw [chk_eq h]
  exact hk h
theorem Ok.ob {m : Option B} {k : B → Option A} (h : Ok m fun b => Ok (k b) Q) : Ok (ob m k) Q := by
  obtain ⟨b, e, q⟩ := h
  rw [e]
  exact q
theorem Ok.bind {m : Option B} {k : B → Option A} {P : B → Prop} (h : Ok m P) (hk : ∀ b, P b → Ok (k b) Q) : Ok (G.ob m k) Q := Ok.ob (h.mono hk)
theorem Ok.ite {b : Bool} {x y : Option A} (h1 : b = true → Ok x Q) (h2 : b = false → Ok y Q) : Ok (if b = true then x else y) Q := by
  cases b with
  | true => exact h1 rfl
  | false => exact h2 rfl
theorem Ok.yes {b : Bool} {x y : Option A} (hb : b = true) (h : Ok x Q) : Ok (if b = true then x else y) Q := by
  rw [if_pos hb]
  exact h
theorem Ok.no {b : Bool} {x y : Option A} (hb : b = false) (h : Ok y Q) : Ok (if b = true then x else y) Q := by
  rw [hb]
  exact h
theorem Ok.eq {m : Option A} {a : A} (h : Ok m fun x => x = a) : m = some a := by
  obtain ⟨b, e, rfl⟩ := h
  exact e
theorem Ok.of {m : Option A} {a : A} (e : m = some a) (h : Q a) : Ok m Q := ⟨a, e, h⟩
theorem Ok.obe {m : Option B} {k : B → Option A} {b : B} (e : m = some b) (h : Ok (k b) Q) : Ok (G.ob m k) Q := by
  rw [e]
  exact h
theorem Ok.take {ns : List Int} {b : Box} {n : Int} {Q : Int × Box → Prop} (hn : 0 < n ∧ n < 10000000000000) (h : ∀ t b', 0 ≤ t → t < n → Q (t, b')) : Ok (takeO ns b n) Q := by
  refine ⟨_, takeO_eq hn, ?_⟩
  have := take_rng ns b hn.1
  exact h (m_take ns b n).1 (m_take ns b n).2 this.1 this.2
theorem Ok.itf {f : A → Z → Option Z} {Q : Z → Prop} (I : Nat → Z → Prop) : ∀ {xs : List A} {s : Z} (i : Nat), I i s → (∀ j x s, xs[j]? = some x → I (i + j) s → Ok (f x s) (I (i + j + 1))) → (∀ s, I (i + xs.length) s → Q s) → Ok (itf f xs s) Q
  | [], s, i, h, _, hq => ⟨s, rfl, hq s h⟩
  | x :: xs, s, i, h, hs, hq => by
    rw [G.itf]
    refine Ok.bind (hs 0 x s rfl h) fun s' h' => ?_
    refine Ok.itf I (i + 1) h' (fun j y s hj hI => ?_) (fun s hI => hq s ?_)
    · have e : i + (j + 1) = i + 1 + j := by omega
      have := hs (j + 1) y s hj (by rw [e]; exact hI)
      rw [e] at this
      exact this
    · have e : i + (x :: xs).length = i + 1 + xs.length := by rw [List.length_cons]; omega
      rw [e]
      exact hI
theorem Ok.itr {f : A → Z → Option (Lr Z R)} {Q : Lr Z R → Prop} (I : Nat → Z → Prop) : ∀ {xs : List A} {s : Z} (i : Nat), I i s → (∀ j x s, xs[j]? = some x → I (i + j) s → Ok (f x s) fun o => match o with
      | .nx s' => I (i + j + 1) s'
      | o' => Q o') → (∀ s, I (i + xs.length) s → Q (.nx s)) → Ok (itr f xs s) Q
  | [], s, i, h, _, hq => ⟨.nx s, rfl, hq s h⟩
  | x :: xs, s, i, h, hs, hq => by
    rw [G.itr]
    refine Ok.bind (hs 0 x s rfl h) fun o h' => ?_
    cases o with
    | nx s' =>
      refine Ok.itr I (i + 1) h' (fun j y s hj hI => ?_) (fun s hI => hq s ?_)
      · have e : i + (j + 1) = i + 1 + j := by omega
        have := hs (j + 1) y s hj (by rw [e]; exact hI)
        rw [e] at this
        exact this
      · have e : i + (x :: xs).length = i + 1 + xs.length := by rw [List.length_cons]; omega
        rw [e]
        exact hI
    | bk s' => exact ⟨_, rfl, h'⟩
    | rt r => exact ⟨_, rfl, h'⟩
theorem Ok.whl {f : Z → Option (Lr Z R)} {Q : Lr Z R → Prop} (I : Nat → Z → Prop) (hs : ∀ n s, I n s → Ok (f s) fun o => match o with
      | .nx s' => ∃ m, m < n ∧ I m s'
      | o' => Q o') {n : Nat} {s : Z} (h : I n s) : Ok (whl f s) Q := by
  have key : ∀ k n s, n < k → I n s → ∃ t, whN f k s = some t ∧ Q t := by
    intro k
    induction k with
    | zero => intro n s hn; omega
    | succ k ih =>
      intro n s hn hI
      obtain ⟨o, e, q⟩ := hs n s hI
      rw [whN, ob_of e]
      cases o with
      | nx s' =>
        obtain ⟨m, hm, hI'⟩ := q
        exact ih m s' (by omega) hI'
      | bk s' => exact ⟨_, rfl, q⟩
      | rt r => exact ⟨_, rfl, q⟩
  obtain ⟨t, e, q⟩ := key (n + 1) n s (Nat.lt_succ_self _) h
  exact ⟨t, whl_of _ e, q⟩
theorem Ok.mps {f : A → Z → Option (B × Z)} {Q : List B × Z → Prop} (P : B → Prop) {xs : List A} {b : Z} (hs : ∀ x ∈ xs, ∀ b, Ok (f x b) fun y => P y.1) (hq : ∀ ys b', ys.length = xs.length → (∀ y ∈ ys, P y) → Q (ys, b')) : Ok (G.mps f xs b) Q := by
  obtain ⟨ys, e, l, q⟩ := mps_ok (f := f) (Q := P) xs b hs
  exact ⟨ys, e, hq ys.1 ys.2 l q⟩
theorem Ok.mpo {f : A → Option B} {g : A → B} {Q : List B → Prop} {xs : List A} (h : ∀ x ∈ xs, f x = some (g x)) (hq : Q (xs.map g)) : Ok (G.mpo f xs) Q := ⟨_, mpo_map h, hq⟩
end
/-! ### orders of texts -/
theorem tlt_tri : ∀ a b : List Nat, a < b ∨ a = b ∨ b < a
  | [], [] => .inr (.inl rfl)
  | [], y :: b => .inl (List.nil_lt_cons y b)
  | x :: a, [] => .inr (.inr (List.nil_lt_cons x a))
  | x :: a, y :: b => by
    rw [List.cons_lt_cons_iff, List.cons_lt_cons_iff]
    rcases Nat.lt_trichotomy x y with h | h | h
    · exact .inl (.inl h)
    · subst h
      rcases tlt_tri a b with h | h | h
      · exact .inl (.inr ⟨rfl, h⟩)
      · exact .inr (.inl (by rw [h]))
      · exact .inr (.inr (.inr ⟨rfl, h⟩))
    · exact .inr (.inr (.inl h))
theorem tlt_irr : ∀ a : List Nat, ¬ a < a
  | [] => List.not_lt_nil []
  | x :: a => by
    rw [List.cons_lt_cons_iff]
    rintro (h | ⟨_, h⟩)
    · exact Nat.lt_irrefl _ h
    · exact tlt_irr a h
theorem tlt_trans : ∀ {a b c : List Nat}, a < b → b < c → a < c
  | _, [], _, h, _ => absurd h (List.not_lt_nil _)
  | _, _ :: _, [], _, h => absurd h (List.not_lt_nil _)
  | [], y :: b, z :: c, _, _ => List.nil_lt_cons z c
  | x :: a, y :: b, z :: c, h1, h2 => by
    rw [List.cons_lt_cons_iff] at h1 h2 ⊢
    rcases h1 with h1 | ⟨rfl, h1⟩
    · rcases h2 with h2 | ⟨rfl, h2⟩
      · exact .inl (Nat.lt_trans h1 h2)
      · exact .inl h1
    · rcases h2 with h2 | ⟨rfl, h2⟩
      · exact .inl h2
      · exact .inr ⟨rfl, tlt_trans h1 h2⟩
theorem tlt_asym {a b : List Nat} (h : a < b) : ¬ b < a := fun h' => tlt_irr a (tlt_trans h h')
/-! ### sorting by keys -/
section
variable {A : Type} {key : A → List Nat}
theorem sortBy_perm (xs : List A) : (sortBy key xs).Perm xs := List.mergeSort_perm _ _
theorem sortBy_mem {xs : List A} {x : A} : x ∈ sortBy key xs ↔ x ∈ xs := (sortBy_perm xs).mem_iff
theorem sortBy_len (xs : List A) : (sortBy key xs).length = xs.length := List.length_mergeSort ..
theorem sortBy_srt (xs : List A) : (sortBy key xs).Pairwise fun x y => ¬ key y < key x := by
  have h := List.pairwise_mergeSort (le := fun x y : A => !decide (key y < key x)) (fun a b c => by
    simp only [Bool.not_eq_true', decide_eq_false_iff_not]
    intro h1 h2 h3
    rcases tlt_tri (key b) (key a) with h | h | h
    · exact h1 h
    · rw [h] at h2; exact h2 h3
    · exact h2 (tlt_trans h3 h)) (fun a b => by
    simp only [Bool.or_eq_true, Bool.not_eq_true', decide_eq_false_iff_not]
    rcases tlt_tri (key b) (key a) with h | h | h
    · exact .inr (tlt_asym h)
    · exact .inl (by rw [h]; exact tlt_irr _)
    · exact .inl (tlt_asym h)) xs
  unfold sortBy
  exact h.imp fun {a b} h => by simpa using h
/-- two lists of the same items in order are one list -/
theorem ord_uniq : ∀ {xs ys : List A}, xs.Perm ys → xs.Pairwise (fun x y => key x < key y) → ys.Pairwise (fun x y => key x < key y) → xs = ys
  | [], ys, p, _, _ => by rw [List.nil_perm.mp p]
  | x :: xs, [], p, _, _ => by
    have := p.length_eq
    simp at this
  | x :: xs, y :: ys, p, h1, h2 => by
    have e : x = y := by
      rcases List.mem_cons.mp (p.mem_iff.mp List.mem_cons_self) with e | e
      · exact e
      · have a1 := (List.pairwise_cons.mp h2).1 x e
        rcases List.mem_cons.mp (p.mem_iff.mpr List.mem_cons_self) with e' | e'
        · exact e'.symm
        · exact absurd a1 (tlt_asym ((List.pairwise_cons.mp h1).1 y e'))
    subst e
    rw [ord_uniq (p.cons_inv) (List.pairwise_cons.mp h1).2 (List.pairwise_cons.mp h2).2]
/-- keys unlike -/
def Unl (key : A → List Nat) (xs : List A) : Prop := xs.Pairwise fun x y => key x ≠ key y
theorem Unl.perm {xs ys : List A} (h : Unl key xs) (p : xs.Perm ys) : Unl key ys := (p.pairwise_iff (fun h e => h e.symm)).mp h
theorem sortBy_ord {xs : List A} (h : Unl key xs) : (sortBy key xs).Pairwise fun x y => key x < key y := by
  have h1 := sortBy_srt (key := key) xs
  have h2 : Unl key (sortBy key xs) := h.perm (sortBy_perm xs).symm
  refine (List.Pairwise.and h1 h2).imp fun {a b} ⟨h1, h2⟩ => ?_
  rcases tlt_tri (key a) (key b) with h | h | h
  · exact h
  · exact absurd h h2
  · exact absurd h h1
theorem sortBy_uniq {xs ys : List A} (h : Unl key xs) (p : xs.Perm ys) : sortBy key xs = sortBy key ys :=
  ord_uniq (((sortBy_perm xs).trans p).trans (sortBy_perm ys).symm) (sortBy_ord h) (sortBy_ord (h.perm p))
theorem Unl.of_lt {xs : List A} (h : xs.Pairwise fun x y => key x < key y) : Unl key xs := List.Pairwise.imp (R := fun x y => key x < key y) (S := fun x y => key x ≠ key y) (fun {a b} h e => by
  rw [e] at h
  exact tlt_irr _ h) h
theorem sortBy_id {xs : List A} (h : xs.Pairwise fun x y => key x < key y) : sortBy key xs = xs := ord_uniq (sortBy_perm xs) (sortBy_ord (Unl.of_lt h)) h
theorem Unl.filter {xs : List A} (h : Unl key xs) (p : A → Bool) : Unl key (xs.filter p) := List.Pairwise.filter p h
theorem ms_congr {r s : A → A → Bool} {xs : List A} (h : ∀ a ∈ xs, ∀ b ∈ xs, r a b = s a b) : xs.mergeSort r = xs.mergeSort s := by
  have e : PySem.W.EachIs (fun a b : A => a = b) xs xs := by
    clear h
    induction xs with
    | nil => exact .nil
    | cons x xs ih => exact .cons rfl ih
  have z := PySem.W.sort_each (r := r) (s := s) e fun p hp q hq => by
    have e1 := e.zip p hp
    have e2 := e.zip q hq
    have m1 : p.1 ∈ xs := (List.of_mem_zip hp).1
    have m2 : q.1 ∈ xs := (List.of_mem_zip hq).1
    rw [← e1, ← e2]
    exact h _ m1 _ m2
  have : ∀ {l m : List A}, PySem.W.EachIs (fun a b : A => a = b) l m → l = m := by
    intro l m h
    induction h with
    | nil => rfl
    | cons h t ih => rw [h, ih]
  exact this z
theorem unl_eq {xs : List A} (h : Unl key xs) {a b : A} (ha : a ∈ xs) (hb : b ∈ xs) (e : key a = key b) : a = b := by
  induction xs with
  | nil => cases ha
  | cons x xs ih =>
    have h' := List.pairwise_cons.mp h
    rcases List.mem_cons.mp ha with e1 | ha1
    · rcases List.mem_cons.mp hb with e2 | hb1
      · rw [e1, e2]
      · rw [e1] at e
        exact absurd e (h'.1 b hb1)
    · rcases List.mem_cons.mp hb with e2 | hb1
      · rw [e2] at e
        exact absurd e.symm (h'.1 a ha1)
      · exact ih h'.2 ha1 hb1
/-- the whole tuple's order, where the names are unlike -/
theorem srt_by {B C D : Type} [DecidableEq B] [DecidableEq C] [DecidableEq D] {l2 : B → B → Bool} {l3 : C → C → Bool} {l4 : D → D → Bool} (i2 : ∀ x, l2 x x = false) (i3 : ∀ x, l3 x x = false) (i4 : ∀ x, l4 x x = false) {xs : List (List Nat × B × C × D)} (h : Unl (fun x => x.1) xs) :
    srt (oLt4 ltT l2 l3 l4) xs = sortBy (fun x => x.1) xs := by
  unfold srt sortBy
  refine ms_congr fun a ha b hb => ?_
  congr 1
  unfold oLt4
  by_cases e : b.1 = a.1
  · have := unl_eq h hb ha e
    subst this
    rw [if_pos rfl, if_pos rfl, if_pos rfl, i4]
    exact (decide_eq_false (tlt_irr _)).symm
  · rw [if_neg e]
    rfl
end
theorem ltT_irr (x : List Nat) : ltT x x = false := decide_eq_false (tlt_irr x)
end G
/-! ### a list of dicts that still change, lent for one statement: locked, read, unlocked -/
namespace G
open PySem PySem.Spec PyProof.Rows L2
/-- all dicts of z may change again -/
def unlockAll : Hp → Dz → Hp
  | H, [] => H
  | H, p :: z => unlockAll (upd H p.1 (.dK p.2)) z
def LkAt (H : Hp) : Dz → List Obj → Prop
  | p :: z, o :: os => H p.1 = some (.frz o (.dK p.2)) ∧ LkAt H z os
  | _, _ => True
theorem LkAt.up {P H : Hp} (e : Ext P H) : ∀ {z : Dz} {os : List Obj}, LkAt P z os → LkAt H z os
  | [], _, _ => trivial
  | _ :: _, [], _ => trivial
  | p :: z, o :: os, h => ⟨e _ _ h.1, LkAt.up e h.2⟩
theorem LkAt.upd {H : Hp} {a : Addr} {u : HO} : ∀ {z : Dz} {os : List Obj}, a ∉ z.map (·.1) → LkAt H z os → LkAt (upd H a u) z os
  | [], _, _, _ => trivial
  | _ :: _, [], _, _ => trivial
  | p :: z, o :: os, hn, h => by
    rw [List.map_cons, List.mem_cons, not_or] at hn
    exact ⟨by rw [upd_ne (fun e => hn.1 e.symm)]; exact h.1, LkAt.upd hn.2 h.2⟩
abbrev unD (D : Ends) (z : Dz) (os : List Obj) : Ends :=
  ⟨fun σ' H' => LkAt H' z os ∧ D.nx σ' (unlockAll H' z), fun v H' => LkAt H' z os ∧ D.rt v (unlockAll H' z), fun σ' H' => LkAt H' z os ∧ D.bk σ' (unlockAll H' z), fun σ' H' => LkAt H' z os ∧ D.ct σ' (unlockAll H' z)⟩
/-- the statement runs while the dicts of z are locked -/
def tLockN (t : TS) : TS := fun D σ H => ∃ z : Dz, (∀ p ∈ z, H p.1 = some (.dK p.2)) ∧ (z.map (·.1)).Nodup ∧ ∀ os : List Obj, os.length = z.length → t (unD D z os) σ (lockAll H z os)
section
variable {X : Cx}
theorem inv_lockN {pins : List (Addr × Obj)} {σ : L2.St} {s : Shared} : ∀ (z : Dz) (H : Hp), L2.Inv X pins σ H s → (∀ p ∈ z, H p.1 = some (.dK p.2)) → (z.map (·.1)).Nodup → ∃ os : List Obj, os.length = z.length ∧ L2.Inv X pins σ (lockAll H z os) s
  | [], H, I, _, _ => ⟨[], rfl, I⟩
  | p :: z, H, I, hz, hn => by
    rw [List.map_cons, List.nodup_cons] at hn
    obtain ⟨od, I1⟩ := I.lock (hz p List.mem_cons_self) trivial
    obtain ⟨os, hl, I2⟩ := inv_lockN z _ I1 (fun q hq => by
      have hne : q.1 ≠ p.1 := fun e => hn.1 (by rw [← e]; exact List.mem_map.mpr ⟨q, hq, rfl⟩)
      rw [upd_ne hne]
      exact hz q (List.mem_cons_of_mem _ hq)) hn.2
    exact ⟨od :: os, by rw [List.length_cons, List.length_cons, hl], I2⟩
theorem inv_unlockN {pins : List (Addr × Obj)} {σ : L2.St} {s : Shared} : ∀ (z : Dz) (os : List Obj) (H : Hp), os.length = z.length → L2.Inv X pins σ H s → LkAt H z os → (∀ p ∈ z, ∀ o' u', X.H_0 p.1 ≠ some (.frz o' u')) → (z.map (·.1)).Nodup → L2.Inv X pins σ (unlockAll H z) s
  | [], _, H, _, I, _, _, _ => I
  | p :: z, [], H, hl, _, _, _, _ => absurd hl (by simp)
  | p :: z, o :: os, H, hl, I, hk, h0, hn => by
    rw [List.map_cons, List.nodup_cons] at hn
    exact inv_unlockN z os _ (by simpa using hl) (I.unlock hk.1 (h0 p List.mem_cons_self)) (LkAt.upd hn.1 hk.2) (fun q hq => h0 q (List.mem_cons_of_mem _ hq)) hn.2
theorem ps_lockN {st : Stmt} {t : TS} (h : PS X st t) : PS X st (tLockN t) := by
  refine ⟨fun pins s σ H D I hw => ?_⟩
  obtain ⟨z, hz, hn, hw⟩ := hw
  have h0 : ∀ p ∈ z, ∀ o' u', X.H_0 p.1 ≠ some (.frz o' u') := fun p hp => I.nofrz (hz p hp) trivial
  obtain ⟨os, hl, I1⟩ := inv_lockN z H I hz hn
  refine thn (h.run pins s σ _ _ I1 (hw os hl)) fun f s1 q => ?_
  cases f with
  | next => obtain ⟨σ', H', I2, e, q⟩ := q; exact ⟨σ', _, inv_unlockN z os H' hl I2 e h0 hn, q⟩
  | brk => obtain ⟨σ', H', I2, e, q⟩ := q; exact ⟨σ', _, inv_unlockN z os H' hl I2 e h0 hn, q⟩
  | cont => obtain ⟨σ', H', I2, e, q⟩ := q; exact ⟨σ', _, inv_unlockN z os H' hl I2 e h0 hn, q⟩
  | ret v => obtain ⟨x, σ', H', I2, r, e, q⟩ := q; exact ⟨x, σ', _, inv_unlockN z os H' hl I2 e h0 hn, r, q⟩
end
/-! the world -/
/-- the frozen heap without these things -/
def cutP (as : List Addr) (P : Hp) : Hp := fun b => if b ∈ as then none else P b
theorem cutP_in {as : List Addr} {P : Hp} {a : Addr} (h : a ∈ as) : cutP as P a = none := if_pos h
theorem cutP_out {as : List Addr} {P : Hp} {a : Addr} (h : a ∉ as) : cutP as P a = P a := if_neg h
theorem cutP_ext {as : List Addr} {P : Hp} : Ext (cutP as P) P := fun a o e => by
  by_cases h : a ∈ as
  · rw [cutP_in h] at e; cases e
  · rw [cutP_out h] at e; exact e
theorem cutP_old {as : List Addr} {P0 P : Hp} (e : Ext P0 P) (h : ∀ a ∈ as, P0 a = none) : Ext P0 (cutP as P) := fun a o q => by
  by_cases z : a ∈ as
  · rw [h a z] at q; cases q
  · rw [cutP_out z]; exact e a o q
theorem cutP_mono {as : List Addr} {P P' : Hp} (e : Ext P P') : Ext (cutP as P) (cutP as P') := fun a o q => by
  by_cases z : a ∈ as
  · rw [cutP_in z] at q; cases q
  · rw [cutP_out z] at q ⊢; exact e a o q
section
variable {T : Tbs} {P P' H H' : Hp} {cs : Cs}
theorem Wd.less {P0 : Hp} (w : Wd T P H cs) (e : Ext P0 P) : Wd T P0 H cs where
  sub := e.trans w.sub
  nd := w.nd
  ok := fun p hp => ⟨(w.ok p hp).1, by
    cases q : P0 p.1 with
    | none => rfl
    | some o => have := e _ _ q; rw [(w.ok p hp).2] at this; cases this⟩
  np := fun a ps e' => w.np a ps (e a _ e')
  ct := w.ct
  tb := w.tb
/-- a frozen thing is a cell again -/
theorem Wd.unkeep {a : Addr} {o : HO} (w : Wd T P H cs) (h : P a = some o) (hn : nt o = true) : Wd T (cutP [a] P) H ((a, o) :: cs) where
  sub := cutP_ext.trans w.sub
  nd := by
    refine List.nodup_cons.mpr ⟨fun hm => ?_, w.nd⟩
    obtain ⟨q, hq, e⟩ := List.mem_map.mp hm
    have := (w.ok q hq).2
    rw [show q.1 = a from e, h] at this
    cases this
  ok := fun q hq => by
    rcases List.mem_cons.mp hq with z | z
    · subst z
      exact ⟨w.sub _ _ h, cutP_in (List.mem_singleton.mpr rfl)⟩
    · exact (w.less cutP_ext).ok q z
  np := fun b ps e => w.np b ps (cutP_ext b _ e)
  ct := fun q hq => by
    rcases List.mem_cons.mp hq with z | z
    · subst z; exact hn
    · exact w.ct q z
  tb := w.tb
theorem Wd.unlk1 {a : Addr} {o : Obj} {u : HO} (w : Wd T P H cs) (h : P a = some (.frz o u)) (hn : nt u = true) : Wd T (cutP [a] P) (upd H a u) ((a, u) :: cs) :=
  (w.unkeep h rfl).put 0 u rfl hn
theorem Wd.unlkN : ∀ {z : Dz} {os : List Obj} {P H : Hp} {cs : Cs}, os.length = z.length → Wd T P H cs → LkAt P z os → (z.map (·.1)).Nodup → Wd T (cutP (z.map (·.1)) P) (unlockAll H z) (dlC z ++ cs)
  | [], _, P, H, cs, _, w, _, _ => by
    have : cutP (([] : Dz).map (·.1)) P = P := funext fun b => cutP_out (by simp)
    rw [this]
    exact w
  | p :: z, [], _, _, _, hl, _, _, _ => absurd hl (by simp)
  | p :: z, o :: os, P, H, cs, hl, w, hk, hn => by
    rw [List.map_cons, List.nodup_cons] at hn
    have w1 := w.unlk1 hk.1 rfl
    have hk2 : LkAt (cutP [p.1] P) z os := by
      have key : ∀ (z : Dz) (os : List Obj), p.1 ∉ z.map (·.1) → LkAt P z os → LkAt (cutP [p.1] P) z os := by
        intro z
        induction z with
        | nil => intro _ _ _; trivial
        | cons q z ih =>
          intro os hn h
          cases os with
          | nil => trivial
          | cons o os =>
            rw [List.map_cons, List.mem_cons, not_or] at hn
            exact ⟨by rw [cutP_out (fun m => hn.1 (List.mem_singleton.mp m).symm)]; exact h.1, ih os hn.2 h.2⟩
      exact key z os hn.1 hk.2
    have w2 := Wd.unlkN (z := z) (os := os) (by simpa using hl) w1 hk2 hn.2
    have e : cutP (z.map (·.1)) (cutP [p.1] P) = cutP ((p :: z).map (·.1)) P := by
      funext b
      unfold cutP
      rw [List.map_cons]
      by_cases h1 : b ∈ z.map (·.1)
      · rw [if_pos h1, if_pos (List.mem_cons_of_mem _ h1)]
      · rw [if_neg h1]
        by_cases h2 : b ∈ [p.1]
        · rw [if_pos h2, if_pos (by rw [List.mem_singleton.mp h2]; exact List.mem_cons_self)]
        · rw [if_neg h2, if_neg (fun m => by
            rcases List.mem_cons.mp m with m | m
            · exact h2 (by rw [m]; exact List.mem_cons_self)
            · exact h1 m)]
    rw [e] at w2
    exact w2.perm List.perm_middle
end
section
variable {κ A : Type} {f : κ → Key} {R : Rel A} {T : Tbs}
/-- as dlLock, with the facts of the locks -/
theorem Wd.dlLock2 [Mo R] {rest : Cs} : ∀ {z : Dz} {os : List Obj} {m : List (List (κ × A))} {P H : Hp}, os.length = z.length → DLR f R P z m → Wd T P H (dlC z ++ rest) → ∃ P', Ext P P' ∧ Wd T P' (lockAll H z os) rest ∧ AR (yD f R) P' (dlV z) m ∧ LkAt P' z os
  | [], [], _, P, H, _, .nil, w => ⟨P, Ext.refl _, w, .nil, trivial⟩
  | p :: z, o :: os, _, P, H, hl, .cons (x := y) h t, w => by
    have w1 : Wd T P (upd H p.1 (.frz o (.dK p.2))) ((p.1, .frz o (.dK p.2)) :: (dlC z ++ rest)) := Wd.put (a := p.1) (o := .dK p.2) w 0 (.frz o (.dK p.2)) rfl rfl
    have e2 : Ext P (upd P p.1 (.frz o (.dK p.2))) := w1.kext
    have w3 : Wd T (upd P p.1 (.frz o (.dK p.2))) (upd H p.1 (.frz o (.dK p.2))) (dlC z ++ rest) := w1.keep
    obtain ⟨P', e3, w4, r, k⟩ := Wd.dlLock2 (z := z) (os := os) (by simpa using hl) (t.up e2) w3
    exact ⟨P', e2.trans e3, w4, .cons ⟨p.1, o, p.2, rfl, e3 _ _ upd_same, h.up (e2.trans e3)⟩ r, e3 _ _ upd_same, k⟩
  | [], _ :: _, _, _, _, hl, _, _ => absurd hl (by simp)
  | _ :: _, [], _, _, _, hl, _, _ => absurd hl (by simp)
/-- the list's cell a and its dicts are lent: all frozen -/
theorem Wd.lendD [Mo R] {a : Addr} {l rest : Cs} {z : Dz} {os : List Obj} {m : List (List (κ × A))} {P H : Hp} (hl : os.length = z.length) (h : DLR f R P z m) (w : Wd T P H ((a, HO.lst (dlV z)) :: (l ++ (dlC z ++ rest)))) :
    ∃ P', Ext P P' ∧ Wd T P' (lockAll H z os) (l ++ rest) ∧ AR (yD f R) P' (dlV z) m ∧ LkAt P' z os ∧ P' a = some (.lst (dlV z)) := by
  have w0 : Wd T P H (dlC z ++ ((a, HO.lst (dlV z)) :: (l ++ rest))) := w.perm (by
    have h1 : ((a, HO.lst (dlV z)) :: (l ++ (dlC z ++ rest))).Perm ((a, HO.lst (dlV z)) :: (dlC z ++ (l ++ rest))) := List.Perm.cons _ (by rw [← List.append_assoc, ← List.append_assoc]; exact List.Perm.append_right rest List.perm_append_comm)
    exact h1.trans List.perm_middle.symm)
  obtain ⟨P', e, w1, r, k⟩ := Wd.dlLock2 hl h w0
  refine ⟨upd P' a (.lst (dlV z)), e.trans w1.kext, w1.keep, ?_, k.up w1.kext, upd_same⟩
  exact AR.up w1.kext r
/-- and taken back -/
theorem Wd.back {a : Addr} {l rest l0 rest0 : Cs} {z : Dz} {os : List Obj} {P P' H H' : Hp} (hl : os.length = z.length) (w0 : Wd T P H ((a, HO.lst (dlV z)) :: (l0 ++ (dlC z ++ rest0)))) (w : Wd T P' H' (l ++ rest)) (k : LkAt P' z os) (ha : P' a = some (.lst (dlV z))) :
    Wd T (cutP (a :: z.map (·.1)) P') (unlockAll H' z) ((a, HO.lst (dlV z)) :: (l ++ (dlC z ++ rest))) := by
  have hn : (z.map (·.1)).Nodup ∧ a ∉ z.map (·.1) := by
    have hn := w0.nd
    rw [List.map_cons, List.nodup_cons] at hn
    refine ⟨(Wd.dlHas w0).2, fun hm => hn.1 ?_⟩
    rw [List.map_append, List.map_append]
    refine List.mem_append_right _ (List.mem_append_left _ ?_)
    unfold dlC
    rw [List.map_map]
    exact hm
  have w1 := w.unkeep ha rfl
  have k1 : LkAt (cutP [a] P') z os := by
    have key : ∀ (z : Dz) (os : List Obj), a ∉ z.map (·.1) → LkAt P' z os → LkAt (cutP [a] P') z os := by
      intro z
      induction z with
      | nil => intro _ _ _; trivial
      | cons q z ih =>
        intro os hn h
        cases os with
        | nil => trivial
        | cons o os =>
          rw [List.map_cons, List.mem_cons, not_or] at hn
          exact ⟨by rw [cutP_out (fun m => hn.1 (List.mem_singleton.mp m).symm)]; exact h.1, ih os hn.2 h.2⟩
    exact key z os hn.2 k
  have w2 := Wd.unlkN hl w1 k1 hn.1
  have e : cutP (z.map (·.1)) (cutP [a] P') = cutP (a :: z.map (·.1)) P' := by
    funext b
    unfold cutP
    by_cases h1 : b ∈ z.map (·.1)
    · rw [if_pos h1, if_pos (List.mem_cons_of_mem _ h1)]
    · rw [if_neg h1]
      by_cases h2 : b ∈ [a]
      · rw [if_pos h2, if_pos (by rw [List.mem_singleton.mp h2]; exact List.mem_cons_self)]
      · rw [if_neg h2, if_neg (fun m => by
          rcases List.mem_cons.mp m with m | m
          · exact h2 (by rw [m]; exact List.mem_cons_self)
          · exact h1 m)]
  rw [e] at w2
  refine w2.perm ?_
  have h1 : (dlC z ++ ((a, HO.lst (dlV z)) :: (l ++ rest))).Perm ((a, HO.lst (dlV z)) :: (dlC z ++ (l ++ rest))) := List.perm_middle
  refine h1.trans (List.Perm.cons _ ?_)
  rw [← List.append_assoc, ← List.append_assoc]
  exact List.Perm.append_right rest List.perm_append_comm
theorem Wd.lentNone {a : Addr} {l rest : Cs} {z : Dz} {P H : Hp} (w : Wd T P H ((a, HO.lst (dlV z)) :: (l ++ (dlC z ++ rest)))) : ∀ x ∈ a :: z.map (·.1), P x = none := fun x hx => by
  rcases List.mem_cons.mp hx with q | q
  · rw [q]; exact (w.ok _ List.mem_cons_self).2
  · obtain ⟨p, hp, rfl⟩ := List.mem_map.mp q
    exact (w.ok (p.1, .dK p.2) (List.mem_cons_of_mem _ (List.mem_append_right _ (List.mem_append_left _ (List.mem_map.mpr ⟨p, hp, rfl⟩))))).2
theorem lentOld1 {P0 : Hp} {a e : Addr} {l rest : Cs} {z : Dz} {P H : Hp} (he : P0 e = none) (x : Ext P0 P) (w : Wd T P H ((a, HO.lst (dlV z)) :: (l ++ (dlC z ++ rest)))) : ∀ y ∈ e :: a :: z.map (·.1), P0 y = none := fun y hy => by
  rcases List.mem_cons.mp hy with q | q
  · rw [q]; exact he
  · have h := w.lentNone y q
    cases r : P0 y with
    | none => rfl
    | some o => rw [x _ _ r] at h; cases h
theorem LkAt.cut {P : Hp} {e : Addr} : ∀ {z : Dz} {os : List Obj}, e ∉ z.map (·.1) → LkAt P z os → LkAt (cutP [e] P) z os
  | [], _, _, _ => trivial
  | _ :: _, [], _, _ => trivial
  | p :: z, o :: os, hn, h => by
    rw [List.map_cons, List.mem_cons, not_or] at hn
    exact ⟨by rw [cutP_out (fun m => hn.1 (List.mem_singleton.mp m).symm)]; exact h.1, LkAt.cut hn.2 h.2⟩
/-- with a list e that was frozen ahead -/
theorem Wd.back1 {a e : Addr} {evs : List V} {l rest l0 rest0 : Cs} {z : Dz} {os : List Obj} {P P' H H' : Hp} (hl : os.length = z.length) (w0 : Wd T P H ((a, HO.lst (dlV z)) :: (l0 ++ (dlC z ++ rest0)))) (he0 : P e = some (.lst evs)) (w : Wd T P' H' (l ++ rest)) (k : LkAt P' z os) (ha : P' a = some (.lst (dlV z))) (he : P' e = some (.lst evs)) :
    Wd T (cutP (e :: a :: z.map (·.1)) P') (unlockAll H' z) ((a, HO.lst (dlV z)) :: (((e, HO.lst evs) :: l) ++ (dlC z ++ rest))) := by
  have hn := w0.lentNone
  have he1 : e ∉ a :: z.map (·.1) := fun m => by rw [hn e m] at he0; cases he0
  rw [List.mem_cons, not_or] at he1
  have w1 : Wd T (cutP [e] P') H' (((e, HO.lst evs) :: l) ++ rest) := w.unkeep he rfl
  have w2 := Wd.back hl w0 w1 (LkAt.cut he1.2 k) (by rw [cutP_out (fun m => he1.1 (List.mem_singleton.mp m).symm)]; exact ha)
  have e' : cutP (a :: z.map (·.1)) (cutP [e] P') = cutP (e :: a :: z.map (·.1)) P' := by
    funext b
    unfold cutP
    by_cases h1 : b ∈ a :: z.map (·.1)
    · rw [if_pos h1, if_pos (List.mem_cons_of_mem _ h1)]
    · rw [if_neg h1]
      by_cases h2 : b ∈ [e]
      · rw [if_pos h2, if_pos (by rw [List.mem_singleton.mp h2]; exact List.mem_cons_self)]
      · rw [if_neg h2, if_neg (fun m => by
          rcases List.mem_cons.mp m with m | m
          · exact h2 (by rw [m]; exact List.mem_cons_self)
          · exact h1 m)]
  rw [e'] at w2
  exact w2
end
theorem Wd.dlDrop {T : Tbs} {P H : Hp} {x : Addr × HO} {l rest : Cs} {z : Dz} (w : Wd T P H (x :: (l ++ (dlC z ++ rest)))) : Wd T P H (l ++ rest) :=
  w.sublist (.cons _ (List.Sublist.append (List.Sublist.refl _) (List.sublist_append_right _ _)))
theorem dl_dropall {κ A : Type} {f : κ → Key} {R : Rel A} {P : Hp} {z : Dz} {m : List (List (κ × A))} (h : DLR f R P z m) : (List.range m.length).drop (dlV z).length = [] := by
  rw [dlV_len, h.len]
  exact List.drop_of_length_le (by rw [List.length_range]; exact Nat.le_refl _)
theorem DLR.atV {κ A : Type} {f : κ → Key} {R : Rel A} {P : Hp} {z : Dz} {m : List (List (κ × A))} {i : Nat} {x : V} (h : DLR f R P z m) (hx : (dlV z)[i]? = some x) : ∃ p, z[i]? = some p ∧ x = .ref p.1 ∧ DR f R P p.2 (m.getD i []) := by
  have hl := (List.getElem?_eq_some_iff.mp hx).1
  rw [dlV_len, h.len] at hl
  obtain ⟨p, h1, h2⟩ := h.at hl
  refine ⟨p, h1, ?_, h2⟩
  rw [dlV_at h1] at hx
  exact (Option.some.inj hx).symm
/-! what is made while things are lent does not lean on them -/
/-- not a tuple -/
def ntup : HO → Bool
  | .tup _ => false
  | _ => true
theorem extn {P P' : Hp} {a : Addr} (e : Ext P P') (h : P' a = none) : P a = none := by
  cases q : P a with
  | none => rfl
  | some o => rw [e _ _ q] at h; cases h
section
variable {P P1 : Hp} {L : List Addr}
theorem cutF {x : Addr} {o : HO} (hL : ∀ a ∈ L, ∃ o, P a = some o ∧ ntup o = true) (hx : P x = none) (h : P1 x = some o) : cutP L P1 x = some o := by
  rw [cutP_out (fun m => by obtain ⟨u, hu, _⟩ := hL x m; rw [hx] at hu; cases hu)]
  exact h
theorem cutTu {x : Addr} {xs : List V} (hL : ∀ a ∈ L, ∃ o, P a = some o ∧ ntup o = true) (e : Ext P P1) (h : P1 x = some (.tup xs)) : cutP L P1 x = some (.tup xs) := by
  rw [cutP_out (fun m => by obtain ⟨u, hu, n⟩ := hL x m; rw [e _ _ hu] at h; cases h; cases n)]
  exact h
theorem lent_L {a e : Addr} {xs ys : List V} {z : Dz} {os : List Obj} (he : P e = some (.lst xs)) (ha : P a = some (.lst ys)) (hl : os.length = z.length) (hk : LkAt P z os) : ∀ x ∈ e :: a :: z.map (·.1), ∃ o, P x = some o ∧ ntup o = true := fun x hx => by
  rcases List.mem_cons.mp hx with q | hx
  · exact ⟨_, by rw [q]; exact he, rfl⟩
  rcases List.mem_cons.mp hx with q | hx
  · exact ⟨_, by rw [q]; exact ha, rfl⟩
  have key : ∀ (z : Dz) (os : List Obj), os.length = z.length → LkAt P z os → x ∈ z.map (·.1) → ∃ o, P x = some o ∧ ntup o = true := by
    intro z
    induction z with
    | nil => intro os _ _ h; cases h
    | cons p z ih =>
      intro os hl hk h
      cases os with
      | nil => exact absurd hl (by simp)
      | cons o os =>
        rw [List.map_cons] at h
        rcases List.mem_cons.mp h with q | h
        · exact ⟨_, by rw [q]; exact hk.1, rfl⟩
        · exact ih os (by simpa using hl) hk.2 h
  exact key z os hl hk hx
end
/-- a dict that P0 does not know -/
def yDN {κ A : Type} (P0 : Hp) (f : κ → Key) (R : Rel A) : Rel (List (κ × A)) := fun P v m => yD f R P v m ∧ ∃ d, v = .ref d ∧ P0 d = none
instance {κ A : Type} {P0 : Hp} {f : κ → Key} {R : Rel A} [Mo R] : Mo (yDN P0 f R) := ⟨fun e h => ⟨Mo.mo e h.1, h.2⟩⟩
section
variable {κ A B : Type} {P P1 : Hp} {L : List Addr} {f : κ → Key}
theorem yDN_of {R : Rel A} : ∀ {vs : List V} {m : List (List (κ × A))}, AR (yDN P f R) P1 vs m → AR (yD f R) P1 vs m
  | _, _, .nil => .nil
  | _, _, .cons h t => .cons h.1 (yDN_of t)
theorem y2_cut {K : PySem.W.Frag} {v : V} {x : Int × List Nat} (hL : ∀ a ∈ L, ∃ o, P a = some o ∧ ntup o = true) (e : Ext P P1) (h : y2 K yI yS P1 v x) : y2 K yI yS (cutP L P1) v x := by
  obtain ⟨a, v1, v2, rfl, q, h1, h2⟩ := h
  exact ⟨a, v1, v2, rfl, cutTu hL e q, h1, h2⟩
theorem dr_cut {K : PySem.W.Frag} (hL : ∀ a ∈ L, ∃ o, P a = some o ∧ ntup o = true) (e : Ext P P1) : ∀ {ks : List (Key × V)} {m : List (κ × (Int × List Nat))}, DR f (y2 K yI yS) P1 ks m → DR f (y2 K yI yS) (cutP L P1) ks m
  | _, _, .nil => .nil
  | _, _, .cons h t => .cons (y2_cut hL e h) (dr_cut hL e t)
theorem ar_cutN {K : PySem.W.Frag} (hL : ∀ a ∈ L, ∃ o, P a = some o ∧ ntup o = true) (e : Ext P P1) : ∀ {vs : List V} {m : List (List (κ × (Int × List Nat)))}, AR (yDN P f (y2 K yI yS)) P1 vs m → AR (yD f (y2 K yI yS)) (cutP L P1) vs m
  | _, _, .nil => .nil
  | _, _, .cons h t => by
    obtain ⟨⟨d, o, ks, rfl, q, r⟩, d', e', hd⟩ := h
    cases e'
    exact .cons ⟨d, o, ks, rfl, cutF hL hd q, dr_cut hL e r⟩ (ar_cutN hL e t)
theorem ar_anyS {P P1 : Hp} {vs : List V} {ts : List (List Nat)} (h : AR yS P vs ts) : AR yS P1 vs ts := by rw [ar_strs h]; exact strs_ar ts
end
end G
/-! ### != of two lists of equal dicts -/
namespace PySem.SeqAt
open AutoSeq1 (wpAny_loadPart')
open MeetsSeq MeetsSeq2 MeetsSeq3 SeqRoads2
section
variable {prog : Program} {w : World}
theorem ownNe_loop (l b : Addr) (items items2 : Array Value) (n n2 : Nat) (dd dd2 : Option Addr) (sl sl2 : Array (Option Value)) (hsz : items.size = items2.size) (k : Nat) :
    ∀ i : Nat, items.size - i = k → MeetsIn prog w (Builtin.«list.__eq__.loop» ⟨[.ref l, .ref b, rawInt i, rawInt 3], []⟩)
      (fun A R s => s.heap.get? l = some { cls := .type "list", dict := dd, data := .seq items n, slots := sl } ∧ s.heap.get? b = some { cls := .type "list", dict := dd2, data := .seq items2 n2, slots := sl2 } ∧
        (∀ j (h1 : j < items.size) (h2 : j < items2.size), EqP prog w A.in1 s items[j] items2[j] true) ∧ R (.ok (.ret (.bool false))) s) := by
  induction k with
  | zero =>
    intro i hk A R s h
    obtain ⟨hp, g, d, tk, os⟩ := s; obtain ⟨hl, hb, he, h⟩ := h
    wp_walk using wpAny_loadPart' hl, wpAny_loadPart' hb
    have hi1 : items[((i : Nat) : Int).toNat]? = none := by simp; omega
    have hi2 : items2[((i : Nat) : Int).toNat]? = none := by simp; omega
    rw [hi1, hi2]
    wp_walk using wpAny_loadPart' hl, wpAny_loadPart' hb
    show R (.ok (.ret (.bool (items.size != items2.size)))) _
    rw [hsz]
    simpa using h
  | succ k ih =>
    intro i hk A R s h
    obtain ⟨hp, g, d, tk, os⟩ := s; obtain ⟨hl, hb, he, h⟩ := h
    wp_walk using wpAny_loadPart' hl, wpAny_loadPart' hb
    have hlt : i < items.size := by omega
    have hlt2 : i < items2.size := by omega
    have hi1 : items[((i : Nat) : Int).toNat]? = some items[i] := by simp [hlt]
    have hi2 : items2[((i : Nat) : Int).toNat]? = some items2[i] := by simp [hlt2]
    have hc : ((i : Int) + 1) = ((i + 1 : Nat) : Int) := by push_cast; rfl
    rw [hi1, hi2]
    refine wpAny_bind (he i hlt hlt2 _ _ ?_)
    wp_walk
    rw [hc]
    exact ⟨plainId_quiet plain_eq_loop _, codeAny_builtin entry_eq_loop (by
      rw [Around.under_plainId plain_eq_loop _]
      exact ih (i + 1) (by omega) A R _ ⟨hl, hb, he, h⟩)⟩
theorem ownNe_list (l b : Addr) (items items2 : Array Value) (n n2 : Nat) (dd dd2 : Option Addr) (sl sl2 : Array (Option Value)) (hsz : items.size = items2.size) :
    MeetsIn prog w (Builtin.«list.__ne__» ⟨[.ref l, .ref b], []⟩)
      (fun A R s => s.heap.get? l = some { cls := .type "list", dict := dd, data := .seq items n, slots := sl } ∧ s.heap.get? b = some { cls := .type "list", dict := dd2, data := .seq items2 n2, slots := sl2 } ∧
        (∀ j (h1 : j < items.size) (h2 : j < items2.size), EqP prog w A.in1 s items[j] items2[j] true) ∧ R (.ok (.ret (.bool false))) s) := by
  intro A R s h
  obtain ⟨hp, g, d, tk, os⟩ := s; obtain ⟨hl, hb, he, h⟩ := h
  have f3 := AutoSeq1.sub_list_list
  have hne : ¬ (items.size != items2.size) = true := by simp [hsz]
  wp_walk using wpAny_loadPart' hl, wpAny_loadPart' hb
  exact ⟨plainId_quiet plain_eq_loop _, codeAny_builtin entry_eq_loop (by
    rw [Around.under_plainId plain_eq_loop _]
    exact ownNe_loop l b items items2 n n2 dd dd2 sl sl2 hsz _ 0 rfl A R _ ⟨hl, hb, he, h⟩)⟩
theorem rcN_lists {A : Around} {s : Shared} {l b : Addr} {items items2 : Array Value} (hl : s.heap.IsList l items) (hb : s.heap.IsList b items2) (hsz : items.size = items2.size) (hu : A.units < cLine)
    (he : ∀ j (h1 : j < items.size) (h2 : j < items2.size), EqP prog w A.in1 s items[j] items2[j] true) (E Q : Value → Shared → Prop) (h : Q (.bool false) s) : wpAny (model prog w) A (richCompare .NotEq (.ref l) (.ref b)) Q E s := by
  obtain ⟨⟨cls, dd, data, sl⟩, ho, hc, n, hd⟩ := id hl
  obtain ⟨⟨cls2, dd2, data2, sl2⟩, ho2, hc2, n2, hd2⟩ := id hb
  simp only at hc hd hc2 hd2
  subst hc hd hc2 hd2
  have ta : s.TypeIs (.ref l) "list" := ⟨_, ho, rfl⟩
  have tb : s.TypeIs (.ref b) "list" := ⟨_, ho2, rfl⟩
  exact wpAny_richCompare_same_room (op := .NotEq) ta tb F.slot_list_ne (call_meetsIn F.slot_list_ne ta F.entry_list_ne (F.args_list_ne_2 _ _) (ownNe_list l b items items2 n n2 dd dd2 sl sl2 hsz)
    ⟨ho, ho2, he, show Value.bool false ≠ Value.notImplemented ∧ Q (.bool false) s from ⟨(fun x => nomatch x), h⟩⟩) hu
end
end PySem.SeqAt
namespace G
open PySem PySem.Spec PyProof.Rows L2
/-- a dict that may be read: open or locked -/
def RdD (H : Hp) (a : Addr) (ks : List (Key × V)) : Prop := H a = some (.dK ks) ∨ ∃ o, H a = some (.frz o (.dK ks))
/-- equal data -/
def DaE (K : PySem.W.Frag) (H : Hp) (v u : V) : Prop := ∃ d e : PyData, Dp K H v d ∧ Dp K H u e ∧ SeqAt.shaped d = true ∧ SeqAt.shaped e = true ∧ PyData.eqv d e = true
/-- equal dicts -/
def DiE (K : PySem.W.Frag) (H : Hp) (x y : V) : Prop := ∃ a b ks ls, x = .ref a ∧ y = .ref b ∧ RdD H a ks ∧ RdD H b ls ∧ ks.length = ls.length ∧ ∀ p ∈ ks, ∃ u, valV ls p.1 = some u ∧ DaE K H p.2 u
def rNeLD (K : PySem.W.Frag) : R2 := fun x y H Q => ∃ a b xs ys, x = .ref a ∧ y = .ref b ∧ SqL K H a xs ∧ SqL K H b ys ∧ Paired (DiE K H) xs ys ∧ Q (.bl false) H
section
variable {X : Cx} {pins : List (Addr × Obj)} {σ : L2.St} {H : Hp} {s : Shared}
theorem dic_at (I : L2.Inv X pins σ H s) {a : Addr} {ks : List (Key × V)} (h : RdD H a ks) : ObjOk X.prog X.w H s.heap a (.dK ks) := by
  rcases h with h | ⟨o, h⟩
  · exact I.hok a _ h
  · exact (show _ ∧ _ from I.hok a _ h).2
theorem daE_run (I : L2.Inv X pins σ H s) {A : Around} (hu : A.units + 64 < cLine) : ∀ x y v u, DaE X.K H x y → RelV x v → RelV y u → SeqAt.EqP X.prog X.w A s v u true := by
  intro x y v u h rx ry
  obtain ⟨d, e, hd, he, sd, se, q⟩ := h
  obtain ⟨as, r1⟩ := Dp.reads I d x v hd rx
  obtain ⟨bs, r2⟩ := Dp.reads I e y u he ry
  have := SeqAt.eqAt_reads d e A s v u as bs r1 r2 (SeqAt.canLay_of_shaped sd) (SeqAt.canLay_of_shaped se) (SeqAt.room_of_shaped sd hu)
  rw [q] at this
  exact this.eqP
theorem diE_run (I : L2.Inv X pins σ H s) {A : Around} (hu : A.units + 66 < cLine) : ∀ x y v u, DiE X.K H x y → RelV x v → RelV y u → SeqAt.EqP X.prog X.w A s v u true := by
  intro x y v u h rx ry
  obtain ⟨a, b, ks, ls, rfl, rfl, ha, hb, hl, hp⟩ := h
  cases (show v = Value.ref a from rx)
  cases (show u = Value.ref b from ry)
  by_cases e : a = b
  · subst e
    exact (SeqAt.EqAt.same _).eqP
  · refine SeqAt.eqP_refs e fun E Q q => ?_
    obtain ⟨_, ya, va, ra, da⟩ := dic_at I ha
    obtain ⟨_, yb, vb, rb, db⟩ := dic_at I hb
    refine PySem.W.rcP_dicts (knd := mixKind X.prog X.w) (r := true) ya yb da db (by omega) (fun _ => hits_run (daE_run I (A := A.in1) (by show A.units + 1 + 64 < cLine; omega)) rb ra hp) E Q ?_
    have e : va.length = vb.length := by rw [← ra.length, ← rb.length]; exact hl
    rw [show (va.length == vb.length && true) = true from by rw [e]; simp]
    exact q
theorem o_neLD (hu : X.A.units + 68 < cLine) : OpR X (compareOp .NotEq) (rNeLD X.K) := by
  intro pins s σ H x y v u Q I rx ry h
  obtain ⟨a, b, xs, ys, rfl, rfl, ha, hb, hp, q⟩ := h
  cases (show v = Value.ref a from rx)
  cases (show u = Value.ref b from ry)
  obtain ⟨us, r1, p1, _⟩ := I.list ha
  obtain ⟨ws, r2, p2, _⟩ := I.list hb
  have hsz : us.toArray.size = ws.toArray.size := by
    rw [List.size_toArray, List.size_toArray, ← r1.length, ← r2.length]
    exact Paired.length hp
  refine SeqAt.rcN_lists p1.isList p2.isList hsz (by omega) (fun j h1 h2 => ?_) _ _ ⟨.bl false, H, I, rfl, q⟩
  have k := items_run (diE_run I (A := X.A.in1) (by show X.A.units + 1 + 66 < cLine; omega)) hp r1 r2 j (by simpa using h1) (by simpa using h2)
  simpa using k
end
/-! the mirror: equal dicts, equal lists of them -/
section
variable {κ A : Type} [DecidableEq κ] [DecidableEq A]
def dEq (a b : List (κ × A)) : Bool := decide (a.length = b.length) && a.all fun p => decide (dL b p.1 = some p.2)
def dlEq : List (List (κ × A)) → List (List (κ × A)) → Bool
  | [], [] => true
  | x :: xs, y :: ys => dEq x y && dlEq xs ys
  | _, _ => false
variable {K : PySem.W.Frag} {f : κ → Key} [Kf f] {R : Rel A} {ok : A → Bool} {n : Nat} [e : En K R ok n] {P H : Hp}
theorem daE_of [Mo R] {v u : V} {x : A} (h1 : R P v x) (h2 : R P u x) (ho : ok x = true) (hn : n ≤ 64) : DaE K P v u :=
  ⟨e.enc x, e.enc x, e.dp h1, e.dp h2, shp ho hn, shp ho hn, e.inj.mpr rfl⟩
theorem dr_eq [Mo R] {ks ls : List (Key × V)} {a b : List (κ × A)} (h1 : DR f R P ks a) (h2 : DR f R P ls b) (he : dEq a b = true) (ho : (a.all fun p => ok p.2) = true) (hn : n ≤ 64) : ks.length = ls.length ∧ ∀ p ∈ ks, ∃ u, valV ls p.1 = some u ∧ DaE K P p.2 u := by
  unfold dEq at he
  rw [Bool.and_eq_true, decide_eq_true_eq] at he
  refine ⟨by rw [h1.len, h2.len]; exact he.1, ?_⟩
  have hall := he.2
  clear he
  have key : ∀ {ks : List (Key × V)} {a : List (κ × A)}, DR f R P ks a → (a.all fun p => decide (dL b p.1 = some p.2)) = true → (a.all fun p => ok p.2) = true → ∀ p ∈ ks, ∃ u, valV ls p.1 = some u ∧ DaE K P p.2 u := by
    intro ks a h
    induction h with
    | nil => intro _ _ p hp; cases hp
    | @cons k v x kvs xs hr ht ih =>
      intro ha ho p hp
      rw [List.all_cons, Bool.and_eq_true] at ha ho
      rcases List.mem_cons.mp hp with z | z
      · subst z
        have hx := of_decide_eq_true ha.1
        rcases h2.look k with ⟨_, q⟩ | ⟨u, y, q1, q2, r⟩
        · rw [q] at hx; cases hx
        · rw [q2] at hx
          obtain rfl := Option.some.inj hx
          exact ⟨u, q1, daE_of hr r ho.1 hn⟩
      · exact ih ha.2 ho.2 p z
  exact key h1 hall ho
/-- the cells of an open list of dicts against a frozen list of dicts -/
theorem dl_pairs [Mo R] (hn : n ≤ 64) (hP : Ext P H) : ∀ {z : Dz} {vs : List V} {a b : List (List (κ × A))}, DLR f R P z a → AR (yD f R) P vs b → (∀ p ∈ z, H p.1 = some (.dK p.2)) → dlEq a b = true → (a.all fun r => r.all fun p => ok p.2) = true → Paired (DiE K H) (dlV z) vs
  | [], [], _, _, .nil, .nil, _, _, _ => .nil
  | p :: z, v :: vs, _, _, .cons h t, .cons h' t', hz, he, ho => by
    unfold dlEq at he
    rw [Bool.and_eq_true] at he
    rw [List.all_cons, Bool.and_eq_true] at ho
    obtain ⟨b, o, ls, rfl, fb, hd⟩ := h'
    obtain ⟨h1, h2⟩ := dr_eq (K := K) (h.up hP) (hd.up hP) he.1 ho.1 hn
    exact .cons ⟨p.1, b, p.2, ls, rfl, rfl, .inl (hz p List.mem_cons_self), .inr ⟨o, hP _ _ fb⟩, h1, h2⟩ (dl_pairs hn hP t t' (fun q hq => hz q (List.mem_cons_of_mem _ hq)) he.2 ho.2)
  | [], _ :: _, _, _, .nil, .cons _ _, _, he, _ => by simp [dlEq] at he
  | _ :: _, [], _, _, .cons _ _, .nil, _, he, _ => by simp [dlEq] at he
end
end G
/-! ### xs[i:] = [] -/
namespace SlX
open PySem PySem.Spec PyProof.Rows L2
theorem bounds_from (i n : Nat) : sliceBounds (some (i : Int)) none none n = (((min i n : Nat) : Int), (n : Int), 1) := by
  unfold sliceBounds
  simp only [Option.getD_none]
  have h1 : ¬ ((i : Int) < 0) := by omega
  have h2 : (1 : Int) > 0 := by decide
  simp only [h1, h2, if_true, if_false]
  refine Prod.ext ?_ rfl
  show max 0 (min (i : Int) (n : Int)) = ((min i n : Nat) : Int)
  omega
section
variable {prog : Program} {w : World} {A : Around} {E : Value → Shared → Prop} {s : Shared}
theorem setItem_cut {l sl e : Addr} {items : Array Value} {vl : Value} {i : Nat} {Q : Unit → Shared → Prop} (hl : s.heap.IsList l items) (he : s.heap.IsList e #[]) (hne : l ≠ e)
    (hs : s.heap.IsSliceOf sl vl .none .none) (pl : IsPart vl (some (i : Int))) (hsz : items.size ≤ sizeLine)
    (hQ : Q () { s with heap := s.heap.update l (Obj.mapSeq fun xs => xs.extract 0 (min i items.size) ++ (#[] : Array Value) ++ xs.extract items.size xs.size) }) :
    wpAny (model prog w) A (setItem (.ref l) (.ref sl) (.ref e)) Q E s := by
  obtain ⟨o, ho, hc, ne, hd⟩ := id hl
  obtain ⟨oe, hoe, hce, nee, hde⟩ := id he
  obtain ⟨os, hos, hcs, hds⟩ := id hs
  have hTs : s.TypeIs (.ref sl) "slice" := ⟨os, hos, hcs⟩
  unfold setItem
  try with_reducible refine wpAny_holding ?_
  first | refine wpAny_bind (wpAny_pure ?_) | skip
  refine wpAny_bind (wpAny_sequenceKey hl.typeIs (by decide) ?_)
  refine wpAny_bind (wpAny_callSpecial?_slot (name := Str.ofString "__setitem__") hl.typeIs PySem.slot_list_setitem
    (wpAny_call_entry PySem.slot_list_setitem hl.typeIs PySem.entry_list_setitem ?_ (PySem.args_list_setitem _ _ _)))
  show wpAny _ _ (Builtin.List.listSubscript? (.ref sl) >>= _) _ _ s
  refine wpAny_bind ?_
  unfold Builtin.List.listSubscript?
  refine wpAny_bind (wpAny_specialOf hTs slice_no_index ?_)
  simp only [Option.isNone_none, if_true]
  refine wpAny_pure ?_
  show wpAny _ _ (typeOf (.ref sl) >>= _) _ _ s
  refine wpAny_bind (wpAny_typeOf hTs ?_)
  rw [if_neg (by decide)]
  rw [listSliceParts_eq]
  refine wpAny_bind (wpAny_bind (wpAny_field hos hds (x := .none) rfl (wpAny_bind (wpAny_listPart .none ?_))))
  rw [if_neg (show ¬ ((rawPart none == rawInt 0) = true) from Bool.false_ne_true)]
  refine wpAny_bind (wpAny_field hos hds (x := vl) rfl (wpAny_bind (wpAny_listPart pl ?_)))
  refine wpAny_bind (wpAny_field hos hds (x := .none) rfl (wpAny_bind (wpAny_listPart .none (wpAny_pure ?_))))
  have hsr : Builtin.List.listSameRef (.ref l) (.ref e) = false := by
    show (l == e) = false
    exact beq_false_of_ne hne
  rw [hsr, if_neg (by decide)]
  refine wpAny_bind ?_
  unfold Builtin.List.listAllItems
  refine wpAny_bind (wpAny_typeOf he.typeIs ?_)
  rw [if_pos (by decide)]
  unfold Builtin.List.listItems
  refine wpAny_bind (wpAny_seqItems hoe hde (wpAny_pure ?_))
  refine wpAny_bind (wpAny_bind (wpAny_seqItems ho hd (wpAny_pure ?_)))
  refine wpAny_bind (wpAny_of_eq (sliceIndices_raw (some (i : Int)) none none items.size (by simp)) ?_)
  rw [bounds_from]
  dsimp only
  rw [if_pos (by decide)]
  refine wpAny_bind (wpAny_rule ?_)
  rw [if_neg (show ¬ (Builtin.List.listTooLong (items.size + (#[] : Array Value).size) = true) by rw [notLongL (by simpa using hsz)]; decide)]
  have hf : (fun xs : Array Value => xs.extract 0 ((min i items.size : Nat) : Int).toNat ++ (#[] : Array Value) ++ xs.extract (max ((min i items.size : Nat) : Int) (items.size : Int)).toNat xs.size) = fun xs => xs.extract 0 (min i items.size) ++ (#[] : Array Value) ++ xs.extract items.size xs.size := by
    funext xs
    have e1 : ((min i items.size : Nat) : Int).toNat = min i items.size := by omega
    have e2 : (max ((min i items.size : Nat) : Int) (items.size : Int)).toNat = items.size := by omega
    rw [e1, e2]
  rw [hf]
  refine wpAny_bind (m := Builtin.List.listUpdate (.ref l) _) ?_
  have hsz2 : ((fun xs : Array Value => xs.extract 0 (min i items.size) ++ (#[] : Array Value) ++ xs.extract items.size xs.size) items).size ≤ sizeLine + 1 := by
    simp only [Array.append_empty, Array.size_append, Array.size_extract]
    omega
  show wpAny _ _ (updateSeq l _) _ _ s
  refine wpAny_updateSeq ho hd ?_ hsz hsz2
  refine wpAny_bind (wpAny_letGo ?_)
  exact wpAny_pure ⟨_, rfl, wpAny_pure hQ⟩
end
section
variable {X : Cx}
def gCut (K : PySem.W.Frag) (to : TE) (tl : TO) : TG := fun v σ H Q => to σ H fun x H1 => tl σ H1 fun lo H2 => ∃ (l e : Addr) (xs : List V) (k : Nat), x = .ref l ∧ v = .ref e ∧ lo = some (k : Int) ∧ H2 l = some (.lst xs) ∧ SqL K H2 e [] ∧ l ≠ e ∧ Q σ (upd H2 l (.lst (xs.take k)))
/-- o[i:] = an empty list -/
theorem pg_cut0 {o i : Expr} {to : TE} {tl : TO} {p2 pos : Pos} (ho : PE X o to) (hl : PO X (some i) tl)
    (ha : ∀ v, assign (.Subscript o (.Slice (some i) none none p2) pos) X.env v = (do
      let ov ← holding [v] (eval o X.env)
      let iv ← holding [v, ov] (eval (.Slice (some i) none none p2) X.env)
      standAt pos
      holding [v, ov, iv] (setItem ov iv v)
      release [iv, v, ov] []) := by intro _; rfl) : PG X (.Subscript o (.Slice (some i) none none p2) pos) (gCut X.K to tl) := by
  refine ⟨fun pins s σ H v u Q I r h => ?_⟩
  rw [ha]
  refine wpAny_bind (wpAny_holding (thn (ho.run pins s σ H _ I h) fun ov s1 ⟨x, H1, I1, r1, q1⟩ => ?_))
  refine wpAny_bind (wpAny_holding ?_)
  refine wpAny_Slice (thn (hl.run pins s1 σ H1 _ I1 q1) fun vl s2 ⟨lo, H2, I2, pl, q2⟩ => ?_)
  rw [evalPart_none]
  refine wpAny_pure ?_
  refine wpAny_pure ?_
  obtain ⟨l, e, xs, k, rfl, rfl, rfl, hH, hE, hne, q⟩ := q2
  have I3 : L2.Inv X pins σ H2 { s2 with heap := s2.heap.push { cls := .type "slice", data := .fields #[vl, .none, .none] } } := I2.kept (t' := s2.toks) fun b ob q => Heap.get?_push_of_some _ q
  cases (show ov = Value.ref l from r1)
  cases (show u = Value.ref e from r)
  obtain ⟨hz, its, n, rv, hlen, ho'⟩ := I3.lstM hH
  obtain ⟨us, rE, pE, _⟩ := I3.list hE
  have hus : us = [] := by cases rE; rfl
  subst hus
  have hL : Heap.IsList (s2.heap.push { cls := .type "slice", data := .fields #[vl, .none, .none] }) l its.toArray := ⟨_, ho', rfl, n, rfl⟩
  refine wpAny_bind (wpAny_standAt (wpAny_bind (wpAny_holding ?_)))
  refine setItem_cut hL pE.isList hne (Heap.IsSliceOf.new ..) pl (by rw [List.size_toArray]; omega) ?_
  refine wpAny_release ⟨σ, _, ?_, q⟩
  refine I3.lset (its' := its.take k) (t' := s2.toks) hH ho' ?_ ?_ (Nat.le_trans (List.length_take_le' _ _) hz)
  · simp
  · exact rv.take k
end
end SlX
namespace G
open PySem PySem.Spec PyProof.Rows L2
section
variable {T : Tbs} {P H : Hp} {cs : Cs}
theorem Wd.neq (w : Wd T P H cs) {i j : Nat} {a b : Addr} {o u : HO} (hi : cs[i]? = some (a, o)) (hj : cs[j]? = some (b, u)) (hij : i ≠ j) : a ≠ b := fun e => by
  have h1 : (cs.map (·.1))[i]? = some a := by rw [List.getElem?_map, hi]; rfl
  have h2 : (cs.map (·.1))[j]? = some a := by rw [List.getElem?_map, hj, e]; rfl
  have hl : i < (cs.map (·.1)).length := (List.getElem?_eq_some_iff.mp h1).1
  exact hij ((List.getElem?_inj hl w.nd).mp (h1.trans h2.symm))
theorem AR.takeN {A : Type} {R : Rel A} : ∀ {vs : List V} {m : List A} (k : Nat), AR R P vs m → AR R P (vs.take k) (m.take k)
  | _, _, 0, _ => by rw [List.take_zero, List.take_zero]; exact .nil
  | _, _, k + 1, .nil => .nil
  | _, _, k + 1, .cons h t => .cons h (AR.takeN k t)
theorem DLR.takeN {κ A : Type} {f : κ → Key} {R : Rel A} : ∀ {z : Dz} {m : List (List (κ × A))} (k : Nat), DLR f R P z m → DLR f R P (z.take k) (m.take k)
  | _, _, 0, _ => by rw [List.take_zero, List.take_zero]; exact .nil
  | _, _, k + 1, .nil => .nil
  | _, _, k + 1, .cons h t => .cons h (DLR.takeN k t)
theorem Wd.dlTake {a : Addr} {l rest : Cs} {z : Dz} (k : Nat) (w : Wd T P H ((a, HO.lst ((dlV z).take k)) :: (l ++ (dlC z ++ rest)))) : Wd T P H ((a, HO.lst (dlV (z.take k))) :: (l ++ (dlC (z.take k) ++ rest))) := by
  have e : dlV (z.take k) = (dlV z).take k := by unfold dlV; rw [List.map_take]
  rw [e]
  refine w.sublist (List.Sublist.cons₂ _ (List.Sublist.append (List.Sublist.refl _) (List.Sublist.append ?_ (List.Sublist.refl _))))
  unfold dlC
  exact (List.take_sublist k z).map _
end
end G
namespace G
open PySem PySem.Spec PyProof.Rows L2
def topS (i : Nat) : Stmt := PySem.Challenge.pw_regrow_k21_machine_refusals.main.body.getD i (.Pass ⟨0, 0, 0, 0⟩)
def cCAPITALS : List Nat := [65, 66, 67, 68, 69, 70, 71, 72, 73, 74, 75, 76, 77, 78, 79, 80, 81, 82, 83, 84, 85, 86, 87, 88, 89, 90]
def cSMALLS : List Nat := [97, 98, 99, 100, 101, 102, 103, 104, 105, 106, 107, 108, 109, 110, 111, 112, 113, 114, 115, 116, 117, 118, 119, 120, 121, 122]
def cFIGURES : List Nat := [48, 49, 50, 51, 52, 53, 54, 55, 56, 57]
def cSIGNS : List Nat := [32, 33, 34, 35, 36, 38, 39, 40, 41, 42, 43, 44, 45, 46, 47, 48, 49, 50, 51, 52, 53, 54, 55, 56, 57, 58, 59, 60, 61, 62, 63, 64, 65, 66, 67, 68, 69, 70, 71, 72, 73, 74, 75, 76, 77, 78, 79, 80, 81, 82, 83, 84, 85, 86, 87, 88, 89, 90, 91, 92, 93, 94, 95, 96, 97, 98, 99, 100, 101, 102, 103, 104, 105, 106, 107, 108, 109, 110, 111, 112, 113, 114, 115, 116, 117, 118, 119, 120, 121, 122, 123, 124, 125, 126]
abbrev xn_RegrowError : Nat := 0
abbrev xn_InvalidText : Nat := 1
abbrev xn_InvalidSigns : Nat := 2
abbrev xn_InvalidMachine : Nat := 3
abbrev xn_UnknownState : Nat := 4
abbrev xn_SignsDiffer : Nat := 5
abbrev s_take : Stmt := topS 28
abbrev s_box : Stmt := topS 27
abbrev s_law_signs : Stmt := topS 29
abbrev s_sign : Stmt := topS 30
abbrev s_palette : Stmt := topS 31
abbrev s_chosen : Stmt := topS 34
abbrev s_word : Stmt := topS 32
abbrev s_table : Stmt := topS 33
abbrev s_copied : Stmt := topS 35
abbrev s_in_order : Stmt := topS 18
abbrev s_only_named : Stmt := topS 21
abbrev s_is_row : Stmt := topS 22
abbrev s_made : Stmt := topS 38
abbrev s_spoil : Stmt := topS 37
abbrev s_due : Stmt := topS 36
abbrev s_law : Stmt := topS 39
abbrev O_Machine := (List Nat) × (List (List ((List Nat) × (Int × (List Nat))))) × (List (List Nat))
abbrev s_Machine_init : Stmt := inClass (topS 23) 0
abbrev s_Machine_size : Stmt := inClass (topS 23) 3
abbrev sx_InvalidSigns : Stmt := inClass (topS 4) 0
abbrev sx_InvalidMachine : Stmt := inClass (topS 5) 0
structure GA where
  z0 : Addr
  aKINDS : Addr
  C_Machine : Addr
  C_InvalidSigns : Addr
  C_InvalidMachine : Addr
  T : Tbs
def y_Machine (K : PySem.W.Frag) (G : GA) : Rel O_Machine := fun P v x => ∃ (a dx : Addr) (v0 v1 v2 : V), v = .ref a ∧ P a = some (.ins G.C_Machine dx [("named", v0), ("arcs", v1), ("ends", v2)]) ∧ yS P v0 x.1 ∧ (yL (yD kS (y2 K yI yS))) P v1 x.2.1 ∧ (yL yS) P v2 x.2.2
instance {K : PySem.W.Frag} {G : GA} : Mo (y_Machine K G) := ⟨fun e ⟨a, dx, v0, v1, v2, h, s, h0, h1, h2⟩ => ⟨a, dx, v0, v1, v2, h, e _ _ s, Mo.mo e h0, Mo.mo e h1, Mo.mo e h2⟩⟩
instance {K : PySem.W.Frag} {G : GA} : NN (y_Machine K G) := ⟨fun ⟨a, dx, v0, v1, v2, h, _⟩ e => by rw [h] at e; cases e⟩
def exC (G : GA) (n : Nat) : Addr := match n with
  | 2 => G.C_InvalidSigns
  | 3 => G.C_InvalidMachine
  | _ => 0
def exFs (e : Er) : List (Str × V) := match e.1 with
  | 2 => [("text", e.2.1.v)]
  | 3 => [("state", e.2.1.v)]
  | _ => []
structure Fa (K : PySem.W.Frag) (G : GA) : Prop where
  tr : True
  sKINDS : ∀ H : Hp, SqT K H G.aKINDS [S (cs "letter"), S (cs "figure"), S (cs "mark")]
  cl_Machine : Cls K G.C_Machine
  n_Machine_arcs : NoAttr K G.C_Machine "arcs"
  n_Machine_ends : NoAttr K G.C_Machine "ends"
  n_Machine_named : NoAttr K G.C_Machine "named"
  xm_InvalidMachine_InvalidMachine : PySem.W.exmOne K (.ref G.C_InvalidMachine) (.ref G.C_InvalidMachine) = some true
  xm_InvalidMachine_InvalidSigns : PySem.W.exmOne K (.ref G.C_InvalidMachine) (.ref G.C_InvalidSigns) = some false
  xm_InvalidSigns_InvalidSigns : PySem.W.exmOne K (.ref G.C_InvalidSigns) (.ref G.C_InvalidSigns) = some true
  xf_InvalidMachine : XfC K G.C_InvalidMachine
  xf_InvalidSigns : XfC K G.C_InvalidSigns
  xn_InvalidMachine_state : PySem.W.findIn K (.ref G.C_InvalidMachine) "state" = some none
  xn_InvalidSigns_text : PySem.W.findIn K (.ref G.C_InvalidSigns) "text" = some none
structure Tx (P : Program) (w : World) (K : PySem.W.Frag) (G : GA) (mg : Str → Option Value) (base : Heap) : Prop where
  fa : Fa K G
  d_take : ∃ f fd, Fun K "_law_take" "_law_take" s_take f fd ∧ Binds K fd ["_law_box_here", "_law_size"] [] ∧ mg "_law_take" = some (.ref f)
  d_box : ∃ f fd, Fun K "_law_box" "_law_box" s_box f fd ∧ Binds K fd ["_law_script"] [] ∧ mg "_law_box" = some (.ref f)
  d_law_signs : ∃ f fd, Fun K "_law_signs" "_law_signs" s_law_signs f fd ∧ Binds K fd [] [] ∧ mg "_law_signs" = some (.ref f)
  d_sign : ∃ f fd, Fun K "_law_sign" "_law_sign" s_sign f fd ∧ Binds K fd ["_law_box_here"] [] ∧ mg "_law_sign" = some (.ref f)
  d_palette : ∃ f fd, Fun K "_law_palette" "_law_palette" s_palette f fd ∧ Binds K fd ["_law_box_here"] [] ∧ mg "_law_palette" = some (.ref f)
  d_chosen : ∃ f fd, Fun K "_law_chosen" "_law_chosen" s_chosen f fd ∧ Binds K fd ["_law_box_here"] [] ∧ mg "_law_chosen" = some (.ref f)
  d_word : ∃ f fd, Fun K "_law_word" "_law_word" s_word f fd ∧ Binds K fd ["_law_box_here", "_law_named", "_law_limit"] [] ∧ mg "_law_word" = some (.ref f)
  d_table : ∃ f fd, Fun K "_law_table" "_law_table" s_table f fd ∧ Binds K fd ["_law_box_here", "_law_named", "_law_count"] [] ∧ mg "_law_table" = some (.ref f)
  d_copied : ∃ f fd, Fun K "_law_copied" "_law_copied" s_copied f fd ∧ Binds K fd ["_law_arcs"] [] ∧ mg "_law_copied" = some (.ref f)
  d_in_order : ∃ f fd, Fun K "in_order" "in_order" s_in_order f fd ∧ Binds K fd ["signs"] [] ∧ mg "in_order" = some (.ref f)
  d_only_named : ∃ f fd, Fun K "only_named" "only_named" s_only_named f fd ∧ Binds K fd ["text", "signs"] [] ∧ mg "only_named" = some (.ref f)
  d_is_row : ∃ f fd, Fun K "is_row" "is_row" s_is_row f fd ∧ Binds K fd ["row", "ending", "signs", "size"] [] ∧ mg "is_row" = some (.ref f)
  d_made : ∃ f fd, Fun K "_law_made" "_law_made" s_made f fd ∧ Binds K fd ["_law_named", "_law_arcs", "_law_endings"] [] ∧ mg "_law_made" = some (.ref f)
  d_spoil : ∃ f fd, Fun K "_law_spoil" "_law_spoil" s_spoil f fd ∧ Binds K fd ["_law_box_here", "_law_named", "_law_arcs", "_law_endings"] [] ∧ mg "_law_spoil" = some (.ref f)
  d_due : ∃ f fd, Fun K "_law_due" "_law_due" s_due f fd ∧ Binds K fd ["_law_named", "_law_arcs", "_law_endings"] [] ∧ mg "_law_due" = some (.ref f)
  d_law : ∃ f fd, Fun K "law" "law" s_law f fd ∧ Binds K fd ["_law_script"] [] ∧ mg "law" = some (.ref f)
  z_abs : mg "abs" = none
  z_all : mg "all" = none
  z_int : mg "int" = none
  z_len : mg "len" = none
  z_list : mg "list" = none
  z_max : mg "max" = none
  z_range : mg "range" = none
  z_sorted : mg "sorted" = none
  g_SIGNS : ∃ u, mg "SIGNS" = some u ∧ RelV (S cSIGNS) u
  g_KINDS : ∃ u, mg "KINDS" = some u ∧ RelV (V.ref G.aKINDS) u
  d_Machine_init : ∃ f fd, Fun K "__init__" "Machine.__init__" s_Machine_init f fd ∧ Binds K fd ["self", "signs", "arcs", "endings"] [] ∧ mg "Machine" = some (.ref G.C_Machine) ∧ Mk K G.C_Machine f
  d_Machine_size : ∃ p f fd, Fun K "size" "Machine.size" s_Machine_size f fd ∧ Binds K fd ["self"] [] ∧ PropOf K G.C_Machine "size" p f
  nm_InvalidSigns : mg "InvalidSigns" = some (.ref G.C_InvalidSigns)
  nm_InvalidMachine : mg "InvalidMachine" = some (.ref G.C_InvalidMachine)
  e_InvalidSigns : ExC P w K mg base 1 "InvalidSigns" G.C_InvalidSigns (spX1 G.C_InvalidSigns "text")
  e_InvalidMachine : ExC P w K mg base 1 "InvalidMachine" G.C_InvalidMachine (spX1 G.C_InvalidMachine "state")

def sp_take (K : PySem.W.Frag) (G : GA) : Sp := fun vs H Q _ => ∃ (P : Hp) (cs0 : Cs) (a l : Addr) (ns : List Int) (b : Box) (n : Int) (R0 : Int × Box), vs = [.ref a, .int n] ∧ Wd G.T P H ((a, boxO l b) :: cs0) ∧ SqL K P l (ns.map V.int) ∧ takeO ns b n = some R0 ∧
  ∀ (H1 P1 : Hp), Ext P P1 → Wd G.T P1 H1 ((a, boxO l R0.2) :: cs0) → Q (.int R0.1) H1
theorem sc_take : FnScope ["_law_box_here", "_law_size", "_law_cell", "_law_digit"] ["_law_box_here", "_law_size"] (defScope s_take) := ⟨rfl, rfl, rfl, by decide +kernel, rfl, by decide +kernel, by decide +kernel⟩
theorem c_take {P : Program} {w : World} {K : PySem.W.Frag} {mg : Str → Option Value} {base : Heap} {G : GA} (T : Tx P w K G mg base) : Cal P w K mg base 1 "_law_take" (sp_take K G) := by
  obtain ⟨f, fd, F, b, g⟩ := T.d_take
  refine ⟨f, fd, _, F.ok sc_take (fun vs H Q E h => ?_) (fun cdv A outer s H vs Q E hr h => ⟨tTakeR K, ?_, ?_⟩), g, F.kp, b⟩
  · obtain ⟨_, _, _, _, _, _, _, _, rfl, _⟩ := h
    rfl
  · exact pss_cons (ps_if (PW.pt (pw_and (pt_cmpR o_lt (pe_ix ix_list (pv 0) pe_int (fun _ _ => rfl)) pe_int (nomark _)) (pw_and1 (pt_cmpR o_lt (pe_ix ix_list (pv 0) pe_int (fun _ _ => rfl)) (pe_callB c_lenL (by rfl) T.z_len PySem.boot_len (pa_cons (pe_ix ix_list (pv 0) pe_int (fun _ _ => rfl)) pa_nil)) (nomark _)))))
        (pss_cons (ps_set (i := 2) sc_take.nd rfl (.inl rfl) (pe_ix ix_list (pe_ix ix_list (pv 0) pe_int (fun _ _ => rfl)) (pe_ix ix_list (pv 0) pe_int (fun _ _ => rfl)) (fun _ _ => rfl)))
        (pss_cons (ps_asg (pe_op o_add (pe_ix ix_list (pv 0) pe_int (fun _ _ => rfl)) pe_int) (pg_sub (pv 0) pe_int set_list))
        (pss_cons (ps_asg (pe_op o_mod (pe_callTy c_int (by rfl) T.z_int (by decide +kernel) (pa_cons (pe_op o_add (pe_op o_add (pe_op o_mul (pe_ix ix_list (pv 0) pe_int (fun _ _ => rfl)) pe_int) (pe_op o_mul (pe_op o_mod (pe_callTy c_int (by rfl) T.z_int (by decide +kernel) (pa_cons (pv 2) pa_nil)) pe_int) pe_int)) pe_int) pa_nil)) pe_int) (pg_sub (pv 0) pe_int set_list))
        (pss_one (ps_if (pt_cmpR o_ge (pv 2) (pe_op o_pow pe_int pe_int) (nomark _)) (pss_one (ps_asg (pe_op o_sub (pv 2) (pe_op o_pow pe_int pe_int)) (pg_sub (pv 0) pe_int set_list))) pss_nil)))))
        pss_nil)
      (pss_cons (ps_if (pt_cmpR o_gt (pe_ix ix_list (pv 0) pe_int (fun _ _ => rfl)) pe_int (nomark _))
        (pss_cons (ps_set (i := 3) sc_take.nd rfl (.inl rfl) (pe_op o_mod (pe_callTy c_int (by rfl) T.z_int (by decide +kernel) (pa_cons (pe_ix ix_list (pv 0) pe_int (fun _ _ => rfl)) pa_nil)) (pv 1)))
        (pss_cons (ps_asg (pe_op o_div (pe_ix ix_list (pv 0) pe_int (fun _ _ => rfl)) (pv 1)) (pg_sub (pv 0) pe_int set_list))
        (pss_one (ps_ret (pv 3))))) pss_nil)
      (pss_cons (ps_asg (pe_op o_mod (pe_callTy c_int (by rfl) T.z_int (by decide +kernel) (pa_cons (pe_op o_add (pe_op o_mul (pe_ix ix_list (pv 0) pe_int (fun _ _ => rfl)) pe_int) pe_int) pa_nil)) pe_int) (pg_sub (pv 0) pe_int set_list))
      (pss_one (ps_ret (pe_op o_mod (pe_callTy c_int (by rfl) T.z_int (by decide +kernel) (pa_cons (pe_op o_div (pe_ix ix_list (pv 0) pe_int (fun _ _ => rfl)) pe_int) pa_nil)) (pv 1))))))
  · obtain ⟨P, cs0, a, l, ns, b, n, R0, rfl, w, hl, e, q⟩ := h
    obtain ⟨⟨n0, n1⟩, rfl⟩ := takeO_some e
    exact rd_takeR w hl n0 n1 (fun H1 w1 => q H1 P (Ext.refl _) w1)
def sp_box (K : PySem.W.Frag) (G : GA) : Sp := fun vs H Q _ => ∃ (P : Hp) (cs0 : Cs) (a : Addr) (ns : List Int), vs = [.ref a] ∧ Wd G.T P H cs0 ∧ SqL K P a (ns.map V.int) ∧ ns.length ≤ 63 ∧
  ∀ (H1 P1 : Hp) (p l : Addr), Ext P P1 → Wd G.T P1 H1 ((p, boxO l box0) :: cs0) → SqL K P1 l ((absL ns).map V.int) → Q (.ref p) H1
theorem sc_box : FnScope ["_law_script", "_law_cell"] ["_law_script"] (defScope s_box) := ⟨rfl, rfl, rfl, by decide +kernel, rfl, by decide +kernel, by decide +kernel⟩
theorem c_box {P : Program} {w : World} {K : PySem.W.Frag} {mg : Str → Option Value} {base : Heap} {G : GA} (T : Tx P w K G mg base) : Cal P w K mg base 1 "_law_box" (sp_box K G) := by
  obtain ⟨f, fd, F, b, g⟩ := T.d_box
  refine ⟨f, fd, _, F.ok sc_box (fun vs H Q E h => ?_) (fun cdv A outer s H vs Q E hr h => ⟨tBoxR K, ?_, ?_⟩), g, F.kp, b⟩
  · obtain ⟨_, _, _, _, rfl, _⟩ := h
    rfl
  · exact pss_one (ps_ret (pe_lst (pa_cons (pe_lc (own := [("_law_cell", 1)]) rfl sc_box.nd (pi_list (pe_slice sl_list (pv 0) po_none (po_some pe_int))) (blkOk_by (N := ["_law_script", "_law_cell"]) (sc := defScope s_box) (by decide +kernel)) (fun _ _ _ _ _ => pg_name (i := 1) sc_box.nd rfl (Or.inl rfl)) (fun _ _ _ _ _ => pts_nil) (fun _ _ _ _ _ => pe_callB call_abs (by rfl) T.z_abs (by decide +kernel) (pa_cons (pv 1) pa_nil))) (pa_cons pe_int (pa_cons pe_int (pa_cons pe_int pa_nil))))))
  · obtain ⟨P, cs0, a, ns, rfl, w, hl, hlen, q⟩ := h
    exact rd_boxR w hl hlen q

def m_law_signs  : Option (List Nat) :=
  (some ((cs " !\"#$&'()*+,-./0123456789:;<=>?@ABCDEFGHIJKLMNOPQRSTUVWXYZ") ++ (cs "[\\]^_`abcdefghijklmnopqrstuvwxyz{|}~")))
def sp_law_signs (K : PySem.W.Frag) (G : GA) : Sp := fun vs H Q E => ∃ (P : Hp) (cs0 : Cs)  (R0 : (List Nat)), vs = [] ∧ Wd G.T P H (cs0) ∧ m_law_signs = some R0 ∧ ∀ (H1 P1 : Hp), Ext P P1 → Wd G.T P1 H1 (cs0) → Q (S R0) H1
def t_law_signs (K : PySem.W.Frag) (G : GA) : TS := (tSeq (tAsg (tC (S (cs " !\"#$&'()*+,-./0123456789:;<=>?@ABCDEFGHIJKLMNOPQRSTUVWXYZ"))) (gName 0)) (tRet (tOp rAddS (tVar 0) (tC (S (cs "[\\]^_`abcdefghijklmnopqrstuvwxyz{|}~"))))))
theorem sc_law_signs : FnScope ["_law_every"] [] (defScope s_law_signs) := ⟨rfl, rfl, rfl, by decide +kernel, rfl, by decide +kernel, by decide +kernel⟩
theorem rd_law_signs {K : PySem.W.Frag} {G : GA} (F : Fa K G) (vs : List V) (H : Hp) (Q : VK) (E : XK) (h : sp_law_signs K G vs H Q E) : t_law_signs K G { nx := fun _ H1 => Q .non H1, rt := Q } (L2.start ["_law_every"] vs) H := by
  obtain ⟨P, cs0, R0, rfl, w, eR, q⟩ := h
  unfold m_law_signs at eR
  refine ⟨_, rfl, _, _, rfl, rfl, (sz (by first | decide | (simp; done) | (simp; decide))), ?_⟩
  obtain rfl := Option.some.inj eR
  exact q H P (Ext.refl _) w
theorem fn_law_signs {P : Program} {w : World} {K : PySem.W.Frag} {mg : Str → Option Value} {base : Heap} {G : GA} {f : Addr} {fd : FuncData} (T : Tx P w K G mg base) (F : Fun K "_law_signs" "_law_signs" s_law_signs f fd) : FnOk P w K mg base CX0 1 f fd [] (sp_law_signs K G) := by
  refine F.ok sc_law_signs (fun vs H Q E h => ?_) (fun cdv A outer s H vs Q E hr h => ⟨t_law_signs K G, ?_, rd_law_signs T.fa vs H Q E h⟩)
  · obtain ⟨_, _, _, rfl, _⟩ := h
    rfl
  · exact (pss_cons (ps_set (i := 0) sc_law_signs.nd rfl (.inl rfl) pe_strS) (pss_one (ps_ret (pe_op o_addS (pv 0) pe_strS))))
theorem c_law_signs {P : Program} {w : World} {K : PySem.W.Frag} {mg : Str → Option Value} {base : Heap} {G : GA} (T : Tx P w K G mg base) : Cal P w K mg base 1 "_law_signs" (sp_law_signs K G) := by
  obtain ⟨f, fd, F, b, g⟩ := T.d_law_signs
  exact ⟨f, fd, _, fn_law_signs T F, g, F.kp, b⟩

def m_sign (ns : List Int) (boxhere1 : Box) : Option (Nat × Box) :=
  (ob m_law_signs (fun (t1 : (List Nat)) => (ob (takeO ns boxhere1 94) (fun (t2 : (Int × Box)) => (chk (inR t1.length t2.1 ∧ t1.length ≤ 1000000) (some (t1.getD (ixP t1.length t2.1) 0, t2.2)))))))
def sp_sign (K : PySem.W.Frag) (G : GA) : Sp := fun vs H Q E => ∃ (P : Hp) (cs0 : Cs) (aboxhere1 lboxhere1 : Addr) (ns : List Int) (boxhere1 : Box) (R0 : (Nat × Box)), vs = [V.ref aboxhere1] ∧ Wd G.T P H ((aboxhere1, (boxO lboxhere1 boxhere1)) :: cs0) ∧ SqL K P lboxhere1 (ns.map V.int) ∧ m_sign ns boxhere1 = some R0 ∧ ∀ (H1 P1 : Hp), Ext P P1 → Wd G.T P1 H1 ((aboxhere1, (boxO lboxhere1 R0.2)) :: cs0) → Q (S [R0.1]) H1
def t_sign (K : PySem.W.Frag) (G : GA) : TS := (tRet (tOp rIxT1 (tCall (sp_law_signs K G) [] E0 tNil) (tCall (sp_take K G) [] E0 (tCons (tVar 0) (tCons (tC (V.int 94)) tNil)))))
theorem sc_sign : FnScope ["_law_box_here"] ["_law_box_here"] (defScope s_sign) := ⟨rfl, rfl, rfl, by decide +kernel, rfl, by decide +kernel, by decide +kernel⟩
theorem rd_sign {K : PySem.W.Frag} {G : GA} (F : Fa K G) (vs : List V) (H : Hp) (Q : VK) (E : XK) (h : sp_sign K G vs H Q E) : t_sign K G { nx := fun _ H1 => Q .non H1, rt := Q } (L2.start ["_law_box_here"] vs) H := by
  obtain ⟨P, cs0, aboxhere1, lboxhere1, ns, boxhere1, R0, rfl, w, hl, eR, q⟩ := h
  unfold m_sign at eR
  obtain ⟨t1, et1, eR⟩ := ob_some eR
  refine ⟨P, ((aboxhere1, (boxO lboxhere1 boxhere1)) :: cs0), t1, rfl, w, et1, fun H1 P1 e1 w1 => ?_⟩
  obtain ⟨t2, et2, eR⟩ := ob_some eR
  refine ⟨_, rfl, P1, (cs0), aboxhere1, lboxhere1, ns, boxhere1, 94, t2, rfl, w1, (Ext.sql e1 hl), et2, fun H2 P2 e2 w2 => ?_⟩
  obtain ⟨hc1, eR⟩ := chk_some eR
  refine ⟨_, _, _, rfl, rfl, (sz hc1.2), (atI_str hc1.1), ?_⟩
  obtain rfl := Option.some.inj eR
  exact q H2 P2 (e1.trans e2) w2
theorem fn_sign {P : Program} {w : World} {K : PySem.W.Frag} {mg : Str → Option Value} {base : Heap} {G : GA} {f : Addr} {fd : FuncData} (T : Tx P w K G mg base) (F : Fun K "_law_sign" "_law_sign" s_sign f fd) : FnOk P w K mg base CX0 2 f fd ["_law_box_here"] (sp_sign K G) := by
  refine F.ok sc_sign (fun vs H Q E h => ?_) (fun cdv A outer s H vs Q E hr h => ⟨t_sign K G, ?_, rd_sign T.fa vs H Q E h⟩)
  · obtain ⟨_, _, _, _, _, _, _, rfl, _⟩ := h
    rfl
  · exact (pss_one (ps_ret (pe_ix i_str (pe_c0 (c_law_signs T) hr (by decide) (by rfl)) (pe_c (c_take T) hr (by decide) (by rfl) (pa_cons (pv 0) (pa_cons pe_int pa_nil))) (fun _ _ => rfl))))
theorem c_sign {P : Program} {w : World} {K : PySem.W.Frag} {mg : Str → Option Value} {base : Heap} {G : GA} (T : Tx P w K G mg base) : Cal P w K mg base 2 "_law_sign" (sp_sign K G) := by
  obtain ⟨f, fd, F, b, g⟩ := T.d_sign
  exact ⟨f, fd, _, fn_sign T F, g, F.kp, b⟩

def bd_palette_1 (ns : List Int) (i1 : Nat) (b1 : Box) : Option ((List Nat) × Box) :=
  (ob (m_sign ns b1) (fun (t4 : (Nat × Box)) => (some (([t4.1] : List Nat), t4.2))))
def m_palette (ns : List Int) (boxhere1 : Box) : Option ((List Nat) × Box) :=
  (ob (takeO ns boxhere1 2) (fun (t1 : (Int × Box)) => (if (decide (t1.1 = 0)) then (ob (takeO ns t1.2 4) (fun (t2 : (Int × Box)) => (chk (inR ([(cs "ab1."), (cs "a1./"), (cs "abc "), (cs "xy70")] : List (List Nat)).length t2.1) (some ((([(cs "ab1."), (cs "a1./"), (cs "abc "), (cs "xy70")] : List (List Nat)).getD (ixP ([(cs "ab1."), (cs "a1./"), (cs "abc "), (cs "xy70")] : List (List Nat)).length t2.1) ([] : List Nat)), t2.2))))) else (ob (mps (bd_palette_1 ns) (List.range 4) t1.2) (fun (t3 : ((List (List Nat)) × Box)) => (chk ((t3.1.map List.length).sum + t3.1.length * (cs "").length ≤ 1000000) (some ((TL.joinL (cs "") t3.1), t3.2))))))))
def sp_palette (K : PySem.W.Frag) (G : GA) : Sp := fun vs H Q E => ∃ (P : Hp) (cs0 : Cs) (aboxhere1 lboxhere1 : Addr) (ns : List Int) (boxhere1 : Box) (R0 : ((List Nat) × Box)), vs = [V.ref aboxhere1] ∧ Wd G.T P H ((aboxhere1, (boxO lboxhere1 boxhere1)) :: cs0) ∧ SqL K P lboxhere1 (ns.map V.int) ∧ m_palette ns boxhere1 = some R0 ∧ ∀ (H1 P1 : Hp), Ext P P1 → Wd G.T P1 H1 ((aboxhere1, (boxO lboxhere1 R0.2)) :: cs0) → Q (S R0.1) H1
def t_palette (K : PySem.W.Frag) (G : GA) : TS := (tSeq (tIfS (tTest (tOp rEqI (tCall (sp_take K G) [] E0 (tCons (tVar 0) (tCons (tC (V.int 2)) tNil))) (tC (V.int 0)))) (tRet (tOp (rIxL K) (tLst (tCons (tC (S (cs "ab1."))) (tCons (tC (S (cs "a1./"))) (tCons (tC (S (cs "abc "))) (tCons (tC (S (cs "xy70"))) tNil))))) (tCall (sp_take K G) [] E0 (tCons (tVar 0) (tCons (tC (V.int 4)) tNil))))) tNext) (tRet (tM1 (rJoin K) (tC (S (cs ""))) (tLc (iRng1 (tCons (tC (V.int 4)) tNil)) (gName 1) tYes (tCall (sp_sign K G) [] E0 (tCons (tVar 0) tNil)) [1]))))
theorem sc_palette : FnScope ["_law_box_here", "_law_k"] ["_law_box_here"] (defScope s_palette) := ⟨rfl, rfl, rfl, by decide +kernel, rfl, by decide +kernel, by decide +kernel⟩
theorem rd_palette {K : PySem.W.Frag} {G : GA} (F : Fa K G) (vs : List V) (H : Hp) (Q : VK) (E : XK) (h : sp_palette K G vs H Q E) : t_palette K G { nx := fun _ H1 => Q .non H1, rt := Q } (L2.start ["_law_box_here", "_law_k"] vs) H := by
  obtain ⟨P, cs0, aboxhere1, lboxhere1, ns, boxhere1, R0, rfl, w, hl, eR, q⟩ := h
  unfold m_palette at eR
  obtain ⟨t1, et1, eR⟩ := ob_some eR
  refine ⟨_, rfl, P, (cs0), aboxhere1, lboxhere1, ns, boxhere1, 2, t1, rfl, w, hl, et1, fun H1 P1 e1 w1 => ?_⟩
  refine ⟨_, _, rfl, rfl, _, rfl, ?_⟩
  refine iteB (fun hb1 => ?_) (fun hb1 => ?_)
  · rw [ite_t hb1] at eR
    refine ⟨(by show 4 ≤ sizeLine; decide), fun p1 np1 => ?_⟩
    have al1 : AR yS P1 ([(S (cs "ab1.")), (S (cs "a1./")), (S (cs "abc ")), (S (cs "xy70"))] : List V) ([(cs "ab1."), (cs "a1./"), (cs "abc "), (cs "xy70")] : List (List Nat)) := (AR.cons rfl (AR.cons rfl (AR.cons rfl (AR.cons rfl AR.nil))))
    have e2 := w1.fext np1 (HO.lst ([(S (cs "ab1.")), (S (cs "a1./")), (S (cs "abc ")), (S (cs "xy70"))] : List V))
    have w2 := w1.frz np1 (HO.lst ([(S (cs "ab1.")), (S (cs "a1./")), (S (cs "abc ")), (S (cs "xy70"))] : List V))
    have fq1 : upd P1 p1 (HO.lst ([(S (cs "ab1.")), (S (cs "a1./")), (S (cs "abc ")), (S (cs "xy70"))] : List V)) p1 = some (HO.lst ([(S (cs "ab1.")), (S (cs "a1./")), (S (cs "abc ")), (S (cs "xy70"))] : List V)) := upd_same
    generalize upd H1 p1 (HO.lst ([(S (cs "ab1.")), (S (cs "a1./")), (S (cs "abc ")), (S (cs "xy70"))] : List V)) = H2 at w2 ⊢
    generalize upd P1 p1 (HO.lst ([(S (cs "ab1.")), (S (cs "a1./")), (S (cs "abc ")), (S (cs "xy70"))] : List V)) = P2 at w2 e2 fq1
    have al2 := (AR.up e2 al1)
    obtain ⟨t2, et2, eR⟩ := ob_some eR
    refine ⟨_, rfl, P2, (cs0), aboxhere1, lboxhere1, ns, t1.2, 4, t2, rfl, w2, (Ext.sql (e1.trans e2) hl), et2, fun H3 P3 e3 w3 => ?_⟩
    obtain ⟨hc1, eR⟩ := chk_some eR
    obtain ⟨v1, hat1, hd1⟩ := AR.getI (i := t2.1) (d := ([] : List Nat)) (AR.up e3 al2) hc1
    obtain rfl : v1 = (S (([(cs "ab1."), (cs "a1./"), (cs "abc "), (cs "xy70")] : List (List Nat)).getD (ixP ([(cs "ab1."), (cs "a1./"), (cs "abc "), (cs "xy70")] : List (List Nat)).length t2.1) ([] : List Nat))) := hd1
    refine ⟨p1, _, _, _, rfl, rfl, (.inl (.inl (w3.sub _ _ (e3 _ _ fq1)))), hat1, ?_⟩
    obtain rfl := Option.some.inj eR
    exact q H3 P3 ((e1.trans e2).trans e3) w3
  · rw [ite_f hb1] at eR
    obtain ⟨t3, et3, eR⟩ := ob_some eR
    obtain ⟨F1, hF1, et3⟩ := nm_mps et3
    refine ⟨⟨_, rfl⟩, _, rfl, (by decide), (by decide), fun D1 nD1 => ?_⟩
    refine lc_it walk_range0 (fun i Hz => ∃ (Pz : Hp) (vsz : List V) (accz rsz : (List (List Nat))) (bz : Box), Ext P1 Pz ∧ Wd G.T Pz Hz ((D1, (HO.lst vsz)) :: (aboxhere1, (boxO lboxhere1 bz)) :: cs0) ∧ AR yS Pz vsz accz ∧ accz.length ≤ i ∧ accz ++ rsz = t3.1 ∧ mps F1 ((List.range 4).drop i) bz = some (rsz, t3.2)) ?_ ?_ ?_ ?_
    · exact ⟨P1, [], [], t3.1, t1.2, Ext.refl _, w1.new nD1 _, AR.nil, Nat.le_refl _, rfl, et3⟩
    · rintro i Hz _ ⟨Pz, vsz, accz, rsz, bz, ee, ww, _⟩
      trivial
    · rintro i1 x1 H4 H5 hi1 ⟨P4, vs1, acc1, rs1, b1, e4, w4, al3, hlen1, hsum1, et4⟩ hy1
      obtain ⟨eH1, hx1⟩ := hy1
      rw [eH1]
      subst hx1
      have eD1 := range_drop (n := 4) (i := i1) (by assumption)
      rw [eD1, mps] at et4
      obtain ⟨yy1, ey1, et4⟩ := ob_some et4
      obtain ⟨rs2, er1, et4⟩ := ob_some et4
      rw [hF1] at ey1
      unfold bd_palette_1 at ey1
      refine ⟨rfl, ?_⟩
      obtain ⟨t4, et5, ey1⟩ := ob_some ey1
      refine ⟨_, rfl, P4, ((D1, (HO.lst vs1)) :: cs0), aboxhere1, lboxhere1, ns, b1, t4, rfl, (w4.pull 1 rfl), (Ext.sql (e1.trans e4) hl), et5, fun H6 P5 e5 w5 => ?_⟩
      refine ⟨vs1, (w5.get 1 rfl), (szl (by rw [AR.len (AR.up e5 al3)]; exact Nat.lt_of_le_of_lt hlen1 (Nat.lt_of_lt_of_le hi1 (by decide)))), ?_⟩
      obtain rfl := Option.some.inj ey1
      exact ⟨P5, _, (acc1 ++ [([t4.1] : List Nat)]), _, _, (e4.trans e5), ((w5.put 1 (HO.lst (vs1 ++ [(S ([t4.1] : List Nat))])) rfl).pull 1 rfl), (AR.snoc (AR.up e5 al3) rfl), snoc_len hlen1, snoc_sumB hsum1 et4, mps_eq er1 et4⟩
    rintro H7 ⟨P6, vs2, acc2, rs3, b2, e6, w6, al4, hlen2, hsum2, et6⟩
    rw [drop_range_of (n := Int.toNat 4) (m := 4) rfl, mps] at et6
    rw [mps_acc hsum2 et6] at al4; rw [mps_box et6] at w6
    have e7 : Ext P6 (upd P6 D1 (HO.lst vs2)) := w6.kext
    have w7 : Wd G.T (upd P6 D1 (HO.lst vs2)) H7 ((aboxhere1, (boxO lboxhere1 t3.2)) :: cs0) := w6.keep
    have fq2 : upd P6 D1 (HO.lst vs2) D1 = some (HO.lst vs2) := upd_same
    generalize upd P6 D1 (HO.lst vs2) = P7 at w7 e7 fq2
    have al5 := (AR.up e7 al4)
    obtain ⟨hc2, eR⟩ := chk_some eR
    refine ⟨_, D1, t3.1, rfl, rfl, (.inl (ar_strs al5 ▸ (.inl (.inl (w7.sub _ _ fq2))))), (Nat.le_trans hc2 (by decide)), ?_⟩
    obtain rfl := Option.some.inj eR
    exact q H7 P7 ((e1.trans e6).trans e7) w7
theorem fn_palette {P : Program} {w : World} {K : PySem.W.Frag} {mg : Str → Option Value} {base : Heap} {G : GA} {f : Addr} {fd : FuncData} (T : Tx P w K G mg base) (F : Fun K "_law_palette" "_law_palette" s_palette f fd) : FnOk P w K mg base CX0 3 f fd ["_law_box_here"] (sp_palette K G) := by
  refine F.ok sc_palette (fun vs H Q E h => ?_) (fun cdv A outer s H vs Q E hr h => ⟨t_palette K G, ?_, rd_palette T.fa vs H Q E h⟩)
  · obtain ⟨_, _, _, _, _, _, _, rfl, _⟩ := h
    rfl
  · exact (pss_cons (ps_if (pt_cmpR o_eqI (pe_c (c_take T) hr (by decide) (by rfl) (pa_cons (pv 0) (pa_cons pe_int pa_nil))) pe_int (nomark _)) (pss_one (ps_ret (pe_ix ix_list (pe_lst (pa_cons pe_strS (pa_cons pe_strS (pa_cons pe_strS (pa_cons pe_strS pa_nil))))) (pe_c (c_take T) hr (by decide) (by rfl) (pa_cons (pv 0) (pa_cons pe_int pa_nil))) (fun _ _ => rfl)))) pss_nil) (pss_one (ps_ret (pe_m1 PySem.F.slot_str_join PySem.F.type_str_join m_join pe_strS (pe_lc (own := [("_law_k", 1)]) rfl sc_palette.nd (pi_range1 (by rfl) T.z_range (pa_cons pe_int pa_nil)) (blkOk_by (N := ["_law_box_here", "_law_k"]) (sc := defScope s_palette) (by decide +kernel)) (fun _ _ _ _ _ => (pg_name (i := 1) sc_palette.nd rfl (Or.inl rfl))) (fun _ _ _ _ _ => pts_nil) (fun _ _ _ _ _ => (pe_c (c_sign T) hr (by decide) (by rfl) (pa_cons (pv 0) pa_nil))))))))
theorem c_palette {P : Program} {w : World} {K : PySem.W.Frag} {mg : Str → Option Value} {base : Heap} {G : GA} (T : Tx P w K G mg base) : Cal P w K mg base 3 "_law_palette" (sp_palette K G) := by
  obtain ⟨f, fd, F, b, g⟩ := T.d_palette
  exact ⟨f, fd, _, fn_palette T F, g, F.kp, b⟩

def m_chosen (ns : List Int) (boxhere1 : Box) : Option ((List Nat) × Box) :=
  (ob (takeO ns boxhere1 6) (fun (t1 : (Int × Box)) => (if (decide (t1.1 = 0)) then (some ((cs ""), t1.2)) else (ob (m_palette ns t1.2) (fun (t2 : ((List Nat) × Box)) => (ob m_law_signs (fun (t3 : (List Nat)) => (chk (t3.length ≤ 1000000) (chk ((((t3.filter (fun ic0 => (decide (ic0 ∈ t2.1)))).map (fun ic0 => ([ic0] : List Nat))).map List.length).sum + ((t3.filter (fun ic0 => (decide (ic0 ∈ t2.1)))).map (fun ic0 => ([ic0] : List Nat))).length * (cs "").length ≤ 1000000) (some ((TL.joinL (cs "") ((t3.filter (fun ic0 => (decide (ic0 ∈ t2.1)))).map (fun ic0 => ([ic0] : List Nat)))), t2.2)))))))))))
def sp_chosen (K : PySem.W.Frag) (G : GA) : Sp := fun vs H Q E => ∃ (P : Hp) (cs0 : Cs) (aboxhere1 lboxhere1 : Addr) (ns : List Int) (boxhere1 : Box) (R0 : ((List Nat) × Box)), vs = [V.ref aboxhere1] ∧ Wd G.T P H ((aboxhere1, (boxO lboxhere1 boxhere1)) :: cs0) ∧ SqL K P lboxhere1 (ns.map V.int) ∧ m_chosen ns boxhere1 = some R0 ∧ ∀ (H1 P1 : Hp), Ext P P1 → Wd G.T P1 H1 ((aboxhere1, (boxO lboxhere1 R0.2)) :: cs0) → Q (S R0.1) H1
def t_chosen (K : PySem.W.Frag) (G : GA) : TS := (tSeq (tIfS (tTest (tOp rEqI (tCall (sp_take K G) [] E0 (tCons (tVar 0) (tCons (tC (V.int 6)) tNil))) (tC (V.int 0)))) (tRet (tC (S (cs "")))) tNext) (tSeq (tAsg (tCall (sp_palette K G) [] E0 (tCons (tVar 0) tNil)) (gName 1)) (tRet (tM1 (rJoin K) (tC (S (cs ""))) (tLc (iStr (tCall (sp_law_signs K G) [] E0 tNil)) (gName 2) (tTest (tOp rInS (tVar 2) (tVar 1))) (tVar 2) [2])))))
theorem sc_chosen : FnScope ["_law_box_here", "_law_palette_here", "_law_sign_here"] ["_law_box_here"] (defScope s_chosen) := ⟨rfl, rfl, rfl, by decide +kernel, rfl, by decide +kernel, by decide +kernel⟩
theorem rd_chosen {K : PySem.W.Frag} {G : GA} (F : Fa K G) (vs : List V) (H : Hp) (Q : VK) (E : XK) (h : sp_chosen K G vs H Q E) : t_chosen K G { nx := fun _ H1 => Q .non H1, rt := Q } (L2.start ["_law_box_here", "_law_palette_here", "_law_sign_here"] vs) H := by
  obtain ⟨P, cs0, aboxhere1, lboxhere1, ns, boxhere1, R0, rfl, w, hl, eR, q⟩ := h
  unfold m_chosen at eR
  obtain ⟨t1, et1, eR⟩ := ob_some eR
  refine ⟨_, rfl, P, (cs0), aboxhere1, lboxhere1, ns, boxhere1, 6, t1, rfl, w, hl, et1, fun H1 P1 e1 w1 => ?_⟩
  refine ⟨_, _, rfl, rfl, _, rfl, ?_⟩
  refine iteB (fun hb1 => ?_) (fun hb1 => ?_)
  · rw [ite_t hb1] at eR
    obtain rfl := Option.some.inj eR
    exact q H1 P1 e1 w1
  · rw [ite_f hb1] at eR
    obtain ⟨t2, et2, eR⟩ := ob_some eR
    refine ⟨_, rfl, P1, (cs0), aboxhere1, lboxhere1, ns, t1.2, t2, rfl, w1, (Ext.sql e1 hl), et2, fun H2 P2 e2 w2 => ?_⟩
    obtain ⟨t3, et3, eR⟩ := ob_some eR
    refine ⟨⟨_, rfl⟩, P2, ((aboxhere1, (boxO lboxhere1 t2.2)) :: cs0), t3, rfl, w2, et3, fun H3 P3 e3 w3 => ?_⟩
    obtain ⟨hc1, eR⟩ := chk_some eR
    refine ⟨_, rfl, fun D1 nD1 => ?_⟩
    refine lc_it (walk_str (z := ⟨⟨t3⟩⟩)) (fun i Hz => ∃ (Pz : Hp) (vsz : List V), Ext P3 Pz ∧ Wd G.T Pz Hz ((D1, (HO.lst vsz)) :: (aboxhere1, (boxO lboxhere1 t2.2)) :: cs0) ∧ AR yS Pz vsz (((t3.take i).filter (fun ic0 => (decide (ic0 ∈ t2.1)))).map (fun ic0 => ([ic0] : List Nat)))) ?_ ?_ ?_ ?_
    · exact ⟨P3, [], Ext.refl _, w3.new nD1 _, AR.nil⟩
    · rintro i Hz _ ⟨Pz, vsz, ee, ww, _⟩
      trivial
    · rintro i1 x1 H4 H5 hi1 ⟨P4, vs1, e4, w4, al1⟩ hy1
      obtain ⟨eH1, hx1⟩ := hy1
      rw [eH1]
      obtain ⟨it1, hitit1, exit1⟩ := hx1
      obtain rfl : x1 = S ([it1] : List Nat) := exit1
      have eD1 := str_drop hitit1
      refine ⟨rfl, ?_⟩
      refine ⟨_, rfl, _, rfl, it1, _, rfl, rfl, _, rfl, ?_⟩
      refine iteB (fun hb2 => ?_) (fun hb2 => ?_)
      · refine ⟨_, rfl, vs1, (w4.get 0 rfl), (szl (by rw [AR.len al1]; exact Nat.lt_of_le_of_lt len_tf (Nat.lt_of_lt_of_le hi1 (str_bnd hc1)))), ?_⟩
        exact ⟨P4, _, e4, (w4.put 0 (HO.lst (vs1 ++ [(S ([it1] : List Nat))])) rfl), (by rw [take_snoc_filter eD1 (p := fun it1 => (decide (it1 ∈ t2.1))) hb2]; exact (AR.snoc al1 rfl))⟩
      · exact ⟨P4, _, e4, w4, (by rw [take_snoc_filter_no eD1 (p := fun it1 => (decide (it1 ∈ t2.1))) hb2]; exact al1)⟩
    rintro H6 ⟨P5, vs2, e5, w5, al2⟩
    rw [take_str_all] at al2
    have e6 : Ext P5 (upd P5 D1 (HO.lst vs2)) := w5.kext
    have w6 : Wd G.T (upd P5 D1 (HO.lst vs2)) H6 ((aboxhere1, (boxO lboxhere1 t2.2)) :: cs0) := w5.keep
    have fq1 : upd P5 D1 (HO.lst vs2) D1 = some (HO.lst vs2) := upd_same
    generalize upd P5 D1 (HO.lst vs2) = P6 at w6 e6 fq1
    have al3 := (AR.up e6 al2)
    obtain ⟨hc2, eR⟩ := chk_some eR
    refine ⟨_, D1, ((t3.filter (fun ic0 => (decide (ic0 ∈ t2.1)))).map (fun ic0 => ([ic0] : List Nat))), rfl, rfl, (.inl (ar_strs al3 ▸ (.inl (.inl (w6.sub _ _ fq1))))), (Nat.le_trans hc2 (by decide)), ?_⟩
    obtain rfl := Option.some.inj eR
    exact q H6 P6 ((((e1.trans e2).trans e3).trans e5).trans e6) w6
theorem fn_chosen {P : Program} {w : World} {K : PySem.W.Frag} {mg : Str → Option Value} {base : Heap} {G : GA} {f : Addr} {fd : FuncData} (T : Tx P w K G mg base) (F : Fun K "_law_chosen" "_law_chosen" s_chosen f fd) : FnOk P w K mg base CX0 4 f fd ["_law_box_here"] (sp_chosen K G) := by
  refine F.ok sc_chosen (fun vs H Q E h => ?_) (fun cdv A outer s H vs Q E hr h => ⟨t_chosen K G, ?_, rd_chosen T.fa vs H Q E h⟩)
  · obtain ⟨_, _, _, _, _, _, _, rfl, _⟩ := h
    rfl
  · exact (pss_cons (ps_if (pt_cmpR o_eqI (pe_c (c_take T) hr (by decide) (by rfl) (pa_cons (pv 0) (pa_cons pe_int pa_nil))) pe_int (nomark _)) (pss_one (ps_ret pe_strS)) pss_nil) (pss_cons (ps_set (i := 1) sc_chosen.nd rfl (.inr rfl) (pe_c (c_palette T) hr (by decide) (by rfl) (pa_cons (pv 0) pa_nil))) (pss_one (ps_ret (pe_m1 PySem.F.slot_str_join PySem.F.type_str_join m_join pe_strS (pe_lc (own := [("_law_sign_here", 2)]) rfl sc_chosen.nd (pi_str (pe_c0 (c_law_signs T) hr (by decide) (by rfl))) (blkOk_by (N := ["_law_box_here", "_law_palette_here", "_law_sign_here"]) (sc := defScope s_chosen) (by decide +kernel)) (fun _ _ _ _ _ => (pg_name (i := 2) sc_chosen.nd rfl (Or.inl rfl))) (fun _ _ _ _ _ => pts_one (pt_cmpR o_inS (pv 2) (pv 1) (by rfl))) (fun _ _ _ _ _ => (pv 2))))))))
theorem c_chosen {P : Program} {w : World} {K : PySem.W.Frag} {mg : Str → Option Value} {base : Heap} {G : GA} (T : Tx P w K G mg base) : Cal P w K mg base 4 "_law_chosen" (sp_chosen K G) := by
  obtain ⟨f, fd, F, b, g⟩ := T.d_chosen
  exact ⟨f, fd, _, fn_chosen T F, g, F.kp, b⟩

def bd_word_1 (ns : List Int) (named1 : (List Nat)) (i1 : Nat) (b1 : Box) : Option ((List Nat) × Box) :=
  (chk (named1.length ≤ 1000000) (ob (takeO ns b1 (named1.length : Int)) (fun (t3 : (Int × Box)) => (chk (inR named1.length t3.1 ∧ named1.length ≤ 1000000) (some (([named1.getD (ixP named1.length t3.1) 0] : List Nat), t3.2))))))
def m_word (ns : List Int) (boxhere1 : Box) (named1 : (List Nat)) (limit1 : Int) : Option ((List Nat) × Box) :=
  (if (decide (named1 = (cs ""))) then (some ((cs ""), boxhere1)) else (ob (takeO ns boxhere1 (limit1 + 1)) (fun (t1 : (Int × Box)) => (chk (-(2 ^ 62) ≤ t1.1 ∧ t1.1 < 2 ^ 62) (chk ((List.range (t1.1).toNat).length ≤ 1000000) (ob (mps (bd_word_1 ns named1) (List.range (t1.1).toNat) t1.2) (fun (t2 : ((List (List Nat)) × Box)) => (chk ((t2.1.map List.length).sum + t2.1.length * (cs "").length ≤ 1000000) (some ((TL.joinL (cs "") t2.1), t2.2))))))))))
def sp_word (K : PySem.W.Frag) (G : GA) : Sp := fun vs H Q E => ∃ (P : Hp) (cs0 : Cs) (aboxhere1 lboxhere1 : Addr) (ns : List Int) (boxhere1 : Box) (named1 : (List Nat)) (limit1 : Int) (R0 : ((List Nat) × Box)), vs = [V.ref aboxhere1, (S named1), (V.int limit1)] ∧ Wd G.T P H ((aboxhere1, (boxO lboxhere1 boxhere1)) :: cs0) ∧ SqL K P lboxhere1 (ns.map V.int) ∧ m_word ns boxhere1 named1 limit1 = some R0 ∧ ∀ (H1 P1 : Hp), Ext P P1 → Wd G.T P1 H1 ((aboxhere1, (boxO lboxhere1 R0.2)) :: cs0) → Q (S R0.1) H1
def t_word (K : PySem.W.Frag) (G : GA) : TS := (tSeq (tIfS (tTest (tOp rEqS (tVar 1) (tC (S (cs ""))))) (tRet (tC (S (cs "")))) tNext) (tRet (tM1 (rJoin K) (tC (S (cs ""))) (tLc (iRng1 (tCons (tCall (sp_take K G) [] E0 (tCons (tVar 0) (tCons (tOp rAdd (tVar 2) (tC (V.int 1))) tNil))) tNil)) (gName 3) tYes (tOp rIxT1 (tVar 1) (tCall (sp_take K G) [] E0 (tCons (tVar 0) (tCons (tCB rLenS (tCons (tVar 1) tNil)) tNil)))) [3]))))
theorem sc_word : FnScope ["_law_box_here", "_law_named", "_law_limit", "_law_k"] ["_law_box_here", "_law_named", "_law_limit"] (defScope s_word) := ⟨rfl, rfl, rfl, by decide +kernel, rfl, by decide +kernel, by decide +kernel⟩
theorem rd_word {K : PySem.W.Frag} {G : GA} (F : Fa K G) (vs : List V) (H : Hp) (Q : VK) (E : XK) (h : sp_word K G vs H Q E) : t_word K G { nx := fun _ H1 => Q .non H1, rt := Q } (L2.start ["_law_box_here", "_law_named", "_law_limit", "_law_k"] vs) H := by
  obtain ⟨P, cs0, aboxhere1, lboxhere1, ns, boxhere1, named1, limit1, R0, rfl, w, hl, eR, q⟩ := h
  unfold m_word at eR
  refine ⟨_, rfl, _, _, rfl, rfl, _, rfl, ?_⟩
  refine iteB (fun hb1 => ?_) (fun hb1 => ?_)
  · rw [ite_t hb1] at eR
    obtain rfl := Option.some.inj eR
    exact q H P (Ext.refl _) w
  · rw [ite_f hb1] at eR
    obtain ⟨t1, et1, eR⟩ := ob_some eR
    refine ⟨⟨_, rfl⟩, _, rfl, _, rfl, _, _, rfl, rfl, P, (cs0), aboxhere1, lboxhere1, ns, boxhere1, (limit1 + 1), t1, rfl, w, hl, et1, fun H1 P1 e1 w1 => ?_⟩
    obtain ⟨hc1, eR⟩ := chk_some eR
    obtain ⟨hc2, eR⟩ := chk_some eR
    obtain ⟨t2, et2, eR⟩ := ob_some eR
    obtain ⟨F1, hF1, et2⟩ := nm_mps et2
    refine ⟨_, rfl, hc1.1, hc1.2, fun D1 nD1 => ?_⟩
    refine lc_it walk_range0 (fun i Hz => ∃ (Pz : Hp) (vsz : List V) (accz rsz : (List (List Nat))) (bz : Box), Ext P1 Pz ∧ Wd G.T Pz Hz ((D1, (HO.lst vsz)) :: (aboxhere1, (boxO lboxhere1 bz)) :: cs0) ∧ AR yS Pz vsz accz ∧ accz.length ≤ i ∧ accz ++ rsz = t2.1 ∧ mps F1 ((List.range (t1.1).toNat).drop i) bz = some (rsz, t2.2)) ?_ ?_ ?_ ?_
    · exact ⟨P1, [], [], t2.1, t1.2, Ext.refl _, w1.new nD1 _, AR.nil, Nat.le_refl _, rfl, et2⟩
    · rintro i Hz _ ⟨Pz, vsz, accz, rsz, bz, ee, ww, _⟩
      trivial
    · rintro i1 x1 H2 H3 hi1 ⟨P2, vs1, acc1, rs1, b1, e2, w2, al1, hlen1, hsum1, et3⟩ hy1
      obtain ⟨eH1, hx1⟩ := hy1
      rw [eH1]
      subst hx1
      have eD1 := range_drop (n := (t1.1).toNat) (i := i1) (by assumption)
      rw [eD1, mps] at et3
      obtain ⟨yy1, ey1, et3⟩ := ob_some et3
      obtain ⟨rs2, er1, et3⟩ := ob_some et3
      rw [hF1] at ey1
      unfold bd_word_1 at ey1
      refine ⟨rfl, ?_⟩
      obtain ⟨hc3, ey1⟩ := chk_some ey1
      obtain ⟨t3, et4, ey1⟩ := ob_some ey1
      refine ⟨_, rfl, _, rfl, _, rfl, _, rfl, (sz hc3), P2, ((D1, (HO.lst vs1)) :: cs0), aboxhere1, lboxhere1, ns, b1, (named1.length : Int), t3, rfl, (w2.pull 1 rfl), (Ext.sql (e1.trans e2) hl), et4, fun H4 P3 e3 w3 => ?_⟩
      obtain ⟨hc4, ey1⟩ := chk_some ey1
      refine ⟨_, _, _, rfl, rfl, (sz hc4.2), (atI_str hc4.1), vs1, (w3.get 1 rfl), (szl (by rw [AR.len (AR.up e3 al1)]; exact Nat.lt_of_le_of_lt hlen1 (Nat.lt_of_lt_of_le hi1 (by have := hc2; rw [List.length_range] at this; exact this)))), ?_⟩
      obtain rfl := Option.some.inj ey1
      exact ⟨P3, _, (acc1 ++ [([named1.getD (ixP named1.length t3.1) 0] : List Nat)]), _, _, (e2.trans e3), ((w3.put 1 (HO.lst (vs1 ++ [(S ([named1.getD (ixP named1.length t3.1) 0] : List Nat))])) rfl).pull 1 rfl), (AR.snoc (AR.up e3 al1) rfl), snoc_len hlen1, snoc_sumB hsum1 et3, mps_eq er1 et3⟩
    rintro H5 ⟨P4, vs2, acc2, rs3, b2, e4, w4, al2, hlen2, hsum2, et5⟩
    rw [drop_range_all, mps] at et5
    rw [mps_acc hsum2 et5] at al2; rw [mps_box et5] at w4
    have e5 : Ext P4 (upd P4 D1 (HO.lst vs2)) := w4.kext
    have w5 : Wd G.T (upd P4 D1 (HO.lst vs2)) H5 ((aboxhere1, (boxO lboxhere1 t2.2)) :: cs0) := w4.keep
    have fq1 : upd P4 D1 (HO.lst vs2) D1 = some (HO.lst vs2) := upd_same
    generalize upd P4 D1 (HO.lst vs2) = P5 at w5 e5 fq1
    have al3 := (AR.up e5 al2)
    obtain ⟨hc5, eR⟩ := chk_some eR
    refine ⟨_, D1, t2.1, rfl, rfl, (.inl (ar_strs al3 ▸ (.inl (.inl (w5.sub _ _ fq1))))), (Nat.le_trans hc5 (by decide)), ?_⟩
    obtain rfl := Option.some.inj eR
    exact q H5 P5 ((e1.trans e4).trans e5) w5
theorem fn_word {P : Program} {w : World} {K : PySem.W.Frag} {mg : Str → Option Value} {base : Heap} {G : GA} {f : Addr} {fd : FuncData} (T : Tx P w K G mg base) (F : Fun K "_law_word" "_law_word" s_word f fd) : FnOk P w K mg base CX0 2 f fd ["_law_box_here", "_law_named", "_law_limit"] (sp_word K G) := by
  refine F.ok sc_word (fun vs H Q E h => ?_) (fun cdv A outer s H vs Q E hr h => ⟨t_word K G, ?_, rd_word T.fa vs H Q E h⟩)
  · obtain ⟨_, _, _, _, _, _, _, _, _, rfl, _⟩ := h
    rfl
  · exact (pss_cons (ps_if (pt_cmpR o_eqS (pv 1) pe_strS (nomark _)) (pss_one (ps_ret pe_strS)) pss_nil) (pss_one (ps_ret (pe_m1 PySem.F.slot_str_join PySem.F.type_str_join m_join pe_strS (pe_lc (own := [("_law_k", 3)]) rfl sc_word.nd (pi_range1 (by rfl) T.z_range (pa_cons (pe_c (c_take T) hr (by decide) (by rfl) (pa_cons (pv 0) (pa_cons (pe_op o_add (pv 2) pe_int) pa_nil))) pa_nil)) (blkOk_by (N := ["_law_box_here", "_law_named", "_law_limit", "_law_k"]) (sc := defScope s_word) (by decide +kernel)) (fun _ _ _ _ _ => (pg_name (i := 3) sc_word.nd rfl (Or.inl rfl))) (fun _ _ _ _ _ => pts_nil) (fun _ _ _ _ _ => (pe_ix i_str (pv 1) (pe_c (c_take T) hr (by decide) (by rfl) (pa_cons (pv 0) (pa_cons (pe_callB c_lenS (by rfl) T.z_len PySem.boot_len (pa_cons (pv 1) pa_nil)) pa_nil))) (fun _ _ => rfl))))))))
theorem c_word {P : Program} {w : World} {K : PySem.W.Frag} {mg : Str → Option Value} {base : Heap} {G : GA} (T : Tx P w K G mg base) : Cal P w K mg base 2 "_law_word" (sp_word K G) := by
  obtain ⟨f, fd, F, b, g⟩ := T.d_word
  exact ⟨f, fd, _, fn_word T F, g, F.kp, b⟩

def bd_table_2 (ns : List Int) (named1 : (List Nat)) (count1 : Int) (it1 : (List Nat)) (s2 : ((List ((List Nat) × (Int × (List Nat)))) × Box)) : Option ((List ((List Nat) × (Int × (List Nat)))) × Box) :=
  (ob (takeO ns s2.2 count1) (fun (t3 : (Int × Box)) => (ob (m_word ns t3.2 named1 2) (fun (t4 : ((List Nat) × Box)) => (chk (s2.1.length < 1000000) (some ((dP s2.1 it1 (t3.1, t4.1)), t4.2)))))))
def bd_table_1 (ns : List Int) (named1 : (List Nat)) (count1 : Int) (i1 : Nat) (s1 : (Box × (List (List ((List Nat) × (Int × (List Nat))))))) : Option (Box × (List (List ((List Nat) × (Int × (List Nat)))))) :=
  (chk (named1.length ≤ 1000000) (chk ((named1.map (fun c => [c])).length + ([(cs "letter"), (cs "figure"), (cs "mark")] : List (List Nat)).length ≤ 1000000) (ob (itf (bd_table_2 ns named1 count1) ((named1.map (fun c => [c])) ++ ([(cs "letter"), (cs "figure"), (cs "mark")] : List (List Nat))) (([] : (List ((List Nat) × (Int × (List Nat))))), s1.1)) (fun (s3 : ((List ((List Nat) × (Int × (List Nat)))) × Box)) => (chk (s1.2.length < 1000000) (some (s3.2, (s1.2 ++ [s3.1]))))))))
def bd_table_3 (ns : List Int) (named1 : (List Nat)) (i3 : Nat) (b1 : Box) : Option ((List Nat) × Box) :=
  (ob (m_word ns b1 named1 2) (fun (t6 : ((List Nat) × Box)) => (some (t6.1, t6.2))))
def m_table (ns : List Int) (boxhere1 : Box) (named1 : (List Nat)) (count1 : Int) : Option (((List (List ((List Nat) × (Int × (List Nat))))) × (List (List Nat))) × Box) :=
  (chk (-(2 ^ 62) ≤ count1 ∧ count1 < 2 ^ 62) (ob (itf (bd_table_1 ns named1 count1) (List.range (count1).toNat) (boxhere1, ([] : List (List ((List Nat) × (Int × (List Nat))))))) (fun (s4 : (Box × (List (List ((List Nat) × (Int × (List Nat))))))) => (chk (-(2 ^ 62) ≤ count1 ∧ count1 < 2 ^ 62) (chk ((List.range (count1).toNat).length ≤ 1000000) (ob (mps (bd_table_3 ns named1) (List.range (count1).toNat) s4.1) (fun (t5 : ((List (List Nat)) × Box)) => (some ((s4.2, t5.1), t5.2)))))))))
def sp_table (K : PySem.W.Frag) (G : GA) : Sp := fun vs H Q E => ∃ (P : Hp) (cs0 : Cs) (aboxhere1 lboxhere1 : Addr) (ns : List Int) (boxhere1 : Box) (named1 : (List Nat)) (count1 : Int) (R0 : (((List (List ((List Nat) × (Int × (List Nat))))) × (List (List Nat))) × Box)), vs = [V.ref aboxhere1, (S named1), (V.int count1)] ∧ Wd G.T P H ((aboxhere1, (boxO lboxhere1 boxhere1)) :: cs0) ∧ SqL K P lboxhere1 (ns.map V.int) ∧ m_table ns boxhere1 named1 count1 = some R0 ∧ ∀ (H1 P1 : Hp) (p1 a1 e1 : Addr) (vs1 : Dz) (es1 : List V), Ext P P1 → Wd G.T P1 H1 ((e1, HO.lst es1) :: (aboxhere1, boxO lboxhere1 R0.2) :: (a1, HO.lst (dlV vs1)) :: (dlC vs1 ++ cs0)) → P1 p1 = some (HO.tup ([.ref a1, .ref e1] : List V)) → DLR kS (y2 K yI yS) P1 vs1 R0.1.1 → AR yS P1 es1 R0.1.2 → Q (.ref p1) H1
def t_table (K : PySem.W.Frag) (G : GA) : TS := (tSeq (tAsg (tLst tNil) (gName 3)) (tSeq (tFor (iRng1 (tCons (tVar 2) tNil)) (gName 4) (tSeq (tAsg tDNewK (gName 5)) (tSeq (tFor (iList K (tOp rCat (tCB rListS (tCons (tVar 1) tNil)) (tLst (tCons (tC (S (cs "letter"))) (tCons (tC (S (cs "figure"))) (tCons (tC (S (cs "mark"))) tNil)))))) (gName 6) (tSeq (tAsg (tCall (sp_take K G) [] E0 (tCons (tVar 0) (tCons (tVar 2) tNil))) (gName 7)) (sDPut (tVar 5) (tVar 6) (tTup (tCons (tVar 7) (tCons (tCall (sp_word K G) [] E0 (tCons (tVar 0) (tCons (tVar 1) (tCons (tC (V.int 2)) tNil)))) tNil)))))) (tDrop (tBM K "list" rAppend (tVar 3) (tCons (tVar 5) tNil)))))) (tRet (tTup (tCons (tVar 3) (tCons (tLc (iRng1 (tCons (tVar 2) tNil)) (gName 4) tYes (tCall (sp_word K G) [] E0 (tCons (tVar 0) (tCons (tVar 1) (tCons (tC (V.int 2)) tNil)))) [4]) tNil))))))
theorem sc_table : FnScope ["_law_box_here", "_law_named", "_law_count", "_law_arcs", "_law_k", "_law_row", "_law_key", "_law_target"] ["_law_box_here", "_law_named", "_law_count"] (defScope s_table) := ⟨rfl, rfl, rfl, by decide +kernel, rfl, by decide +kernel, by decide +kernel⟩
theorem rd_table {K : PySem.W.Frag} {G : GA} (F : Fa K G) (vs : List V) (H : Hp) (Q : VK) (E : XK) (h : sp_table K G vs H Q E) : t_table K G { nx := fun _ H1 => Q .non H1, rt := Q } (L2.start ["_law_box_here", "_law_named", "_law_count", "_law_arcs", "_law_k", "_law_row", "_law_key", "_law_target"] vs) H := by
  obtain ⟨P, cs0, aboxhere1, lboxhere1, ns, boxhere1, named1, count1, R0, rfl, w, hl, eR, q⟩ := h
  unfold m_table at eR
  refine ⟨(by show 0 ≤ sizeLine; decide), fun p1 np1 => ?_⟩
  have al1 : AR yI P ([] : List V) ([] : List Int) := AR.nil
  have w1 := w.new np1 (HO.lst ([] : List V))
  generalize upd H p1 (HO.lst ([] : List V)) = H1 at w1 ⊢
  have w2 : Wd G.T P H1 ((aboxhere1, (boxO lboxhere1 boxhere1)) :: (p1, HO.lst (dlV ([] : Dz))) :: (dlC ([] : Dz) ++ cs0)) := (w1.pull 1 rfl)
  obtain ⟨hc1, eR⟩ := chk_some eR
  obtain ⟨t1, et1, eR⟩ := ob_some eR
  obtain ⟨F1, hF1, et1⟩ := nm_itf et1
  refine ⟨_, rfl, _, rfl, hc1.1, hc1.2, for_it walk_range0 (fun i σz Hz => ∃ (Pz : Hp) (zs : (Box × (List (List ((List Nat) × (Int × (List Nat))))))) (lz1 : Dz) (yz0 : Option V) (yz1 : Option V) (yz2 : Option V) (yz3 : Option V), Ext P Pz ∧ σz = [some (V.ref aboxhere1), some (S named1), some (V.int count1), some (.ref p1), yz3, yz0, yz1, yz2] ∧ Wd G.T Pz Hz ((aboxhere1, (boxO lboxhere1 zs.1)) :: (p1, HO.lst (dlV lz1)) :: (dlC lz1 ++ cs0)) ∧ DLR kS (y2 K yI yS) Pz lz1 zs.2 ∧ itf F1 ((List.range (count1).toNat).drop i) zs = some t1) ?_ ?_ ?_ ?_⟩
  · exact ⟨P, (boxhere1, ([] : List (List ((List Nat) × (Int × (List Nat)))))), ([] : Dz), none, none, none, none, Ext.refl _, rfl, w2, DLR.nil, et1⟩
  · rintro i σz Hz _ ⟨Pz, zs, lz1, yz0, yz1, yz2, yz3, ee, rfl, ww, _⟩
    trivial
  · rintro i1 x1 _ H2 H3 hi1 ⟨P1, s1, vs1, od1, od2, od3, od4, e1, rfl, w3, al2, et2⟩ hy1
    obtain ⟨eH1, hx1⟩ := hy1
    rw [eH1]
    subst hx1
    have eD1 := range_drop (n := (count1).toNat) (i := i1) (by assumption)
    rw [eD1, itf] at et2
    obtain ⟨o1, eo1, et2⟩ := ob_some et2
    rw [hF1] at eo1
    unfold bd_table_1 at eo1
    intro p2 np2
    have al3 : DR kS (y2 K yI yS) P1 ([] : List (Key × V)) ([] : (List ((List Nat) × (Int × (List Nat))))) := DR.nil
    have w4 := w3.new np2 (HO.dK ([] : List (Key × V)))
    generalize upd H2 p2 (HO.dK ([] : List (Key × V))) = H4 at w4 ⊢
    obtain ⟨hc2, eo1⟩ := chk_some eo1
    refine ⟨_, rfl, named1, rfl, (sz hc2), fun p3 np3 => ?_⟩
    have al4 : AR yS P1 (named1.map (fun c => S [c])) (named1.map (fun c => [c])) := (signs_ar named1)
    have e2 := w4.fext np3 (HO.lst (named1.map (fun c => S [c])))
    have w5 := w4.frz np3 (HO.lst (named1.map (fun c => S [c])))
    have fq1 : upd P1 p3 (HO.lst (named1.map (fun c => S [c]))) p3 = some (HO.lst (named1.map (fun c => S [c]))) := upd_same
    generalize upd H4 p3 (HO.lst (named1.map (fun c => S [c]))) = H5 at w5 ⊢
    generalize upd P1 p3 (HO.lst (named1.map (fun c => S [c]))) = P2 at w5 e2 fq1
    have al5 := (AR.up e2 al4)
    refine ⟨(by show 3 ≤ sizeLine; decide), fun p4 np4 => ?_⟩
    have al6 : AR yS P2 ([(S (cs "letter")), (S (cs "figure")), (S (cs "mark"))] : List V) ([(cs "letter"), (cs "figure"), (cs "mark")] : List (List Nat)) := (AR.cons rfl (AR.cons rfl (AR.cons rfl AR.nil)))
    have e3 := w5.fext np4 (HO.lst ([(S (cs "letter")), (S (cs "figure")), (S (cs "mark"))] : List V))
    have w6 := w5.frz np4 (HO.lst ([(S (cs "letter")), (S (cs "figure")), (S (cs "mark"))] : List V))
    have fq2 : upd P2 p4 (HO.lst ([(S (cs "letter")), (S (cs "figure")), (S (cs "mark"))] : List V)) p4 = some (HO.lst ([(S (cs "letter")), (S (cs "figure")), (S (cs "mark"))] : List V)) := upd_same
    generalize upd H5 p4 (HO.lst ([(S (cs "letter")), (S (cs "figure")), (S (cs "mark"))] : List V)) = H6 at w6 ⊢
    generalize upd P2 p4 (HO.lst ([(S (cs "letter")), (S (cs "figure")), (S (cs "mark"))] : List V)) = P3 at w6 e3 fq2
    have al7 := (AR.up e3 al6)
    obtain ⟨hc3, eo1⟩ := chk_some eo1
    refine ⟨_, _, (named1.map (fun c => S [c])), ([(S (cs "letter")), (S (cs "figure")), (S (cs "mark"))] : List V), rfl, rfl, (w6.sub _ _ (e3 _ _ fq1)), (w6.sub _ _ fq2), (sz (by simp only [AR.len (AR.up e3 al5), AR.len al7]; exact hc3)), fun p5 np5 => ?_⟩
    have al8 : AR yS P3 ((named1.map (fun c => S [c])) ++ ([(S (cs "letter")), (S (cs "figure")), (S (cs "mark"))] : List V)) ((named1.map (fun c => [c])) ++ ([(cs "letter"), (cs "figure"), (cs "mark")] : List (List Nat))) := (AR.app (AR.up e3 al5) al7)
    have e4 := w6.fext np5 (HO.lst ((named1.map (fun c => S [c])) ++ ([(S (cs "letter")), (S (cs "figure")), (S (cs "mark"))] : List V)))
    have w7 := w6.frz np5 (HO.lst ((named1.map (fun c => S [c])) ++ ([(S (cs "letter")), (S (cs "figure")), (S (cs "mark"))] : List V)))
    have fq3 : upd P3 p5 (HO.lst ((named1.map (fun c => S [c])) ++ ([(S (cs "letter")), (S (cs "figure")), (S (cs "mark"))] : List V))) p5 = some (HO.lst ((named1.map (fun c => S [c])) ++ ([(S (cs "letter")), (S (cs "figure")), (S (cs "mark"))] : List V))) := upd_same
    generalize upd H6 p5 (HO.lst ((named1.map (fun c => S [c])) ++ ([(S (cs "letter")), (S (cs "figure")), (S (cs "mark"))] : List V))) = H7 at w7 ⊢
    generalize upd P3 p5 (HO.lst ((named1.map (fun c => S [c])) ++ ([(S (cs "letter")), (S (cs "figure")), (S (cs "mark"))] : List V))) = P4 at w7 e4 fq3
    have al9 := (AR.up e4 al8)
    obtain ⟨t2, et3, eo1⟩ := ob_some eo1
    obtain ⟨F2, hF2, et3⟩ := nm_itf et3
    refine ⟨p5, rfl, ⟨_, .inl (.inl (w7.sub _ _ fq3))⟩, for_it (walk_list (K := K) (a := p5) (xs := ((named1.map (fun c => S [c])) ++ ([(S (cs "letter")), (S (cs "figure")), (S (cs "mark"))] : List V)))) (fun i σz Hz => ∃ (Pz : Hp) (zs : ((List ((List Nat) × (Int × (List Nat)))) × Box)) (lz0 : List (Key × V)) (yz0 : Option V) (yz1 : Option V), Ext P4 Pz ∧ σz = [some (V.ref aboxhere1), some (S named1), some (V.int count1), some (.ref p1), some (V.int ((i1 : Nat) : Int)), some (.ref p2), yz1, yz0] ∧ Wd G.T Pz Hz ((p2, (HO.dK lz0)) :: (aboxhere1, (boxO lboxhere1 zs.2)) :: (p1, HO.lst (dlV vs1)) :: (dlC vs1 ++ cs0)) ∧ DR kS (y2 K yI yS) Pz lz0 zs.1 ∧ itf F2 (((named1.map (fun c => [c])) ++ ([(cs "letter"), (cs "figure"), (cs "mark")] : List (List Nat))).drop i) zs = some t2) ?_ ?_ ?_ ?_⟩
    · exact ⟨P4, (([] : (List ((List Nat) × (Int × (List Nat))))), s1.1), ([] : List (Key × V)), od3, od2, Ext.refl _, rfl, w7, (DR.up ((e2.trans e3).trans e4) al3), et3⟩
    · rintro i σz Hz _ ⟨Pz, zs, lz0, yz0, yz1, ee, rfl, ww, _⟩
      exact .inl (.inl (ww.sub _ _ (ee _ _ fq3)))
    · rintro i2 x2 _ H8 H9 hi2 ⟨P5, s2, vs2, od5, od6, e5, rfl, w8, al10, et4⟩ hy2
      obtain ⟨eH2, hx2⟩ := hy2
      rw [eH2]
      obtain ⟨it1, _, hd1, eD2⟩ := AR.get (AR.up e5 al9) hx2
      obtain rfl : x2 = (S it1) := hd1
      rw [eD2, itf] at et4
      obtain ⟨o2, eo2, et4⟩ := ob_some et4
      rw [hF2] at eo2
      unfold bd_table_2 at eo2
      obtain ⟨t3, et5, eo2⟩ := ob_some eo2
      refine ⟨_, rfl, _, rfl, P5, ((p2, (HO.dK vs2)) :: (p1, HO.lst (dlV vs1)) :: (dlC vs1 ++ cs0)), aboxhere1, lboxhere1, ns, s2.2, count1, t3, rfl, (w8.pull 1 rfl), (Ext.sql ((((e1.trans e2).trans e3).trans e4).trans e5) hl), et5, fun H10 P6 e6 w9 => ?_⟩
      obtain ⟨t4, et6, eo2⟩ := ob_some eo2
      refine ⟨_, rfl, _, rfl, _, rfl, P6, ((p2, (HO.dK vs2)) :: (p1, HO.lst (dlV vs1)) :: (dlC vs1 ++ cs0)), aboxhere1, lboxhere1, ns, t3.2, named1, 2, t4, rfl, w9, (Ext.sql (((((e1.trans e2).trans e3).trans e4).trans e5).trans e6) hl), et6, fun H11 P7 e7 w10 => ?_⟩
      refine ⟨(by show 2 ≤ sizeLine; decide), fun p6 np6 => ?_⟩
      have e8 := w10.fext np6 (HO.tup ([(V.int t3.1), (S t4.1)] : List V))
      have w11 := w10.frz np6 (HO.tup ([(V.int t3.1), (S t4.1)] : List V))
      have fq4 : upd P7 p6 (HO.tup ([(V.int t3.1), (S t4.1)] : List V)) p6 = some (HO.tup ([(V.int t3.1), (S t4.1)] : List V)) := upd_same
      generalize upd H11 p6 (HO.tup ([(V.int t3.1), (S t4.1)] : List V)) = H12 at w11 ⊢
      generalize upd P7 p6 (HO.tup ([(V.int t3.1), (S t4.1)] : List V)) = P8 at w11 e8 fq4
      obtain ⟨hc4, eo2⟩ := chk_some eo2
      refine ⟨_, rfl, _, rfl, p2, _, rfl, (.inl ⟨vs2, (kS it1), (w11.get 1 rfl), rfl, (szl (by rw [DR.len (DR.up ((e6.trans e7).trans e8) al10)]; exact hc4)), rfl⟩), ?_⟩
      have al11 : DR kS (y2 K yI yS) P8 (putK vs2 (kS it1) (.ref p6)) (dP s2.1 it1 (t3.1, t4.1)) := (DR.put (DR.up ((e6.trans e7).trans e8) al10) ⟨_, _, _, rfl, fq4, rfl, rfl⟩)
      generalize (putK vs2 (kS it1) (.ref p6)) = vs3 at al11 ⊢
      have w12 : Wd G.T P8 (upd H12 p2 (HO.dK vs3)) ((aboxhere1, (boxO lboxhere1 t4.2)) :: (p2, (HO.dK vs3)) :: (p1, HO.lst (dlV vs1)) :: (dlC vs1 ++ cs0)) := w11.put 1 (HO.dK vs3) rfl
      generalize upd H12 p2 (HO.dK vs3) = H13 at w12 ⊢
      obtain rfl := Option.some.inj eo2
      exact ⟨P8, ((dP s2.1 it1 (t3.1, t4.1)), t4.2), vs3, (some (V.int t3.1)), (some (S it1)), (((e5.trans e6).trans e7).trans e8), rfl, (((w12.pull 2 rfl).pull 1 rfl).pull 2 rfl), al11, et4⟩
    rintro _ H14 ⟨P9, s3, vs4, od7, od8, e9, rfl, w13, al12, et7⟩
    rw [AR.dropall al9, itf] at et7
    obtain rfl := Option.some.inj et7
    obtain ⟨hc5, eo1⟩ := chk_some eo1
    refine ⟨_, rfl, .inl ⟨rfl, _, .inl (.inl (w13.get 2 rfl))⟩, _, rfl, _, _, _, rfl, rfl, (w13.get 2 rfl), (szl (by rw [dlV_len, DLR.len (DLR.up (((e2.trans e3).trans e4).trans e9) al2)]; exact hc5)), ?_⟩
    have w14 := Wd.absorb (T := G.T) (P := P9) (H := upd H14 p1 (HO.lst (dlV vs1 ++ [.ref p2]))) (a := p1) (d := p2) (z := vs1) (kvs := vs4) (l := [(aboxhere1, (boxO lboxhere1 s3.2))]) (rest := cs0) (((w13.put 2 (HO.lst (dlV vs1 ++ [.ref p2])) rfl).pull 2 rfl).pull 1 rfl)
    have al13 : DLR kS (y2 K yI yS) P9 (vs1 ++ [(p2, vs4)]) (s1.2 ++ [s3.1]) := DLR.snoc al12 (DLR.up (((e2.trans e3).trans e4).trans e9) al2)
    generalize upd H14 p1 (HO.lst (dlV vs1 ++ [.ref p2])) = H15 at w14 ⊢
    generalize (vs1 ++ [(p2, vs4)]) = z1 at w14 al13
    have w15 : Wd G.T P9 H15 ((aboxhere1, (boxO lboxhere1 s3.2)) :: (p1, HO.lst (dlV z1)) :: (dlC z1 ++ cs0)) := (w14.pull 1 rfl)
    obtain rfl := Option.some.inj eo1
    exact ⟨P9, (s3.2, (s1.2 ++ [s3.1])), z1, (some (.ref p2)), od8, od7, (some (V.int ((i1 : Nat) : Int))), ((((e1.trans e2).trans e3).trans e4).trans e9), rfl, w15, al13, et2⟩
  rintro _ H16 ⟨P10, s4, vs5, od9, od10, od11, od12, e10, rfl, w16, al14, et8⟩
  rw [drop_range_all, itf] at et8
  obtain rfl := Option.some.inj et8
  obtain ⟨hc6, eR⟩ := chk_some eR
  obtain ⟨hc7, eR⟩ := chk_some eR
  obtain ⟨t5, et9, eR⟩ := ob_some eR
  obtain ⟨F3, hF3, et9⟩ := nm_mps et9
  refine ⟨_, rfl, _, rfl, _, rfl, hc6.1, hc6.2, fun D1 nD1 => ?_⟩
  refine lc_it walk_range0 (fun i Hz => ∃ (Pz : Hp) (vsz : List V) (accz rsz : (List (List Nat))) (bz : Box), Ext P10 Pz ∧ Wd G.T Pz Hz ((D1, (HO.lst vsz)) :: (aboxhere1, (boxO lboxhere1 bz)) :: (p1, HO.lst (dlV vs5)) :: (dlC vs5 ++ cs0)) ∧ AR yS Pz vsz accz ∧ accz.length ≤ i ∧ accz ++ rsz = t5.1 ∧ mps F3 ((List.range (count1).toNat).drop i) bz = some (rsz, t5.2)) ?_ ?_ ?_ ?_
  · exact ⟨P10, [], [], t5.1, s4.1, Ext.refl _, w16.new nD1 _, AR.nil, Nat.le_refl _, rfl, et9⟩
  · rintro i Hz _ ⟨Pz, vsz, accz, rsz, bz, ee, ww, _⟩
    trivial
  · rintro i3 x3 H17 H18 hi3 ⟨P11, vs6, acc1, rs1, b1, e11, w17, al15, hlen1, hsum1, et10⟩ hy3
    obtain ⟨eH3, hx3⟩ := hy3
    rw [eH3]
    subst hx3
    have eD3 := range_drop (n := (count1).toNat) (i := i3) (by assumption)
    rw [eD3, mps] at et10
    obtain ⟨yy1, ey1, et10⟩ := ob_some et10
    obtain ⟨rs2, er1, et10⟩ := ob_some et10
    rw [hF3] at ey1
    unfold bd_table_3 at ey1
    refine ⟨rfl, ?_⟩
    obtain ⟨t6, et11, ey1⟩ := ob_some ey1
    refine ⟨_, rfl, _, rfl, P11, ((D1, (HO.lst vs6)) :: (p1, HO.lst (dlV vs5)) :: (dlC vs5 ++ cs0)), aboxhere1, lboxhere1, ns, b1, named1, 2, t6, rfl, (w17.pull 1 rfl), (Ext.sql (e10.trans e11) hl), et11, fun H19 P12 e12 w18 => ?_⟩
    refine ⟨vs6, (w18.get 1 rfl), (szl (by rw [AR.len (AR.up e12 al15)]; exact Nat.lt_of_le_of_lt hlen1 (Nat.lt_of_lt_of_le hi3 (by have := hc7; rw [List.length_range] at this; exact this)))), ?_⟩
    obtain rfl := Option.some.inj ey1
    exact ⟨P12, _, (acc1 ++ [t6.1]), _, _, (e11.trans e12), ((((w18.put 1 (HO.lst (vs6 ++ [(S t6.1)])) rfl).pull 2 rfl).pull 1 rfl).pull 2 rfl), (AR.snoc (AR.up e12 al15) rfl), snoc_len hlen1, snoc_sumB hsum1 et10, mps_eq er1 et10⟩
  rintro H20 ⟨P13, vs7, acc2, rs3, b2, e13, w19, al16, hlen2, hsum2, et12⟩
  rw [drop_range_all, mps] at et12
  rw [mps_acc hsum2 et12] at al16; rw [mps_box et12] at w19
  refine ⟨(by show 2 ≤ sizeLine; decide), fun p7 np7 => ?_⟩
  have e14 := w19.fext np7 (HO.tup ([(.ref p1), (.ref D1)] : List V))
  have w20 := w19.frz np7 (HO.tup ([(.ref p1), (.ref D1)] : List V))
  have fq5 : upd P13 p7 (HO.tup ([(.ref p1), (.ref D1)] : List V)) p7 = some (HO.tup ([(.ref p1), (.ref D1)] : List V)) := upd_same
  generalize upd H20 p7 (HO.tup ([(.ref p1), (.ref D1)] : List V)) = H21 at w20 ⊢
  generalize upd P13 p7 (HO.tup ([(.ref p1), (.ref D1)] : List V)) = P14 at w20 e14 fq5
  obtain rfl := Option.some.inj eR
  exact q H21 P14 p7 p1 D1 vs5 vs7 ((e10.trans e13).trans e14) w20 fq5 (DLR.up (e13.trans e14) al14) (AR.up e14 al16)
theorem fn_table {P : Program} {w : World} {K : PySem.W.Frag} {mg : Str → Option Value} {base : Heap} {G : GA} {f : Addr} {fd : FuncData} (T : Tx P w K G mg base) (F : Fun K "_law_table" "_law_table" s_table f fd) : FnOk P w K mg base CX0 3 f fd ["_law_box_here", "_law_named", "_law_count"] (sp_table K G) := by
  refine F.ok sc_table (fun vs H Q E h => ?_) (fun cdv A outer s H vs Q E hr h => ⟨t_table K G, ?_, rd_table T.fa vs H Q E h⟩)
  · obtain ⟨_, _, _, _, _, _, _, _, _, rfl, _⟩ := h
    rfl
  · exact (pss_cons (ps_set (i := 3) sc_table.nd rfl (.inl rfl) (pe_lst pa_nil)) (pss_cons (ps_for PassesOwn.never rfl (pi_range1 (by rfl) T.z_range (pa_cons (pv 2) pa_nil)) (pg_name (i := 4) sc_table.nd rfl (Or.inl rfl)) (pss_cons (ps_set (i := 5) sc_table.nd rfl (.inl rfl) pe_dnewK) (pss_cons (ps_for PassesOwn.never rfl (pi_list (pe_op op_cat (pe_callTy (c_listS rfl) (by rfl) T.z_list (by decide +kernel) (pa_cons (pv 1) pa_nil)) (pe_lst (pa_cons pe_strS (pa_cons pe_strS (pa_cons pe_strS pa_nil)))))) (pg_name (i := 6) sc_table.nd rfl (Or.inl rfl)) (pss_cons (ps_set (i := 7) sc_table.nd rfl (.inl rfl) (pe_c (c_take T) hr (by decide) (by rfl) (pa_cons (pv 0) (pa_cons (pv 2) pa_nil)))) (pss_one (ps_dput (un1 hr.units) (pv 5) (pv 6) (pe_tup (pa_cons (pv 7) (pa_cons (pe_c (c_word T) hr (by decide) (by rfl) (pa_cons (pv 0) (pa_cons (pv 1) (pa_cons pe_int pa_nil)))) pa_nil))) (by rfl))))) (pss_one (ps_expr (pe_bm PySem.F.plainAttrs_list PySem.F.slot_list_append PySem.F.type_list_append mt_append (pv 3) (pa_cons (pv 5) pa_nil))))))) (pss_one (ps_ret (pe_tup (pa_cons (pv 3) (pa_cons (pe_lc (own := [("_law_k", 4)]) rfl sc_table.nd (pi_range1 (by rfl) T.z_range (pa_cons (pv 2) pa_nil)) (blkOk_by (N := ["_law_box_here", "_law_named", "_law_count", "_law_arcs", "_law_k", "_law_row", "_law_key", "_law_target"]) (sc := defScope s_table) (by decide +kernel)) (fun _ _ _ _ _ => (pg_name (i := 4) sc_table.nd rfl (Or.inl rfl))) (fun _ _ _ _ _ => pts_nil) (fun _ _ _ _ _ => (pe_c (c_word T) hr (by decide) (by rfl) (pa_cons (pv 0) (pa_cons (pv 1) (pa_cons pe_int pa_nil)))))) pa_nil)))))))
theorem c_table {P : Program} {w : World} {K : PySem.W.Frag} {mg : Str → Option Value} {base : Heap} {G : GA} (T : Tx P w K G mg base) : Cal P w K mg base 3 "_law_table" (sp_table K G) := by
  obtain ⟨f, fd, F, b, g⟩ := T.d_table
  exact ⟨f, fd, _, fn_table T F, g, F.kp, b⟩

def bd_copied_2 (it1 : (List ((List Nat) × (Int × (List Nat))))) (it2 : (List Nat)) (s2 : (List ((List Nat) × (Int × (List Nat))))) : Option (List ((List Nat) × (Int × (List Nat)))) :=
  (chk ((dL it1 it2).isSome = true) (chk (s2.length < 1000000) (some (dP s2 it2 ((dL it1 it2).getD (default : (Int × (List Nat))))))))
def bd_copied_1 (it1 : (List ((List Nat) × (Int × (List Nat))))) (s1 : (List (List ((List Nat) × (Int × (List Nat)))))) : Option (List (List ((List Nat) × (Int × (List Nat))))) :=
  (ob (itf (bd_copied_2 it1) (srt ltT (it1.map (fun x => x.1))) ([] : (List ((List Nat) × (Int × (List Nat)))))) (fun (s3 : (List ((List Nat) × (Int × (List Nat))))) => (chk (s1.length < 1000000) (some (s1 ++ [s3])))))
def m_copied (arcs1 : (List (List ((List Nat) × (Int × (List Nat)))))) : Option (List (List ((List Nat) × (Int × (List Nat))))) :=
  (ob (itf bd_copied_1 arcs1 ([] : List (List ((List Nat) × (Int × (List Nat)))))) (fun (s4 : (List (List ((List Nat) × (Int × (List Nat)))))) => (some s4)))
def sp_copied (K : PySem.W.Frag) (G : GA) : Sp := fun vs H Q E => ∃ (P : Hp) (cs0 : Cs) (varcs1 : V) (arcs1 : (List (List ((List Nat) × (Int × (List Nat)))))) (R0 : (List (List ((List Nat) × (Int × (List Nat)))))), vs = [varcs1] ∧ Wd G.T P H (cs0) ∧ (yL (yD kS (y2 K yI yS))) P varcs1 arcs1 ∧ m_copied arcs1 = some R0 ∧ ∀ (H1 P1 : Hp) (p1 : Addr) (vs1 : List V), Ext P P1 → Wd G.T P1 H1 ((p1, HO.lst vs1) :: (cs0)) → AR (yD kS (y2 K yI yS)) P1 vs1 R0 → Q (.ref p1) H1
def t_copied (K : PySem.W.Frag) (G : GA) : TS := (tSeq (tAsg (tLst tNil) (gName 1)) (tSeq (tFor (iList K (tVar 0)) (gName 2) (tSeq (tAsg tDNewK (gName 3)) (tSeq (tFor (iList K (tCB (rSrt K yS ltT) (tCons (tCB rListK (tCons (tVar 2) tNil)) tNil))) (gName 4) (sDPut (tVar 3) (tVar 4) (tDGet (tVar 2) (tVar 4)))) (tLockB (tDrop (tBM K "list" rAppend (tVar 1) (tCons (tVar 3) tNil))))))) (tRet (tVar 1))))
theorem sc_copied : FnScope ["_law_arcs", "_law_copies", "_law_row", "_law_copy", "_law_key"] ["_law_arcs"] (defScope s_copied) := ⟨rfl, rfl, rfl, by decide +kernel, rfl, by decide +kernel, by decide +kernel⟩
theorem rd_copied {K : PySem.W.Frag} {G : GA} (F : Fa K G) (vs : List V) (H : Hp) (Q : VK) (E : XK) (h : sp_copied K G vs H Q E) : t_copied K G { nx := fun _ H1 => Q .non H1, rt := Q } (L2.start ["_law_arcs", "_law_copies", "_law_row", "_law_copy", "_law_key"] vs) H := by
  obtain ⟨P, cs0, varcs1, arcs1, R0, rfl, w, hdarcs1, eR, q⟩ := h
  unfold m_copied at eR
  obtain ⟨a1, vs1, rfl, fq1, al1⟩ := hdarcs1
  refine ⟨(by show 0 ≤ sizeLine; decide), fun p1 np1 => ?_⟩
  have al2 : AR (yD kS (y2 K yI yS)) P ([] : List V) ([] : List (List ((List Nat) × (Int × (List Nat))))) := AR.nil
  have w1 := w.new np1 (HO.lst ([] : List V))
  generalize upd H p1 (HO.lst ([] : List V)) = H1 at w1 ⊢
  obtain ⟨t1, et1, eR⟩ := ob_some eR
  obtain ⟨F1, hF1, et1⟩ := nm_itf et1
  refine ⟨_, rfl, a1, rfl, ⟨_, .inl (.inl (w1.sub _ _ fq1))⟩, for_it (walk_list (K := K) (a := a1) (xs := vs1)) (fun i σz Hz => ∃ (Pz : Hp) (zs : (List (List ((List Nat) × (Int × (List Nat)))))) (lz0 : List V) (yz0 : Option V) (yz1 : Option V) (yz2 : Option V), Ext P Pz ∧ σz = [some (.ref a1), some (.ref p1), yz2, yz0, yz1] ∧ Wd G.T Pz Hz ((p1, (HO.lst lz0)) :: cs0) ∧ AR (yD kS (y2 K yI yS)) Pz lz0 zs ∧ itf F1 (arcs1.drop i) zs = some t1) ?_ ?_ ?_ ?_⟩
  · exact ⟨P, ([] : List (List ((List Nat) × (Int × (List Nat))))), ([] : List V), none, none, none, Ext.refl _, rfl, w1, al2, et1⟩
  · rintro i σz Hz _ ⟨Pz, zs, lz0, yz0, yz1, yz2, ee, rfl, ww, _⟩
    exact .inl (.inl (ww.sub _ _ (ee _ _ fq1)))
  · rintro i1 x1 _ H2 H3 hi1 ⟨P1, s1, vs2, od1, od2, od3, e1, rfl, w2, al3, et2⟩ hy1
    obtain ⟨eH1, hx1⟩ := hy1
    rw [eH1]
    obtain ⟨it1, _, hd1, eD1⟩ := AR.get (AR.up e1 al1) hx1
    obtain ⟨a2, od4, vs3, rfl, fq2, al4⟩ := hd1
    rw [eD1, itf] at et2
    obtain ⟨o1, eo1, et2⟩ := ob_some et2
    rw [hF1] at eo1
    unfold bd_copied_1 at eo1
    intro p2 np2
    have al5 : DR kS (y2 K yI yS) P1 ([] : List (Key × V)) ([] : (List ((List Nat) × (Int × (List Nat))))) := DR.nil
    have w3 := w2.new np2 (HO.dK ([] : List (Key × V)))
    generalize upd H2 p2 (HO.dK ([] : List (Key × V))) = H4 at w3 ⊢
    refine ⟨_, rfl, a2, vs3, rfl, (.inr ⟨_, w3.sub _ _ fq2⟩), fun p3 np3 => ?_⟩
    have al6 : AR yS P1 (vs3.map (fun kv => kV kv.1)) (it1.map (fun x => x.1)) := (DR.keysS al4)
    have e2 := w3.fext np3 (HO.lst (vs3.map (fun kv => kV kv.1)))
    have w4 := w3.frz np3 (HO.lst (vs3.map (fun kv => kV kv.1)))
    have fq3 : upd P1 p3 (HO.lst (vs3.map (fun kv => kV kv.1))) p3 = some (HO.lst (vs3.map (fun kv => kV kv.1))) := upd_same
    generalize upd H4 p3 (HO.lst (vs3.map (fun kv => kV kv.1))) = H5 at w4 ⊢
    generalize upd P1 p3 (HO.lst (vs3.map (fun kv => kV kv.1))) = P2 at w4 e2 fq3
    have al7 := (AR.up e2 al6)
    refine ⟨p3, (vs3.map (fun kv => kV kv.1)), (it1.map (fun x => x.1)), rfl, (.inl (.inl (w4.sub _ _ fq3))), (AR.up w4.sub al7), fun p4 vs4 np4 har1 => ?_⟩
    have al8 := har1 P2 al7
    have e3 := w4.fext np4 (HO.lst vs4)
    have w5 := w4.frz np4 (HO.lst vs4)
    have fq4 : upd P2 p4 (HO.lst vs4) p4 = some (HO.lst vs4) := upd_same
    generalize upd H5 p4 (HO.lst vs4) = H6 at w5 ⊢
    generalize upd P2 p4 (HO.lst vs4) = P3 at w5 e3 fq4
    have al9 := (AR.up e3 al8)
    obtain ⟨t2, et3, eo1⟩ := ob_some eo1
    obtain ⟨F2, hF2, et3⟩ := nm_itf et3
    refine ⟨p4, rfl, ⟨_, .inl (.inl (w5.sub _ _ fq4))⟩, for_it (walk_list (K := K) (a := p4) (xs := vs4)) (fun i σz Hz => ∃ (Pz : Hp) (zs : (List ((List Nat) × (Int × (List Nat))))) (lz0 : List (Key × V)) (yz0 : Option V), Ext P3 Pz ∧ σz = [some (.ref a1), some (.ref p1), some (.ref a2), some (.ref p2), yz0] ∧ Wd G.T Pz Hz ((p2, (HO.dK lz0)) :: (p1, (HO.lst vs2)) :: cs0) ∧ DR kS (y2 K yI yS) Pz lz0 zs ∧ itf F2 ((srt ltT (it1.map (fun x => x.1))).drop i) zs = some t2) ?_ ?_ ?_ ?_⟩
    · exact ⟨P3, ([] : (List ((List Nat) × (Int × (List Nat))))), ([] : List (Key × V)), od2, Ext.refl _, rfl, w5, (DR.up (e2.trans e3) al5), et3⟩
    · rintro i σz Hz _ ⟨Pz, zs, lz0, yz0, ee, rfl, ww, _⟩
      exact .inl (.inl (ww.sub _ _ (ee _ _ fq4)))
    · rintro i2 x2 _ H7 H8 hi2 ⟨P4, s2, vs5, od5, e4, rfl, w6, al10, et4⟩ hy2
      obtain ⟨eH2, hx2⟩ := hy2
      rw [eH2]
      obtain ⟨it2, _, hd2, eD2⟩ := AR.get (AR.up e4 al9) hx2
      obtain rfl : x2 = (S it2) := hd2
      rw [eD2, itf] at et4
      obtain ⟨o2, eo2, et4⟩ := ob_some et4
      rw [hF2] at eo2
      unfold bd_copied_2 at eo2
      obtain ⟨hc1, eo2⟩ := chk_some eo2
      obtain ⟨v1, hv1, hd3⟩ := DR.get (k := it2) (d := (default : (Int × (List Nat)))) (DR.up ((e2.trans e3).trans e4) al4) hc1
      obtain ⟨a3, u1, u2, rfl, fq5, hu1, hu2⟩ := hd3
      obtain rfl : u1 = (V.int ((dL it1 it2).getD (default : (Int × (List Nat)))).1) := hu1
      obtain rfl : u2 = (S ((dL it1 it2).getD (default : (Int × (List Nat)))).2) := hu2
      obtain ⟨hc2, eo2⟩ := chk_some eo2
      refine ⟨_, rfl, _, rfl, a2, _, rfl, (.inl ⟨vs3, kS it2, (.inr ⟨_, w6.sub _ _ (((e2.trans e3).trans e4) _ _ fq2)⟩), rfl, hv1.symm⟩), _, rfl, _, rfl, p2, _, rfl, (.inl ⟨vs5, (kS it2), (w6.get 0 rfl), rfl, (szl (by rw [DR.len al10]; exact hc2)), rfl⟩), ?_⟩
      have al11 : DR kS (y2 K yI yS) P4 (putK vs5 (kS it2) (.ref a3)) (dP s2 it2 ((dL it1 it2).getD (default : (Int × (List Nat))))) := (DR.put al10 ⟨_, _, _, rfl, fq5, rfl, rfl⟩)
      generalize (putK vs5 (kS it2) (.ref a3)) = vs6 at al11 ⊢
      have w7 : Wd G.T P4 (upd H7 p2 (HO.dK vs6)) ((p2, (HO.dK vs6)) :: (p1, (HO.lst vs2)) :: cs0) := w6.put 0 (HO.dK vs6) rfl
      generalize upd H7 p2 (HO.dK vs6) = H9 at w7 ⊢
      obtain rfl := Option.some.inj eo2
      exact ⟨P4, (dP s2 it2 ((dL it1 it2).getD (default : (Int × (List Nat))))), vs6, (some (S it2)), e4, rfl, w7, al11, et4⟩
    rintro _ H10 ⟨P5, s3, vs7, od6, e5, rfl, w8, al12, et5⟩
    rw [AR.dropall al9, itf] at et5
    obtain rfl := Option.some.inj et5
    refine ⟨p2, _, (w8.get 0 rfl), trivial, fun od7 => ?_⟩
    have w9 := (w8.put 0 (HO.frz od7 (HO.dK vs7)) rfl).pull 0 rfl
    have e6 : Ext P5 (upd P5 p2 (HO.frz od7 (HO.dK vs7))) := w9.kext
    have w10 : Wd G.T (upd P5 p2 (HO.frz od7 (HO.dK vs7))) (upd H10 p2 (HO.frz od7 (HO.dK vs7))) ((p1, (HO.lst vs2)) :: cs0) := w9.keep
    have fq6 : upd P5 p2 (HO.frz od7 (HO.dK vs7)) p2 = some (HO.frz od7 (HO.dK vs7)) := upd_same
    clear w9
    generalize upd H10 p2 (HO.frz od7 (HO.dK vs7)) = H11 at w10 ⊢
    generalize upd P5 p2 (HO.frz od7 (HO.dK vs7)) = P6 at w10 e6 fq6
    have al13 := (DR.up e6 al12)
    obtain ⟨hc3, eo1⟩ := chk_some eo1
    refine ⟨_, rfl, .inl ⟨rfl, _, .inl (.inl (w10.get 0 rfl))⟩, _, rfl, _, _, _, rfl, rfl, (w10.get 0 rfl), (szl (by rw [AR.len (AR.up (((e2.trans e3).trans e5).trans e6) al3)]; exact hc3)), ?_⟩
    have al14 : AR (yD kS (y2 K yI yS)) P6 (vs2 ++ [(.ref p2)]) (s1 ++ [s3]) := (AR.snoc (AR.up (((e2.trans e3).trans e5).trans e6) al3) ⟨_, _, _, rfl, fq6, al13⟩)
    have w11 : Wd G.T P6 (upd H11 p1 (HO.lst (vs2 ++ [(.ref p2)]))) ((p1, (HO.lst (vs2 ++ [(.ref p2)]))) :: cs0) := w10.put 0 (HO.lst (vs2 ++ [(.ref p2)])) rfl
    generalize upd H11 p1 (HO.lst (vs2 ++ [(.ref p2)])) = H12 at w11 ⊢
    generalize (vs2 ++ [(.ref p2)]) = vs8 at w11 al14
    obtain rfl := Option.some.inj eo1
    exact ⟨P6, (s1 ++ [s3]), vs8, (some (.ref p2)), od6, (some (.ref a2)), ((((e1.trans e2).trans e3).trans e5).trans e6), rfl, w11, al14, et2⟩
  rintro _ H13 ⟨P7, s4, vs9, od8, od9, od10, e7, rfl, w12, al15, et6⟩
  rw [AR.dropall al1, itf] at et6
  obtain rfl := Option.some.inj et6
  refine ⟨_, rfl, ?_⟩
  obtain rfl := Option.some.inj eR
  exact q H13 P7 p1 vs9 e7 w12 al15
theorem fn_copied {P : Program} {w : World} {K : PySem.W.Frag} {mg : Str → Option Value} {base : Heap} {G : GA} {f : Addr} {fd : FuncData} (T : Tx P w K G mg base) (F : Fun K "_law_copied" "_law_copied" s_copied f fd) : FnOk P w K mg base CX0 4 f fd ["_law_arcs"] (sp_copied K G) := by
  refine F.ok sc_copied (fun vs H Q E h => ?_) (fun cdv A outer s H vs Q E hr h => ⟨t_copied K G, ?_, rd_copied T.fa vs H Q E h⟩)
  · obtain ⟨_, _, _, _, _, rfl, _⟩ := h
    rfl
  · exact (pss_cons (ps_set (i := 1) sc_copied.nd rfl (.inl rfl) (pe_lst pa_nil)) (pss_cons (ps_for PassesOwn.never rfl (pi_list (pv 0)) (pg_name (i := 2) sc_copied.nd rfl (Or.inl rfl)) (pss_cons (ps_set (i := 3) sc_copied.nd rfl (.inl rfl) pe_dnewK) (pss_cons (ps_for PassesOwn.never rfl (pi_list (pe_callB (c_sortedK (K := K) (R := yS) (lt := ltT) ((hr.mono (by decide : 2 ≤ _)).in1.in1).units) (by rfl) T.z_sorted (by decide +kernel) (pa_cons (pe_callTy (c_listK rfl) (by rfl) T.z_list (by decide +kernel) (pa_cons (pv 2) pa_nil)) pa_nil))) (pg_name (i := 4) sc_copied.nd rfl (Or.inl rfl)) (pss_one (ps_dput (un1 hr.units) (pv 3) (pv 4) (pe_dget (un1 hr.units) (pv 2) (pv 4) (fun _ _ => rfl)) (by rfl)))) (pss_lockB (pss_one (ps_expr (pe_bm PySem.F.plainAttrs_list PySem.F.slot_list_append PySem.F.type_list_append mt_append (pv 1) (pa_cons (pv 3) pa_nil)))))))) (pss_one (ps_ret (pv 1)))))
theorem c_copied {P : Program} {w : World} {K : PySem.W.Frag} {mg : Str → Option Value} {base : Heap} {G : GA} (T : Tx P w K G mg base) : Cal P w K mg base 4 "_law_copied" (sp_copied K G) := by
  obtain ⟨f, fd, F, b, g⟩ := T.d_copied
  exact ⟨f, fd, _, fn_copied T F, g, F.kp, b⟩

def m_in_order (signs1 : (List Nat)) : Option (List Nat) :=
  (chk (cSIGNS.length ≤ 1000000) (chk ((((cSIGNS.filter (fun ic0 => (decide (ic0 ∈ signs1)))).map (fun ic0 => ([ic0] : List Nat))).map List.length).sum + ((cSIGNS.filter (fun ic0 => (decide (ic0 ∈ signs1)))).map (fun ic0 => ([ic0] : List Nat))).length * (cs "").length ≤ 1000000) (some (TL.joinL (cs "") ((cSIGNS.filter (fun ic0 => (decide (ic0 ∈ signs1)))).map (fun ic0 => ([ic0] : List Nat)))))))
def sp_in_order (K : PySem.W.Frag) (G : GA) : Sp := fun vs H Q E => ∃ (P : Hp) (cs0 : Cs) (signs1 : (List Nat)) (R0 : (List Nat)), vs = [(S signs1)] ∧ Wd G.T P H (cs0) ∧ m_in_order signs1 = some R0 ∧ ∀ (H1 P1 : Hp), Ext P P1 → Wd G.T P1 H1 (cs0) → Q (S R0) H1
def t_in_order (K : PySem.W.Frag) (G : GA) : TS := (tRet (tM1 (rJoin K) (tC (S (cs ""))) (tLc (iStr (tC (S cSIGNS))) (gName 1) (tTest (tOp rInS (tVar 1) (tVar 0))) (tVar 1) [1])))
theorem sc_in_order : FnScope ["signs", "sign"] ["signs"] (defScope s_in_order) := ⟨rfl, rfl, rfl, by decide +kernel, rfl, by decide +kernel, by decide +kernel⟩
theorem rd_in_order {K : PySem.W.Frag} {G : GA} (F : Fa K G) (vs : List V) (H : Hp) (Q : VK) (E : XK) (h : sp_in_order K G vs H Q E) : t_in_order K G { nx := fun _ H1 => Q .non H1, rt := Q } (L2.start ["signs", "sign"] vs) H := by
  obtain ⟨P, cs0, signs1, R0, rfl, w, eR, q⟩ := h
  unfold m_in_order at eR
  obtain ⟨hc1, eR⟩ := chk_some eR
  refine ⟨⟨_, rfl⟩, _, rfl, fun D1 nD1 => ?_⟩
  refine lc_it (walk_str (z := ⟨⟨cSIGNS⟩⟩)) (fun i Hz => ∃ (Pz : Hp) (vsz : List V), Ext P Pz ∧ Wd G.T Pz Hz ((D1, (HO.lst vsz)) :: cs0) ∧ AR yS Pz vsz (((cSIGNS.take i).filter (fun ic0 => (decide (ic0 ∈ signs1)))).map (fun ic0 => ([ic0] : List Nat)))) ?_ ?_ ?_ ?_
  · exact ⟨P, [], Ext.refl _, w.new nD1 _, AR.nil⟩
  · rintro i Hz _ ⟨Pz, vsz, ee, ww, _⟩
    trivial
  · rintro i1 x1 H1 H2 hi1 ⟨P1, vs1, e1, w1, al1⟩ hy1
    obtain ⟨eH1, hx1⟩ := hy1
    rw [eH1]
    obtain ⟨it1, hitit1, exit1⟩ := hx1
    obtain rfl : x1 = S ([it1] : List Nat) := exit1
    have eD1 := str_drop hitit1
    refine ⟨rfl, ?_⟩
    refine ⟨_, rfl, _, rfl, it1, _, rfl, rfl, _, rfl, ?_⟩
    refine iteB (fun hb1 => ?_) (fun hb1 => ?_)
    · refine ⟨_, rfl, vs1, (w1.get 0 rfl), (szl (by rw [AR.len al1]; exact Nat.lt_of_le_of_lt len_tf (Nat.lt_of_lt_of_le hi1 (str_bnd hc1)))), ?_⟩
      exact ⟨P1, _, e1, (w1.put 0 (HO.lst (vs1 ++ [(S ([it1] : List Nat))])) rfl), (by rw [take_snoc_filter eD1 (p := fun it1 => (decide (it1 ∈ signs1))) hb1]; exact (AR.snoc al1 rfl))⟩
    · exact ⟨P1, _, e1, w1, (by rw [take_snoc_filter_no eD1 (p := fun it1 => (decide (it1 ∈ signs1))) hb1]; exact al1)⟩
  rintro H3 ⟨P2, vs2, e2, w2, al2⟩
  rw [take_str_all] at al2
  have e3 : Ext P2 (upd P2 D1 (HO.lst vs2)) := w2.kext
  have w3 : Wd G.T (upd P2 D1 (HO.lst vs2)) H3 (cs0) := w2.keep
  have fq1 : upd P2 D1 (HO.lst vs2) D1 = some (HO.lst vs2) := upd_same
  generalize upd P2 D1 (HO.lst vs2) = P3 at w3 e3 fq1
  have al3 := (AR.up e3 al2)
  obtain ⟨hc2, eR⟩ := chk_some eR
  refine ⟨_, D1, ((cSIGNS.filter (fun ic0 => (decide (ic0 ∈ signs1)))).map (fun ic0 => ([ic0] : List Nat))), rfl, rfl, (.inl (ar_strs al3 ▸ (.inl (.inl (w3.sub _ _ fq1))))), (Nat.le_trans hc2 (by decide)), ?_⟩
  obtain rfl := Option.some.inj eR
  exact q H3 P3 (e2.trans e3) w3
theorem fn_in_order {P : Program} {w : World} {K : PySem.W.Frag} {mg : Str → Option Value} {base : Heap} {G : GA} {f : Addr} {fd : FuncData} (T : Tx P w K G mg base) (F : Fun K "in_order" "in_order" s_in_order f fd) : FnOk P w K mg base CX0 1 f fd ["signs"] (sp_in_order K G) := by
  refine F.ok sc_in_order (fun vs H Q E h => ?_) (fun cdv A outer s H vs Q E hr h => ⟨t_in_order K G, ?_, rd_in_order T.fa vs H Q E h⟩)
  · obtain ⟨_, _, _, _, rfl, _⟩ := h
    rfl
  · exact (pss_one (ps_ret (pe_m1 PySem.F.slot_str_join PySem.F.type_str_join m_join pe_strS (pe_lc (own := [("sign", 1)]) rfl sc_in_order.nd (pi_str (pe_gc (by rfl) T.g_SIGNS)) (blkOk_by (N := ["signs", "sign"]) (sc := defScope s_in_order) (by decide +kernel)) (fun _ _ _ _ _ => (pg_name (i := 1) sc_in_order.nd rfl (Or.inl rfl))) (fun _ _ _ _ _ => pts_one (pt_cmpR o_inS (pv 1) (pv 0) (by rfl))) (fun _ _ _ _ _ => (pv 1))))))
theorem c_in_order {P : Program} {w : World} {K : PySem.W.Frag} {mg : Str → Option Value} {base : Heap} {G : GA} (T : Tx P w K G mg base) : Cal P w K mg base 1 "in_order" (sp_in_order K G) := by
  obtain ⟨f, fd, F, b, g⟩ := T.d_in_order
  exact ⟨f, fd, _, fn_in_order T F, g, F.kp, b⟩

def m_only_named (text1 : (List Nat)) (signs1 : (List Nat)) : Option Bool :=
  (chk (text1.length ≤ 1000000) (some ((text1.map (fun ic0 => (decide (ic0 ∈ signs1)))).all id)))
def sp_only_named (K : PySem.W.Frag) (G : GA) : Sp := fun vs H Q E => ∃ (P : Hp) (cs0 : Cs) (text1 : (List Nat)) (signs1 : (List Nat)) (R0 : Bool), vs = [(S text1), (S signs1)] ∧ Wd G.T P H (cs0) ∧ m_only_named text1 signs1 = some R0 ∧ ∀ (H1 P1 : Hp), Ext P P1 → Wd G.T P1 H1 (cs0) → Q (V.bl R0) H1
def t_only_named (K : PySem.W.Frag) (G : GA) : TS := (tRet (tCB (rAll K) (tCons (tLc (iStr (tVar 0)) (gName 2) tYes (tOp rInS (tVar 2) (tVar 1)) [2]) tNil)))
theorem sc_only_named : FnScope ["text", "signs", "sign"] ["text", "signs"] (defScope s_only_named) := ⟨rfl, rfl, rfl, by decide +kernel, rfl, by decide +kernel, by decide +kernel⟩
theorem rd_only_named {K : PySem.W.Frag} {G : GA} (F : Fa K G) (vs : List V) (H : Hp) (Q : VK) (E : XK) (h : sp_only_named K G vs H Q E) : t_only_named K G { nx := fun _ H1 => Q .non H1, rt := Q } (L2.start ["text", "signs", "sign"] vs) H := by
  obtain ⟨P, cs0, text1, signs1, R0, rfl, w, eR, q⟩ := h
  unfold m_only_named at eR
  obtain ⟨hc1, eR⟩ := chk_some eR
  refine ⟨_, rfl, _, rfl, fun D1 nD1 => ?_⟩
  refine lc_it (walk_str (z := ⟨⟨text1⟩⟩)) (fun i Hz => ∃ (Pz : Hp) (vsz : List V), Ext P Pz ∧ Wd G.T Pz Hz ((D1, (HO.lst vsz)) :: cs0) ∧ AR yB Pz vsz ((text1.take i).map (fun ic0 => (decide (ic0 ∈ signs1))))) ?_ ?_ ?_ ?_
  · exact ⟨P, [], Ext.refl _, w.new nD1 _, AR.nil⟩
  · rintro i Hz _ ⟨Pz, vsz, ee, ww, _⟩
    trivial
  · rintro i1 x1 H1 H2 hi1 ⟨P1, vs1, e1, w1, al1⟩ hy1
    obtain ⟨eH1, hx1⟩ := hy1
    rw [eH1]
    obtain ⟨it1, hitit1, exit1⟩ := hx1
    obtain rfl : x1 = S ([it1] : List Nat) := exit1
    have eD1 := str_drop hitit1
    refine ⟨rfl, ?_⟩
    refine ⟨_, rfl, _, rfl, it1, _, rfl, rfl, vs1, (w1.get 0 rfl), (szl (by rw [AR.len al1]; exact Nat.lt_of_le_of_lt len_tm (Nat.lt_of_lt_of_le hi1 (str_bnd hc1)))), ?_⟩
    exact ⟨P1, _, e1, (w1.put 0 (HO.lst (vs1 ++ [(V.bl (decide (it1 ∈ signs1)))])) rfl), (by rw [take_snoc_map eD1]; exact (AR.snoc al1 rfl))⟩
  rintro H3 ⟨P2, vs2, e2, w2, al2⟩
  rw [take_str_all] at al2
  have e3 : Ext P2 (upd P2 D1 (HO.lst vs2)) := w2.kext
  have w3 : Wd G.T (upd P2 D1 (HO.lst vs2)) H3 (cs0) := w2.keep
  have fq1 : upd P2 D1 (HO.lst vs2) D1 = some (HO.lst vs2) := upd_same
  generalize upd P2 D1 (HO.lst vs2) = P3 at w3 e3 fq1
  have al3 := (AR.up e3 al2)
  refine ⟨D1, (text1.map (fun ic0 => (decide (ic0 ∈ signs1)))), rfl, (ar_bools al3 ▸ (.inl (.inl (w3.sub _ _ fq1)))), ?_⟩
  obtain rfl := Option.some.inj eR
  exact q H3 P3 (e2.trans e3) w3
theorem fn_only_named {P : Program} {w : World} {K : PySem.W.Frag} {mg : Str → Option Value} {base : Heap} {G : GA} {f : Addr} {fd : FuncData} (T : Tx P w K G mg base) (F : Fun K "only_named" "only_named" s_only_named f fd) : FnOk P w K mg base CX0 1 f fd ["text", "signs"] (sp_only_named K G) := by
  refine F.ok sc_only_named (fun vs H Q E h => ?_) (fun cdv A outer s H vs Q E hr h => ⟨t_only_named K G, ?_, rd_only_named T.fa vs H Q E h⟩)
  · obtain ⟨_, _, _, _, _, rfl, _⟩ := h
    rfl
  · exact (pss_one (ps_ret (pe_callB (cr_all rfl) (by rfl) T.z_all (by decide +kernel) (pa_cons (pe_lc (own := [("sign", 2)]) rfl sc_only_named.nd (pi_str (pv 0)) (blkOk_by (N := ["text", "signs", "sign"]) (sc := defScope s_only_named) (by decide +kernel)) (fun _ _ _ _ _ => (pg_name (i := 2) sc_only_named.nd rfl (Or.inl rfl))) (fun _ _ _ _ _ => pts_nil) (fun _ _ _ _ _ => (pe_cmpR o_inS (pv 2) (pv 1) (by rfl)))) pa_nil))))
theorem c_only_named {P : Program} {w : World} {K : PySem.W.Frag} {mg : Str → Option Value} {base : Heap} {G : GA} (T : Tx P w K G mg base) : Cal P w K mg base 1 "only_named" (sp_only_named K G) := by
  obtain ⟨f, fd, F, b, g⟩ := T.d_only_named
  exact ⟨f, fd, _, fn_only_named T F, g, F.kp, b⟩

def bd_is_row_1 (signs1 : (List Nat)) (size1 : Int) (it1 : (Int × (List Nat))) (s1 : Unit) : Option (Lr Unit Bool) :=
  (ob (if (!((decide (0 ≤ it1.1)) && (decide (it1.1 < size1)))) then (some true) else (ob (m_only_named it1.2 signs1) (fun (t5 : Bool) => (some (!t5))))) (fun (t4 : Bool) => (if t4 then (some (Lr.rt false)) else (some (Lr.nx ())))))
def m_is_row (row1 : (List ((List Nat) × (Int × (List Nat))))) (ending1 : (List Nat)) (signs1 : (List Nat)) (size1 : Int) : Option Bool :=
  (ob (chk (signs1.length ≤ 1000000) (chk ((signs1.map (fun c => [c])).length + ([cs "letter", cs "figure", cs "mark"] : List (List Nat)).length ≤ 1000000) (chk ((okL okS) (srt ltT (row1.map (fun x => x.1))) = true ∧ (okL okS) (srt ltT ((signs1.map (fun c => [c])) ++ ([cs "letter", cs "figure", cs "mark"] : List (List Nat)))) = true) (if (!(decide ((srt ltT (row1.map (fun x => x.1))) = (srt ltT ((signs1.map (fun c => [c])) ++ ([cs "letter", cs "figure", cs "mark"] : List (List Nat))))))) then (some true) else (ob (m_only_named ending1 signs1) (fun (t2 : Bool) => (some (!t2)))))))) (fun (t1 : Bool) => (if t1 then (some false) else (ob (itr (bd_is_row_1 signs1 size1) (row1.map (fun x => x.2)) ()) (fun (t3 : (Lr Unit Bool)) => Lr.el t3 (fun (r : Bool) => some r) (fun (s2 : Unit) => (some true)))))))
def sp_is_row (K : PySem.W.Frag) (G : GA) : Sp := fun vs H Q E => ∃ (P : Hp) (cs0 : Cs) (vrow1 : V) (row1 : (List ((List Nat) × (Int × (List Nat))))) (ending1 : (List Nat)) (signs1 : (List Nat)) (size1 : Int) (R0 : Bool), vs = [vrow1, (S ending1), (S signs1), (V.int size1)] ∧ Wd G.T P H (cs0) ∧ (yD kS (y2 K yI yS)) P vrow1 row1 ∧ m_is_row row1 ending1 signs1 size1 = some R0 ∧ ∀ (H1 P1 : Hp), Ext P P1 → Wd G.T P1 H1 (cs0) → Q (V.bl R0) H1
def t_is_row (K : PySem.W.Frag) (G : GA) : TS := (tSeq (tIfS (tOr (tTest (tOp (rNeR (yL yS) (okL okS)) (tCB (rSrt K yS ltT) (tCons (tCB rListK (tCons (tVar 0) tNil)) tNil)) (tCB (rSrt K yS ltT) (tCons (tOp rCat (tCB rListS (tCons (tVar 2) tNil)) (tCB (rListT K) (tCons (tC (V.ref G.aKINDS)) tNil))) tNil)))) (tNot (tB (tCall (sp_only_named K G) [] E0 (tCons (tVar 1) (tCons (tVar 2) tNil)))))) (tRet (tC (V.bl false))) tNext) (tSeq (tFor (iVals (tVar 0)) (gTup K 2 (gCons (gName 4) (gCons (gName 5) gNil))) (tIfS (tOr (tNot (tTest (tChain rLe rLt (tC (V.int 0)) (tVar 4) (tVar 3)))) (tNot (tB (tCall (sp_only_named K G) [] E0 (tCons (tVar 5) (tCons (tVar 2) tNil)))))) (tRet (tC (V.bl false))) tNext)) (tRet (tC (V.bl true)))))
theorem sc_is_row : FnScope ["row", "ending", "signs", "size", "target", "word"] ["row", "ending", "signs", "size"] (defScope s_is_row) := ⟨rfl, rfl, rfl, by decide +kernel, rfl, by decide +kernel, by decide +kernel⟩
theorem rd_is_row {K : PySem.W.Frag} {G : GA} (F : Fa K G) (vs : List V) (H : Hp) (Q : VK) (E : XK) (h : sp_is_row K G vs H Q E) : t_is_row K G { nx := fun _ H1 => Q .non H1, rt := Q } (L2.start ["row", "ending", "signs", "size", "target", "word"] vs) H := by
  obtain ⟨P, cs0, vrow1, row1, ending1, signs1, size1, R0, rfl, w, hdrow1, eR, q⟩ := h
  unfold m_is_row at eR
  obtain ⟨a1, od1, vs1, rfl, fq1, al1⟩ := hdrow1
  obtain ⟨t1, et1, eR⟩ := ob_some eR
  have hB1 : ∀ (Q : (Bool → Hp → Prop)), (∀ Hz Pz, Ext P Pz → Wd G.T Pz Hz (cs0) → Q t1 Hz) → (tOr (tTest (tOp (rNeR (yL yS) (okL okS)) (tCB (rSrt K yS ltT) (tCons (tCB rListK (tCons (tVar 0) tNil)) tNil)) (tCB (rSrt K yS ltT) (tCons (tOp rCat (tCB rListS (tCons (tVar 2) tNil)) (tCB (rListT K) (tCons (tC (V.ref G.aKINDS)) tNil))) tNil)))) (tNot (tB (tCall (sp_only_named K G) [] E0 (tCons (tVar 1) (tCons (tVar 2) tNil)))))) [some (.ref a1), some (S ending1), some (S signs1), some (V.int size1), none, none] H Q := by
    intro  Q hQ
    refine ⟨_, rfl, a1, vs1, rfl, (.inr ⟨_, w.sub _ _ fq1⟩), fun p1 np1 => ?_⟩
    have al2 : AR yS P (vs1.map (fun kv => kV kv.1)) (row1.map (fun x => x.1)) := (DR.keysS al1)
    have e1 := w.fext np1 (HO.lst (vs1.map (fun kv => kV kv.1)))
    have w1 := w.frz np1 (HO.lst (vs1.map (fun kv => kV kv.1)))
    have fq2 : upd P p1 (HO.lst (vs1.map (fun kv => kV kv.1))) p1 = some (HO.lst (vs1.map (fun kv => kV kv.1))) := upd_same
    generalize upd H p1 (HO.lst (vs1.map (fun kv => kV kv.1))) = H1 at w1 ⊢
    generalize upd P p1 (HO.lst (vs1.map (fun kv => kV kv.1))) = P1 at w1 e1 fq2
    have al3 := (AR.up e1 al2)
    refine ⟨p1, (vs1.map (fun kv => kV kv.1)), (row1.map (fun x => x.1)), rfl, (.inl (.inl (w1.sub _ _ fq2))), (AR.up w1.sub al3), fun p2 vs2 np2 har1 => ?_⟩
    have al4 := har1 P1 al3
    have e2 := w1.fext np2 (HO.lst vs2)
    have w2 := w1.frz np2 (HO.lst vs2)
    have fq3 : upd P1 p2 (HO.lst vs2) p2 = some (HO.lst vs2) := upd_same
    generalize upd H1 p2 (HO.lst vs2) = H2 at w2 ⊢
    generalize upd P1 p2 (HO.lst vs2) = P2 at w2 e2 fq3
    have al5 := (AR.up e2 al4)
    obtain ⟨hc1, et1⟩ := chk_some et1
    refine ⟨_, rfl, signs1, rfl, (sz hc1), fun p3 np3 => ?_⟩
    have al6 : AR yS P2 (signs1.map (fun c => S [c])) (signs1.map (fun c => [c])) := (signs_ar signs1)
    have e3 := w2.fext np3 (HO.lst (signs1.map (fun c => S [c])))
    have w3 := w2.frz np3 (HO.lst (signs1.map (fun c => S [c])))
    have fq4 : upd P2 p3 (HO.lst (signs1.map (fun c => S [c]))) p3 = some (HO.lst (signs1.map (fun c => S [c]))) := upd_same
    generalize upd H2 p3 (HO.lst (signs1.map (fun c => S [c]))) = H3 at w3 ⊢
    generalize upd P2 p3 (HO.lst (signs1.map (fun c => S [c]))) = P3 at w3 e3 fq4
    have al7 := (AR.up e3 al6)
    have sq1 := F.sKINDS P3
    have al8 : AR yS P3 ([S (cs "letter"), S (cs "figure"), S (cs "mark")] : List V) ([cs "letter", cs "figure", cs "mark"] : List (List Nat)) := strs_ar ([cs "letter", cs "figure", cs "mark"] : List (List Nat))
    refine ⟨G.aKINDS, ([S (cs "letter"), S (cs "figure"), S (cs "mark")] : List V), rfl, (w3.sqt sq1), fun p4 np4 => ?_⟩
    have al9 : AR yS P3 ([S (cs "letter"), S (cs "figure"), S (cs "mark")] : List V) ([cs "letter", cs "figure", cs "mark"] : List (List Nat)) := al8
    have e4 := w3.fext np4 (HO.lst ([S (cs "letter"), S (cs "figure"), S (cs "mark")] : List V))
    have w4 := w3.frz np4 (HO.lst ([S (cs "letter"), S (cs "figure"), S (cs "mark")] : List V))
    have fq5 : upd P3 p4 (HO.lst ([S (cs "letter"), S (cs "figure"), S (cs "mark")] : List V)) p4 = some (HO.lst ([S (cs "letter"), S (cs "figure"), S (cs "mark")] : List V)) := upd_same
    generalize upd H3 p4 (HO.lst ([S (cs "letter"), S (cs "figure"), S (cs "mark")] : List V)) = H4 at w4 ⊢
    generalize upd P3 p4 (HO.lst ([S (cs "letter"), S (cs "figure"), S (cs "mark")] : List V)) = P4 at w4 e4 fq5
    have al10 := (AR.up e4 al9)
    obtain ⟨hc2, et1⟩ := chk_some et1
    refine ⟨_, _, (signs1.map (fun c => S [c])), ([S (cs "letter"), S (cs "figure"), S (cs "mark")] : List V), rfl, rfl, (w4.sub _ _ (e4 _ _ fq4)), (w4.sub _ _ fq5), (sz (by simp only [AR.len (AR.up e4 al7), AR.len al10]; exact hc2)), fun p5 np5 => ?_⟩
    have al11 : AR yS P4 ((signs1.map (fun c => S [c])) ++ ([S (cs "letter"), S (cs "figure"), S (cs "mark")] : List V)) ((signs1.map (fun c => [c])) ++ ([cs "letter", cs "figure", cs "mark"] : List (List Nat))) := (AR.app (AR.up e4 al7) al10)
    have e5 := w4.fext np5 (HO.lst ((signs1.map (fun c => S [c])) ++ ([S (cs "letter"), S (cs "figure"), S (cs "mark")] : List V)))
    have w5 := w4.frz np5 (HO.lst ((signs1.map (fun c => S [c])) ++ ([S (cs "letter"), S (cs "figure"), S (cs "mark")] : List V)))
    have fq6 : upd P4 p5 (HO.lst ((signs1.map (fun c => S [c])) ++ ([S (cs "letter"), S (cs "figure"), S (cs "mark")] : List V))) p5 = some (HO.lst ((signs1.map (fun c => S [c])) ++ ([S (cs "letter"), S (cs "figure"), S (cs "mark")] : List V))) := upd_same
    generalize upd H4 p5 (HO.lst ((signs1.map (fun c => S [c])) ++ ([S (cs "letter"), S (cs "figure"), S (cs "mark")] : List V))) = H5 at w5 ⊢
    generalize upd P4 p5 (HO.lst ((signs1.map (fun c => S [c])) ++ ([S (cs "letter"), S (cs "figure"), S (cs "mark")] : List V))) = P5 at w5 e5 fq6
    have al12 := (AR.up e5 al11)
    refine ⟨p5, ((signs1.map (fun c => S [c])) ++ ([S (cs "letter"), S (cs "figure"), S (cs "mark")] : List V)), ((signs1.map (fun c => [c])) ++ ([cs "letter", cs "figure", cs "mark"] : List (List Nat))), rfl, (.inl (.inl (w5.sub _ _ fq6))), (AR.up w5.sub al12), fun p6 vs3 np6 har2 => ?_⟩
    have al13 := har2 P5 al12
    have e6 := w5.fext np6 (HO.lst vs3)
    have w6 := w5.frz np6 (HO.lst vs3)
    have fq7 : upd P5 p6 (HO.lst vs3) p6 = some (HO.lst vs3) := upd_same
    generalize upd H5 p6 (HO.lst vs3) = H6 at w6 ⊢
    generalize upd P5 p6 (HO.lst vs3) = P6 at w6 e6 fq7
    have al14 := (AR.up e6 al13)
    obtain ⟨hc3, et1⟩ := chk_some et1
    refine ⟨(srt ltT (row1.map (fun x => x.1))), (srt ltT ((signs1.map (fun c => [c])) ++ ([cs "letter", cs "figure", cs "mark"] : List (List Nat)))), (Mo.mo (R := (yL yS)) (P := P6) w6.sub ⟨_, _, rfl, ((((e3.trans e4).trans e5).trans e6) _ _ fq3), (AR.up (((e3.trans e4).trans e5).trans e6) al5)⟩), (Mo.mo (R := (yL yS)) (P := P6) w6.sub ⟨_, _, rfl, fq7, al14⟩), hc3, _, rfl, ?_⟩
    refine iteB (fun hb1 => ?_) (fun hb1 => ?_)
    · rw [ite_t hb1] at et1
      obtain rfl := Option.some.inj et1
      exact hQ H6 P6 (((((e1.trans e2).trans e3).trans e4).trans e5).trans e6) w6
    · rw [ite_f hb1] at et1
      obtain ⟨t2, et2, et1⟩ := ob_some et1
      refine ⟨_, rfl, _, rfl, P6, (cs0), ending1, signs1, t2, rfl, w6, et2, fun H7 P7 e7 w7 => ?_⟩
      refine ⟨_, rfl, ?_⟩
      obtain rfl := Option.some.inj et1
      exact hQ H7 P7 ((((((e1.trans e2).trans e3).trans e4).trans e5).trans e6).trans e7) w7
  refine hB1  _ fun H8 P8  e8 w8  => ?_
  refine iteB (fun hb2 => ?_) (fun hb2 => ?_)
  · rw [ite_t hb2] at eR
    obtain rfl := Option.some.inj eR
    exact q H8 P8 e8 w8
  · rw [ite_f hb2] at eR
    obtain ⟨t3, et3, eR⟩ := ob_some eR
    obtain ⟨F1, hF1, et3⟩ := nm_itr et3
    refine ⟨_, rfl, a1, od1, vs1, rfl, (w8.sub _ _ (e8 _ _ fq1)), for_it (walk_values (d := a1) (o := od1) (kvs := vs1)) (fun i σz Hz => ∃ (Pz : Hp) (zs : Unit) (yz0 : Option V) (yz1 : Option V), Ext P8 Pz ∧ σz = [some (.ref a1), some (S ending1), some (S signs1), some (V.int size1), yz0, yz1] ∧ Wd G.T Pz Hz (cs0) ∧ itr F1 ((row1.map (fun x => x.2)).drop i) zs = some t3) ?_ ?_ ?_ ?_⟩
    · exact ⟨P8, (), none, none, Ext.refl _, rfl, w8, et3⟩
    · rintro i σz Hz _ ⟨Pz, zs, yz0, yz1, ee, rfl, ww, _⟩
      exact ww.sub _ _ (ee _ _ (e8 _ _ fq1))
    · rintro i1 x1 _ H9 H10 hi1 ⟨P9, s1, od2, od3, e9, rfl, w9, et4⟩ hy1
      obtain ⟨eH1, hx1⟩ := hy1
      rw [eH1]
      obtain ⟨cit1, hit1⟩ := hx1
      obtain ⟨it1, hd1, eD1⟩ := DR.valAt (DR.up (e8.trans e9) al1) hit1
      obtain ⟨a2, u1, u2, rfl, fq8, hu1, hu2⟩ := hd1
      obtain rfl : u1 = (V.int it1.1) := hu1
      obtain rfl : u2 = (S it1.2) := hu2
      rw [eD1, itr] at et4
      obtain ⟨o1, eo1, et4⟩ := ob_some et4
      rw [hF1] at eo1
      unfold bd_is_row_1 at eo1
      refine ⟨a2, ([(V.int it1.1), (S it1.2)] : List V), rfl, (w9.sqt (.inl (.inl fq8))), rfl, ?_⟩
      refine ⟨_, _, rfl, _, _, rfl, rfl, ?_⟩
      obtain ⟨t4, et5, eo1⟩ := ob_some eo1
      have hB2 : ∀ (Q : (Bool → Hp → Prop)), (∀ Hz Pz, Ext P9 Pz → Wd G.T Pz Hz (cs0) → Q t4 Hz) → (tOr (tNot (tTest (tChain rLe rLt (tC (V.int 0)) (tVar 4) (tVar 3)))) (tNot (tB (tCall (sp_only_named K G) [] E0 (tCons (tVar 5) (tCons (tVar 2) tNil)))))) [some (.ref a1), some (S ending1), some (S signs1), some (V.int size1), some (V.int it1.1), some (S it1.2)] H9 Q := by
        intro  Q hQ
        have hB3 : ∀ (Q : (Bool → Hp → Prop)), (∀ Hz Pz, Ext P9 Pz → Wd G.T Pz Hz (cs0) → Q ((decide (0 ≤ it1.1)) && (decide (it1.1 < size1))) Hz) → (tTest (tChain rLe rLt (tC (V.int 0)) (tVar 4) (tVar 3))) [some (.ref a1), some (S ending1), some (S signs1), some (V.int size1), some (V.int it1.1), some (S it1.2)] H9 Q := by
          intro  Q hQ
          refine ⟨_, rfl, _, _, rfl, rfl, _, rfl, ?_⟩
          refine iteB (fun hb3 => ?_) (fun hb3 => ?_)
          · refine ⟨_, rfl, _, _, rfl, rfl, _, rfl, ?_⟩
            have hq1 := hQ H9 P9 (Ext.refl _) w9
            rw [hb3, Bool.true_and] at hq1
            all_goals exact hq1
          · refine ⟨_, rfl, ?_⟩
            have hq2 := hQ H9 P9 (Ext.refl _) w9
            rw [hb3, Bool.false_and] at hq2
            all_goals exact hq2
        refine hB3  _ fun H11 P10  e10 w10  => ?_
        refine iteB (fun hb4 => ?_) (fun hb4 => ?_)
        · rw [ite_t hb4] at et5
          obtain rfl := Option.some.inj et5
          exact hQ H11 P10 e10 w10
        · rw [ite_f hb4] at et5
          obtain ⟨t5, et6, et5⟩ := ob_some et5
          refine ⟨_, rfl, _, rfl, P10, (cs0), it1.2, signs1, t5, rfl, w10, et6, fun H12 P11 e11 w11 => ?_⟩
          refine ⟨_, rfl, ?_⟩
          obtain rfl := Option.some.inj et5
          exact hQ H12 P11 (e10.trans e11) w11
      refine hB2  _ fun H13 P12  e12 w12  => ?_
      refine iteB (fun hb5 => ?_) (fun hb5 => ?_)
      · rw [ite_t hb5] at eo1
        obtain rfl := Option.some.inj eo1
        dsimp only at et4
        obtain rfl := Option.some.inj et4
        rw [Lr.el_rt] at eR
        obtain rfl := Option.some.inj eR
        exact q H13 P12 ((e8.trans e9).trans e12) w12
      · rw [ite_f hb5] at eo1
        obtain rfl := Option.some.inj eo1
        dsimp only at et4
        exact ⟨P12, (), (some (V.int it1.1)), (some (S it1.2)), (e9.trans e12), rfl, w12, et4⟩
    rintro _ H14 ⟨P13, s2, od4, od5, e13, rfl, w13, et7⟩
    rw [DR.dropall al1, itr] at et7
    obtain rfl := Option.some.inj et7
    rw [Lr.el_nx] at eR
    obtain rfl := Option.some.inj eR
    exact q H14 P13 (e8.trans e13) w13
theorem fn_is_row {P : Program} {w : World} {K : PySem.W.Frag} {mg : Str → Option Value} {base : Heap} {G : GA} {f : Addr} {fd : FuncData} (T : Tx P w K G mg base) (F : Fun K "is_row" "is_row" s_is_row f fd) : FnOk P w K mg base CX0 4 f fd ["row", "ending", "signs", "size"] (sp_is_row K G) := by
  refine F.ok sc_is_row (fun vs H Q E h => ?_) (fun cdv A outer s H vs Q E hr h => ⟨t_is_row K G, ?_, rd_is_row T.fa vs H Q E h⟩)
  · obtain ⟨_, _, _, _, _, _, _, _, rfl, _⟩ := h
    rfl
  · exact (pss_cons (ps_if (PW.pt (pw_or (pt_cmpR (o_neRK (K := K) (R1 := (yL yS)) (ok1 := (okL okS)) hr.units) (pe_callB (c_sortedK (K := K) (R := yS) (lt := ltT) ((hr.mono (by decide : 2 ≤ _)).in1.in1).units) (by rfl) T.z_sorted (by decide +kernel) (pa_cons (pe_callTy (c_listK rfl) (by rfl) T.z_list (by decide +kernel) (pa_cons (pv 0) pa_nil)) pa_nil)) (pe_callB (c_sortedK (K := K) (R := yS) (lt := ltT) ((hr.mono (by decide : 2 ≤ _)).in1.in1).units) (by rfl) T.z_sorted (by decide +kernel) (pa_cons (pe_op op_cat (pe_callTy (c_listS rfl) (by rfl) T.z_list (by decide +kernel) (pa_cons (pv 2) pa_nil)) (pe_callTy c_listT (by rfl) T.z_list (by decide +kernel) (pa_cons (pe_gc (by rfl) T.g_KINDS) pa_nil))) pa_nil)) (nomark _)) (pw_or1 (pt_not (pt_val (pe_c (c_only_named T) hr (by decide) (by rfl) (pa_cons (pv 1) (pa_cons (pv 2) pa_nil)))))))) (pss_one (ps_ret pe_bl)) pss_nil) (pss_cons (ps_for PassesOwn.never rfl (pi_values (pv 0)) (pg_tup rfl (pgs_cons (pg_name (i := 4) sc_is_row.nd rfl (Or.inl rfl)) (pgs_cons (pg_name (i := 5) sc_is_row.nd rfl (Or.inl rfl)) pgs_nil))) (pss_one (ps_if (PW.pt (pw_or (pt_not (pt_chain o_le o_lt pe_int (pv 4) (pv 3))) (pw_or1 (pt_not (pt_val (pe_c (c_only_named T) hr (by decide) (by rfl) (pa_cons (pv 5) (pa_cons (pv 2) pa_nil)))))))) (pss_one (ps_ret pe_bl)) pss_nil))) (pss_one (ps_ret pe_bl))))
theorem c_is_row {P : Program} {w : World} {K : PySem.W.Frag} {mg : Str → Option Value} {base : Heap} {G : GA} (T : Tx P w K G mg base) : Cal P w K mg base 4 "is_row" (sp_is_row K G) := by
  obtain ⟨f, fd, F, b, g⟩ := T.d_is_row
  exact ⟨f, fd, _, fn_is_row T F, g, F.kp, b⟩

def bd_Machine_init_2 (signs1 : (List Nat)) (arcs1 : (List (List ((List Nat) × (Int × (List Nat)))))) (endings1 : (List (List Nat))) (i2 : Nat) (s1 : Unit) : Option (Lr Unit (Rs O_Machine)) :=
  (if ((decide ((arcs1.length : Int) ≤ ((i2 : Nat) : Int))) || (decide ((endings1.length : Int) ≤ ((i2 : Nat) : Int)))) then (some (Lr.rt (Rs.er ((3, (FV.i ((i2 : Nat) : Int)), (FV.i 0)) : Er)))) else (chk (inR arcs1.length ((i2 : Nat) : Int)) (chk (inR endings1.length ((i2 : Nat) : Int)) (ob (m_is_row (arcs1.getD (ixP arcs1.length ((i2 : Nat) : Int)) ([] : (List ((List Nat) × (Int × (List Nat)))))) (endings1.getD (ixP endings1.length ((i2 : Nat) : Int)) ([] : List Nat)) signs1 (arcs1.length : Int)) (fun (t4 : Bool) => (if (!t4) then (some (Lr.rt (Rs.er ((3, (FV.i ((i2 : Nat) : Int)), (FV.i 0)) : Er)))) else (some (Lr.nx ()))))))))
def bd_Machine_init_4 (it2 : (List ((List Nat) × (Int × (List Nat))))) (it3 : (List Nat)) (acc3 : (List ((List Nat) × (Int × (List Nat))))) : Option (List ((List Nat) × (Int × (List Nat)))) :=
  (chk ((dL it2 it3).isSome = true) (some (dP acc3 it3 ((dL it2 it3).getD (default : (Int × (List Nat)))))))
def bd_Machine_init_3 (it2 : (List ((List Nat) × (Int × (List Nat))))) : Option (List ((List Nat) × (Int × (List Nat)))) :=
  (chk ((it2.map (fun x => x.1)).length ≤ 1000000) (ob (itf (bd_Machine_init_4 it2) (it2.map (fun x => x.1)) []) (fun (t6 : (List ((List Nat) × (Int × (List Nat))))) => (some t6))))
def m_Machine_init (signs1 : (List Nat)) (arcs1 : (List (List ((List Nat) × (Int × (List Nat)))))) (endings1 : (List (List Nat))) : Option (Rs O_Machine) :=
  (ob (chk (signs1.length ≤ 1000000) (if (!((signs1.map (fun ic1 => (decide (ic1 ∈ cSIGNS)))).all id)) then (some true) else (ob (m_in_order signs1) (fun (t2 : (List Nat)) => (some (!(decide (t2 = signs1)))))))) (fun (t1 : Bool) => (if t1 then (some (Rs.er ((2, (FV.s signs1), (FV.i 0)) : Er))) else (chk (-(2 ^ 62) ≤ (mx3 1 (arcs1.length : Int) (endings1.length : Int)) ∧ (mx3 1 (arcs1.length : Int) (endings1.length : Int)) < 2 ^ 62) (ob (itr (bd_Machine_init_2 signs1 arcs1 endings1) (List.range ((mx3 1 (arcs1.length : Int) (endings1.length : Int))).toNat) ()) (fun (t3 : (Lr Unit (Rs O_Machine))) => Lr.el t3 (fun (r : (Rs O_Machine)) => some r) (fun (s2 : Unit) => (chk (arcs1.length ≤ 1000000) (ob (mpo bd_Machine_init_3 arcs1) (fun (t5 : (List (List ((List Nat) × (Int × (List Nat)))))) => (some (Rs.ok (signs1, t5, endings1)))))))))))))
def sp_Machine_init (K : PySem.W.Frag) (G : GA) : Sp := fun vs H Q E => ∃ (P : Hp) (cs0 : Cs) (aself1 dself1 : Addr) (signs1 : (List Nat)) (varcs1 : V) (arcs1 : (List (List ((List Nat) × (Int × (List Nat)))))) (vendings1 : V) (endings1 : (List (List Nat))) (R0 : (Rs O_Machine)), vs = [V.ref aself1, (S signs1), varcs1, vendings1] ∧ Wd G.T P H ((aself1, (HO.ins G.C_Machine dself1 [])) :: (dself1, (HO.own aself1)) :: cs0) ∧ (yL (yD kS (y2 K yI yS))) P varcs1 arcs1 ∧ (yL yS) P vendings1 endings1 ∧ m_Machine_init signs1 arcs1 endings1 = some R0 ∧ (∀ (e0 : Er), R0 = Rs.er e0 → ∀ (H1 P1 : Hp) (d1 : Addr), Ext P P1 → Wd G.T P1 H1 ((d1, HO.xd (exFs e0)) :: (cs0)) → E (.ref (exC G e0.1)) (some d1) H1) ∧ ∀ (X0 : O_Machine), R0 = Rs.ok X0 → ∀ (H1 P1 : Hp), Ext P P1 → Wd G.T P1 H1 (cs0) → (y_Machine K G) P1 (V.ref aself1) X0 → Q .non H1
def t_Machine_init (K : PySem.W.Frag) (G : GA) (W : WX) : TS := (tSeq (tIfS (tOr (tNot (tB (tCB (rAll K) (tCons (tLc (iStr (tVar 1)) (gName 5) tYes (tOp rInS (tVar 5) (tC (S cSIGNS))) [5]) tNil)))) (tTest (tOp rNeS (tCall (sp_in_order K G) [] E0 (tCons (tVar 1) tNil)) (tVar 1)))) (tRaise1 G.C_InvalidSigns "text" W (tCons (tVar 1) tNil)) tNext) (tSeq (tFor (iRng1 (tCons (tCB rMax3 (tCons (tC (V.int 1)) (tCons (tCB (rLenM K) (tCons (tVar 2) tNil)) (tCons (tCB (rLenM K) (tCons (tVar 3) tNil)) tNil)))) tNil)) (gName 4) (tSeq (tIfS (tOr (tTest (tOp rGe (tVar 4) (tCB (rLenM K) (tCons (tVar 2) tNil)))) (tTest (tOp rGe (tVar 4) (tCB (rLenM K) (tCons (tVar 3) tNil))))) (tRaise1 G.C_InvalidMachine "state" W (tCons (tVar 4) tNil)) tNext) (tIfS (tNot (tB (tCall (sp_is_row K G) [] E0 (tCons (tOp (rIxL K) (tVar 2) (tVar 4)) (tCons (tOp (rIxL K) (tVar 3) (tVar 4)) (tCons (tVar 1) (tCons (tCB (rLenM K) (tCons (tVar 2) tNil)) tNil))))))) (tRaise1 G.C_InvalidMachine "state" W (tCons (tVar 4) tNil)) tNext))) (tSeq (sFld K (tVar 0) (tVar 1) "named") (tSeq (sFld K (tVar 0) (tLc (iList K (tVar 2)) (gName 6) tYes (tLockA (tDc (iKeysK (tVar 6)) (gName 7) tYes (tVar 7) (tDGet (tVar 6) (tVar 7)) [7])) [6]) "arcs") (sFld K (tVar 0) (tCB (rListL K) (tCons (tVar 3) tNil)) "ends")))))
theorem sc_Machine_init : FnScope ["self", "signs", "arcs", "endings", "state", "sign", "row", "key"] ["self", "signs", "arcs", "endings"] (defScope s_Machine_init) := ⟨rfl, rfl, rfl, by decide +kernel, rfl, by decide +kernel, by decide +kernel⟩
theorem rd_Machine_init {K : PySem.W.Frag} {G : GA} (F : Fa K G) (vs : List V) (H : Hp) (Q : VK) (E : XK) (h : sp_Machine_init K G vs H Q E) : t_Machine_init K G (wE E) { nx := fun _ H1 => Q .non H1, rt := Q } (L2.start ["self", "signs", "arcs", "endings", "state", "sign", "row", "key"] vs) H := by
  obtain ⟨P, cs0, aself1, dself1, signs1, varcs1, arcs1, vendings1, endings1, R0, rfl, w, hdarcs1, hdendings1, eR, qE, q⟩ := h
  unfold m_Machine_init at eR
  obtain ⟨a1, vs1, rfl, fq1, al1⟩ := hdarcs1
  obtain ⟨a2, vs2, rfl, fq2, al2⟩ := hdendings1
  obtain ⟨t1, et1, eR⟩ := ob_some eR
  have hB1 : ∀ (Q : (Bool → Hp → Prop)), (∀ Hz Pz, Ext P Pz → Wd G.T Pz Hz ((aself1, (HO.ins G.C_Machine dself1 [])) :: (dself1, (HO.own aself1)) :: cs0) → Q t1 Hz) → (tOr (tNot (tB (tCB (rAll K) (tCons (tLc (iStr (tVar 1)) (gName 5) tYes (tOp rInS (tVar 5) (tC (S cSIGNS))) [5]) tNil)))) (tTest (tOp rNeS (tCall (sp_in_order K G) [] E0 (tCons (tVar 1) tNil)) (tVar 1)))) [some (V.ref aself1), some (S signs1), some (.ref a1), some (.ref a2), none, none, none, none] H Q := by
    intro  Q hQ
    obtain ⟨hc1, et1⟩ := chk_some et1
    refine ⟨_, rfl, _, rfl, fun D1 nD1 => ?_⟩
    refine lc_it (walk_str (z := ⟨⟨signs1⟩⟩)) (fun i Hz => ∃ (Pz : Hp) (vsz : List V), Ext P Pz ∧ Wd G.T Pz Hz ((D1, (HO.lst vsz)) :: (aself1, (HO.ins G.C_Machine dself1 [])) :: (dself1, (HO.own aself1)) :: cs0) ∧ AR yB Pz vsz ((signs1.take i).map (fun ic1 => (decide (ic1 ∈ cSIGNS))))) ?_ ?_ ?_ ?_
    · exact ⟨P, [], Ext.refl _, w.new nD1 _, AR.nil⟩
    · rintro i Hz _ ⟨Pz, vsz, ee, ww, _⟩
      trivial
    · rintro i1 x1 H1 H2 hi1 ⟨P1, vs3, e1, w1, al3⟩ hy1
      obtain ⟨eH1, hx1⟩ := hy1
      rw [eH1]
      obtain ⟨it1, hitit1, exit1⟩ := hx1
      obtain rfl : x1 = S ([it1] : List Nat) := exit1
      have eD1 := str_drop hitit1
      refine ⟨rfl, ?_⟩
      refine ⟨_, rfl, it1, _, rfl, rfl, vs3, (w1.get 0 rfl), (szl (by rw [AR.len al3]; exact Nat.lt_of_le_of_lt len_tm (Nat.lt_of_lt_of_le hi1 (str_bnd hc1)))), ?_⟩
      exact ⟨P1, _, e1, (w1.put 0 (HO.lst (vs3 ++ [(V.bl (decide (it1 ∈ cSIGNS)))])) rfl), (by rw [take_snoc_map eD1]; exact (AR.snoc al3 rfl))⟩
    rintro H3 ⟨P2, vs4, e2, w2, al4⟩
    rw [take_str_all] at al4
    have e3 : Ext P2 (upd P2 D1 (HO.lst vs4)) := w2.kext
    have w3 : Wd G.T (upd P2 D1 (HO.lst vs4)) H3 ((aself1, (HO.ins G.C_Machine dself1 [])) :: (dself1, (HO.own aself1)) :: cs0) := w2.keep
    have fq3 : upd P2 D1 (HO.lst vs4) D1 = some (HO.lst vs4) := upd_same
    generalize upd P2 D1 (HO.lst vs4) = P3 at w3 e3 fq3
    have al5 := (AR.up e3 al4)
    refine ⟨D1, (signs1.map (fun ic1 => (decide (ic1 ∈ cSIGNS)))), rfl, (ar_bools al5 ▸ (.inl (.inl (w3.sub _ _ fq3)))), _, rfl, ?_⟩
    refine iteB (fun hb1 => ?_) (fun hb1 => ?_)
    · rw [ite_t hb1] at et1
      obtain rfl := Option.some.inj et1
      exact hQ H3 P3 (e2.trans e3) w3
    · rw [ite_f hb1] at et1
      obtain ⟨t2, et3, et1⟩ := ob_some et1
      refine ⟨_, rfl, P3, ((aself1, (HO.ins G.C_Machine dself1 [])) :: (dself1, (HO.own aself1)) :: cs0), signs1, t2, rfl, w3, et3, fun H4 P4 e4 w4 => ?_⟩
      refine ⟨_, rfl, _, _, rfl, rfl, _, rfl, ?_⟩
      obtain rfl := Option.some.inj et1
      exact hQ H4 P4 ((e2.trans e3).trans e4) w4
  refine hB1  _ fun H5 P5  e5 w5  => ?_
  refine iteB (fun hb2 => ?_) (fun hb2 => ?_)
  · rw [ite_t hb2] at eR
    refine ⟨_, rfl, _, rfl, fun d1 nd1 => ?_⟩
    have w6 := w5.new nd1 (HO.xd [("text", (S signs1))])
    generalize upd H5 d1 (HO.xd [("text", (S signs1))]) = H6 at w6 ⊢
    obtain rfl := Option.some.inj eR
    exact qE ((2, (FV.s signs1), (FV.i 0)) : Er) rfl H6 P5 d1 e5 ((w6.pull 1 rfl).tl.pull 1 rfl).tl
  · rw [ite_f hb2] at eR
    obtain ⟨hc2, eR⟩ := chk_some eR
    obtain ⟨t3, et4, eR⟩ := ob_some eR
    obtain ⟨F2, hF2, et4⟩ := nm_itr et4
    refine ⟨_, rfl, a1, vs1, (arcs1.length), rfl, (.inl (.inl (w5.sub _ _ (e5 _ _ fq1)))), (AR.len (AR.up e5 al1)), _, rfl, a2, vs2, (endings1.length), rfl, (.inl (.inl (w5.sub _ _ (e5 _ _ fq2)))), (AR.len (AR.up e5 al2)), _, _, _, rfl, _, rfl, hc2.1, hc2.2, for_it walk_range0 (fun i σz Hz => ∃ (Pz : Hp) (zs : Unit) (yz0 : Option V), Ext P5 Pz ∧ σz = [some (V.ref aself1), some (S signs1), some (.ref a1), some (.ref a2), yz0, none, none, none] ∧ Wd G.T Pz Hz ((aself1, (HO.ins G.C_Machine dself1 [])) :: (dself1, (HO.own aself1)) :: cs0) ∧ itr F2 ((List.range ((mx3 1 (arcs1.length : Int) (endings1.length : Int))).toNat).drop i) zs = some t3) ?_ ?_ ?_ ?_⟩
    · exact ⟨P5, (), none, Ext.refl _, rfl, w5, et4⟩
    · rintro i σz Hz _ ⟨Pz, zs, yz0, ee, rfl, ww, _⟩
      trivial
    · rintro i2 x2 _ H7 H8 hi2 ⟨P6, s1, od1, e6, rfl, w7, et5⟩ hy2
      obtain ⟨eH2, hx2⟩ := hy2
      rw [eH2]
      subst hx2
      have eD2 := range_drop (n := ((mx3 1 (arcs1.length : Int) (endings1.length : Int))).toNat) (i := i2) (by assumption)
      rw [eD2, itr] at et5
      obtain ⟨o1, eo1, et5⟩ := ob_some et5
      rw [hF2] at eo1
      unfold bd_Machine_init_2 at eo1
      have hB2 : ∀ (Q : (Bool → Hp → Prop)), (∀ Hz Pz, Ext P6 Pz → Wd G.T Pz Hz ((aself1, (HO.ins G.C_Machine dself1 [])) :: (dself1, (HO.own aself1)) :: cs0) → Q ((decide ((arcs1.length : Int) ≤ ((i2 : Nat) : Int))) || (decide ((endings1.length : Int) ≤ ((i2 : Nat) : Int)))) Hz) → (tOr (tTest (tOp rGe (tVar 4) (tCB (rLenM K) (tCons (tVar 2) tNil)))) (tTest (tOp rGe (tVar 4) (tCB (rLenM K) (tCons (tVar 3) tNil))))) [some (V.ref aself1), some (S signs1), some (.ref a1), some (.ref a2), some (V.int ((i2 : Nat) : Int)), none, none, none] H7 Q := by
        intro  Q hQ
        refine ⟨_, rfl, _, rfl, a1, vs1, (arcs1.length), rfl, (.inl (.inl (w7.sub _ _ ((e5.trans e6) _ _ fq1)))), (AR.len (AR.up (e5.trans e6) al1)), _, _, rfl, rfl, _, rfl, ?_⟩
        refine iteB (fun hb3 => ?_) (fun hb3 => ?_)
        · have hq1 := hQ H7 P6 (Ext.refl _) w7
          rw [hb3, Bool.true_or] at hq1
          all_goals exact hq1
        · refine ⟨_, rfl, _, rfl, a2, vs2, (endings1.length), rfl, (.inl (.inl (w7.sub _ _ ((e5.trans e6) _ _ fq2)))), (AR.len (AR.up (e5.trans e6) al2)), _, _, rfl, rfl, _, rfl, ?_⟩
          have hq2 := hQ H7 P6 (Ext.refl _) w7
          rw [hb3, Bool.false_or] at hq2
          all_goals exact hq2
      refine hB2  _ fun H9 P7  e7 w8  => ?_
      refine iteB (fun hb4 => ?_) (fun hb4 => ?_)
      · rw [ite_t hb4] at eo1
        refine ⟨_, rfl, _, rfl, fun d2 nd2 => ?_⟩
        have w9 := w8.new nd2 (HO.xd [("state", (V.int ((i2 : Nat) : Int)))])
        generalize upd H9 d2 (HO.xd [("state", (V.int ((i2 : Nat) : Int)))]) = H10 at w9 ⊢
        obtain rfl := Option.some.inj eo1
        dsimp only at et5
        obtain rfl := Option.some.inj et5
        rw [Lr.el_rt] at eR
        obtain rfl := Option.some.inj eR
        exact qE ((3, (FV.i ((i2 : Nat) : Int)), (FV.i 0)) : Er) rfl H10 P7 d2 ((e5.trans e6).trans e7) ((w9.pull 1 rfl).tl.pull 1 rfl).tl
      · rw [ite_f hb4] at eo1
        obtain ⟨hc3, eo1⟩ := chk_some eo1
        obtain ⟨v1, hat1, hd1⟩ := AR.getI (i := ((i2 : Nat) : Int)) (d := ([] : (List ((List Nat) × (Int × (List Nat)))))) (AR.up ((e5.trans e6).trans e7) al1) hc3
        obtain ⟨a3, od2, vs5, rfl, fq4, al6⟩ := hd1
        obtain ⟨hc4, eo1⟩ := chk_some eo1
        obtain ⟨v2, hat2, hd2⟩ := AR.getI (i := ((i2 : Nat) : Int)) (d := ([] : List Nat)) (AR.up ((e5.trans e6).trans e7) al2) hc4
        obtain rfl : v2 = (S (endings1.getD (ixP endings1.length ((i2 : Nat) : Int)) ([] : List Nat))) := hd2
        obtain ⟨t4, et6, eo1⟩ := ob_some eo1
        refine ⟨_, rfl, _, rfl, a1, _, _, _, rfl, rfl, (.inl (.inl (w8.sub _ _ (((e5.trans e6).trans e7) _ _ fq1)))), hat1, _, rfl, _, rfl, a2, _, _, _, rfl, rfl, (.inl (.inl (w8.sub _ _ (((e5.trans e6).trans e7) _ _ fq2)))), hat2, _, rfl, _, rfl, a1, vs1, (arcs1.length), rfl, (.inl (.inl (w8.sub _ _ (((e5.trans e6).trans e7) _ _ fq1)))), (AR.len (AR.up ((e5.trans e6).trans e7) al1)), P7, ((aself1, (HO.ins G.C_Machine dself1 [])) :: (dself1, (HO.own aself1)) :: cs0), (.ref a3), (arcs1.getD (ixP arcs1.length ((i2 : Nat) : Int)) ([] : (List ((List Nat) × (Int × (List Nat)))))), (endings1.getD (ixP endings1.length ((i2 : Nat) : Int)) ([] : List Nat)), signs1, (arcs1.length : Int), t4, rfl, w8, ⟨_, _, _, rfl, fq4, al6⟩, et6, fun H11 P8 e8 w10 => ?_⟩
        refine ⟨_, rfl, ?_⟩
        refine iteB (fun hb5 => ?_) (fun hb5 => ?_)
        · rw [ite_t hb5] at eo1
          refine ⟨_, rfl, _, rfl, fun d3 nd3 => ?_⟩
          have w11 := w10.new nd3 (HO.xd [("state", (V.int ((i2 : Nat) : Int)))])
          generalize upd H11 d3 (HO.xd [("state", (V.int ((i2 : Nat) : Int)))]) = H12 at w11 ⊢
          obtain rfl := Option.some.inj eo1
          dsimp only at et5
          obtain rfl := Option.some.inj et5
          rw [Lr.el_rt] at eR
          obtain rfl := Option.some.inj eR
          exact qE ((3, (FV.i ((i2 : Nat) : Int)), (FV.i 0)) : Er) rfl H12 P8 d3 (((e5.trans e6).trans e7).trans e8) ((w11.pull 1 rfl).tl.pull 1 rfl).tl
        · rw [ite_f hb5] at eo1
          obtain rfl := Option.some.inj eo1
          dsimp only at et5
          exact ⟨P8, (), (some (V.int ((i2 : Nat) : Int))), ((e6.trans e7).trans e8), rfl, w10, et5⟩
    rintro _ H13 ⟨P9, s2, od3, e9, rfl, w12, et7⟩
    rw [drop_range_all, itr] at et7
    obtain rfl := Option.some.inj et7
    rw [Lr.el_nx] at eR
    refine ⟨_, rfl, _, rfl, aself1, G.C_Machine, dself1, _, rfl, (w12.get 0 rfl), F.cl_Machine, F.n_Machine_named, (by show 0 < 1000; decide), ?_⟩
    rw [putF_new [] rfl (by decide)]
    dsimp only [List.cons_append, List.nil_append]
    have w13 : Wd G.T P9 (upd H13 aself1 (HO.ins G.C_Machine dself1 [("named", (S signs1))])) ((aself1, (HO.ins G.C_Machine dself1 [("named", (S signs1))])) :: (dself1, (HO.own aself1)) :: cs0) := w12.put 0 (HO.ins G.C_Machine dself1 [("named", (S signs1))]) rfl
    generalize upd H13 aself1 (HO.ins G.C_Machine dself1 [("named", (S signs1))]) = H14 at w13 ⊢
    obtain ⟨hc5, eR⟩ := chk_some eR
    obtain ⟨t5, et8, eR⟩ := ob_some eR
    obtain ⟨F3, hF3, et8⟩ := nm_mpo et8
    refine ⟨_, rfl, a1, rfl, ⟨_, .inl (.inl (w13.sub _ _ ((e5.trans e9) _ _ fq1)))⟩, fun D2 nD2 => ?_⟩
    refine lc_it (walk_list (K := K) (a := a1) (xs := vs1)) (fun i Hz => ∃ (Pz : Hp) (vsz : List V) (accz rsz : (List (List ((List Nat) × (Int × (List Nat)))))), Ext P9 Pz ∧ Wd G.T Pz Hz ((D2, (HO.lst vsz)) :: (aself1, (HO.ins G.C_Machine dself1 [("named", (S signs1))])) :: (dself1, (HO.own aself1)) :: cs0) ∧ AR (yD kS (y2 K yI yS)) Pz vsz accz ∧ accz.length ≤ i ∧ accz ++ rsz = t5 ∧ mpo F3 (arcs1.drop i) = some rsz) ?_ ?_ ?_ ?_
    · exact ⟨P9, [], [], t5, Ext.refl _, w13.new nD2 _, AR.nil, Nat.le_refl _, rfl, et8⟩
    · rintro i Hz _ ⟨Pz, vsz, accz, rsz, ee, ww, _⟩
      exact .inl (.inl (ww.sub _ _ (ee _ _ ((e5.trans e9) _ _ fq1))))
    · rintro i3 x3 H15 H16 hi3 ⟨P10, vs6, acc2, rs2, e10, w14, al7, hlen2, hsum2, et9⟩ hy3
      obtain ⟨eH3, hx3⟩ := hy3
      rw [eH3]
      obtain ⟨it2, _, hd3, eD3⟩ := AR.get (AR.up ((e5.trans e9).trans e10) al1) hx3
      obtain ⟨a4, od4, vs7, rfl, fq5, al8⟩ := hd3
      rw [eD3, mpo] at et9
      obtain ⟨yy1, ey1, et9⟩ := ob_some et9
      obtain ⟨rs3, er1, et9⟩ := ob_some et9
      rw [hF3] at ey1
      unfold bd_Machine_init_3 at ey1
      refine ⟨rfl, ?_⟩
      obtain ⟨hc6, ey1⟩ := chk_some ey1
      obtain ⟨t6, et10, ey1⟩ := ob_some ey1
      obtain ⟨F4, hF4, et10⟩ := nm_itf et10
      refine ⟨_, rfl, a4, od4, vs7, rfl, (w14.sub _ _ fq5), fun D3 nD3 => ?_⟩
      refine dc_it (walk_keys (d := a4) (o := od4) (kvs := vs7)) (fun i Hz => ∃ (Pz : Hp) (vsz : List (Key × V)) (accz : (List ((List Nat) × (Int × (List Nat))))), Ext P10 Pz ∧ Wd G.T Pz Hz ((D3, (HO.dK vsz)) :: (D2, (HO.lst vs6)) :: (aself1, (HO.ins G.C_Machine dself1 [("named", (S signs1))])) :: (dself1, (HO.own aself1)) :: cs0) ∧ DR kS (y2 K yI yS) Pz vsz accz ∧ accz.length ≤ i ∧ itf F4 ((it2.map (fun x => x.1)).drop i) accz = some t6) ?_ ?_ ?_ ?_
      · exact ⟨P10, [], [], Ext.refl _, w14.new nD3 _, DR.nil, Nat.le_refl _, et10⟩
      · rintro i Hz _ ⟨Pz, vsz, accz, ee, ww, _⟩
        exact ww.sub _ _ (ee _ _ fq5)
      · rintro i4 x4 H17 H18 hi4 ⟨P11, vs8, acc3, e11, w15, al9, hlen3, et11⟩ hy4
        obtain ⟨eH4, hx4⟩ := hy4
        rw [eH4]
        obtain ⟨cit3, uit3, hit3, xit3⟩ := hx4
        obtain ⟨it3, rfl, eD4⟩ := DR.keyAt (DR.up e11 al8) hit3
        obtain rfl : x4 = (S it3) := xit3
        rw [eD4, itf] at et11
        obtain ⟨o2, eo2, et11⟩ := ob_some et11
        rw [hF4] at eo2
        unfold bd_Machine_init_4 at eo2
        refine ⟨rfl, ?_⟩
        obtain ⟨hc7, eo2⟩ := chk_some eo2
        obtain ⟨v3, hv1, hd4⟩ := DR.get (k := it3) (d := (default : (Int × (List Nat)))) (DR.up e11 al8) hc7
        obtain ⟨a5, u1, u2, rfl, fq6, hu1, hu2⟩ := hd4
        obtain rfl : u1 = (V.int ((dL it2 it3).getD (default : (Int × (List Nat)))).1) := hu1
        obtain rfl : u2 = (S ((dL it2 it3).getD (default : (Int × (List Nat)))).2) := hu2
        refine ⟨_, rfl, _, rfl, _, rfl, a4, _, rfl, (.inl ⟨vs7, kS it3, (.inr ⟨_, w15.sub _ _ (e11 _ _ fq5)⟩), rfl, hv1.symm⟩), vs8, (kS it3), rfl, (w15.get 0 rfl), (szl (by rw [DR.len al9]; exact Nat.lt_of_le_of_lt hlen3 (Nat.lt_of_lt_of_le hi4 (DR.bnd al8 hc6)))), ?_⟩
        obtain rfl := Option.some.inj eo2
        exact ⟨P11, _, (dP acc3 it3 ((dL it2 it3).getD (default : (Int × (List Nat))))), e11, (w15.put 0 (HO.dK (putK vs8 (kS it3) (.ref a5))) rfl), (DR.put al9 ⟨_, _, _, rfl, fq6, rfl, rfl⟩), dP_len hlen3, et11⟩
      rintro H19 ⟨P12, vs9, acc4, e12, w16, al10, hlen4, et12⟩
      rw [DR.dropall al8, itf] at et12
      rw [Option.some.inj et12] at al10
      refine ⟨D3, _, (w16.get 0 rfl), trivial, fun od5 => ?_⟩
      have w17 := (w16.put 0 (HO.frz od5 (HO.dK vs9)) rfl).pull 0 rfl
      have e13 : Ext P12 (upd P12 D3 (HO.frz od5 (HO.dK vs9))) := w17.kext
      have w18 : Wd G.T (upd P12 D3 (HO.frz od5 (HO.dK vs9))) (upd H19 D3 (HO.frz od5 (HO.dK vs9))) ((D2, (HO.lst vs6)) :: (aself1, (HO.ins G.C_Machine dself1 [("named", (S signs1))])) :: (dself1, (HO.own aself1)) :: cs0) := w17.keep
      have fq7 : upd P12 D3 (HO.frz od5 (HO.dK vs9)) D3 = some (HO.frz od5 (HO.dK vs9)) := upd_same
      clear w17
      generalize upd H19 D3 (HO.frz od5 (HO.dK vs9)) = H20 at w18 ⊢
      generalize upd P12 D3 (HO.frz od5 (HO.dK vs9)) = P13 at w18 e13 fq7
      have al11 := (DR.up e13 al10)
      refine ⟨vs6, (w18.get 0 rfl), (szl (by rw [AR.len (AR.up (e12.trans e13) al7)]; exact Nat.lt_of_le_of_lt hlen2 (Nat.lt_of_lt_of_le hi3 (AR.bnd (AR.up (e5.trans e9) al1) hc5)))), ?_⟩
      obtain rfl := Option.some.inj ey1
      exact ⟨P13, _, (acc2 ++ [t6]), _, ((e10.trans e12).trans e13), (w18.put 0 (HO.lst (vs6 ++ [(.ref D3)])) rfl), (AR.snoc (AR.up (e12.trans e13) al7) ⟨_, _, _, rfl, fq7, al11⟩), snoc_len hlen2, snoc_sum hsum2 et9, er1⟩
    rintro H21 ⟨P14, vs10, acc5, rs4, e14, w19, al12, hlen5, hsum3, et13⟩
    rw [AR.dropall (AR.up (e5.trans e9) al1), mpo] at et13
    rw [mpo_acc hsum3 et13] at al12
    have e15 : Ext P14 (upd P14 D2 (HO.lst vs10)) := w19.kext
    have w20 : Wd G.T (upd P14 D2 (HO.lst vs10)) H21 ((aself1, (HO.ins G.C_Machine dself1 [("named", (S signs1))])) :: (dself1, (HO.own aself1)) :: cs0) := w19.keep
    have fq8 : upd P14 D2 (HO.lst vs10) D2 = some (HO.lst vs10) := upd_same
    generalize upd P14 D2 (HO.lst vs10) = P15 at w20 e15 fq8
    have al13 := (AR.up e15 al12)
    refine ⟨_, rfl, aself1, G.C_Machine, dself1, _, rfl, (w20.get 0 rfl), F.cl_Machine, F.n_Machine_arcs, (by show 1 < 1000; decide), ?_⟩
    rw [putF_new ["named"] rfl (by decide)]
    dsimp only [List.cons_append, List.nil_append]
    have w21 : Wd G.T P15 (upd H21 aself1 (HO.ins G.C_Machine dself1 [("named", (S signs1)), ("arcs", (.ref D2))])) ((aself1, (HO.ins G.C_Machine dself1 [("named", (S signs1)), ("arcs", (.ref D2))])) :: (dself1, (HO.own aself1)) :: cs0) := w20.put 0 (HO.ins G.C_Machine dself1 [("named", (S signs1)), ("arcs", (.ref D2))]) rfl
    generalize upd H21 aself1 (HO.ins G.C_Machine dself1 [("named", (S signs1)), ("arcs", (.ref D2))]) = H22 at w21 ⊢
    refine ⟨_, rfl, a2, vs2, rfl, (.inl (.inl (w21.sub _ _ ((((e5.trans e9).trans e14).trans e15) _ _ fq2)))), fun p1 np1 => ?_⟩
    have al14 : AR yS P15 vs2 endings1 := (AR.up (((e5.trans e9).trans e14).trans e15) al2)
    have e16 := w21.fext np1 (HO.lst vs2)
    have w22 := w21.frz np1 (HO.lst vs2)
    have fq9 : upd P15 p1 (HO.lst vs2) p1 = some (HO.lst vs2) := upd_same
    generalize upd H22 p1 (HO.lst vs2) = H23 at w22 ⊢
    generalize upd P15 p1 (HO.lst vs2) = P16 at w22 e16 fq9
    have al15 := (AR.up e16 al14)
    refine ⟨_, rfl, aself1, G.C_Machine, dself1, _, rfl, (w22.get 0 rfl), F.cl_Machine, F.n_Machine_ends, (by show 2 < 1000; decide), ?_⟩
    rw [putF_new ["named", "arcs"] rfl (by decide)]
    dsimp only [List.cons_append, List.nil_append]
    have w23 : Wd G.T P16 (upd H23 aself1 (HO.ins G.C_Machine dself1 [("named", (S signs1)), ("arcs", (.ref D2)), ("ends", (.ref p1))])) ((aself1, (HO.ins G.C_Machine dself1 [("named", (S signs1)), ("arcs", (.ref D2)), ("ends", (.ref p1))])) :: (dself1, (HO.own aself1)) :: cs0) := w22.put 0 (HO.ins G.C_Machine dself1 [("named", (S signs1)), ("arcs", (.ref D2)), ("ends", (.ref p1))]) rfl
    generalize upd H23 aself1 (HO.ins G.C_Machine dself1 [("named", (S signs1)), ("arcs", (.ref D2)), ("ends", (.ref p1))]) = H24 at w23 ⊢
    have e17 : Ext P16 (upd P16 aself1 (HO.ins G.C_Machine dself1 [("named", (S signs1)), ("arcs", (.ref D2)), ("ends", (.ref p1))])) := w23.kext
    have w24 : Wd G.T (upd P16 aself1 (HO.ins G.C_Machine dself1 [("named", (S signs1)), ("arcs", (.ref D2)), ("ends", (.ref p1))])) H24 ((dself1, (HO.own aself1)) :: cs0) := w23.keep
    have fq10 : upd P16 aself1 (HO.ins G.C_Machine dself1 [("named", (S signs1)), ("arcs", (.ref D2)), ("ends", (.ref p1))]) aself1 = some (HO.ins G.C_Machine dself1 [("named", (S signs1)), ("arcs", (.ref D2)), ("ends", (.ref p1))]) := upd_same
    generalize upd P16 aself1 (HO.ins G.C_Machine dself1 [("named", (S signs1)), ("arcs", (.ref D2)), ("ends", (.ref p1))]) = P17 at w24 e17 fq10
    have e18 : Ext P17 (upd P17 dself1 (HO.own aself1)) := w24.kext
    have w25 : Wd G.T (upd P17 dself1 (HO.own aself1)) H24 (cs0) := w24.keep
    have fq11 : upd P17 dself1 (HO.own aself1) dself1 = some (HO.own aself1) := upd_same
    generalize upd P17 dself1 (HO.own aself1) = P18 at w25 e18 fq11
    obtain rfl := Option.some.inj eR
    exact q _ rfl H24 P18 ((((((e5.trans e9).trans e14).trans e15).trans e16).trans e17).trans e18) w25 ⟨_, _, _, _, _, rfl, (e18 _ _ fq10), rfl, ⟨_, _, rfl, (((e16.trans e17).trans e18) _ _ fq8), (AR.up ((e16.trans e17).trans e18) al13)⟩, ⟨_, _, rfl, ((e17.trans e18) _ _ fq9), (AR.up (e17.trans e18) al15)⟩⟩
theorem fn_Machine_init {P : Program} {w : World} {K : PySem.W.Frag} {mg : Str → Option Value} {base : Heap} {G : GA} {f : Addr} {fd : FuncData} (T : Tx P w K G mg base) (F : Fun K "__init__" "Machine.__init__" s_Machine_init f fd) : FnOk P w K mg base (L2.CX P w) 5 f fd ["self", "signs", "arcs", "endings"] (sp_Machine_init K G) := by
  refine F.okX sc_Machine_init (fun vs H Q E h => ?_) (fun cdv A outer s H vs Q E hr h => ⟨t_Machine_init K G (wE E), ?_, rd_Machine_init T.fa vs H Q E h⟩)
  · obtain ⟨_, _, _, _, _, _, _, _, _, _, rfl, _⟩ := h
    rfl
  · have tk := takes_def (P := P) (w := w) (K := K) (mg := mg) (base := base) (N := ["self", "signs", "arcs", "endings", "state", "sign", "row", "key"]) (qual := "Machine.__init__") (scope := defScope s_Machine_init) (f := f) (cd := cdv) (A := A) (outer := outer) (s := s) (H := H) (E := E)
    have pa := passes_def (P := P) (w := w) (K := K) (mg := mg) (base := base) (N := ["self", "signs", "arcs", "endings", "state", "sign", "row", "key"]) (qual := "Machine.__init__") (scope := defScope s_Machine_init) (f := f) (cd := cdv) (A := A) (outer := outer) (s := s) (H := H) (E := E)
    exact (pss_cons (ps_if (PW.pt (pw_or (pt_not (pt_val (pe_callB (cr_all rfl) (by rfl) T.z_all (by decide +kernel) (pa_cons (pe_lc (own := [("sign", 5)]) rfl sc_Machine_init.nd (pi_str (pv 1)) (blkOk_by (N := ["self", "signs", "arcs", "endings", "state", "sign", "row", "key"]) (sc := defScope s_Machine_init) (by decide +kernel)) (fun _ _ _ _ _ => (pg_name (i := 5) sc_Machine_init.nd rfl (Or.inl rfl))) (fun _ _ _ _ _ => pts_nil) (fun _ _ _ _ _ => (pe_cmpR o_inS (pv 5) (pe_gc (by rfl) T.g_SIGNS) (by rfl)))) pa_nil)))) (pw_or1 (pt_cmpR o_neS (pe_c (c_in_order T) hr (by decide) (by rfl) (pa_cons (pv 1) pa_nil)) (pv 1) (nomark _))))) (pss_one (ps_raise1 T.e_InvalidSigns tk hr (by decide) (by rfl) (pa_cons (pv 1) pa_nil))) pss_nil) (pss_cons (ps_for pa rfl (pi_range1 (by rfl) T.z_range (pa_cons (pe_callB (c_max3 rfl) (by rfl) T.z_max (by decide +kernel) (pa_cons pe_int (pa_cons (pe_callB c_lenM (by rfl) T.z_len PySem.boot_len (pa_cons (pv 2) pa_nil)) (pa_cons (pe_callB c_lenM (by rfl) T.z_len PySem.boot_len (pa_cons (pv 3) pa_nil)) pa_nil)))) pa_nil)) (pg_name (i := 4) sc_Machine_init.nd rfl (Or.inl rfl)) (pss_cons (ps_if (PW.pt (pw_or (pt_cmpR o_ge (pv 4) (pe_callB c_lenM (by rfl) T.z_len PySem.boot_len (pa_cons (pv 2) pa_nil)) (nomark _)) (pw_or1 (pt_cmpR o_ge (pv 4) (pe_callB c_lenM (by rfl) T.z_len PySem.boot_len (pa_cons (pv 3) pa_nil)) (nomark _))))) (pss_one (ps_raise1 T.e_InvalidMachine tk hr (by decide) (by rfl) (pa_cons (pv 4) pa_nil))) pss_nil) (pss_one (ps_if (pt_not (pt_val (pe_c (c_is_row T) hr (by decide) (by rfl) (pa_cons (pe_ix ix_list (pv 2) (pv 4) (fun _ _ => rfl)) (pa_cons (pe_ix ix_list (pv 3) (pv 4) (fun _ _ => rfl)) (pa_cons (pv 1) (pa_cons (pe_callB c_lenM (by rfl) T.z_len PySem.boot_len (pa_cons (pv 2) pa_nil)) pa_nil))))))) (pss_one (ps_raise1 T.e_InvalidMachine tk hr (by decide) (by rfl) (pa_cons (pv 4) pa_nil))) pss_nil)))) (pss_cons (ps_fld (pv 0) (pv 1) rfl) (pss_cons (ps_fld (pv 0) (pe_lc (own := [("row", 6)]) rfl sc_Machine_init.nd (pi_list (pv 2)) (blkOk_by (N := ["self", "signs", "arcs", "endings", "state", "sign", "row", "key"]) (sc := defScope s_Machine_init) (by decide +kernel)) (fun _ _ _ _ _ => (pg_name (i := 6) sc_Machine_init.nd rfl (Or.inr rfl))) (fun _ _ _ _ _ => pts_nil) (fun _ _ _ _ _ => (pe_lockA (pe_dc (own := [("key", 7)]) rfl sc_Machine_init.nd (pi_keysK (pv 6)) (blkOk_by (N := ["self", "signs", "arcs", "endings", "state", "sign", "row", "key"]) (sc := (cScope s_Machine_init 0)) (by decide +kernel)) (fun _ _ _ _ _ => (pg_name (i := 7) sc_Machine_init.nd rfl (Or.inl rfl))) (fun _ _ _ _ _ => pts_nil) (fun _ _ _ _ _ => (pv 7)) (fun _ _ _ _ _ => (pe_dget (un1 hr.units) (pv 6) (pv 7) (fun _ _ => rfl))))))) rfl) (pss_one (ps_fld (pv 0) (pe_callTy c_listL (by rfl) T.z_list (by decide +kernel) (pa_cons (pv 3) pa_nil)) rfl))))))
theorem c_Machine_init {P : Program} {w : World} {K : PySem.W.Frag} {mg : Str → Option Value} {base : Heap} {G : GA} (T : Tx P w K G mg base) : CalIE P w K mg base 5 "Machine" G.C_Machine (sp_Machine_init K G) := by
  obtain ⟨f, fd, F, b, g, M⟩ := T.d_Machine_init
  exact ⟨f, fd, _, fn_Machine_init T F, g, M, b⟩

def m_Machine_size (self1 : O_Machine) : Option Int :=
  (some (self1.2.1.length : Int))
def sp_Machine_size (K : PySem.W.Frag) (G : GA) : Sp := fun vs H Q E => ∃ (P : Hp) (cs0 : Cs) (vself1 : V) (self1 : O_Machine) (R0 : Int), vs = [vself1] ∧ Wd G.T P H (cs0) ∧ (y_Machine K G) P vself1 self1 ∧ m_Machine_size self1 = some R0 ∧ ∀ (H1 P1 : Hp), Ext P P1 → Wd G.T P1 H1 (cs0) → Q (V.int R0) H1
def t_Machine_size (K : PySem.W.Frag) (G : GA) : TS := (tRet (tCB (rLenM K) (tCons (tFld K (tVar 0) "arcs") tNil)))
theorem sc_Machine_size : FnScope ["self"] ["self"] (defScope s_Machine_size) := ⟨rfl, rfl, rfl, by decide +kernel, rfl, by decide +kernel, by decide +kernel⟩
theorem rd_Machine_size {K : PySem.W.Frag} {G : GA} (F : Fa K G) (vs : List V) (H : Hp) (Q : VK) (E : XK) (h : sp_Machine_size K G vs H Q E) : t_Machine_size K G { nx := fun _ H1 => Q .non H1, rt := Q } (L2.start ["self"] vs) H := by
  obtain ⟨P, cs0, vself1, self1, R0, rfl, w, hdself1, eR, q⟩ := h
  unfold m_Machine_size at eR
  obtain ⟨a1, dx1, u1, u2, u3, rfl, fq1, hu1, hu2, hu3⟩ := hdself1
  obtain rfl : u1 = (S self1.1) := hu1
  obtain ⟨a2, vs1, rfl, fq2, al1⟩ := hu2
  obtain ⟨a3, vs2, rfl, fq3, al2⟩ := hu3
  refine ⟨_, rfl, a1, G.C_Machine, dx1, _, _, rfl, (w.sub _ _ fq1), F.cl_Machine, F.n_Machine_arcs, (by rfl), a2, vs1, (self1.2.1.length), rfl, (.inl (.inl (w.sub _ _ fq2))), (AR.len al1), ?_⟩
  obtain rfl := Option.some.inj eR
  exact q H P (Ext.refl _) w
theorem fn_Machine_size {P : Program} {w : World} {K : PySem.W.Frag} {mg : Str → Option Value} {base : Heap} {G : GA} {f : Addr} {fd : FuncData} (T : Tx P w K G mg base) (F : Fun K "size" "Machine.size" s_Machine_size f fd) : FnOk P w K mg base CX0 1 f fd ["self"] (sp_Machine_size K G) := by
  refine F.ok sc_Machine_size (fun vs H Q E h => ?_) (fun cdv A outer s H vs Q E hr h => ⟨t_Machine_size K G, ?_, rd_Machine_size T.fa vs H Q E h⟩)
  · obtain ⟨_, _, _, _, _, rfl, _⟩ := h
    rfl
  · exact (pss_one (ps_ret (pe_callB c_lenM (by rfl) T.z_len PySem.boot_len (pa_cons (pe_fld (pv 0) rfl) pa_nil))))
theorem c_Machine_size {P : Program} {w : World} {K : PySem.W.Frag} {mg : Str → Option Value} {base : Heap} {G : GA} (T : Tx P w K G mg base) : CalP P w K mg base 1 G.C_Machine "size" (sp_Machine_size K G) := by
  obtain ⟨p, f, fd, F, b, M⟩ := T.d_Machine_size
  exact ⟨p, f, fd, _, fn_Machine_size T F, M, b, T.fa.cl_Machine⟩

def m_made (named1 : (List Nat)) (arcs1 : (List (List ((List Nat) × (Int × (List Nat)))))) (endings1 : (List (List Nat))) : Option PyData :=
  (ob (m_Machine_init named1 arcs1 endings1) (fun (t1 : (Rs O_Machine)) => (Rs.el t1 (fun (er1 : Er) => (if (decide (er1.1 = 2)) then (ob (FV.gs er1.2.1) (fun (t3 : (List Nat)) => (some (PyData.tuple [(eS ((cs "signs"), t3).1), (eS ((cs "signs"), t3).2)])))) else (if (decide (er1.1 = 3)) then (ob (FV.gi er1.2.1) (fun (t4 : Int) => (some (PyData.tuple [(eS ((cs "state"), t4).1), (PyData.int ((cs "state"), t4).2)])))) else none))) (fun (t2 : O_Machine) => (ob (m_Machine_size t2) (fun (t5 : Int) => (some (PyData.tuple [(eS ((cs "made"), t5).1), (PyData.int ((cs "made"), t5).2)]))))))))
def sp_made (K : PySem.W.Frag) (G : GA) : Sp := fun vs H Q E => ∃ (P : Hp) (cs0 : Cs) (named1 : (List Nat)) (varcs1 : V) (arcs1 : (List (List ((List Nat) × (Int × (List Nat)))))) (vendings1 : V) (endings1 : (List (List Nat))) (R0 : PyData), vs = [(S named1), varcs1, vendings1] ∧ Wd G.T P H (cs0) ∧ (yL (yD kS (y2 K yI yS))) P varcs1 arcs1 ∧ (yL yS) P vendings1 endings1 ∧ m_made named1 arcs1 endings1 = some R0 ∧ ∀ (H1 P1 : Hp) (v1 : V), Ext P P1 → Wd G.T P1 H1 (cs0) → (yDt K) P1 v1 R0 → Q v1 H1
def t_made (K : PySem.W.Frag) (G : GA) : TS := (fun D σ H => (fun (W1 : WX) => (tRet (tTup (tCons (tC (S (cs "made"))) (tCons (tProp G.C_Machine (sp_Machine_size K G) [] E0 (tMakeE G.C_Machine (sp_Machine_init K G) W1 (tCons (tVar 0) (tCons (tVar 1) (tCons (tVar 2) tNil))))) tNil))))) (wCl K wF D [((.ref G.C_InvalidSigns), some 3, fun a cls d => (tRet (tTup (tCons (tC (S (cs "signs"))) (tCons (tXf a cls d G.C_InvalidSigns "text" (tVar 3)) tNil))))), ((.ref G.C_InvalidMachine), some 3, fun a cls d => (tRet (tTup (tCons (tC (S (cs "state"))) (tCons (tXf a cls d G.C_InvalidMachine "state" (tVar 3)) tNil)))))]) D σ H)
theorem sc_made : FnScope ["_law_named", "_law_arcs", "_law_endings", "e"] ["_law_named", "_law_arcs", "_law_endings"] (defScope s_made) := ⟨rfl, rfl, rfl, by decide +kernel, rfl, by decide +kernel, by decide +kernel⟩
theorem rd_made {K : PySem.W.Frag} {G : GA} (F : Fa K G) (vs : List V) (H : Hp) (Q : VK) (E : XK) (h : sp_made K G vs H Q E) : t_made K G { nx := fun _ H1 => Q .non H1, rt := Q } (L2.start ["_law_named", "_law_arcs", "_law_endings", "e"] vs) H := by
  obtain ⟨P, cs0, named1, varcs1, arcs1, vendings1, endings1, R0, rfl, w, hdarcs1, hdendings1, eR, q⟩ := h
  unfold m_made at eR
  obtain ⟨a1, vs1, rfl, fq1, al1⟩ := hdarcs1
  obtain ⟨a2, vs2, rfl, fq2, al2⟩ := hdendings1
  refine ⟨_, rfl, _, rfl, _, rfl, fun x1 dx1 hx1 hdx1 hne1 => ?_⟩
  obtain ⟨t1, et1, eR⟩ := ob_some eR
  refine ⟨P, (cs0), x1, dx1, named1, (.ref a1), arcs1, (.ref a2), endings1, t1, rfl, (w.made hx1 hdx1 hne1), ⟨_, _, rfl, fq1, al1⟩, ⟨_, _, rfl, fq2, al2⟩, et1, ?_, ?_⟩
  · rintro er1 rfl H1 P1 d1 e1 w2
    rw [Rs.el_er] at eR
    obtain ⟨ec1, fa1, fb1⟩ := er1
    dsimp only at eR
    by_cases hb1 : ec1 = 2
    · rw [ite_t (decide_eq_true hb1)] at eR
      subst hb1
      obtain ⟨t3, et2, eR⟩ := ob_some eR
      refine ⟨true, F.xm_InvalidSigns_InvalidSigns, fun _ a3 na1 => ?_, fun h => nomatch h⟩
      refine ⟨_, rfl, rfl, rfl, d1, _, (S t3), rfl, (w2.get 0 rfl), (congrArg some (FV.gs_v et2)), (by show 2 ≤ sizeLine; decide), fun p1 np1 => ?_⟩
      have e2 := w2.fext np1 (HO.tup ([(S (cs "signs")), (S t3)] : List V))
      have w3 := w2.frz np1 (HO.tup ([(S (cs "signs")), (S t3)] : List V))
      have fq3 : upd P1 p1 (HO.tup ([(S (cs "signs")), (S t3)] : List V)) p1 = some (HO.tup ([(S (cs "signs")), (S t3)] : List V)) := upd_same
      generalize upd H1 p1 (HO.tup ([(S (cs "signs")), (S t3)] : List V)) = H2 at w3 ⊢
      generalize upd P1 p1 (HO.tup ([(S (cs "signs")), (S t3)] : List V)) = P2 at w3 e2 fq3
      obtain rfl := Option.some.inj eR
      exact q H2 P2 (.ref p1) (e1.trans e2) (w3.pull 0 rfl).tl (yDt_of (R1 := (y2 K yS yS)) (show (y2 K yS yS) P2 (.ref p1) ((cs "signs"), t3) from ⟨_, _, _, rfl, fq3, rfl, rfl⟩) rfl)
    · rw [ite_f (decide_eq_false hb1)] at eR
      by_cases hb2 : ec1 = 3
      · rw [ite_t (decide_eq_true hb2)] at eR
        subst hb2
        obtain ⟨t4, et3, eR⟩ := ob_some eR
        refine ⟨false, F.xm_InvalidMachine_InvalidSigns, (fun h => nomatch h), fun _ => ?_⟩
        refine ⟨true, F.xm_InvalidMachine_InvalidMachine, fun _ a4 na2 => ?_, fun h => nomatch h⟩
        refine ⟨_, rfl, rfl, rfl, d1, _, (V.int t4), rfl, (w2.get 0 rfl), (congrArg some (FV.gi_v et3)), (by show 2 ≤ sizeLine; decide), fun p2 np2 => ?_⟩
        have e3 := w2.fext np2 (HO.tup ([(S (cs "state")), (V.int t4)] : List V))
        have w4 := w2.frz np2 (HO.tup ([(S (cs "state")), (V.int t4)] : List V))
        have fq4 : upd P1 p2 (HO.tup ([(S (cs "state")), (V.int t4)] : List V)) p2 = some (HO.tup ([(S (cs "state")), (V.int t4)] : List V)) := upd_same
        generalize upd H1 p2 (HO.tup ([(S (cs "state")), (V.int t4)] : List V)) = H3 at w4 ⊢
        generalize upd P1 p2 (HO.tup ([(S (cs "state")), (V.int t4)] : List V)) = P3 at w4 e3 fq4
        obtain rfl := Option.some.inj eR
        exact q H3 P3 (.ref p2) (e1.trans e3) (w4.pull 0 rfl).tl (yDt_of (R1 := (y2 K yS yI)) (show (y2 K yS yI) P3 (.ref p2) ((cs "state"), t4) from ⟨_, _, _, rfl, fq4, rfl, rfl⟩) rfl)
      · rw [ite_f (decide_eq_false hb2)] at eR
        cases eR
  rintro t2 rfl
  rw [Rs.el_ok] at eR
  intro H4 P4 e4 w5 hd1
  refine ⟨rfl, ?_⟩
  obtain ⟨a5, dx2, u1, u2, u3, he1, fq5, hu1, hu2, hu3⟩ := hd1
  obtain rfl := V.ref.inj he1
  obtain rfl : u1 = (S t2.1) := hu1
  obtain ⟨a6, vs3, rfl, fq6, al3⟩ := hu2
  obtain ⟨a7, vs4, rfl, fq7, al4⟩ := hu3
  obtain ⟨t5, et4, eR⟩ := ob_some eR
  refine ⟨x1, dx2, _, rfl, (w5.sub _ _ fq5), P4, (cs0), (.ref x1), t2, t5, rfl, w5, ⟨_, _, _, _, _, rfl, fq5, rfl, ⟨_, _, rfl, fq6, al3⟩, ⟨_, _, rfl, fq7, al4⟩⟩, et4, fun H5 P5 e5 w6 => ?_⟩
  refine ⟨(by show 2 ≤ sizeLine; decide), fun p3 np3 => ?_⟩
  have e6 := w6.fext np3 (HO.tup ([(S (cs "made")), (V.int t5)] : List V))
  have w7 := w6.frz np3 (HO.tup ([(S (cs "made")), (V.int t5)] : List V))
  have fq8 : upd P5 p3 (HO.tup ([(S (cs "made")), (V.int t5)] : List V)) p3 = some (HO.tup ([(S (cs "made")), (V.int t5)] : List V)) := upd_same
  generalize upd H5 p3 (HO.tup ([(S (cs "made")), (V.int t5)] : List V)) = H6 at w7 ⊢
  generalize upd P5 p3 (HO.tup ([(S (cs "made")), (V.int t5)] : List V)) = P6 at w7 e6 fq8
  obtain rfl := Option.some.inj eR
  exact q H6 P6 (.ref p3) ((e4.trans e5).trans e6) w7 (yDt_of (R1 := (y2 K yS yI)) (show (y2 K yS yI) P6 (.ref p3) ((cs "made"), t5) from ⟨_, _, _, rfl, fq8, rfl, rfl⟩) rfl)
theorem fn_made {P : Program} {w : World} {K : PySem.W.Frag} {mg : Str → Option Value} {base : Heap} {G : GA} {f : Addr} {fd : FuncData} (T : Tx P w K G mg base) (F : Fun K "_law_made" "_law_made" s_made f fd) : FnOk P w K mg base CX0 7 f fd ["_law_named", "_law_arcs", "_law_endings"] (sp_made K G) := by
  refine F.ok sc_made (fun vs H Q E h => ?_) (fun cdv A outer s H vs Q E hr h => ⟨t_made K G, ?_, rd_made T.fa vs H Q E h⟩)
  · obtain ⟨_, _, _, _, _, _, _, _, rfl, _⟩ := h
    rfl
  · exact (pss_one (ps_tryc (tb := fun (W1 : WX) => (tRet (tTup (tCons (tC (S (cs "made"))) (tCons (tProp G.C_Machine (sp_Machine_size K G) [] E0 (tMakeE G.C_Machine (sp_Machine_init K G) W1 (tCons (tVar 0) (tCons (tVar 1) (tCons (tVar 2) tNil))))) tNil))))) (l := [((.ref G.C_InvalidSigns), some 3, fun a cls d => (tRet (tTup (tCons (tC (S (cs "signs"))) (tCons (tXf a cls d G.C_InvalidSigns "text" (tVar 3)) tNil))))), ((.ref G.C_InvalidMachine), some 3, fun a cls d => (tRet (tTup (tCons (tC (S (cs "state"))) (tCons (tXf a cls d G.C_InvalidMachine "state" (tVar 3)) tNil)))))]) rfl rfl takesF (fun W1 pn1 xe1 tk1 pa1 => (pss_one (ps_ret (pe_tup (pa_cons pe_strS (pa_cons (pe_cp (c_Machine_size T) hr (by decide) (pe_cie (c_Machine_init T) tk1 hr (by decide) (by rfl) (pa_cons (pv 0) (pa_cons (pv 1) (pa_cons (pv 2) pa_nil))))) pa_nil)))))) (.conn sc_made.nd rfl rfl ⟨by rfl, by decide, .inl T.nm_InvalidSigns⟩ (fun a oe cls d pn hz hfo => (pss_one (ps_ret (pe_tup (pa_cons pe_strS (pa_cons (pe_xf T.fa.xf_InvalidSigns T.fa.xn_InvalidSigns_text hz hfo (pv 3)) pa_nil)))))) (.conn sc_made.nd rfl rfl ⟨by rfl, by decide, .inl T.nm_InvalidMachine⟩ (fun a oe cls d pn hz hfo => (pss_one (ps_ret (pe_tup (pa_cons pe_strS (pa_cons (pe_xf T.fa.xf_InvalidMachine T.fa.xn_InvalidMachine_state hz hfo (pv 3)) pa_nil)))))) .nil))))
theorem c_made {P : Program} {w : World} {K : PySem.W.Frag} {mg : Str → Option Value} {base : Heap} {G : GA} (T : Tx P w K G mg base) : Cal P w K mg base 7 "_law_made" (sp_made K G) := by
  obtain ⟨f, fd, F, b, g⟩ := T.d_made
  exact ⟨f, fd, _, fn_made T F, g, F.kp, b⟩

def m_spoil (ns : List Int) (boxhere1 : Box) (named1 : (List Nat)) (arcs1 : (List (List ((List Nat) × (Int × (List Nat)))))) (endings1 : (List (List Nat))) : Option (Box × (List (List Nat)) × (List (List ((List Nat) × (Int × (List Nat)))))) :=
  (ob (takeO ns boxhere1 8) (fun (t1 : (Int × Box)) => (ob (takeO ns t1.2 5) (fun (t2 : (Int × Box)) => (ob m_law_signs (fun (t3 : (List Nat)) => (chk (t3.length ≤ 1000000) (ob (takeO ns t2.2 90) (fun (t4 : (Int × Box)) => (chk (inR ((t3.filter (fun ic0 => (!(decide (ic0 ∈ named1))))).map (fun ic0 => ([ic0] : List Nat))).length t4.1) (ob (if (decide (t1.1 = 0)) then (chk (0 ≤ t2.1) (some (endings1.take (t2.1).toNat))) else (some endings1)) (fun (t5 : (List (List Nat))) => (ob (if (decide (t1.1 = 1)) then (chk (t5.length < 1000000) (some (t5 ++ [(cs "")]))) else (some t5)) (fun (t6 : (List (List Nat))) => (ob (if ((decide (t1.1 = 2)) && (decide (t2.1 < (t6.length : Int)))) then (chk (inR t6.length t2.1) (chk ((t6.getD (ixP t6.length t2.1) ([] : List Nat)).length + (((t3.filter (fun ic0 => (!(decide (ic0 ∈ named1))))).map (fun ic0 => ([ic0] : List Nat))).getD (ixP ((t3.filter (fun ic0 => (!(decide (ic0 ∈ named1))))).map (fun ic0 => ([ic0] : List Nat))).length t4.1) ([] : List Nat)).length ≤ 1000000) (chk (inR t6.length t2.1) (some (t6.set (ixP t6.length t2.1) ((t6.getD (ixP t6.length t2.1) ([] : List Nat)) ++ (((t3.filter (fun ic0 => (!(decide (ic0 ∈ named1))))).map (fun ic0 => ([ic0] : List Nat))).getD (ixP ((t3.filter (fun ic0 => (!(decide (ic0 ∈ named1))))).map (fun ic0 => ([ic0] : List Nat))).length t4.1) ([] : List Nat)))))))) else (some t6)) (fun (t7 : (List (List Nat))) => (if ((decide (2 < t1.1)) && (decide (t2.1 < (arcs1.length : Int)))) then (chk (inR arcs1.length t2.1) (ob (chk ((okL okS) (srt ltT ((arcs1.getD (ixP arcs1.length t2.1) ([] : (List ((List Nat) × (Int × (List Nat)))))).map (fun x => x.1))) = true ∧ (okL okS) ([] : List (List Nat)) = true) (if (!(decide ((srt ltT ((arcs1.getD (ixP arcs1.length t2.1) ([] : (List ((List Nat) × (Int × (List Nat)))))).map (fun x => x.1))) = ([] : List (List Nat))))) then (ob (takeO ns t4.2 ((srt ltT ((arcs1.getD (ixP arcs1.length t2.1) ([] : (List ((List Nat) × (Int × (List Nat)))))).map (fun x => x.1))).length : Int)) (fun (t9 : (Int × Box)) => (chk (inR (srt ltT ((arcs1.getD (ixP arcs1.length t2.1) ([] : (List ((List Nat) × (Int × (List Nat)))))).map (fun x => x.1))).length t9.1) (some (((srt ltT ((arcs1.getD (ixP arcs1.length t2.1) ([] : (List ((List Nat) × (Int × (List Nat)))))).map (fun x => x.1))).getD (ixP (srt ltT ((arcs1.getD (ixP arcs1.length t2.1) ([] : (List ((List Nat) × (Int × (List Nat)))))).map (fun x => x.1))).length t9.1) ([] : List Nat)), t9.2))))) else (some ((cs "mark"), t4.2)))) (fun (t8 : ((List Nat) × Box)) => (ob (if (decide (t1.1 = 3)) then (some ([] : (List ((List Nat) × (Int × (List Nat)))))) else (some (arcs1.getD (ixP arcs1.length t2.1) ([] : (List ((List Nat) × (Int × (List Nat)))))))) (fun (t10 : (List ((List Nat) × (Int × (List Nat))))) => (ob (if (decide (t1.1 = 4)) then (ob (takeO ns t8.2 3) (fun (t12 : (Int × Box)) => (chk (inR ([(((t3.filter (fun ic0 => (!(decide (ic0 ∈ named1))))).map (fun ic0 => ([ic0] : List Nat))).getD (ixP ((t3.filter (fun ic0 => (!(decide (ic0 ∈ named1))))).map (fun ic0 => ([ic0] : List Nat))).length t4.1) ([] : List Nat)), (cs "none"), (cs "")] : List (List Nat)).length t12.1) (chk (t10.length < 1000000) (ob (some (dP t10 (([(((t3.filter (fun ic0 => (!(decide (ic0 ∈ named1))))).map (fun ic0 => ([ic0] : List Nat))).getD (ixP ((t3.filter (fun ic0 => (!(decide (ic0 ∈ named1))))).map (fun ic0 => ([ic0] : List Nat))).length t4.1) ([] : List Nat)), (cs "none"), (cs "")] : List (List Nat)).getD (ixP ([(((t3.filter (fun ic0 => (!(decide (ic0 ∈ named1))))).map (fun ic0 => ([ic0] : List Nat))).getD (ixP ((t3.filter (fun ic0 => (!(decide (ic0 ∈ named1))))).map (fun ic0 => ([ic0] : List Nat))).length t4.1) ([] : List Nat)), (cs "none"), (cs "")] : List (List Nat)).length t12.1) ([] : List Nat)) (0, (cs "")))) (fun (t13 : (List ((List Nat) × (Int × (List Nat))))) => (some (t13, t12.2)))))))) else (some (t10, t8.2))) (fun (t11 : ((List ((List Nat) × (Int × (List Nat)))) × Box)) => (ob (if (decide (t1.1 = 5)) then (ob (takeO ns t11.2 4) (fun (t15 : (Int × Box)) => (chk (inR ([(-1 : Int), (arcs1.length : Int), (10 ^ 9), (-(arcs1.length : Int) : Int)] : List Int).length t15.1) (chk (t11.1.length < 1000000) (some ((dP t11.1 t8.1 ((([(-1 : Int), (arcs1.length : Int), (10 ^ 9), (-(arcs1.length : Int) : Int)] : List Int).getD (ixP ([(-1 : Int), (arcs1.length : Int), (10 ^ 9), (-(arcs1.length : Int) : Int)] : List Int).length t15.1) (0 : Int)), ((dL (arcs1.getD (ixP arcs1.length t2.1) ([] : (List ((List Nat) × (Int × (List Nat)))))) t8.1).getD (0, (cs ""))).2)), t15.2)))))) else (some (t11.1, t11.2))) (fun (t14 : ((List ((List Nat) × (Int × (List Nat)))) × Box)) => (ob (if (decide (t1.1 = 6)) then (chk ((((t3.filter (fun ic0 => (!(decide (ic0 ∈ named1))))).map (fun ic0 => ([ic0] : List Nat))).getD (ixP ((t3.filter (fun ic0 => (!(decide (ic0 ∈ named1))))).map (fun ic0 => ([ic0] : List Nat))).length t4.1) ([] : List Nat)).length + ((dL (arcs1.getD (ixP arcs1.length t2.1) ([] : (List ((List Nat) × (Int × (List Nat)))))) t8.1).getD (0, (cs ""))).2.length ≤ 1000000) (chk (t14.1.length < 1000000) (some (dP t14.1 t8.1 (((dL (arcs1.getD (ixP arcs1.length t2.1) ([] : (List ((List Nat) × (Int × (List Nat)))))) t8.1).getD (0, (cs ""))).1, ((((t3.filter (fun ic0 => (!(decide (ic0 ∈ named1))))).map (fun ic0 => ([ic0] : List Nat))).getD (ixP ((t3.filter (fun ic0 => (!(decide (ic0 ∈ named1))))).map (fun ic0 => ([ic0] : List Nat))).length t4.1) ([] : List Nat)) ++ ((dL (arcs1.getD (ixP arcs1.length t2.1) ([] : (List ((List Nat) × (Int × (List Nat)))))) t8.1).getD (0, (cs ""))).2)))))) else (some t14.1)) (fun (t16 : (List ((List Nat) × (Int × (List Nat))))) => (if (decide (t1.1 = 7)) then (chk (0 ≤ t2.1) (some (t14.2, t7, ((arcs1.set (ixP arcs1.length t2.1) t16).take (t2.1).toNat)))) else (some (t14.2, t7, (arcs1.set (ixP arcs1.length t2.1) t16))))))))))))))) else (some (t4.2, t7, arcs1)))))))))))))))))))
def sp_spoil (K : PySem.W.Frag) (G : GA) : Sp := fun vs H Q E => ∃ (P : Hp) (cs0 : Cs) (aboxhere1 lboxhere1 : Addr) (ns : List Int) (boxhere1 : Box) (named1 : (List Nat)) (aarcs1 : Addr) (warcs1 : Dz) (arcs1 : (List (List ((List Nat) × (Int × (List Nat)))))) (aendings1 : Addr) (wendings1 : List V) (endings1 : (List (List Nat))) (R0 : (Box × (List (List Nat)) × (List (List ((List Nat) × (Int × (List Nat))))))), vs = [V.ref aboxhere1, (S named1), V.ref aarcs1, V.ref aendings1] ∧ Wd G.T P H ((aboxhere1, (boxO lboxhere1 boxhere1)) :: (aendings1, (HO.lst wendings1)) :: (aarcs1, HO.lst (dlV warcs1)) :: (dlC warcs1 ++ cs0)) ∧ SqL K P lboxhere1 (ns.map V.int) ∧ DLR kS (y2 K yI yS) P warcs1 arcs1 ∧ AR yS P wendings1 endings1 ∧ m_spoil ns boxhere1 named1 arcs1 endings1 = some R0 ∧ ∀ (H1 P1 : Hp) (waendings1q : List V) (waarcs1q : Dz), Ext P P1 → Wd G.T P1 H1 ((aboxhere1, (boxO lboxhere1 R0.1)) :: (aendings1, (HO.lst waendings1q)) :: (aarcs1, HO.lst (dlV waarcs1q)) :: (dlC waarcs1q ++ cs0)) → AR yS P1 waendings1q R0.2.1 → DLR kS (y2 K yI yS) P1 waarcs1q R0.2.2 → Q V.non H1
def t_spoil (K : PySem.W.Frag) (G : GA) : TS := (tSeq (tAsg (tCall (sp_take K G) [] E0 (tCons (tVar 0) (tCons (tC (V.int 8)) tNil))) (gName 4)) (tSeq (tAsg (tCall (sp_take K G) [] E0 (tCons (tVar 0) (tCons (tC (V.int 5)) tNil))) (gName 5)) (tSeq (tAsg (tOp (rIxL K) (tLc (iStr (tCall (sp_law_signs K G) [] E0 tNil)) (gName 11) (tTest (tOp rNiS (tVar 11) (tVar 1))) (tVar 11) [11]) (tCall (sp_take K G) [] E0 (tCons (tVar 0) (tCons (tC (V.int 90)) tNil)))) (gName 6)) (Evl.tCut (tIfS (tTest (tOp rEqI (tVar 4) (tC (V.int 0)))) (tAsg (tLst tNil) (SlX.gCut K (tVar 3) (tPart (tVar 5)))) tNext) (Evl.tCut (tIfS (tTest (tOp rEqI (tVar 4) (tC (V.int 1)))) (tDrop (tBM K "list" rAppend (tVar 3) (tCons (tC (S (cs ""))) tNil))) tNext) (Evl.tCut (tIfS (tAnd (tTest (tOp rEqI (tVar 4) (tC (V.int 2)))) (tTest (tOp rLt (tVar 5) (tCB (rLenM K) (tCons (tVar 3) tNil))))) (tAsg (tOp rAddS (tOp (rIxL K) (tVar 3) (tVar 5)) (tVar 6)) (gSub (tVar 3) (tVar 5) rSetL)) tNext) (tIfS (tAnd (tTest (tOp rGt (tVar 4) (tC (V.int 2)))) (tTest (tOp rLt (tVar 5) (tCB (rLenM K) (tCons (tVar 2) tNil))))) (tSeq (tAsg (tOp (rIxL K) (tVar 2) (tVar 5)) (gName 7)) (tSeq (tAsg (tCB (rSrt K yS ltT) (tCons (tCB rListK (tCons (tVar 7) tNil)) tNil)) (gName 8)) (tSeq (tAsg (tIf (tTest (tOp (rNeR (yL yS) (okL okS)) (tVar 8) (tLst tNil))) (tOp (rIxL K) (tVar 8) (tCall (sp_take K G) [] E0 (tCons (tVar 0) (tCons (tCB (rLenM K) (tCons (tVar 8) tNil)) tNil)))) (tC (S (cs "mark")))) (gName 9)) (tSeq (tAsg (tDGet2 (tVar 7) (tVar 9) (tTup (tCons (tC (V.int 0)) (tCons (tC (S (cs ""))) tNil)))) (gName 10)) (Evl.tCut (tIfS (tTest (tOp rEqI (tVar 4) (tC (V.int 3)))) (tDrop (tBM0 K "dict" rDClear (tVar 7))) tNext) (Evl.tCut (tIfS (tTest (tOp rEqI (tVar 4) (tC (V.int 4)))) (sDPut (tVar 7) (tOp (rIxL K) (tLst (tCons (tVar 6) (tCons (tC (S (cs "none"))) (tCons (tC (S (cs ""))) tNil)))) (tCall (sp_take K G) [] E0 (tCons (tVar 0) (tCons (tC (V.int 3)) tNil)))) (tTup (tCons (tC (V.int 0)) (tCons (tC (S (cs ""))) tNil)))) tNext) (Evl.tCut (tIfS (tTest (tOp rEqI (tVar 4) (tC (V.int 5)))) (sDPut (tVar 7) (tVar 9) (tTup (tCons (tOp (rIxL K) (tLst (tCons (tUn (rU fun i => .int (-i)) (tC (V.int 1))) (tCons (tCB (rLenM K) (tCons (tVar 2) tNil)) (tCons (tOp rPow (tC (V.int 10)) (tC (V.int 9))) (tCons (tUn (rU fun i => .int (-i)) (tCB (rLenM K) (tCons (tVar 2) tNil))) tNil))))) (tCall (sp_take K G) [] E0 (tCons (tVar 0) (tCons (tC (V.int 4)) tNil)))) (tCons (tOp (L2.rIxT K) (tVar 10) (tC (V.int 1))) tNil)))) tNext) (Evl.tCut (tIfS (tTest (tOp rEqI (tVar 4) (tC (V.int 6)))) (sDPut (tVar 7) (tVar 9) (tTup (tCons (tOp (L2.rIxT K) (tVar 10) (tC (V.int 0))) (tCons (tOp rAddS (tVar 6) (tOp (L2.rIxT K) (tVar 10) (tC (V.int 1)))) tNil)))) tNext) (tIfS (tTest (tOp rEqI (tVar 4) (tC (V.int 7)))) (tAsg (tLst tNil) (SlX.gCut K (tVar 2) (tPart (tVar 5)))) tNext))))))))) tNext)))))))
theorem sc_spoil : FnScope ["_law_box_here", "_law_named", "_law_arcs", "_law_endings", "_law_way", "_law_at", "_law_strange", "_law_row", "_law_keys", "_law_key", "_law_arc", "_law_sign_here"] ["_law_box_here", "_law_named", "_law_arcs", "_law_endings"] (defScope s_spoil) := ⟨rfl, rfl, rfl, by decide +kernel, rfl, by decide +kernel, by decide +kernel⟩
theorem rd_spoil {K : PySem.W.Frag} {G : GA} (F : Fa K G) (vs : List V) (H : Hp) (Q : VK) (E : XK) (h : sp_spoil K G vs H Q E) : t_spoil K G { nx := fun _ H1 => Q .non H1, rt := Q } (L2.start ["_law_box_here", "_law_named", "_law_arcs", "_law_endings", "_law_way", "_law_at", "_law_strange", "_law_row", "_law_keys", "_law_key", "_law_arc", "_law_sign_here"] vs) H := by
  obtain ⟨P, cs0, aboxhere1, lboxhere1, ns, boxhere1, named1, aarcs1, warcs1, arcs1, aendings1, wendings1, endings1, R0, rfl, w, hl, hdarcs1, hdendings1, eR, q⟩ := h
  unfold m_spoil at eR
  obtain ⟨t1, et1, eR⟩ := ob_some eR
  refine ⟨_, rfl, P, ((aendings1, (HO.lst wendings1)) :: (aarcs1, HO.lst (dlV warcs1)) :: (dlC warcs1 ++ cs0)), aboxhere1, lboxhere1, ns, boxhere1, 8, t1, rfl, w, hl, et1, fun H1 P1 e1 w1 => ?_⟩
  obtain ⟨t2, et2, eR⟩ := ob_some eR
  refine ⟨_, rfl, P1, ((aendings1, (HO.lst wendings1)) :: (aarcs1, HO.lst (dlV warcs1)) :: (dlC warcs1 ++ cs0)), aboxhere1, lboxhere1, ns, t1.2, 5, t2, rfl, w1, (Ext.sql e1 hl), et2, fun H2 P2 e2 w2 => ?_⟩
  obtain ⟨t3, et3, eR⟩ := ob_some eR
  refine ⟨P2, ((aboxhere1, (boxO lboxhere1 t2.2)) :: (aendings1, (HO.lst wendings1)) :: (aarcs1, HO.lst (dlV warcs1)) :: (dlC warcs1 ++ cs0)), t3, rfl, w2, et3, fun H3 P3 e3 w3 => ?_⟩
  obtain ⟨hc1, eR⟩ := chk_some eR
  refine ⟨_, rfl, fun D1 nD1 => ?_⟩
  refine lc_it (walk_str (z := ⟨⟨t3⟩⟩)) (fun i Hz => ∃ (Pz : Hp) (vsz : List V), Ext P3 Pz ∧ Wd G.T Pz Hz ((D1, (HO.lst vsz)) :: (aboxhere1, (boxO lboxhere1 t2.2)) :: (aendings1, (HO.lst wendings1)) :: (aarcs1, HO.lst (dlV warcs1)) :: (dlC warcs1 ++ cs0)) ∧ AR yS Pz vsz (((t3.take i).filter (fun ic0 => (!(decide (ic0 ∈ named1))))).map (fun ic0 => ([ic0] : List Nat)))) ?_ ?_ ?_ ?_
  · exact ⟨P3, [], Ext.refl _, w3.new nD1 _, AR.nil⟩
  · rintro i Hz _ ⟨Pz, vsz, ee, ww, _⟩
    trivial
  · rintro i1 x1 H4 H5 hi1 ⟨P4, vs1, e4, w4, al1⟩ hy1
    obtain ⟨eH1, hx1⟩ := hy1
    rw [eH1]
    obtain ⟨it1, hitit1, exit1⟩ := hx1
    obtain rfl : x1 = S ([it1] : List Nat) := exit1
    have eD1 := str_drop hitit1
    refine ⟨rfl, ?_⟩
    refine ⟨_, rfl, _, rfl, it1, _, rfl, rfl, _, rfl, ?_⟩
    refine iteB (fun hb1 => ?_) (fun hb1 => ?_)
    · refine ⟨_, rfl, vs1, (w4.get 0 rfl), (szl (by rw [AR.len al1]; exact Nat.lt_of_le_of_lt len_tf (Nat.lt_of_lt_of_le hi1 (str_bnd hc1)))), ?_⟩
      exact ⟨P4, _, e4, (w4.put 0 (HO.lst (vs1 ++ [(S ([it1] : List Nat))])) rfl), (by rw [take_snoc_filter eD1 (p := fun it1 => (!(decide (it1 ∈ named1)))) hb1]; exact (AR.snoc al1 rfl))⟩
    · exact ⟨P4, _, e4, w4, (by rw [take_snoc_filter_no eD1 (p := fun it1 => (!(decide (it1 ∈ named1)))) hb1]; exact al1)⟩
  rintro H6 ⟨P5, vs2, e5, w5, al2⟩
  rw [take_str_all] at al2
  have e6 : Ext P5 (upd P5 D1 (HO.lst vs2)) := w5.kext
  have w6 : Wd G.T (upd P5 D1 (HO.lst vs2)) H6 ((aboxhere1, (boxO lboxhere1 t2.2)) :: (aendings1, (HO.lst wendings1)) :: (aarcs1, HO.lst (dlV warcs1)) :: (dlC warcs1 ++ cs0)) := w5.keep
  have fq1 : upd P5 D1 (HO.lst vs2) D1 = some (HO.lst vs2) := upd_same
  generalize upd P5 D1 (HO.lst vs2) = P6 at w6 e6 fq1
  have al3 := (AR.up e6 al2)
  obtain ⟨t4, et5, eR⟩ := ob_some eR
  refine ⟨_, rfl, P6, ((aendings1, (HO.lst wendings1)) :: (aarcs1, HO.lst (dlV warcs1)) :: (dlC warcs1 ++ cs0)), aboxhere1, lboxhere1, ns, t2.2, 90, t4, rfl, w6, (Ext.sql ((((e1.trans e2).trans e3).trans e5).trans e6) hl), et5, fun H7 P7 e7 w7 => ?_⟩
  obtain ⟨hc2, eR⟩ := chk_some eR
  obtain ⟨v1, hat1, hd1⟩ := AR.getI (i := t4.1) (d := ([] : List Nat)) (AR.up e7 al3) hc2
  obtain rfl : v1 = (S (((t3.filter (fun ic0 => (!(decide (ic0 ∈ named1))))).map (fun ic0 => ([ic0] : List Nat))).getD (ixP ((t3.filter (fun ic0 => (!(decide (ic0 ∈ named1))))).map (fun ic0 => ([ic0] : List Nat))).length t4.1) ([] : List Nat))) := hd1
  refine ⟨D1, _, _, _, rfl, rfl, (.inl (.inl (w7.sub _ _ (e7 _ _ fq1)))), hat1, ?_⟩
  obtain ⟨t5, et6, eR⟩ := ob_some eR
  refine q_join (fun σz Hz => ∃ (Pz : Hp) (lz0 : List V), Ext P7 Pz ∧ σz = [some (V.ref aboxhere1), some (S named1), some (V.ref aarcs1), some (V.ref aendings1), some (V.int t1.1), some (V.int t2.1), some (S (((t3.filter (fun ic0 => (!(decide (ic0 ∈ named1))))).map (fun ic0 => ([ic0] : List Nat))).getD (ixP ((t3.filter (fun ic0 => (!(decide (ic0 ∈ named1))))).map (fun ic0 => ([ic0] : List Nat))).length t4.1) ([] : List Nat))), none, none, none, none, none] ∧ Wd G.T Pz Hz ((aboxhere1, (boxO lboxhere1 t4.2)) :: (aendings1, (HO.lst lz0)) :: (aarcs1, HO.lst (dlV warcs1)) :: (dlC warcs1 ++ cs0)) ∧ AR yS Pz lz0 t5) ?_ ?_
  · refine ⟨_, rfl, _, _, rfl, rfl, _, rfl, ?_⟩
    refine iteB (fun hb2 => ?_) (fun hb2 => ?_)
    · rw [ite_t hb2] at et6
      refine ⟨(by show 0 ≤ sizeLine; decide), fun p1 np1 => ?_⟩
      have al4 : AR yS P7 ([] : List V) ([] : List (List Nat)) := AR.nil
      have w8 := w7.new np1 (HO.lst ([] : List V))
      generalize upd H7 p1 (HO.lst ([] : List V)) = H8 at w8 ⊢
      obtain ⟨hc3, et6⟩ := chk_some et6
      refine ⟨_, rfl, _, rfl, _, rfl, aendings1, p1, wendings1, (t2.1).toNat, rfl, rfl, (congrArg some (Int.toNat_of_nonneg hc3).symm), (w8.get 2 rfl), (.inl (.inl (w8.get 0 rfl))), (w8.neq (i := 2) (j := 0) rfl rfl (by decide)), ?_⟩
      have al5 : AR yS P7 (wendings1.take (t2.1).toNat) (endings1.take (t2.1).toNat) := (AR.takeN (t2.1).toNat (AR.up (((((e1.trans e2).trans e3).trans e5).trans e6).trans e7) hdendings1))
      have w9 : Wd G.T P7 (upd H8 aendings1 (HO.lst (wendings1.take (t2.1).toNat))) ((p1, (HO.lst ([] : List V))) :: (aboxhere1, (boxO lboxhere1 t4.2)) :: (aendings1, (HO.lst (wendings1.take (t2.1).toNat))) :: (aarcs1, HO.lst (dlV warcs1)) :: (dlC warcs1 ++ cs0)) := w8.put 2 (HO.lst (wendings1.take (t2.1).toNat)) rfl
      generalize upd H8 aendings1 (HO.lst (wendings1.take (t2.1).toNat)) = H9 at w9 ⊢
      generalize (wendings1.take (t2.1).toNat) = vs3 at w9 al5
      have w10 : Wd G.T P7 H9 ((aboxhere1, (boxO lboxhere1 t4.2)) :: (aendings1, (HO.lst vs3)) :: (aarcs1, HO.lst (dlV warcs1)) :: (dlC warcs1 ++ cs0)) := w9.tl
      obtain rfl := Option.some.inj et6
      exact ⟨P7, vs3, Ext.refl _, rfl, w10, al5⟩
    · rw [ite_f hb2] at et6
      obtain rfl := Option.some.inj et6
      exact ⟨P7, wendings1, Ext.refl _, rfl, w7, (AR.up (((((e1.trans e2).trans e3).trans e5).trans e6).trans e7) hdendings1)⟩
  rintro _ H10 ⟨P8, vs4, e8, rfl, w11, al6⟩
  obtain ⟨t6, et7, eR⟩ := ob_some eR
  refine q_join (fun σz Hz => ∃ (Pz : Hp) (lz0 : List V), Ext P8 Pz ∧ σz = [some (V.ref aboxhere1), some (S named1), some (V.ref aarcs1), some (V.ref aendings1), some (V.int t1.1), some (V.int t2.1), some (S (((t3.filter (fun ic0 => (!(decide (ic0 ∈ named1))))).map (fun ic0 => ([ic0] : List Nat))).getD (ixP ((t3.filter (fun ic0 => (!(decide (ic0 ∈ named1))))).map (fun ic0 => ([ic0] : List Nat))).length t4.1) ([] : List Nat))), none, none, none, none, none] ∧ Wd G.T Pz Hz ((aboxhere1, (boxO lboxhere1 t4.2)) :: (aendings1, (HO.lst lz0)) :: (aarcs1, HO.lst (dlV warcs1)) :: (dlC warcs1 ++ cs0)) ∧ AR yS Pz lz0 t6) ?_ ?_
  · refine ⟨_, rfl, _, _, rfl, rfl, _, rfl, ?_⟩
    refine iteB (fun hb3 => ?_) (fun hb3 => ?_)
    · rw [ite_t hb3] at et7
      obtain ⟨hc4, et7⟩ := chk_some et7
      refine ⟨_, rfl, .inl ⟨rfl, _, .inl (.inl (w11.get 1 rfl))⟩, _, _, _, rfl, rfl, (w11.get 1 rfl), (szl (by rw [AR.len al6]; exact hc4)), ?_⟩
      have al7 : AR yS P8 (vs4 ++ [(S (cs ""))]) (t5 ++ [(cs "")]) := (AR.snoc al6 rfl)
      have w12 : Wd G.T P8 (upd H10 aendings1 (HO.lst (vs4 ++ [(S (cs ""))]))) ((aboxhere1, (boxO lboxhere1 t4.2)) :: (aendings1, (HO.lst (vs4 ++ [(S (cs ""))]))) :: (aarcs1, HO.lst (dlV warcs1)) :: (dlC warcs1 ++ cs0)) := w11.put 1 (HO.lst (vs4 ++ [(S (cs ""))])) rfl
      generalize upd H10 aendings1 (HO.lst (vs4 ++ [(S (cs ""))])) = H11 at w12 ⊢
      generalize (vs4 ++ [(S (cs ""))]) = vs5 at w12 al7
      obtain rfl := Option.some.inj et7
      exact ⟨P8, vs5, Ext.refl _, rfl, w12, al7⟩
    · rw [ite_f hb3] at et7
      obtain rfl := Option.some.inj et7
      exact ⟨P8, vs4, Ext.refl _, rfl, w11, al6⟩
  rintro _ H12 ⟨P9, vs6, e9, rfl, w13, al8⟩
  obtain ⟨t7, et8, eR⟩ := ob_some eR
  refine q_join (fun σz Hz => ∃ (Pz : Hp) (lz0 : List V), Ext P9 Pz ∧ σz = [some (V.ref aboxhere1), some (S named1), some (V.ref aarcs1), some (V.ref aendings1), some (V.int t1.1), some (V.int t2.1), some (S (((t3.filter (fun ic0 => (!(decide (ic0 ∈ named1))))).map (fun ic0 => ([ic0] : List Nat))).getD (ixP ((t3.filter (fun ic0 => (!(decide (ic0 ∈ named1))))).map (fun ic0 => ([ic0] : List Nat))).length t4.1) ([] : List Nat))), none, none, none, none, none] ∧ Wd G.T Pz Hz ((aboxhere1, (boxO lboxhere1 t4.2)) :: (aendings1, (HO.lst lz0)) :: (aarcs1, HO.lst (dlV warcs1)) :: (dlC warcs1 ++ cs0)) ∧ AR yS Pz lz0 t7) ?_ ?_
  · have hB1 : ∀ (Q : (Bool → Hp → Prop)), (∀ Hz Pz, Ext P9 Pz → Wd G.T Pz Hz ((aboxhere1, (boxO lboxhere1 t4.2)) :: (aendings1, (HO.lst vs6)) :: (aarcs1, HO.lst (dlV warcs1)) :: (dlC warcs1 ++ cs0)) → Q ((decide (t1.1 = 2)) && (decide (t2.1 < (t6.length : Int)))) Hz) → (tAnd (tTest (tOp rEqI (tVar 4) (tC (V.int 2)))) (tTest (tOp rLt (tVar 5) (tCB (rLenM K) (tCons (tVar 3) tNil))))) [some (V.ref aboxhere1), some (S named1), some (V.ref aarcs1), some (V.ref aendings1), some (V.int t1.1), some (V.int t2.1), some (S (((t3.filter (fun ic0 => (!(decide (ic0 ∈ named1))))).map (fun ic0 => ([ic0] : List Nat))).getD (ixP ((t3.filter (fun ic0 => (!(decide (ic0 ∈ named1))))).map (fun ic0 => ([ic0] : List Nat))).length t4.1) ([] : List Nat))), none, none, none, none, none] H12 Q := by
      intro  Q hQ
      refine ⟨_, rfl, _, _, rfl, rfl, _, rfl, ?_⟩
      refine iteB (fun hb4 => ?_) (fun hb4 => ?_)
      · refine ⟨_, rfl, _, rfl, aendings1, vs6, (t6.length), rfl, (.inl (.inl (w13.get 1 rfl))), (AR.len al8), _, _, rfl, rfl, _, rfl, ?_⟩
        have hq1 := hQ H12 P9 (Ext.refl _) w13
        rw [hb4, Bool.true_and] at hq1
        all_goals exact hq1
      · have hq2 := hQ H12 P9 (Ext.refl _) w13
        rw [hb4, Bool.false_and] at hq2
        all_goals exact hq2
    refine hB1  _ fun H13 P10  e10 w14  => ?_
    refine iteB (fun hb5 => ?_) (fun hb5 => ?_)
    · rw [ite_t hb5] at et8
      obtain ⟨hc5, et8⟩ := chk_some et8
      obtain ⟨v2, hat2, hd2⟩ := AR.getI (i := t2.1) (d := ([] : List Nat)) (AR.up e10 al8) hc5
      obtain rfl : v2 = (S (t6.getD (ixP t6.length t2.1) ([] : List Nat))) := hd2
      obtain ⟨hc6, et8⟩ := chk_some et8
      obtain ⟨hc7, et8⟩ := chk_some et8
      refine ⟨_, rfl, _, rfl, aendings1, _, _, _, rfl, rfl, (.inl (.inl (w14.get 1 rfl))), hat2, _, rfl, _, _, rfl, rfl, (sz hc6), _, rfl, _, rfl, _, _, _, _, rfl, rfl, (w14.get 1 rfl), (AR.ixN (AR.up e10 al8) hc7), ?_⟩
      have al9 : AR yS P10 (vs6.set (ixP t6.length t2.1) (S ((t6.getD (ixP t6.length t2.1) ([] : List Nat)) ++ (((t3.filter (fun ic0 => (!(decide (ic0 ∈ named1))))).map (fun ic0 => ([ic0] : List Nat))).getD (ixP ((t3.filter (fun ic0 => (!(decide (ic0 ∈ named1))))).map (fun ic0 => ([ic0] : List Nat))).length t4.1) ([] : List Nat))))) (t6.set (ixP t6.length t2.1) ((t6.getD (ixP t6.length t2.1) ([] : List Nat)) ++ (((t3.filter (fun ic0 => (!(decide (ic0 ∈ named1))))).map (fun ic0 => ([ic0] : List Nat))).getD (ixP ((t3.filter (fun ic0 => (!(decide (ic0 ∈ named1))))).map (fun ic0 => ([ic0] : List Nat))).length t4.1) ([] : List Nat)))) := (AR.set rfl (ixP t6.length t2.1) (AR.up e10 al8))
      have w15 : Wd G.T P10 (upd H13 aendings1 (HO.lst (vs6.set (ixP t6.length t2.1) (S ((t6.getD (ixP t6.length t2.1) ([] : List Nat)) ++ (((t3.filter (fun ic0 => (!(decide (ic0 ∈ named1))))).map (fun ic0 => ([ic0] : List Nat))).getD (ixP ((t3.filter (fun ic0 => (!(decide (ic0 ∈ named1))))).map (fun ic0 => ([ic0] : List Nat))).length t4.1) ([] : List Nat))))))) ((aboxhere1, (boxO lboxhere1 t4.2)) :: (aendings1, (HO.lst (vs6.set (ixP t6.length t2.1) (S ((t6.getD (ixP t6.length t2.1) ([] : List Nat)) ++ (((t3.filter (fun ic0 => (!(decide (ic0 ∈ named1))))).map (fun ic0 => ([ic0] : List Nat))).getD (ixP ((t3.filter (fun ic0 => (!(decide (ic0 ∈ named1))))).map (fun ic0 => ([ic0] : List Nat))).length t4.1) ([] : List Nat))))))) :: (aarcs1, HO.lst (dlV warcs1)) :: (dlC warcs1 ++ cs0)) := w14.put 1 (HO.lst (vs6.set (ixP t6.length t2.1) (S ((t6.getD (ixP t6.length t2.1) ([] : List Nat)) ++ (((t3.filter (fun ic0 => (!(decide (ic0 ∈ named1))))).map (fun ic0 => ([ic0] : List Nat))).getD (ixP ((t3.filter (fun ic0 => (!(decide (ic0 ∈ named1))))).map (fun ic0 => ([ic0] : List Nat))).length t4.1) ([] : List Nat)))))) rfl
      generalize upd H13 aendings1 (HO.lst (vs6.set (ixP t6.length t2.1) (S ((t6.getD (ixP t6.length t2.1) ([] : List Nat)) ++ (((t3.filter (fun ic0 => (!(decide (ic0 ∈ named1))))).map (fun ic0 => ([ic0] : List Nat))).getD (ixP ((t3.filter (fun ic0 => (!(decide (ic0 ∈ named1))))).map (fun ic0 => ([ic0] : List Nat))).length t4.1) ([] : List Nat)))))) = H14 at w15 ⊢
      generalize (vs6.set (ixP t6.length t2.1) (S ((t6.getD (ixP t6.length t2.1) ([] : List Nat)) ++ (((t3.filter (fun ic0 => (!(decide (ic0 ∈ named1))))).map (fun ic0 => ([ic0] : List Nat))).getD (ixP ((t3.filter (fun ic0 => (!(decide (ic0 ∈ named1))))).map (fun ic0 => ([ic0] : List Nat))).length t4.1) ([] : List Nat))))) = vs7 at w15 al9
      obtain rfl := Option.some.inj et8
      exact ⟨P10, vs7, e10, rfl, w15, al9⟩
    · rw [ite_f hb5] at et8
      obtain rfl := Option.some.inj et8
      exact ⟨P10, vs6, e10, rfl, w14, (AR.up e10 al8)⟩
  rintro _ H15 ⟨P11, vs8, e11, rfl, w16, al10⟩
  have hB2 : ∀ (Q : (Bool → Hp → Prop)), (∀ Hz Pz, Ext P11 Pz → Wd G.T Pz Hz ((aboxhere1, (boxO lboxhere1 t4.2)) :: (aendings1, (HO.lst vs8)) :: (aarcs1, HO.lst (dlV warcs1)) :: (dlC warcs1 ++ cs0)) → Q ((decide (2 < t1.1)) && (decide (t2.1 < (arcs1.length : Int)))) Hz) → (tAnd (tTest (tOp rGt (tVar 4) (tC (V.int 2)))) (tTest (tOp rLt (tVar 5) (tCB (rLenM K) (tCons (tVar 2) tNil))))) [some (V.ref aboxhere1), some (S named1), some (V.ref aarcs1), some (V.ref aendings1), some (V.int t1.1), some (V.int t2.1), some (S (((t3.filter (fun ic0 => (!(decide (ic0 ∈ named1))))).map (fun ic0 => ([ic0] : List Nat))).getD (ixP ((t3.filter (fun ic0 => (!(decide (ic0 ∈ named1))))).map (fun ic0 => ([ic0] : List Nat))).length t4.1) ([] : List Nat))), none, none, none, none, none] H15 Q := by
    intro  Q hQ
    refine ⟨_, rfl, _, _, rfl, rfl, _, rfl, ?_⟩
    refine iteB (fun hb6 => ?_) (fun hb6 => ?_)
    · refine ⟨_, rfl, _, rfl, aarcs1, (dlV warcs1), (arcs1.length), rfl, (.inl (.inl (w16.get 2 rfl))), ((dlV_len _).trans (DLR.len (DLR.up ((((((((e1.trans e2).trans e3).trans e5).trans e6).trans e7).trans e8).trans e9).trans e11) hdarcs1))), _, _, rfl, rfl, _, rfl, ?_⟩
      have hq3 := hQ H15 P11 (Ext.refl _) w16
      rw [hb6, Bool.true_and] at hq3
      all_goals exact hq3
    · have hq4 := hQ H15 P11 (Ext.refl _) w16
      rw [hb6, Bool.false_and] at hq4
      all_goals exact hq4
  refine hB2  _ fun H16 P12  e12 w17  => ?_
  refine iteB (fun hb7 => ?_) (fun hb7 => ?_)
  · rw [ite_t hb7] at eR
    obtain ⟨hc8, eR⟩ := chk_some eR
    obtain ⟨q1, hz1, hat3, hd3⟩ := DLR.getI (i := t2.1) (DLR.up (((((((((e1.trans e2).trans e3).trans e5).trans e6).trans e7).trans e8).trans e9).trans e11).trans e12) hdarcs1) hc8
    refine ⟨_, rfl, _, rfl, aarcs1, _, _, _, rfl, rfl, (.inl (.inl (w17.get 2 rfl))), hat3, ?_⟩
    have w18 : Wd G.T P12 H16 ((q1.1, (HO.dK q1.2)) :: (aboxhere1, (boxO lboxhere1 t4.2)) :: (aendings1, (HO.lst vs8)) :: (aarcs1, HO.lst (dlV warcs1)) :: (dlC (warcs1.eraseIdx (ixP arcs1.length t2.1)) ++ cs0)) := (((((Wd.extract (T := G.T) (P := P12) (H := H16) (a := aarcs1) (z := warcs1) (l := [(aboxhere1, (boxO lboxhere1 t4.2)), (aendings1, (HO.lst vs8))]) (rest := cs0) hz1 (w17.pull 2 rfl)).pull 1 rfl).pull 3 rfl).pull 3 rfl).pull 3 rfl)
    refine ⟨_, rfl, q1.1, q1.2, rfl, (.inl (w18.get 0 rfl)), fun p2 np2 => ?_⟩
    have al11 : AR yS P12 (q1.2.map (fun kv => kV kv.1)) ((arcs1.getD (ixP arcs1.length t2.1) ([] : (List ((List Nat) × (Int × (List Nat)))))).map (fun x => x.1)) := (DR.keysS hd3)
    have e13 := w18.fext np2 (HO.lst (q1.2.map (fun kv => kV kv.1)))
    have w19 := w18.frz np2 (HO.lst (q1.2.map (fun kv => kV kv.1)))
    have fq2 : upd P12 p2 (HO.lst (q1.2.map (fun kv => kV kv.1))) p2 = some (HO.lst (q1.2.map (fun kv => kV kv.1))) := upd_same
    generalize upd H16 p2 (HO.lst (q1.2.map (fun kv => kV kv.1))) = H17 at w19 ⊢
    generalize upd P12 p2 (HO.lst (q1.2.map (fun kv => kV kv.1))) = P13 at w19 e13 fq2
    have al12 := (AR.up e13 al11)
    refine ⟨p2, (q1.2.map (fun kv => kV kv.1)), ((arcs1.getD (ixP arcs1.length t2.1) ([] : (List ((List Nat) × (Int × (List Nat)))))).map (fun x => x.1)), rfl, (.inl (.inl (w19.sub _ _ fq2))), (AR.up w19.sub al12), fun p3 vs9 np3 har1 => ?_⟩
    have al13 := har1 P13 al12
    have e14 := w19.fext np3 (HO.lst vs9)
    have w20 := w19.frz np3 (HO.lst vs9)
    have fq3 : upd P13 p3 (HO.lst vs9) p3 = some (HO.lst vs9) := upd_same
    generalize upd H17 p3 (HO.lst vs9) = H18 at w20 ⊢
    generalize upd P13 p3 (HO.lst vs9) = P14 at w20 e14 fq3
    have al14 := (AR.up e14 al13)
    obtain ⟨t8, et9, eR⟩ := ob_some eR
    have hB3 : ∀ (Q : VK), (∀ Hz Pz, Ext P14 Pz → Wd G.T Pz Hz ((q1.1, (HO.dK q1.2)) :: (aboxhere1, (boxO lboxhere1 t8.2)) :: (aendings1, (HO.lst vs8)) :: (aarcs1, HO.lst (dlV warcs1)) :: (dlC (warcs1.eraseIdx (ixP arcs1.length t2.1)) ++ cs0)) → Q (S t8.1) Hz) → (tIf (tTest (tOp (rNeR (yL yS) (okL okS)) (tVar 8) (tLst tNil))) (tOp (rIxL K) (tVar 8) (tCall (sp_take K G) [] E0 (tCons (tVar 0) (tCons (tCB (rLenM K) (tCons (tVar 8) tNil)) tNil)))) (tC (S (cs "mark")))) [some (V.ref aboxhere1), some (S named1), some (V.ref aarcs1), some (V.ref aendings1), some (V.int t1.1), some (V.int t2.1), some (S (((t3.filter (fun ic0 => (!(decide (ic0 ∈ named1))))).map (fun ic0 => ([ic0] : List Nat))).getD (ixP ((t3.filter (fun ic0 => (!(decide (ic0 ∈ named1))))).map (fun ic0 => ([ic0] : List Nat))).length t4.1) ([] : List Nat))), some (.ref q1.1), some (.ref p3), none, none, none] H18 Q := by
      intro  Q hQ
      refine ⟨_, rfl, (by show 0 ≤ sizeLine; decide), fun p4 np4 => ?_⟩
      have al15 : AR yS P14 ([] : List V) ([] : List (List Nat)) := AR.nil
      have e15 := w20.fext np4 (HO.lst ([] : List V))
      have w21 := w20.frz np4 (HO.lst ([] : List V))
      have fq4 : upd P14 p4 (HO.lst ([] : List V)) p4 = some (HO.lst ([] : List V)) := upd_same
      generalize upd H18 p4 (HO.lst ([] : List V)) = H19 at w21 ⊢
      generalize upd P14 p4 (HO.lst ([] : List V)) = P15 at w21 e15 fq4
      have al16 := (AR.up e15 al15)
      obtain ⟨hc9, et9⟩ := chk_some et9
      refine ⟨(srt ltT ((arcs1.getD (ixP arcs1.length t2.1) ([] : (List ((List Nat) × (Int × (List Nat)))))).map (fun x => x.1))), ([] : List (List Nat)), (Mo.mo (R := (yL yS)) (P := P15) w21.sub ⟨_, _, rfl, (e15 _ _ fq3), (AR.up e15 al14)⟩), (Mo.mo (R := (yL yS)) (P := P15) w21.sub ⟨_, _, rfl, fq4, al16⟩), hc9, _, rfl, ?_⟩
      refine iteB (fun hb8 => ?_) (fun hb8 => ?_)
      · rw [ite_t hb8] at et9
        obtain ⟨t9, et10, et9⟩ := ob_some et9
        refine ⟨_, rfl, _, rfl, _, rfl, p3, vs9, ((srt ltT ((arcs1.getD (ixP arcs1.length t2.1) ([] : (List ((List Nat) × (Int × (List Nat)))))).map (fun x => x.1))).length), rfl, (.inl (.inl (w21.sub _ _ (e15 _ _ fq3)))), (AR.len (AR.up e15 al14)), P15, ((q1.1, (HO.dK q1.2)) :: (aendings1, (HO.lst vs8)) :: (aarcs1, HO.lst (dlV warcs1)) :: (dlC (warcs1.eraseIdx (ixP arcs1.length t2.1)) ++ cs0)), aboxhere1, lboxhere1, ns, t4.2, ((srt ltT ((arcs1.getD (ixP arcs1.length t2.1) ([] : (List ((List Nat) × (Int × (List Nat)))))).map (fun x => x.1))).length : Int), t9, rfl, (w21.pull 1 rfl), (Ext.sql ((((((((((((e1.trans e2).trans e3).trans e5).trans e6).trans e7).trans e8).trans e9).trans e11).trans e12).trans e13).trans e14).trans e15) hl), et10, fun H20 P16 e16 w22 => ?_⟩
        obtain ⟨hc10, et9⟩ := chk_some et9
        obtain ⟨v3, hat4, hd4⟩ := AR.getI (i := t9.1) (d := ([] : List Nat)) (AR.up (e15.trans e16) al14) hc10
        obtain rfl : v3 = (S ((srt ltT ((arcs1.getD (ixP arcs1.length t2.1) ([] : (List ((List Nat) × (Int × (List Nat)))))).map (fun x => x.1))).getD (ixP (srt ltT ((arcs1.getD (ixP arcs1.length t2.1) ([] : (List ((List Nat) × (Int × (List Nat)))))).map (fun x => x.1))).length t9.1) ([] : List Nat))) := hd4
        refine ⟨p3, _, _, _, rfl, rfl, (.inl (.inl (w22.sub _ _ ((e15.trans e16) _ _ fq3)))), hat4, ?_⟩
        obtain rfl := Option.some.inj et9
        exact hQ H20 P16 (e15.trans e16) ((((w22.pull 3 rfl).pull 3 rfl).pull 2 rfl).pull 3 rfl)
      · rw [ite_f hb8] at et9
        obtain rfl := Option.some.inj et9
        exact hQ H19 P15 e15 w21
    refine hB3  _ fun H21 P17  e17 w23  => ?_
    refine ⟨_, rfl, q1.1, rfl, (.inl ⟨_, (.inl (w23.get 0 rfl))⟩), _, rfl, (by show 2 ≤ sizeLine; decide), fun p5 np5 => ?_⟩
    have e18 := w23.fext np5 (HO.tup ([(V.int 0), (S (cs ""))] : List V))
    have w24 := w23.frz np5 (HO.tup ([(V.int 0), (S (cs ""))] : List V))
    have fq5 : upd P17 p5 (HO.tup ([(V.int 0), (S (cs ""))] : List V)) p5 = some (HO.tup ([(V.int 0), (S (cs ""))] : List V)) := upd_same
    generalize upd H21 p5 (HO.tup ([(V.int 0), (S (cs ""))] : List V)) = H22 at w24 ⊢
    generalize upd P17 p5 (HO.tup ([(V.int 0), (S (cs ""))] : List V)) = P18 at w24 e18 fq5
    obtain ⟨v4, hv1, hd5⟩ := DR.dflt (k := t8.1) (z := (.ref p5)) (d := (0, (cs ""))) (DR.up (((e13.trans e14).trans e17).trans e18) hd3) ⟨_, _, _, rfl, fq5, rfl, rfl⟩
    refine ⟨_, (.inl ⟨q1.2, kS t8.1, (.inl (w24.get 0 rfl)), rfl, rfl⟩), ?_⟩
    rw [hv1]
    obtain ⟨a1, u1, u2, rfl, fq6, hu1, hu2⟩ := hd5
    obtain rfl : u1 = (V.int ((dL (arcs1.getD (ixP arcs1.length t2.1) ([] : (List ((List Nat) × (Int × (List Nat)))))) t8.1).getD (0, (cs ""))).1) := hu1
    obtain rfl : u2 = (S ((dL (arcs1.getD (ixP arcs1.length t2.1) ([] : (List ((List Nat) × (Int × (List Nat)))))) t8.1).getD (0, (cs ""))).2) := hu2
    obtain ⟨t10, et11, eR⟩ := ob_some eR
    refine q_join (fun σz Hz => ∃ (Pz : Hp) (lz0 : List (Key × V)), Ext P18 Pz ∧ σz = [some (V.ref aboxhere1), some (S named1), some (V.ref aarcs1), some (V.ref aendings1), some (V.int t1.1), some (V.int t2.1), some (S (((t3.filter (fun ic0 => (!(decide (ic0 ∈ named1))))).map (fun ic0 => ([ic0] : List Nat))).getD (ixP ((t3.filter (fun ic0 => (!(decide (ic0 ∈ named1))))).map (fun ic0 => ([ic0] : List Nat))).length t4.1) ([] : List Nat))), some (.ref q1.1), some (.ref p3), some (S t8.1), some (.ref a1), none] ∧ Wd G.T Pz Hz ((q1.1, (HO.dK lz0)) :: (aboxhere1, (boxO lboxhere1 t8.2)) :: (aendings1, (HO.lst vs8)) :: (aarcs1, HO.lst (dlV warcs1)) :: (dlC (warcs1.eraseIdx (ixP arcs1.length t2.1)) ++ cs0)) ∧ DR kS (y2 K yI yS) Pz lz0 t10) ?_ ?_
    · refine ⟨_, rfl, _, _, rfl, rfl, _, rfl, ?_⟩
      refine iteB (fun hb9 => ?_) (fun hb9 => ?_)
      · rw [ite_t hb9] at et11
        refine ⟨_, rfl, .inr (.inr (.inl ⟨rfl, .inl ⟨_, (w24.get 0 rfl)⟩⟩)), q1.1, q1.2, rfl, rfl, (w24.get 0 rfl), ?_⟩
        have al17 : DR kS (y2 K yI yS) P18 ([] : List (Key × V)) ([] : (List ((List Nat) × (Int × (List Nat))))) := DR.nil
        generalize ([] : List (Key × V)) = vs10 at al17 ⊢
        have w25 : Wd G.T P18 (upd H22 q1.1 (HO.dK vs10)) ((q1.1, (HO.dK vs10)) :: (aboxhere1, (boxO lboxhere1 t8.2)) :: (aendings1, (HO.lst vs8)) :: (aarcs1, HO.lst (dlV warcs1)) :: (dlC (warcs1.eraseIdx (ixP arcs1.length t2.1)) ++ cs0)) := w24.put 0 (HO.dK vs10) rfl
        generalize upd H22 q1.1 (HO.dK vs10) = H23 at w25 ⊢
        obtain rfl := Option.some.inj et11
        exact ⟨P18, vs10, Ext.refl _, rfl, w25, al17⟩
      · rw [ite_f hb9] at et11
        obtain rfl := Option.some.inj et11
        exact ⟨P18, q1.2, Ext.refl _, rfl, w24, (DR.up (((e13.trans e14).trans e17).trans e18) hd3)⟩
    rintro _ H24 ⟨P19, vs11, e19, rfl, w26, al18⟩
    obtain ⟨t11, et12, eR⟩ := ob_some eR
    refine q_join (fun σz Hz => ∃ (Pz : Hp) (lz0 : List (Key × V)), Ext P19 Pz ∧ σz = [some (V.ref aboxhere1), some (S named1), some (V.ref aarcs1), some (V.ref aendings1), some (V.int t1.1), some (V.int t2.1), some (S (((t3.filter (fun ic0 => (!(decide (ic0 ∈ named1))))).map (fun ic0 => ([ic0] : List Nat))).getD (ixP ((t3.filter (fun ic0 => (!(decide (ic0 ∈ named1))))).map (fun ic0 => ([ic0] : List Nat))).length t4.1) ([] : List Nat))), some (.ref q1.1), some (.ref p3), some (S t8.1), some (.ref a1), none] ∧ Wd G.T Pz Hz ((q1.1, (HO.dK lz0)) :: (aboxhere1, (boxO lboxhere1 t11.2)) :: (aendings1, (HO.lst vs8)) :: (aarcs1, HO.lst (dlV warcs1)) :: (dlC (warcs1.eraseIdx (ixP arcs1.length t2.1)) ++ cs0)) ∧ DR kS (y2 K yI yS) Pz lz0 t11.1) ?_ ?_
    · refine ⟨_, rfl, _, _, rfl, rfl, _, rfl, ?_⟩
      refine iteB (fun hb10 => ?_) (fun hb10 => ?_)
      · rw [ite_t hb10] at et12
        refine ⟨(by show 2 ≤ sizeLine; decide), fun p6 np6 => ?_⟩
        have e20 := w26.fext np6 (HO.tup ([(V.int 0), (S (cs ""))] : List V))
        have w27 := w26.frz np6 (HO.tup ([(V.int 0), (S (cs ""))] : List V))
        have fq7 : upd P19 p6 (HO.tup ([(V.int 0), (S (cs ""))] : List V)) p6 = some (HO.tup ([(V.int 0), (S (cs ""))] : List V)) := upd_same
        generalize upd H24 p6 (HO.tup ([(V.int 0), (S (cs ""))] : List V)) = H25 at w27 ⊢
        generalize upd P19 p6 (HO.tup ([(V.int 0), (S (cs ""))] : List V)) = P20 at w27 e20 fq7
        refine ⟨_, rfl, _, rfl, (by show 3 ≤ sizeLine; decide), fun p7 np7 => ?_⟩
        have al19 : AR yS P20 ([(S (((t3.filter (fun ic0 => (!(decide (ic0 ∈ named1))))).map (fun ic0 => ([ic0] : List Nat))).getD (ixP ((t3.filter (fun ic0 => (!(decide (ic0 ∈ named1))))).map (fun ic0 => ([ic0] : List Nat))).length t4.1) ([] : List Nat))), (S (cs "none")), (S (cs ""))] : List V) ([(((t3.filter (fun ic0 => (!(decide (ic0 ∈ named1))))).map (fun ic0 => ([ic0] : List Nat))).getD (ixP ((t3.filter (fun ic0 => (!(decide (ic0 ∈ named1))))).map (fun ic0 => ([ic0] : List Nat))).length t4.1) ([] : List Nat)), (cs "none"), (cs "")] : List (List Nat)) := (AR.cons rfl (AR.cons rfl (AR.cons rfl AR.nil)))
        have e21 := w27.fext np7 (HO.lst ([(S (((t3.filter (fun ic0 => (!(decide (ic0 ∈ named1))))).map (fun ic0 => ([ic0] : List Nat))).getD (ixP ((t3.filter (fun ic0 => (!(decide (ic0 ∈ named1))))).map (fun ic0 => ([ic0] : List Nat))).length t4.1) ([] : List Nat))), (S (cs "none")), (S (cs ""))] : List V))
        have w28 := w27.frz np7 (HO.lst ([(S (((t3.filter (fun ic0 => (!(decide (ic0 ∈ named1))))).map (fun ic0 => ([ic0] : List Nat))).getD (ixP ((t3.filter (fun ic0 => (!(decide (ic0 ∈ named1))))).map (fun ic0 => ([ic0] : List Nat))).length t4.1) ([] : List Nat))), (S (cs "none")), (S (cs ""))] : List V))
        have fq8 : upd P20 p7 (HO.lst ([(S (((t3.filter (fun ic0 => (!(decide (ic0 ∈ named1))))).map (fun ic0 => ([ic0] : List Nat))).getD (ixP ((t3.filter (fun ic0 => (!(decide (ic0 ∈ named1))))).map (fun ic0 => ([ic0] : List Nat))).length t4.1) ([] : List Nat))), (S (cs "none")), (S (cs ""))] : List V)) p7 = some (HO.lst ([(S (((t3.filter (fun ic0 => (!(decide (ic0 ∈ named1))))).map (fun ic0 => ([ic0] : List Nat))).getD (ixP ((t3.filter (fun ic0 => (!(decide (ic0 ∈ named1))))).map (fun ic0 => ([ic0] : List Nat))).length t4.1) ([] : List Nat))), (S (cs "none")), (S (cs ""))] : List V)) := upd_same
        generalize upd H25 p7 (HO.lst ([(S (((t3.filter (fun ic0 => (!(decide (ic0 ∈ named1))))).map (fun ic0 => ([ic0] : List Nat))).getD (ixP ((t3.filter (fun ic0 => (!(decide (ic0 ∈ named1))))).map (fun ic0 => ([ic0] : List Nat))).length t4.1) ([] : List Nat))), (S (cs "none")), (S (cs ""))] : List V)) = H26 at w28 ⊢
        generalize upd P20 p7 (HO.lst ([(S (((t3.filter (fun ic0 => (!(decide (ic0 ∈ named1))))).map (fun ic0 => ([ic0] : List Nat))).getD (ixP ((t3.filter (fun ic0 => (!(decide (ic0 ∈ named1))))).map (fun ic0 => ([ic0] : List Nat))).length t4.1) ([] : List Nat))), (S (cs "none")), (S (cs ""))] : List V)) = P21 at w28 e21 fq8
        have al20 := (AR.up e21 al19)
        obtain ⟨t12, et13, et12⟩ := ob_some et12
        refine ⟨_, rfl, P21, ((q1.1, (HO.dK vs11)) :: (aendings1, (HO.lst vs8)) :: (aarcs1, HO.lst (dlV warcs1)) :: (dlC (warcs1.eraseIdx (ixP arcs1.length t2.1)) ++ cs0)), aboxhere1, lboxhere1, ns, t8.2, 3, t12, rfl, (w28.pull 1 rfl), (Ext.sql ((((((((((((((((e1.trans e2).trans e3).trans e5).trans e6).trans e7).trans e8).trans e9).trans e11).trans e12).trans e13).trans e14).trans e17).trans e18).trans e19).trans e20).trans e21) hl), et13, fun H27 P22 e22 w29 => ?_⟩
        obtain ⟨hc11, et12⟩ := chk_some et12
        obtain ⟨v5, hat5, hd6⟩ := AR.getI (i := t12.1) (d := ([] : List Nat)) (AR.up e22 al20) hc11
        obtain rfl : v5 = (S (([(((t3.filter (fun ic0 => (!(decide (ic0 ∈ named1))))).map (fun ic0 => ([ic0] : List Nat))).getD (ixP ((t3.filter (fun ic0 => (!(decide (ic0 ∈ named1))))).map (fun ic0 => ([ic0] : List Nat))).length t4.1) ([] : List Nat)), (cs "none"), (cs "")] : List (List Nat)).getD (ixP ([(((t3.filter (fun ic0 => (!(decide (ic0 ∈ named1))))).map (fun ic0 => ([ic0] : List Nat))).getD (ixP ((t3.filter (fun ic0 => (!(decide (ic0 ∈ named1))))).map (fun ic0 => ([ic0] : List Nat))).length t4.1) ([] : List Nat)), (cs "none"), (cs "")] : List (List Nat)).length t12.1) ([] : List Nat))) := hd6
        obtain ⟨hc12, et12⟩ := chk_some et12
        refine ⟨p7, _, _, _, rfl, rfl, (.inl (.inl (w29.sub _ _ (e22 _ _ fq8)))), hat5, q1.1, _, rfl, (.inl ⟨vs11, (kS (([(((t3.filter (fun ic0 => (!(decide (ic0 ∈ named1))))).map (fun ic0 => ([ic0] : List Nat))).getD (ixP ((t3.filter (fun ic0 => (!(decide (ic0 ∈ named1))))).map (fun ic0 => ([ic0] : List Nat))).length t4.1) ([] : List Nat)), (cs "none"), (cs "")] : List (List Nat)).getD (ixP ([(((t3.filter (fun ic0 => (!(decide (ic0 ∈ named1))))).map (fun ic0 => ([ic0] : List Nat))).getD (ixP ((t3.filter (fun ic0 => (!(decide (ic0 ∈ named1))))).map (fun ic0 => ([ic0] : List Nat))).length t4.1) ([] : List Nat)), (cs "none"), (cs "")] : List (List Nat)).length t12.1) ([] : List Nat))), (w29.get 1 rfl), rfl, (szl (by rw [DR.len (DR.up ((e20.trans e21).trans e22) al18)]; exact hc12)), rfl⟩), ?_⟩
        obtain ⟨t13, et14, et12⟩ := ob_some et12
        have al21 : DR kS (y2 K yI yS) P22 (putK vs11 (kS (([(((t3.filter (fun ic0 => (!(decide (ic0 ∈ named1))))).map (fun ic0 => ([ic0] : List Nat))).getD (ixP ((t3.filter (fun ic0 => (!(decide (ic0 ∈ named1))))).map (fun ic0 => ([ic0] : List Nat))).length t4.1) ([] : List Nat)), (cs "none"), (cs "")] : List (List Nat)).getD (ixP ([(((t3.filter (fun ic0 => (!(decide (ic0 ∈ named1))))).map (fun ic0 => ([ic0] : List Nat))).getD (ixP ((t3.filter (fun ic0 => (!(decide (ic0 ∈ named1))))).map (fun ic0 => ([ic0] : List Nat))).length t4.1) ([] : List Nat)), (cs "none"), (cs "")] : List (List Nat)).length t12.1) ([] : List Nat))) (.ref p6)) t13 := Option.some.inj et14 ▸ ((DR.put (DR.up ((e20.trans e21).trans e22) al18) ⟨_, _, _, rfl, ((e21.trans e22) _ _ fq7), rfl, rfl⟩) : DR kS (y2 K yI yS) P22 (putK vs11 (kS (([(((t3.filter (fun ic0 => (!(decide (ic0 ∈ named1))))).map (fun ic0 => ([ic0] : List Nat))).getD (ixP ((t3.filter (fun ic0 => (!(decide (ic0 ∈ named1))))).map (fun ic0 => ([ic0] : List Nat))).length t4.1) ([] : List Nat)), (cs "none"), (cs "")] : List (List Nat)).getD (ixP ([(((t3.filter (fun ic0 => (!(decide (ic0 ∈ named1))))).map (fun ic0 => ([ic0] : List Nat))).getD (ixP ((t3.filter (fun ic0 => (!(decide (ic0 ∈ named1))))).map (fun ic0 => ([ic0] : List Nat))).length t4.1) ([] : List Nat)), (cs "none"), (cs "")] : List (List Nat)).length t12.1) ([] : List Nat))) (.ref p6)) (dP t10 (([(((t3.filter (fun ic0 => (!(decide (ic0 ∈ named1))))).map (fun ic0 => ([ic0] : List Nat))).getD (ixP ((t3.filter (fun ic0 => (!(decide (ic0 ∈ named1))))).map (fun ic0 => ([ic0] : List Nat))).length t4.1) ([] : List Nat)), (cs "none"), (cs "")] : List (List Nat)).getD (ixP ([(((t3.filter (fun ic0 => (!(decide (ic0 ∈ named1))))).map (fun ic0 => ([ic0] : List Nat))).getD (ixP ((t3.filter (fun ic0 => (!(decide (ic0 ∈ named1))))).map (fun ic0 => ([ic0] : List Nat))).length t4.1) ([] : List Nat)), (cs "none"), (cs "")] : List (List Nat)).length t12.1) ([] : List Nat)) (0, (cs ""))))
        generalize (putK vs11 (kS (([(((t3.filter (fun ic0 => (!(decide (ic0 ∈ named1))))).map (fun ic0 => ([ic0] : List Nat))).getD (ixP ((t3.filter (fun ic0 => (!(decide (ic0 ∈ named1))))).map (fun ic0 => ([ic0] : List Nat))).length t4.1) ([] : List Nat)), (cs "none"), (cs "")] : List (List Nat)).getD (ixP ([(((t3.filter (fun ic0 => (!(decide (ic0 ∈ named1))))).map (fun ic0 => ([ic0] : List Nat))).getD (ixP ((t3.filter (fun ic0 => (!(decide (ic0 ∈ named1))))).map (fun ic0 => ([ic0] : List Nat))).length t4.1) ([] : List Nat)), (cs "none"), (cs "")] : List (List Nat)).length t12.1) ([] : List Nat))) (.ref p6)) = vs12 at al21 ⊢
        have w30 : Wd G.T P22 (upd H27 q1.1 (HO.dK vs12)) ((aboxhere1, (boxO lboxhere1 t12.2)) :: (q1.1, (HO.dK vs12)) :: (aendings1, (HO.lst vs8)) :: (aarcs1, HO.lst (dlV warcs1)) :: (dlC (warcs1.eraseIdx (ixP arcs1.length t2.1)) ++ cs0)) := w29.put 1 (HO.dK vs12) rfl
        generalize upd H27 q1.1 (HO.dK vs12) = H28 at w30 ⊢
        obtain rfl := Option.some.inj et12
        exact ⟨P22, vs12, ((e20.trans e21).trans e22), rfl, ((((w30.pull 3 rfl).pull 3 rfl).pull 2 rfl).pull 3 rfl), al21⟩
      · rw [ite_f hb10] at et12
        obtain rfl := Option.some.inj et12
        exact ⟨P19, vs11, Ext.refl _, rfl, w26, al18⟩
    rintro _ H29 ⟨P23, vs13, e23, rfl, w31, al22⟩
    obtain ⟨t14, et15, eR⟩ := ob_some eR
    refine q_join (fun σz Hz => ∃ (Pz : Hp) (lz0 : List (Key × V)), Ext P23 Pz ∧ σz = [some (V.ref aboxhere1), some (S named1), some (V.ref aarcs1), some (V.ref aendings1), some (V.int t1.1), some (V.int t2.1), some (S (((t3.filter (fun ic0 => (!(decide (ic0 ∈ named1))))).map (fun ic0 => ([ic0] : List Nat))).getD (ixP ((t3.filter (fun ic0 => (!(decide (ic0 ∈ named1))))).map (fun ic0 => ([ic0] : List Nat))).length t4.1) ([] : List Nat))), some (.ref q1.1), some (.ref p3), some (S t8.1), some (.ref a1), none] ∧ Wd G.T Pz Hz ((q1.1, (HO.dK lz0)) :: (aboxhere1, (boxO lboxhere1 t14.2)) :: (aendings1, (HO.lst vs8)) :: (aarcs1, HO.lst (dlV warcs1)) :: (dlC (warcs1.eraseIdx (ixP arcs1.length t2.1)) ++ cs0)) ∧ DR kS (y2 K yI yS) Pz lz0 t14.1) ?_ ?_
    · refine ⟨_, rfl, _, _, rfl, rfl, _, rfl, ?_⟩
      refine iteB (fun hb11 => ?_) (fun hb11 => ?_)
      · rw [ite_t hb11] at et15
        refine ⟨_, rfl, _, rfl, aarcs1, (dlV warcs1), (arcs1.length), rfl, (.inl (.inl (w31.get 3 rfl))), ((dlV_len _).trans (DLR.len (DLR.up (((((((((((((((e1.trans e2).trans e3).trans e5).trans e6).trans e7).trans e8).trans e9).trans e11).trans e12).trans e13).trans e14).trans e17).trans e18).trans e19).trans e23) hdarcs1))), _, _, rfl, rfl, ⟨by decide, by decide, by decide⟩, _, rfl, aarcs1, (dlV warcs1), (arcs1.length), rfl, (.inl (.inl (w31.get 3 rfl))), ((dlV_len _).trans (DLR.len (DLR.up (((((((((((((((e1.trans e2).trans e3).trans e5).trans e6).trans e7).trans e8).trans e9).trans e11).trans e12).trans e13).trans e14).trans e17).trans e18).trans e19).trans e23) hdarcs1))), _, rfl, (by show 4 ≤ sizeLine; decide), fun p8 np8 => ?_⟩
        have al23 : AR yI P23 ([(V.int (-1 : Int)), (V.int (arcs1.length : Int)), (V.int (10 ^ 9)), (V.int (-(arcs1.length : Int) : Int))] : List V) ([(-1 : Int), (arcs1.length : Int), (10 ^ 9), (-(arcs1.length : Int) : Int)] : List Int) := (AR.cons rfl (AR.cons rfl (AR.cons rfl (AR.cons rfl AR.nil))))
        have e24 := w31.fext np8 (HO.lst ([(V.int (-1 : Int)), (V.int (arcs1.length : Int)), (V.int (10 ^ 9)), (V.int (-(arcs1.length : Int) : Int))] : List V))
        have w32 := w31.frz np8 (HO.lst ([(V.int (-1 : Int)), (V.int (arcs1.length : Int)), (V.int (10 ^ 9)), (V.int (-(arcs1.length : Int) : Int))] : List V))
        have fq9 : upd P23 p8 (HO.lst ([(V.int (-1 : Int)), (V.int (arcs1.length : Int)), (V.int (10 ^ 9)), (V.int (-(arcs1.length : Int) : Int))] : List V)) p8 = some (HO.lst ([(V.int (-1 : Int)), (V.int (arcs1.length : Int)), (V.int (10 ^ 9)), (V.int (-(arcs1.length : Int) : Int))] : List V)) := upd_same
        generalize upd P23 p8 (HO.lst ([(V.int (-1 : Int)), (V.int (arcs1.length : Int)), (V.int (10 ^ 9)), (V.int (-(arcs1.length : Int) : Int))] : List V)) = P24 at w32 e24 fq9
        have al24 := (AR.up e24 al23)
        obtain ⟨t15, et16, et15⟩ := ob_some et15
        refine ⟨_, rfl, P24, ((q1.1, (HO.dK vs13)) :: (aendings1, (HO.lst vs8)) :: (aarcs1, HO.lst (dlV warcs1)) :: (dlC (warcs1.eraseIdx (ixP arcs1.length t2.1)) ++ cs0)), aboxhere1, lboxhere1, ns, t11.2, 4, t15, rfl, (w32.pull 1 rfl), (Ext.sql ((((((((((((((((e1.trans e2).trans e3).trans e5).trans e6).trans e7).trans e8).trans e9).trans e11).trans e12).trans e13).trans e14).trans e17).trans e18).trans e19).trans e23).trans e24) hl), et16, fun H31 P25 e25 w33 => ?_⟩
        obtain ⟨hc13, et15⟩ := chk_some et15
        obtain ⟨v6, hat6, hd7⟩ := AR.getI (i := t15.1) (d := (0 : Int)) (AR.up e25 al24) hc13
        obtain rfl : v6 = (V.int (([(-1 : Int), (arcs1.length : Int), (10 ^ 9), (-(arcs1.length : Int) : Int)] : List Int).getD (ixP ([(-1 : Int), (arcs1.length : Int), (10 ^ 9), (-(arcs1.length : Int) : Int)] : List Int).length t15.1) (0 : Int))) := hd7
        refine ⟨p8, _, _, _, rfl, rfl, (.inl (.inl (w33.sub _ _ (e25 _ _ fq9)))), hat6, _, rfl, a1, _, _, _, rfl, rfl, (w33.sqt (.inl (.inl ((((e19.trans e23).trans e24).trans e25) _ _ fq6)))), (atI_nat (j := 1) rfl), (by show 2 ≤ sizeLine; decide), fun p9 np9 => ?_⟩
        have e26 := w33.fext np9 (HO.tup ([(V.int (([(-1 : Int), (arcs1.length : Int), (10 ^ 9), (-(arcs1.length : Int) : Int)] : List Int).getD (ixP ([(-1 : Int), (arcs1.length : Int), (10 ^ 9), (-(arcs1.length : Int) : Int)] : List Int).length t15.1) (0 : Int))), (S ((dL (arcs1.getD (ixP arcs1.length t2.1) ([] : (List ((List Nat) × (Int × (List Nat)))))) t8.1).getD (0, (cs ""))).2)] : List V))
        have w34 := w33.frz np9 (HO.tup ([(V.int (([(-1 : Int), (arcs1.length : Int), (10 ^ 9), (-(arcs1.length : Int) : Int)] : List Int).getD (ixP ([(-1 : Int), (arcs1.length : Int), (10 ^ 9), (-(arcs1.length : Int) : Int)] : List Int).length t15.1) (0 : Int))), (S ((dL (arcs1.getD (ixP arcs1.length t2.1) ([] : (List ((List Nat) × (Int × (List Nat)))))) t8.1).getD (0, (cs ""))).2)] : List V))
        have fq10 : upd P25 p9 (HO.tup ([(V.int (([(-1 : Int), (arcs1.length : Int), (10 ^ 9), (-(arcs1.length : Int) : Int)] : List Int).getD (ixP ([(-1 : Int), (arcs1.length : Int), (10 ^ 9), (-(arcs1.length : Int) : Int)] : List Int).length t15.1) (0 : Int))), (S ((dL (arcs1.getD (ixP arcs1.length t2.1) ([] : (List ((List Nat) × (Int × (List Nat)))))) t8.1).getD (0, (cs ""))).2)] : List V)) p9 = some (HO.tup ([(V.int (([(-1 : Int), (arcs1.length : Int), (10 ^ 9), (-(arcs1.length : Int) : Int)] : List Int).getD (ixP ([(-1 : Int), (arcs1.length : Int), (10 ^ 9), (-(arcs1.length : Int) : Int)] : List Int).length t15.1) (0 : Int))), (S ((dL (arcs1.getD (ixP arcs1.length t2.1) ([] : (List ((List Nat) × (Int × (List Nat)))))) t8.1).getD (0, (cs ""))).2)] : List V)) := upd_same
        generalize upd H31 p9 (HO.tup ([(V.int (([(-1 : Int), (arcs1.length : Int), (10 ^ 9), (-(arcs1.length : Int) : Int)] : List Int).getD (ixP ([(-1 : Int), (arcs1.length : Int), (10 ^ 9), (-(arcs1.length : Int) : Int)] : List Int).length t15.1) (0 : Int))), (S ((dL (arcs1.getD (ixP arcs1.length t2.1) ([] : (List ((List Nat) × (Int × (List Nat)))))) t8.1).getD (0, (cs ""))).2)] : List V)) = H32 at w34 ⊢
        generalize upd P25 p9 (HO.tup ([(V.int (([(-1 : Int), (arcs1.length : Int), (10 ^ 9), (-(arcs1.length : Int) : Int)] : List Int).getD (ixP ([(-1 : Int), (arcs1.length : Int), (10 ^ 9), (-(arcs1.length : Int) : Int)] : List Int).length t15.1) (0 : Int))), (S ((dL (arcs1.getD (ixP arcs1.length t2.1) ([] : (List ((List Nat) × (Int × (List Nat)))))) t8.1).getD (0, (cs ""))).2)] : List V)) = P26 at w34 e26 fq10
        obtain ⟨hc14, et15⟩ := chk_some et15
        refine ⟨_, rfl, _, rfl, q1.1, _, rfl, (.inl ⟨vs13, (kS t8.1), (w34.get 1 rfl), rfl, (szl (by rw [DR.len (DR.up ((e24.trans e25).trans e26) al22)]; exact hc14)), rfl⟩), ?_⟩
        have al25 : DR kS (y2 K yI yS) P26 (putK vs13 (kS t8.1) (.ref p9)) (dP t11.1 t8.1 ((([(-1 : Int), (arcs1.length : Int), (10 ^ 9), (-(arcs1.length : Int) : Int)] : List Int).getD (ixP ([(-1 : Int), (arcs1.length : Int), (10 ^ 9), (-(arcs1.length : Int) : Int)] : List Int).length t15.1) (0 : Int)), ((dL (arcs1.getD (ixP arcs1.length t2.1) ([] : (List ((List Nat) × (Int × (List Nat)))))) t8.1).getD (0, (cs ""))).2)) := (DR.put (DR.up ((e24.trans e25).trans e26) al22) ⟨_, _, _, rfl, fq10, rfl, rfl⟩)
        generalize (putK vs13 (kS t8.1) (.ref p9)) = vs14 at al25 ⊢
        have w35 : Wd G.T P26 (upd H32 q1.1 (HO.dK vs14)) ((aboxhere1, (boxO lboxhere1 t15.2)) :: (q1.1, (HO.dK vs14)) :: (aendings1, (HO.lst vs8)) :: (aarcs1, HO.lst (dlV warcs1)) :: (dlC (warcs1.eraseIdx (ixP arcs1.length t2.1)) ++ cs0)) := w34.put 1 (HO.dK vs14) rfl
        generalize upd H32 q1.1 (HO.dK vs14) = H33 at w35 ⊢
        obtain rfl := Option.some.inj et15
        exact ⟨P26, vs14, ((e24.trans e25).trans e26), rfl, ((((w35.pull 3 rfl).pull 3 rfl).pull 2 rfl).pull 3 rfl), al25⟩
      · rw [ite_f hb11] at et15
        obtain rfl := Option.some.inj et15
        exact ⟨P23, vs13, Ext.refl _, rfl, w31, al22⟩
    rintro _ H34 ⟨P27, vs15, e27, rfl, w36, al26⟩
    obtain ⟨t16, et17, eR⟩ := ob_some eR
    refine q_join (fun σz Hz => ∃ (Pz : Hp) (lz0 : List (Key × V)), Ext P27 Pz ∧ σz = [some (V.ref aboxhere1), some (S named1), some (V.ref aarcs1), some (V.ref aendings1), some (V.int t1.1), some (V.int t2.1), some (S (((t3.filter (fun ic0 => (!(decide (ic0 ∈ named1))))).map (fun ic0 => ([ic0] : List Nat))).getD (ixP ((t3.filter (fun ic0 => (!(decide (ic0 ∈ named1))))).map (fun ic0 => ([ic0] : List Nat))).length t4.1) ([] : List Nat))), some (.ref q1.1), some (.ref p3), some (S t8.1), some (.ref a1), none] ∧ Wd G.T Pz Hz ((q1.1, (HO.dK lz0)) :: (aboxhere1, (boxO lboxhere1 t14.2)) :: (aendings1, (HO.lst vs8)) :: (aarcs1, HO.lst (dlV warcs1)) :: (dlC (warcs1.eraseIdx (ixP arcs1.length t2.1)) ++ cs0)) ∧ DR kS (y2 K yI yS) Pz lz0 t16) ?_ ?_
    · refine ⟨_, rfl, _, _, rfl, rfl, _, rfl, ?_⟩
      refine iteB (fun hb12 => ?_) (fun hb12 => ?_)
      · rw [ite_t hb12] at et17
        obtain ⟨hc15, et17⟩ := chk_some et17
        refine ⟨_, rfl, a1, _, _, _, rfl, rfl, (w36.sqt (.inl (.inl (((e19.trans e23).trans e27) _ _ fq6)))), (atI_nat (j := 0) rfl), _, rfl, _, rfl, a1, _, _, _, rfl, rfl, (w36.sqt (.inl (.inl (((e19.trans e23).trans e27) _ _ fq6)))), (atI_nat (j := 1) rfl), _, _, rfl, rfl, (sz hc15), (by show 2 ≤ sizeLine; decide), fun p10 np10 => ?_⟩
        have e28 := w36.fext np10 (HO.tup ([(V.int ((dL (arcs1.getD (ixP arcs1.length t2.1) ([] : (List ((List Nat) × (Int × (List Nat)))))) t8.1).getD (0, (cs ""))).1), (S ((((t3.filter (fun ic0 => (!(decide (ic0 ∈ named1))))).map (fun ic0 => ([ic0] : List Nat))).getD (ixP ((t3.filter (fun ic0 => (!(decide (ic0 ∈ named1))))).map (fun ic0 => ([ic0] : List Nat))).length t4.1) ([] : List Nat)) ++ ((dL (arcs1.getD (ixP arcs1.length t2.1) ([] : (List ((List Nat) × (Int × (List Nat)))))) t8.1).getD (0, (cs ""))).2))] : List V))
        have w37 := w36.frz np10 (HO.tup ([(V.int ((dL (arcs1.getD (ixP arcs1.length t2.1) ([] : (List ((List Nat) × (Int × (List Nat)))))) t8.1).getD (0, (cs ""))).1), (S ((((t3.filter (fun ic0 => (!(decide (ic0 ∈ named1))))).map (fun ic0 => ([ic0] : List Nat))).getD (ixP ((t3.filter (fun ic0 => (!(decide (ic0 ∈ named1))))).map (fun ic0 => ([ic0] : List Nat))).length t4.1) ([] : List Nat)) ++ ((dL (arcs1.getD (ixP arcs1.length t2.1) ([] : (List ((List Nat) × (Int × (List Nat)))))) t8.1).getD (0, (cs ""))).2))] : List V))
        have fq11 : upd P27 p10 (HO.tup ([(V.int ((dL (arcs1.getD (ixP arcs1.length t2.1) ([] : (List ((List Nat) × (Int × (List Nat)))))) t8.1).getD (0, (cs ""))).1), (S ((((t3.filter (fun ic0 => (!(decide (ic0 ∈ named1))))).map (fun ic0 => ([ic0] : List Nat))).getD (ixP ((t3.filter (fun ic0 => (!(decide (ic0 ∈ named1))))).map (fun ic0 => ([ic0] : List Nat))).length t4.1) ([] : List Nat)) ++ ((dL (arcs1.getD (ixP arcs1.length t2.1) ([] : (List ((List Nat) × (Int × (List Nat)))))) t8.1).getD (0, (cs ""))).2))] : List V)) p10 = some (HO.tup ([(V.int ((dL (arcs1.getD (ixP arcs1.length t2.1) ([] : (List ((List Nat) × (Int × (List Nat)))))) t8.1).getD (0, (cs ""))).1), (S ((((t3.filter (fun ic0 => (!(decide (ic0 ∈ named1))))).map (fun ic0 => ([ic0] : List Nat))).getD (ixP ((t3.filter (fun ic0 => (!(decide (ic0 ∈ named1))))).map (fun ic0 => ([ic0] : List Nat))).length t4.1) ([] : List Nat)) ++ ((dL (arcs1.getD (ixP arcs1.length t2.1) ([] : (List ((List Nat) × (Int × (List Nat)))))) t8.1).getD (0, (cs ""))).2))] : List V)) := upd_same
        generalize upd H34 p10 (HO.tup ([(V.int ((dL (arcs1.getD (ixP arcs1.length t2.1) ([] : (List ((List Nat) × (Int × (List Nat)))))) t8.1).getD (0, (cs ""))).1), (S ((((t3.filter (fun ic0 => (!(decide (ic0 ∈ named1))))).map (fun ic0 => ([ic0] : List Nat))).getD (ixP ((t3.filter (fun ic0 => (!(decide (ic0 ∈ named1))))).map (fun ic0 => ([ic0] : List Nat))).length t4.1) ([] : List Nat)) ++ ((dL (arcs1.getD (ixP arcs1.length t2.1) ([] : (List ((List Nat) × (Int × (List Nat)))))) t8.1).getD (0, (cs ""))).2))] : List V)) = H35 at w37 ⊢
        generalize upd P27 p10 (HO.tup ([(V.int ((dL (arcs1.getD (ixP arcs1.length t2.1) ([] : (List ((List Nat) × (Int × (List Nat)))))) t8.1).getD (0, (cs ""))).1), (S ((((t3.filter (fun ic0 => (!(decide (ic0 ∈ named1))))).map (fun ic0 => ([ic0] : List Nat))).getD (ixP ((t3.filter (fun ic0 => (!(decide (ic0 ∈ named1))))).map (fun ic0 => ([ic0] : List Nat))).length t4.1) ([] : List Nat)) ++ ((dL (arcs1.getD (ixP arcs1.length t2.1) ([] : (List ((List Nat) × (Int × (List Nat)))))) t8.1).getD (0, (cs ""))).2))] : List V)) = P28 at w37 e28 fq11
        obtain ⟨hc16, et17⟩ := chk_some et17
        refine ⟨_, rfl, _, rfl, q1.1, _, rfl, (.inl ⟨vs15, (kS t8.1), (w37.get 0 rfl), rfl, (szl (by rw [DR.len (DR.up e28 al26)]; exact hc16)), rfl⟩), ?_⟩
        have al27 : DR kS (y2 K yI yS) P28 (putK vs15 (kS t8.1) (.ref p10)) (dP t14.1 t8.1 (((dL (arcs1.getD (ixP arcs1.length t2.1) ([] : (List ((List Nat) × (Int × (List Nat)))))) t8.1).getD (0, (cs ""))).1, ((((t3.filter (fun ic0 => (!(decide (ic0 ∈ named1))))).map (fun ic0 => ([ic0] : List Nat))).getD (ixP ((t3.filter (fun ic0 => (!(decide (ic0 ∈ named1))))).map (fun ic0 => ([ic0] : List Nat))).length t4.1) ([] : List Nat)) ++ ((dL (arcs1.getD (ixP arcs1.length t2.1) ([] : (List ((List Nat) × (Int × (List Nat)))))) t8.1).getD (0, (cs ""))).2))) := (DR.put (DR.up e28 al26) ⟨_, _, _, rfl, fq11, rfl, rfl⟩)
        generalize (putK vs15 (kS t8.1) (.ref p10)) = vs16 at al27 ⊢
        have w38 : Wd G.T P28 (upd H35 q1.1 (HO.dK vs16)) ((q1.1, (HO.dK vs16)) :: (aboxhere1, (boxO lboxhere1 t14.2)) :: (aendings1, (HO.lst vs8)) :: (aarcs1, HO.lst (dlV warcs1)) :: (dlC (warcs1.eraseIdx (ixP arcs1.length t2.1)) ++ cs0)) := w37.put 0 (HO.dK vs16) rfl
        generalize upd H35 q1.1 (HO.dK vs16) = H36 at w38 ⊢
        obtain rfl := Option.some.inj et17
        exact ⟨P28, vs16, e28, rfl, w38, al27⟩
      · rw [ite_f hb12] at et17
        obtain rfl := Option.some.inj et17
        exact ⟨P27, vs15, Ext.refl _, rfl, w36, al26⟩
    rintro _ H37 ⟨P29, vs17, e29, rfl, w39, al28⟩
    refine ⟨_, rfl, _, _, rfl, rfl, _, rfl, ?_⟩
    refine iteB (fun hb13 => ?_) (fun hb13 => ?_)
    · rw [ite_t hb13] at eR
      have w40 := Wd.giveback (T := G.T) (P := P29) (H := H37) (a := aarcs1) (z := warcs1) (kvs := vs17) (l := [(aboxhere1, (boxO lboxhere1 t14.2)), (aendings1, (HO.lst vs8))]) (rest := cs0) hz1 ((w39.pull 3 rfl).pull 1 rfl)
      have al29 : DLR kS (y2 K yI yS) P29 (warcs1.set (ixP arcs1.length t2.1) (q1.1, vs17)) (arcs1.set (ixP arcs1.length t2.1) t16) := DLR.set (p := (q1.1, vs17)) al28 (DLR.up (((((((((((((((((e1.trans e2).trans e3).trans e5).trans e6).trans e7).trans e8).trans e9).trans e11).trans e12).trans e13).trans e14).trans e17).trans e18).trans e19).trans e23).trans e27).trans e29) hdarcs1)
      generalize (warcs1.set (ixP arcs1.length t2.1) (q1.1, vs17)) = z1 at w40 al29
      have w41 : Wd G.T P29 H37 ((aboxhere1, (boxO lboxhere1 t14.2)) :: (aendings1, (HO.lst vs8)) :: (aarcs1, HO.lst (dlV z1)) :: (dlC z1 ++ cs0)) := ((w40.pull 2 rfl).pull 2 rfl)
      refine ⟨(by show 0 ≤ sizeLine; decide), fun p11 np11 => ?_⟩
      have al30 : AR yS P29 ([] : List V) ([] : List (List Nat)) := AR.nil
      have w42 := w41.new np11 (HO.lst ([] : List V))
      generalize upd H37 p11 (HO.lst ([] : List V)) = H38 at w42 ⊢
      obtain ⟨hc17, eR⟩ := chk_some eR
      refine ⟨_, rfl, _, rfl, _, rfl, aarcs1, p11, (dlV z1), (t2.1).toNat, rfl, rfl, (congrArg some (Int.toNat_of_nonneg hc17).symm), (w42.get 3 rfl), (.inl (.inl (w42.get 0 rfl))), (w42.neq (i := 3) (j := 0) rfl rfl (by decide)), ?_⟩
      have w43 := w42.put 3 (HO.lst ((dlV z1).take (t2.1).toNat)) rfl
      have w44 := Wd.dlTake (T := G.T) (P := P29) (H := upd H38 aarcs1 (HO.lst ((dlV z1).take (t2.1).toNat))) (a := aarcs1) (l := [(aboxhere1, (boxO lboxhere1 t14.2)), (aendings1, (HO.lst vs8))]) (rest := cs0) (z := z1) (t2.1).toNat (w43.tl.pull 2 rfl)
      have al31 : DLR kS (y2 K yI yS) P29 (z1.take (t2.1).toNat) ((arcs1.set (ixP arcs1.length t2.1) t16).take (t2.1).toNat) := DLR.takeN (t2.1).toNat al29
      clear w43
      generalize upd H38 aarcs1 (HO.lst ((dlV z1).take (t2.1).toNat)) = H39 at w44 ⊢
      generalize (z1.take (t2.1).toNat) = z2 at w44 al31
      have w45 : Wd G.T P29 H39 ((aboxhere1, (boxO lboxhere1 t14.2)) :: (aendings1, (HO.lst vs8)) :: (aarcs1, HO.lst (dlV z2)) :: (dlC z2 ++ cs0)) := ((w44.pull 2 rfl).pull 2 rfl)
      obtain rfl := Option.some.inj eR
      exact q H39 P29 vs8 z2 (((((((((((((((((e1.trans e2).trans e3).trans e5).trans e6).trans e7).trans e8).trans e9).trans e11).trans e12).trans e13).trans e14).trans e17).trans e18).trans e19).trans e23).trans e27).trans e29) w45 (AR.up ((((((((e12.trans e13).trans e14).trans e17).trans e18).trans e19).trans e23).trans e27).trans e29) al10) al31
    · rw [ite_f hb13] at eR
      have w46 := Wd.giveback (T := G.T) (P := P29) (H := H37) (a := aarcs1) (z := warcs1) (kvs := vs17) (l := [(aboxhere1, (boxO lboxhere1 t14.2)), (aendings1, (HO.lst vs8))]) (rest := cs0) hz1 ((w39.pull 3 rfl).pull 1 rfl)
      have al32 : DLR kS (y2 K yI yS) P29 (warcs1.set (ixP arcs1.length t2.1) (q1.1, vs17)) (arcs1.set (ixP arcs1.length t2.1) t16) := DLR.set (p := (q1.1, vs17)) al28 (DLR.up (((((((((((((((((e1.trans e2).trans e3).trans e5).trans e6).trans e7).trans e8).trans e9).trans e11).trans e12).trans e13).trans e14).trans e17).trans e18).trans e19).trans e23).trans e27).trans e29) hdarcs1)
      generalize (warcs1.set (ixP arcs1.length t2.1) (q1.1, vs17)) = z3 at w46 al32
      have w47 : Wd G.T P29 H37 ((aboxhere1, (boxO lboxhere1 t14.2)) :: (aendings1, (HO.lst vs8)) :: (aarcs1, HO.lst (dlV z3)) :: (dlC z3 ++ cs0)) := ((w46.pull 2 rfl).pull 2 rfl)
      obtain rfl := Option.some.inj eR
      exact q H37 P29 vs8 z3 (((((((((((((((((e1.trans e2).trans e3).trans e5).trans e6).trans e7).trans e8).trans e9).trans e11).trans e12).trans e13).trans e14).trans e17).trans e18).trans e19).trans e23).trans e27).trans e29) w47 (AR.up ((((((((e12.trans e13).trans e14).trans e17).trans e18).trans e19).trans e23).trans e27).trans e29) al10) al32
  · rw [ite_f hb7] at eR
    obtain rfl := Option.some.inj eR
    exact q H16 P12 vs8 warcs1 (((((((((e1.trans e2).trans e3).trans e5).trans e6).trans e7).trans e8).trans e9).trans e11).trans e12) w17 (AR.up e12 al10) (DLR.up (((((((((e1.trans e2).trans e3).trans e5).trans e6).trans e7).trans e8).trans e9).trans e11).trans e12) hdarcs1)
theorem fn_spoil {P : Program} {w : World} {K : PySem.W.Frag} {mg : Str → Option Value} {base : Heap} {G : GA} {f : Addr} {fd : FuncData} (T : Tx P w K G mg base) (F : Fun K "_law_spoil" "_law_spoil" s_spoil f fd) : FnOk P w K mg base CX0 4 f fd ["_law_box_here", "_law_named", "_law_arcs", "_law_endings"] (sp_spoil K G) := by
  refine F.ok sc_spoil (fun vs H Q E h => ?_) (fun cdv A outer s H vs Q E hr h => ⟨t_spoil K G, ?_, rd_spoil T.fa vs H Q E h⟩)
  · obtain ⟨_, _, _, _, _, _, _, _, _, _, _, _, _, _, rfl, _⟩ := h
    rfl
  · exact (pss_cons (ps_set (i := 4) sc_spoil.nd rfl (.inl rfl) (pe_c (c_take T) hr (by decide) (by rfl) (pa_cons (pv 0) (pa_cons pe_int pa_nil)))) (pss_cons (ps_set (i := 5) sc_spoil.nd rfl (.inl rfl) (pe_c (c_take T) hr (by decide) (by rfl) (pa_cons (pv 0) (pa_cons pe_int pa_nil)))) (pss_cons (ps_set (i := 6) sc_spoil.nd rfl (.inl rfl) (pe_ix ix_list (pe_lc (own := [("_law_sign_here", 11)]) rfl sc_spoil.nd (pi_str (pe_c0 (c_law_signs T) hr (by decide) (by rfl))) (blkOk_by (N := ["_law_box_here", "_law_named", "_law_arcs", "_law_endings", "_law_way", "_law_at", "_law_strange", "_law_row", "_law_keys", "_law_key", "_law_arc", "_law_sign_here"]) (sc := defScope s_spoil) (by decide +kernel)) (fun _ _ _ _ _ => (pg_name (i := 11) sc_spoil.nd rfl (Or.inl rfl))) (fun _ _ _ _ _ => pts_one (pt_cmpR o_niS (pv 11) (pv 1) (by rfl))) (fun _ _ _ _ _ => (pv 11))) (pe_c (c_take T) hr (by decide) (by rfl) (pa_cons (pv 0) (pa_cons pe_int pa_nil))) (fun _ _ => rfl))) (Evl.pss_cut (ps_if (pt_cmpR o_eqI (pv 4) pe_int (nomark _)) (pss_one (ps_asg (pe_lst pa_nil) (SlX.pg_cut0 (pv 3) (po_some (pv 5))))) pss_nil) (Evl.pss_cut (ps_if (pt_cmpR o_eqI (pv 4) pe_int (nomark _)) (pss_one (ps_expr (pe_bm PySem.F.plainAttrs_list PySem.F.slot_list_append PySem.F.type_list_append mt_append (pv 3) (pa_cons pe_strS pa_nil)))) pss_nil) (Evl.pss_cut (ps_if (PW.pt (pw_and (pt_cmpR o_eqI (pv 4) pe_int (nomark _)) (pw_and1 (pt_cmpR o_lt (pv 5) (pe_callB c_lenM (by rfl) T.z_len PySem.boot_len (pa_cons (pv 3) pa_nil)) (nomark _))))) (pss_one (ps_asg (pe_op o_addS (pe_ix ix_list (pv 3) (pv 5) (fun _ _ => rfl)) (pv 6)) (pg_sub (pv 3) (pv 5) set_list))) pss_nil) (pss_one (ps_if (PW.pt (pw_and (pt_cmpR o_gt (pv 4) pe_int (nomark _)) (pw_and1 (pt_cmpR o_lt (pv 5) (pe_callB c_lenM (by rfl) T.z_len PySem.boot_len (pa_cons (pv 2) pa_nil)) (nomark _))))) (pss_cons (ps_set (i := 7) sc_spoil.nd rfl (.inl rfl) (pe_ix ix_list (pv 2) (pv 5) (fun _ _ => rfl))) (pss_cons (ps_set (i := 8) sc_spoil.nd rfl (.inl rfl) (pe_callB (c_sortedK (K := K) (R := yS) (lt := ltT) ((hr.mono (by decide : 2 ≤ _)).in1.in1).units) (by rfl) T.z_sorted (by decide +kernel) (pa_cons (pe_callTy (c_listK rfl) (by rfl) T.z_list (by decide +kernel) (pa_cons (pv 7) pa_nil)) pa_nil))) (pss_cons (ps_set (i := 9) sc_spoil.nd rfl (.inl rfl) (pe_ifExp (pt_cmpR (o_neRK (K := K) (R1 := (yL yS)) (ok1 := (okL okS)) hr.units) (pv 8) (pe_lst pa_nil) (nomark _)) (pe_ix ix_list (pv 8) (pe_c (c_take T) hr (by decide) (by rfl) (pa_cons (pv 0) (pa_cons (pe_callB c_lenM (by rfl) T.z_len PySem.boot_len (pa_cons (pv 8) pa_nil)) pa_nil))) (fun _ _ => rfl)) pe_strS)) (pss_cons (ps_set (i := 10) sc_spoil.nd rfl (.inl rfl) (pe_dget2 (un1 hr.units) (pv 7) (pv 9) (pe_tup (pa_cons pe_int (pa_cons pe_strS pa_nil))) ⟨rfl, rfl, rfl, rfl⟩)) (Evl.pss_cut (ps_if (pt_cmpR o_eqI (pv 4) pe_int (nomark _)) (pss_one (ps_expr (pe_dclear (pv 7)))) pss_nil) (Evl.pss_cut (ps_if (pt_cmpR o_eqI (pv 4) pe_int (nomark _)) (pss_one (ps_dput (un1 hr.units) (pv 7) (pe_ix ix_list (pe_lst (pa_cons (pv 6) (pa_cons pe_strS (pa_cons pe_strS pa_nil)))) (pe_c (c_take T) hr (by decide) (by rfl) (pa_cons (pv 0) (pa_cons pe_int pa_nil))) (fun _ _ => rfl)) (pe_tup (pa_cons pe_int (pa_cons pe_strS pa_nil))) (by rfl))) pss_nil) (Evl.pss_cut (ps_if (pt_cmpR o_eqI (pv 4) pe_int (nomark _)) (pss_one (ps_dput (un1 hr.units) (pv 7) (pv 9) (pe_tup (pa_cons (pe_ix ix_list (pe_lst (pa_cons (pe_un un_neg pe_int) (pa_cons (pe_callB c_lenM (by rfl) T.z_len PySem.boot_len (pa_cons (pv 2) pa_nil)) (pa_cons (pe_op o_pow pe_int pe_int) (pa_cons (pe_un un_neg (pe_callB c_lenM (by rfl) T.z_len PySem.boot_len (pa_cons (pv 2) pa_nil))) pa_nil))))) (pe_c (c_take T) hr (by decide) (by rfl) (pa_cons (pv 0) (pa_cons pe_int pa_nil))) (fun _ _ => rfl)) (pa_cons (pe_ix ix_tup (pv 10) pe_int (fun _ _ => rfl)) pa_nil))) (by rfl))) pss_nil) (Evl.pss_cut (ps_if (pt_cmpR o_eqI (pv 4) pe_int (nomark _)) (pss_one (ps_dput (un1 hr.units) (pv 7) (pv 9) (pe_tup (pa_cons (pe_ix ix_tup (pv 10) pe_int (fun _ _ => rfl)) (pa_cons (pe_op o_addS (pv 6) (pe_ix ix_tup (pv 10) pe_int (fun _ _ => rfl))) pa_nil))) (by rfl))) pss_nil) (pss_one (ps_if (pt_cmpR o_eqI (pv 4) pe_int (nomark _)) (pss_one (ps_asg (pe_lst pa_nil) (SlX.pg_cut0 (pv 2) (po_some (pv 5))))) pss_nil)))))))))) pss_nil))))))))
theorem c_spoil {P : Program} {w : World} {K : PySem.W.Frag} {mg : Str → Option Value} {base : Heap} {G : GA} (T : Tx P w K G mg base) : Cal P w K mg base 4 "_law_spoil" (sp_spoil K G) := by
  obtain ⟨f, fd, F, b, g⟩ := T.d_spoil
  exact ⟨f, fd, _, fn_spoil T F, g, F.kp, b⟩

def bd_due_3 (arcs1 : (List (List ((List Nat) × (Int × (List Nat)))))) (i2 : Nat) (it2 : (List Nat)) (s2 : (List Nat)) : Option (Lr (List Nat) PyData) :=
  (ob (chk (inR arcs1.length ((i2 : Nat) : Int)) (chk ((dL (arcs1.getD (ixP arcs1.length ((i2 : Nat) : Int)) ([] : (List ((List Nat) × (Int × (List Nat)))))) it2).isSome = true) (if (decide (0 ≤ ((dL (arcs1.getD (ixP arcs1.length ((i2 : Nat) : Int)) ([] : (List ((List Nat) × (Int × (List Nat)))))) it2).getD (default : (Int × (List Nat)))).1)) then (some (decide (((dL (arcs1.getD (ixP arcs1.length ((i2 : Nat) : Int)) ([] : (List ((List Nat) × (Int × (List Nat)))))) it2).getD (default : (Int × (List Nat)))).1 < (arcs1.length : Int)))) else (some false)))) (fun (t5 : Bool) => (if (!t5) then (some (Lr.rt (PyData.tuple [(eS ((cs "state"), ((i2 : Nat) : Int)).1), (PyData.int ((cs "state"), ((i2 : Nat) : Int)).2)]))) else (chk (inR arcs1.length ((i2 : Nat) : Int)) (chk ((dL (arcs1.getD (ixP arcs1.length ((i2 : Nat) : Int)) ([] : (List ((List Nat) × (Int × (List Nat)))))) it2).isSome = true) (chk (s2.length + ((dL (arcs1.getD (ixP arcs1.length ((i2 : Nat) : Int)) ([] : (List ((List Nat) × (Int × (List Nat)))))) it2).getD (default : (Int × (List Nat)))).2.length ≤ 1000000) (some (Lr.nx (s2 ++ ((dL (arcs1.getD (ixP arcs1.length ((i2 : Nat) : Int)) ([] : (List ((List Nat) × (Int × (List Nat)))))) it2).getD (default : (Int × (List Nat)))).2)))))))))
def bd_due_2 (named1 : (List Nat)) (arcs1 : (List (List ((List Nat) × (Int × (List Nat)))))) (endings1 : (List (List Nat))) (i2 : Nat) (s1 : Unit) : Option (Lr Unit PyData) :=
  (ob (if (decide ((arcs1.length : Int) ≤ ((i2 : Nat) : Int))) then (some true) else (if (decide ((endings1.length : Int) ≤ ((i2 : Nat) : Int))) then (some true) else (chk (inR arcs1.length ((i2 : Nat) : Int)) (chk ((okL okS) (srt ltT ((arcs1.getD (ixP arcs1.length ((i2 : Nat) : Int)) ([] : (List ((List Nat) × (Int × (List Nat)))))).map (fun x => x.1))) = true ∧ (okL okS) (srt ltT ((named1.map (fun c => [c])) ++ ([(cs "letter"), (cs "figure"), (cs "mark")] : List (List Nat)))) = true) (some (!(decide ((srt ltT ((arcs1.getD (ixP arcs1.length ((i2 : Nat) : Int)) ([] : (List ((List Nat) × (Int × (List Nat)))))).map (fun x => x.1))) = (srt ltT ((named1.map (fun c => [c])) ++ ([(cs "letter"), (cs "figure"), (cs "mark")] : List (List Nat)))))))))))) (fun (t3 : Bool) => (if t3 then (some (Lr.rt (PyData.tuple [(eS ((cs "state"), ((i2 : Nat) : Int)).1), (PyData.int ((cs "state"), ((i2 : Nat) : Int)).2)]))) else (chk (inR endings1.length ((i2 : Nat) : Int)) (ob (itr (bd_due_3 arcs1 i2) (srt ltT ((named1.map (fun c => [c])) ++ ([(cs "letter"), (cs "figure"), (cs "mark")] : List (List Nat)))) (endings1.getD (ixP endings1.length ((i2 : Nat) : Int)) ([] : List Nat))) (fun (t4 : (Lr (List Nat) PyData)) => Lr.el t4 (fun (r : PyData) => some (Lr.rt r)) (fun (s3 : (List Nat)) => (chk (s3.length ≤ 1000000) (chk ((okL okS) ((s3.filter (fun ic1 => (!(decide (ic1 ∈ named1))))).map (fun ic1 => ([ic1] : List Nat))) = true ∧ (okL okS) ([] : List (List Nat)) = true) (if (!(decide (((s3.filter (fun ic1 => (!(decide (ic1 ∈ named1))))).map (fun ic1 => ([ic1] : List Nat))) = ([] : List (List Nat))))) then (some (Lr.rt (PyData.tuple [(eS ((cs "state"), ((i2 : Nat) : Int)).1), (PyData.int ((cs "state"), ((i2 : Nat) : Int)).2)]))) else (some (Lr.nx ()))))))))))))
def m_due (named1 : (List Nat)) (arcs1 : (List (List ((List Nat) × (Int × (List Nat)))))) (endings1 : (List (List Nat))) : Option PyData :=
  (ob m_law_signs (fun (t1 : (List Nat)) => (chk (t1.length ≤ 1000000) (chk ((((t1.filter (fun ic0 => (decide (ic0 ∈ named1)))).map (fun ic0 => ([ic0] : List Nat))).map List.length).sum + ((t1.filter (fun ic0 => (decide (ic0 ∈ named1)))).map (fun ic0 => ([ic0] : List Nat))).length * (cs "").length ≤ 1000000) (if (!(decide ((TL.joinL (cs "") ((t1.filter (fun ic0 => (decide (ic0 ∈ named1)))).map (fun ic0 => ([ic0] : List Nat)))) = named1))) then (some (PyData.tuple [(eS ((cs "signs"), named1).1), (eS ((cs "signs"), named1).2)])) else (chk (named1.length ≤ 1000000) (chk ((named1.map (fun c => [c])).length + ([(cs "letter"), (cs "figure"), (cs "mark")] : List (List Nat)).length ≤ 1000000) (chk (-(2 ^ 62) ≤ (mx3 1 (arcs1.length : Int) (endings1.length : Int)) ∧ (mx3 1 (arcs1.length : Int) (endings1.length : Int)) < 2 ^ 62) (ob (itr (bd_due_2 named1 arcs1 endings1) (List.range ((mx3 1 (arcs1.length : Int) (endings1.length : Int))).toNat) ()) (fun (t2 : (Lr Unit PyData)) => Lr.el t2 (fun (r : PyData) => some r) (fun (s4 : Unit) => (some (PyData.tuple [(eS ((cs "made"), (arcs1.length : Int)).1), (PyData.int ((cs "made"), (arcs1.length : Int)).2)])))))))))))))
def sp_due (K : PySem.W.Frag) (G : GA) : Sp := fun vs H Q E => ∃ (P : Hp) (cs0 : Cs) (named1 : (List Nat)) (varcs1 : V) (arcs1 : (List (List ((List Nat) × (Int × (List Nat)))))) (vendings1 : V) (endings1 : (List (List Nat))) (R0 : PyData), vs = [(S named1), varcs1, vendings1] ∧ Wd G.T P H (cs0) ∧ (yL (yD kS (y2 K yI yS))) P varcs1 arcs1 ∧ (yL yS) P vendings1 endings1 ∧ m_due named1 arcs1 endings1 = some R0 ∧ ∀ (H1 P1 : Hp) (v1 : V), Ext P P1 → Wd G.T P1 H1 (cs0) → (yDt K) P1 v1 R0 → Q v1 H1
def t_due (K : PySem.W.Frag) (G : GA) : TS := (tSeq (tIfS (tTest (tOp rNeS (tM1 (rJoin K) (tC (S (cs ""))) (tLc (iStr (tCall (sp_law_signs K G) [] E0 tNil)) (gName 7) (tTest (tOp rInS (tVar 7) (tVar 0))) (tVar 7) [7])) (tVar 0))) (tRet (tTup (tCons (tC (S (cs "signs"))) (tCons (tVar 0) tNil)))) tNext) (tSeq (tAsg (tCB (rSrt K yS ltT) (tCons (tOp rCat (tCB rListS (tCons (tVar 0) tNil)) (tLst (tCons (tC (S (cs "letter"))) (tCons (tC (S (cs "figure"))) (tCons (tC (S (cs "mark"))) tNil))))) tNil)) (gName 3)) (tSeq (tFor (iRng1 (tCons (tCB rMax3 (tCons (tC (V.int 1)) (tCons (tCB (rLenM K) (tCons (tVar 1) tNil)) (tCons (tCB (rLenM K) (tCons (tVar 2) tNil)) tNil)))) tNil)) (gName 4) (tSeq (tIfS (tOr (tTest (tOp rGe (tVar 4) (tCB (rLenM K) (tCons (tVar 1) tNil)))) (tOr (tTest (tOp rGe (tVar 4) (tCB (rLenM K) (tCons (tVar 2) tNil)))) (tTest (tOp (rNeR (yL yS) (okL okS)) (tCB (rSrt K yS ltT) (tCons (tCB rListK (tCons (tOp (rIxL K) (tVar 1) (tVar 4)) tNil)) tNil)) (tVar 3))))) (tRet (tTup (tCons (tC (S (cs "state"))) (tCons (tVar 4) tNil)))) tNext) (tSeq (tAsg (tOp (rIxL K) (tVar 2) (tVar 4)) (gName 5)) (tSeq (tFor (iList K (tVar 3)) (gName 6) (tSeq (tIfS (tNot (tTest (tChain rLe rLt (tC (V.int 0)) (tOp (L2.rIxT K) (tDGet (tOp (rIxL K) (tVar 1) (tVar 4)) (tVar 6)) (tC (V.int 0))) (tCB (rLenM K) (tCons (tVar 1) tNil))))) (tRet (tTup (tCons (tC (S (cs "state"))) (tCons (tVar 4) tNil)))) tNext) (tAsg (tOp rAddS (tVar 5) (tOp (L2.rIxT K) (tDGet (tOp (rIxL K) (tVar 1) (tVar 4)) (tVar 6)) (tC (V.int 1)))) (gName 5)))) (tIfS (tTest (tOp (rNeR (yL yS) (okL okS)) (tLc (iStr (tVar 5)) (gName 7) (tTest (tOp rNiS (tVar 7) (tVar 0))) (tVar 7) [7]) (tLst tNil))) (tRet (tTup (tCons (tC (S (cs "state"))) (tCons (tVar 4) tNil)))) tNext))))) (tRet (tTup (tCons (tC (S (cs "made"))) (tCons (tCB (rLenM K) (tCons (tVar 1) tNil)) tNil)))))))
theorem sc_due : FnScope ["_law_named", "_law_arcs", "_law_endings", "_law_keys", "_law_k", "_law_texts", "_law_key", "_law_sign_here"] ["_law_named", "_law_arcs", "_law_endings"] (defScope s_due) := ⟨rfl, rfl, rfl, by decide +kernel, rfl, by decide +kernel, by decide +kernel⟩
theorem rd_due {K : PySem.W.Frag} {G : GA} (F : Fa K G) (vs : List V) (H : Hp) (Q : VK) (E : XK) (h : sp_due K G vs H Q E) : t_due K G { nx := fun _ H1 => Q .non H1, rt := Q } (L2.start ["_law_named", "_law_arcs", "_law_endings", "_law_keys", "_law_k", "_law_texts", "_law_key", "_law_sign_here"] vs) H := by
  obtain ⟨P, cs0, named1, varcs1, arcs1, vendings1, endings1, R0, rfl, w, hdarcs1, hdendings1, eR, q⟩ := h
  unfold m_due at eR
  obtain ⟨a1, vs1, rfl, fq1, al1⟩ := hdarcs1
  obtain ⟨a2, vs2, rfl, fq2, al2⟩ := hdendings1
  obtain ⟨t1, et1, eR⟩ := ob_some eR
  refine ⟨⟨_, rfl⟩, P, (cs0), t1, rfl, w, et1, fun H1 P1 e1 w1 => ?_⟩
  obtain ⟨hc1, eR⟩ := chk_some eR
  refine ⟨_, rfl, fun D1 nD1 => ?_⟩
  refine lc_it (walk_str (z := ⟨⟨t1⟩⟩)) (fun i Hz => ∃ (Pz : Hp) (vsz : List V), Ext P1 Pz ∧ Wd G.T Pz Hz ((D1, (HO.lst vsz)) :: cs0) ∧ AR yS Pz vsz (((t1.take i).filter (fun ic0 => (decide (ic0 ∈ named1)))).map (fun ic0 => ([ic0] : List Nat)))) ?_ ?_ ?_ ?_
  · exact ⟨P1, [], Ext.refl _, w1.new nD1 _, AR.nil⟩
  · rintro i Hz _ ⟨Pz, vsz, ee, ww, _⟩
    trivial
  · rintro i1 x1 H2 H3 hi1 ⟨P2, vs3, e2, w2, al3⟩ hy1
    obtain ⟨eH1, hx1⟩ := hy1
    rw [eH1]
    obtain ⟨it1, hitit1, exit1⟩ := hx1
    obtain rfl : x1 = S ([it1] : List Nat) := exit1
    have eD1 := str_drop hitit1
    refine ⟨rfl, ?_⟩
    refine ⟨_, rfl, _, rfl, it1, _, rfl, rfl, _, rfl, ?_⟩
    refine iteB (fun hb1 => ?_) (fun hb1 => ?_)
    · refine ⟨_, rfl, vs3, (w2.get 0 rfl), (szl (by rw [AR.len al3]; exact Nat.lt_of_le_of_lt len_tf (Nat.lt_of_lt_of_le hi1 (str_bnd hc1)))), ?_⟩
      exact ⟨P2, _, e2, (w2.put 0 (HO.lst (vs3 ++ [(S ([it1] : List Nat))])) rfl), (by rw [take_snoc_filter eD1 (p := fun it1 => (decide (it1 ∈ named1))) hb1]; exact (AR.snoc al3 rfl))⟩
    · exact ⟨P2, _, e2, w2, (by rw [take_snoc_filter_no eD1 (p := fun it1 => (decide (it1 ∈ named1))) hb1]; exact al3)⟩
  rintro H4 ⟨P3, vs4, e3, w3, al4⟩
  rw [take_str_all] at al4
  have e4 : Ext P3 (upd P3 D1 (HO.lst vs4)) := w3.kext
  have w4 : Wd G.T (upd P3 D1 (HO.lst vs4)) H4 (cs0) := w3.keep
  have fq3 : upd P3 D1 (HO.lst vs4) D1 = some (HO.lst vs4) := upd_same
  generalize upd P3 D1 (HO.lst vs4) = P4 at w4 e4 fq3
  have al5 := (AR.up e4 al4)
  obtain ⟨hc2, eR⟩ := chk_some eR
  refine ⟨_, D1, ((t1.filter (fun ic0 => (decide (ic0 ∈ named1)))).map (fun ic0 => ([ic0] : List Nat))), rfl, rfl, (.inl (ar_strs al5 ▸ (.inl (.inl (w4.sub _ _ fq3))))), (Nat.le_trans hc2 (by decide)), _, rfl, _, _, rfl, rfl, _, rfl, ?_⟩
  refine iteB (fun hb2 => ?_) (fun hb2 => ?_)
  · rw [ite_t hb2] at eR
    refine ⟨_, rfl, (by show 2 ≤ sizeLine; decide), fun p1 np1 => ?_⟩
    have e5 := w4.fext np1 (HO.tup ([(S (cs "signs")), (S named1)] : List V))
    have w5 := w4.frz np1 (HO.tup ([(S (cs "signs")), (S named1)] : List V))
    have fq4 : upd P4 p1 (HO.tup ([(S (cs "signs")), (S named1)] : List V)) p1 = some (HO.tup ([(S (cs "signs")), (S named1)] : List V)) := upd_same
    generalize upd H4 p1 (HO.tup ([(S (cs "signs")), (S named1)] : List V)) = H5 at w5 ⊢
    generalize upd P4 p1 (HO.tup ([(S (cs "signs")), (S named1)] : List V)) = P5 at w5 e5 fq4
    obtain rfl := Option.some.inj eR
    exact q H5 P5 (.ref p1) (((e1.trans e3).trans e4).trans e5) w5 (yDt_of (R1 := (y2 K yS yS)) (show (y2 K yS yS) P5 (.ref p1) ((cs "signs"), named1) from ⟨_, _, _, rfl, fq4, rfl, rfl⟩) rfl)
  · rw [ite_f hb2] at eR
    obtain ⟨hc3, eR⟩ := chk_some eR
    refine ⟨_, rfl, named1, rfl, (sz hc3), fun p2 np2 => ?_⟩
    have al6 : AR yS P4 (named1.map (fun c => S [c])) (named1.map (fun c => [c])) := (signs_ar named1)
    have e6 := w4.fext np2 (HO.lst (named1.map (fun c => S [c])))
    have w6 := w4.frz np2 (HO.lst (named1.map (fun c => S [c])))
    have fq5 : upd P4 p2 (HO.lst (named1.map (fun c => S [c]))) p2 = some (HO.lst (named1.map (fun c => S [c]))) := upd_same
    generalize upd H4 p2 (HO.lst (named1.map (fun c => S [c]))) = H6 at w6 ⊢
    generalize upd P4 p2 (HO.lst (named1.map (fun c => S [c]))) = P6 at w6 e6 fq5
    have al7 := (AR.up e6 al6)
    refine ⟨(by show 3 ≤ sizeLine; decide), fun p3 np3 => ?_⟩
    have al8 : AR yS P6 ([(S (cs "letter")), (S (cs "figure")), (S (cs "mark"))] : List V) ([(cs "letter"), (cs "figure"), (cs "mark")] : List (List Nat)) := (AR.cons rfl (AR.cons rfl (AR.cons rfl AR.nil)))
    have e7 := w6.fext np3 (HO.lst ([(S (cs "letter")), (S (cs "figure")), (S (cs "mark"))] : List V))
    have w7 := w6.frz np3 (HO.lst ([(S (cs "letter")), (S (cs "figure")), (S (cs "mark"))] : List V))
    have fq6 : upd P6 p3 (HO.lst ([(S (cs "letter")), (S (cs "figure")), (S (cs "mark"))] : List V)) p3 = some (HO.lst ([(S (cs "letter")), (S (cs "figure")), (S (cs "mark"))] : List V)) := upd_same
    generalize upd H6 p3 (HO.lst ([(S (cs "letter")), (S (cs "figure")), (S (cs "mark"))] : List V)) = H7 at w7 ⊢
    generalize upd P6 p3 (HO.lst ([(S (cs "letter")), (S (cs "figure")), (S (cs "mark"))] : List V)) = P7 at w7 e7 fq6
    have al9 := (AR.up e7 al8)
    obtain ⟨hc4, eR⟩ := chk_some eR
    refine ⟨_, _, (named1.map (fun c => S [c])), ([(S (cs "letter")), (S (cs "figure")), (S (cs "mark"))] : List V), rfl, rfl, (w7.sub _ _ (e7 _ _ fq5)), (w7.sub _ _ fq6), (sz (by simp only [AR.len (AR.up e7 al7), AR.len al9]; exact hc4)), fun p4 np4 => ?_⟩
    have al10 : AR yS P7 ((named1.map (fun c => S [c])) ++ ([(S (cs "letter")), (S (cs "figure")), (S (cs "mark"))] : List V)) ((named1.map (fun c => [c])) ++ ([(cs "letter"), (cs "figure"), (cs "mark")] : List (List Nat))) := (AR.app (AR.up e7 al7) al9)
    have e8 := w7.fext np4 (HO.lst ((named1.map (fun c => S [c])) ++ ([(S (cs "letter")), (S (cs "figure")), (S (cs "mark"))] : List V)))
    have w8 := w7.frz np4 (HO.lst ((named1.map (fun c => S [c])) ++ ([(S (cs "letter")), (S (cs "figure")), (S (cs "mark"))] : List V)))
    have fq7 : upd P7 p4 (HO.lst ((named1.map (fun c => S [c])) ++ ([(S (cs "letter")), (S (cs "figure")), (S (cs "mark"))] : List V))) p4 = some (HO.lst ((named1.map (fun c => S [c])) ++ ([(S (cs "letter")), (S (cs "figure")), (S (cs "mark"))] : List V))) := upd_same
    generalize upd H7 p4 (HO.lst ((named1.map (fun c => S [c])) ++ ([(S (cs "letter")), (S (cs "figure")), (S (cs "mark"))] : List V))) = H8 at w8 ⊢
    generalize upd P7 p4 (HO.lst ((named1.map (fun c => S [c])) ++ ([(S (cs "letter")), (S (cs "figure")), (S (cs "mark"))] : List V))) = P8 at w8 e8 fq7
    have al11 := (AR.up e8 al10)
    refine ⟨p4, ((named1.map (fun c => S [c])) ++ ([(S (cs "letter")), (S (cs "figure")), (S (cs "mark"))] : List V)), ((named1.map (fun c => [c])) ++ ([(cs "letter"), (cs "figure"), (cs "mark")] : List (List Nat))), rfl, (.inl (.inl (w8.sub _ _ fq7))), (AR.up w8.sub al11), fun p5 vs5 np5 har1 => ?_⟩
    have al12 := har1 P8 al11
    have e9 := w8.fext np5 (HO.lst vs5)
    have w9 := w8.frz np5 (HO.lst vs5)
    have fq8 : upd P8 p5 (HO.lst vs5) p5 = some (HO.lst vs5) := upd_same
    generalize upd H8 p5 (HO.lst vs5) = H9 at w9 ⊢
    generalize upd P8 p5 (HO.lst vs5) = P9 at w9 e9 fq8
    have al13 := (AR.up e9 al12)
    obtain ⟨hc5, eR⟩ := chk_some eR
    obtain ⟨t2, et3, eR⟩ := ob_some eR
    obtain ⟨F2, hF2, et3⟩ := nm_itr et3
    refine ⟨_, rfl, a1, vs1, (arcs1.length), rfl, (.inl (.inl (w9.sub _ _ (((((((e1.trans e3).trans e4).trans e6).trans e7).trans e8).trans e9) _ _ fq1)))), (AR.len (AR.up ((((((e1.trans e3).trans e4).trans e6).trans e7).trans e8).trans e9) al1)), _, rfl, a2, vs2, (endings1.length), rfl, (.inl (.inl (w9.sub _ _ (((((((e1.trans e3).trans e4).trans e6).trans e7).trans e8).trans e9) _ _ fq2)))), (AR.len (AR.up ((((((e1.trans e3).trans e4).trans e6).trans e7).trans e8).trans e9) al2)), _, _, _, rfl, _, rfl, hc5.1, hc5.2, for_it walk_range0 (fun i σz Hz => ∃ (Pz : Hp) (zs : Unit) (yz0 : Option V) (yz1 : Option V) (yz2 : Option V), Ext P9 Pz ∧ σz = [some (S named1), some (.ref a1), some (.ref a2), some (.ref p5), yz2, yz0, yz1, none] ∧ Wd G.T Pz Hz (cs0) ∧ itr F2 ((List.range ((mx3 1 (arcs1.length : Int) (endings1.length : Int))).toNat).drop i) zs = some t2) ?_ ?_ ?_ ?_⟩
    · exact ⟨P9, (), none, none, none, Ext.refl _, rfl, w9, et3⟩
    · rintro i σz Hz _ ⟨Pz, zs, yz0, yz1, yz2, ee, rfl, ww, _⟩
      trivial
    · rintro i2 x2 _ H10 H11 hi2 ⟨P10, s1, od1, od2, od3, e10, rfl, w10, et4⟩ hy2
      obtain ⟨eH2, hx2⟩ := hy2
      rw [eH2]
      subst hx2
      have eD2 := range_drop (n := ((mx3 1 (arcs1.length : Int) (endings1.length : Int))).toNat) (i := i2) (by assumption)
      rw [eD2, itr] at et4
      obtain ⟨o1, eo1, et4⟩ := ob_some et4
      rw [hF2] at eo1
      unfold bd_due_2 at eo1
      obtain ⟨t3, et5, eo1⟩ := ob_some eo1
      have hB1 : ∀ (Q : (Bool → Hp → Prop)), (∀ Hz Pz, Ext P10 Pz → Wd G.T Pz Hz (cs0) → Q t3 Hz) → (tOr (tTest (tOp rGe (tVar 4) (tCB (rLenM K) (tCons (tVar 1) tNil)))) (tOr (tTest (tOp rGe (tVar 4) (tCB (rLenM K) (tCons (tVar 2) tNil)))) (tTest (tOp (rNeR (yL yS) (okL okS)) (tCB (rSrt K yS ltT) (tCons (tCB rListK (tCons (tOp (rIxL K) (tVar 1) (tVar 4)) tNil)) tNil)) (tVar 3))))) [some (S named1), some (.ref a1), some (.ref a2), some (.ref p5), some (V.int ((i2 : Nat) : Int)), od1, od2, none] H10 Q := by
        intro  Q hQ
        refine ⟨_, rfl, _, rfl, a1, vs1, (arcs1.length), rfl, (.inl (.inl (w10.sub _ _ ((((((((e1.trans e3).trans e4).trans e6).trans e7).trans e8).trans e9).trans e10) _ _ fq1)))), (AR.len (AR.up (((((((e1.trans e3).trans e4).trans e6).trans e7).trans e8).trans e9).trans e10) al1)), _, _, rfl, rfl, _, rfl, ?_⟩
        refine iteB (fun hb3 => ?_) (fun hb3 => ?_)
        · rw [ite_t hb3] at et5
          obtain rfl := Option.some.inj et5
          exact hQ H10 P10 (Ext.refl _) w10
        · rw [ite_f hb3] at et5
          refine ⟨_, rfl, _, rfl, a2, vs2, (endings1.length), rfl, (.inl (.inl (w10.sub _ _ ((((((((e1.trans e3).trans e4).trans e6).trans e7).trans e8).trans e9).trans e10) _ _ fq2)))), (AR.len (AR.up (((((((e1.trans e3).trans e4).trans e6).trans e7).trans e8).trans e9).trans e10) al2)), _, _, rfl, rfl, _, rfl, ?_⟩
          refine iteB (fun hb4 => ?_) (fun hb4 => ?_)
          · rw [ite_t hb4] at et5
            obtain rfl := Option.some.inj et5
            exact hQ H10 P10 (Ext.refl _) w10
          · rw [ite_f hb4] at et5
            obtain ⟨hc6, et5⟩ := chk_some et5
            obtain ⟨v1, hat1, hd1⟩ := AR.getI (i := ((i2 : Nat) : Int)) (d := ([] : (List ((List Nat) × (Int × (List Nat)))))) (AR.up (((((((e1.trans e3).trans e4).trans e6).trans e7).trans e8).trans e9).trans e10) al1) hc6
            obtain ⟨a3, od4, vs6, rfl, fq9, al14⟩ := hd1
            refine ⟨_, rfl, _, rfl, a1, _, _, _, rfl, rfl, (.inl (.inl (w10.sub _ _ ((((((((e1.trans e3).trans e4).trans e6).trans e7).trans e8).trans e9).trans e10) _ _ fq1)))), hat1, a3, vs6, rfl, (.inr ⟨_, w10.sub _ _ fq9⟩), fun p6 np6 => ?_⟩
            have al15 : AR yS P10 (vs6.map (fun kv => kV kv.1)) ((arcs1.getD (ixP arcs1.length ((i2 : Nat) : Int)) ([] : (List ((List Nat) × (Int × (List Nat)))))).map (fun x => x.1)) := (DR.keysS al14)
            have e11 := w10.fext np6 (HO.lst (vs6.map (fun kv => kV kv.1)))
            have w11 := w10.frz np6 (HO.lst (vs6.map (fun kv => kV kv.1)))
            have fq10 : upd P10 p6 (HO.lst (vs6.map (fun kv => kV kv.1))) p6 = some (HO.lst (vs6.map (fun kv => kV kv.1))) := upd_same
            generalize upd H10 p6 (HO.lst (vs6.map (fun kv => kV kv.1))) = H12 at w11 ⊢
            generalize upd P10 p6 (HO.lst (vs6.map (fun kv => kV kv.1))) = P11 at w11 e11 fq10
            have al16 := (AR.up e11 al15)
            refine ⟨p6, (vs6.map (fun kv => kV kv.1)), ((arcs1.getD (ixP arcs1.length ((i2 : Nat) : Int)) ([] : (List ((List Nat) × (Int × (List Nat)))))).map (fun x => x.1)), rfl, (.inl (.inl (w11.sub _ _ fq10))), (AR.up w11.sub al16), fun p7 vs7 np7 har2 => ?_⟩
            have al17 := har2 P11 al16
            have e12 := w11.fext np7 (HO.lst vs7)
            have w12 := w11.frz np7 (HO.lst vs7)
            have fq11 : upd P11 p7 (HO.lst vs7) p7 = some (HO.lst vs7) := upd_same
            generalize upd H12 p7 (HO.lst vs7) = H13 at w12 ⊢
            generalize upd P11 p7 (HO.lst vs7) = P12 at w12 e12 fq11
            have al18 := (AR.up e12 al17)
            obtain ⟨hc7, et5⟩ := chk_some et5
            refine ⟨_, rfl, (srt ltT ((arcs1.getD (ixP arcs1.length ((i2 : Nat) : Int)) ([] : (List ((List Nat) × (Int × (List Nat)))))).map (fun x => x.1))), (srt ltT ((named1.map (fun c => [c])) ++ ([(cs "letter"), (cs "figure"), (cs "mark")] : List (List Nat)))), (Mo.mo (R := (yL yS)) (P := P12) w12.sub ⟨_, _, rfl, fq11, al18⟩), (Mo.mo (R := (yL yS)) (P := P12) w12.sub ⟨_, _, rfl, (((e10.trans e11).trans e12) _ _ fq8), (AR.up ((e10.trans e11).trans e12) al13)⟩), hc7, _, rfl, ?_⟩
            obtain rfl := Option.some.inj et5
            exact hQ H13 P12 (e11.trans e12) w12
      refine hB1  _ fun H14 P13  e13 w13  => ?_
      refine iteB (fun hb5 => ?_) (fun hb5 => ?_)
      · rw [ite_t hb5] at eo1
        refine ⟨_, rfl, (by show 2 ≤ sizeLine; decide), fun p8 np8 => ?_⟩
        have e14 := w13.fext np8 (HO.tup ([(S (cs "state")), (V.int ((i2 : Nat) : Int))] : List V))
        have w14 := w13.frz np8 (HO.tup ([(S (cs "state")), (V.int ((i2 : Nat) : Int))] : List V))
        have fq12 : upd P13 p8 (HO.tup ([(S (cs "state")), (V.int ((i2 : Nat) : Int))] : List V)) p8 = some (HO.tup ([(S (cs "state")), (V.int ((i2 : Nat) : Int))] : List V)) := upd_same
        generalize upd H14 p8 (HO.tup ([(S (cs "state")), (V.int ((i2 : Nat) : Int))] : List V)) = H15 at w14 ⊢
        generalize upd P13 p8 (HO.tup ([(S (cs "state")), (V.int ((i2 : Nat) : Int))] : List V)) = P14 at w14 e14 fq12
        obtain rfl := Option.some.inj eo1
        dsimp only at et4
        obtain rfl := Option.some.inj et4
        rw [Lr.el_rt] at eR
        obtain rfl := Option.some.inj eR
        exact q H15 P14 (.ref p8) (((((((((e1.trans e3).trans e4).trans e6).trans e7).trans e8).trans e9).trans e10).trans e13).trans e14) w14 (yDt_of (R1 := (y2 K yS yI)) (show (y2 K yS yI) P14 (.ref p8) ((cs "state"), ((i2 : Nat) : Int)) from ⟨_, _, _, rfl, fq12, rfl, rfl⟩) rfl)
      · rw [ite_f hb5] at eo1
        obtain ⟨hc8, eo1⟩ := chk_some eo1
        obtain ⟨v2, hat2, hd2⟩ := AR.getI (i := ((i2 : Nat) : Int)) (d := ([] : List Nat)) (AR.up ((((((((e1.trans e3).trans e4).trans e6).trans e7).trans e8).trans e9).trans e10).trans e13) al2) hc8
        obtain rfl : v2 = (S (endings1.getD (ixP endings1.length ((i2 : Nat) : Int)) ([] : List Nat))) := hd2
        obtain ⟨t4, et6, eo1⟩ := ob_some eo1
        obtain ⟨F3, hF3, et6⟩ := nm_itr et6
        refine ⟨_, rfl, _, rfl, a2, _, _, _, rfl, rfl, (.inl (.inl (w13.sub _ _ (((((((((e1.trans e3).trans e4).trans e6).trans e7).trans e8).trans e9).trans e10).trans e13) _ _ fq2)))), hat2, _, rfl, p5, rfl, ⟨_, .inl (.inl (w13.sub _ _ ((e10.trans e13) _ _ fq8)))⟩, for_it (walk_list (K := K) (a := p5) (xs := vs5)) (fun i σz Hz => ∃ (Pz : Hp) (zs : (List Nat)) (yz0 : Option V), Ext P13 Pz ∧ σz = [some (S named1), some (.ref a1), some (.ref a2), some (.ref p5), some (V.int ((i2 : Nat) : Int)), some (S zs), yz0, none] ∧ Wd G.T Pz Hz (cs0) ∧ itr F3 ((srt ltT ((named1.map (fun c => [c])) ++ ([(cs "letter"), (cs "figure"), (cs "mark")] : List (List Nat)))).drop i) zs = some t4) ?_ ?_ ?_ ?_⟩
        · exact ⟨P13, (endings1.getD (ixP endings1.length ((i2 : Nat) : Int)) ([] : List Nat)), od2, Ext.refl _, rfl, w13, et6⟩
        · rintro i σz Hz _ ⟨Pz, zs, yz0, ee, rfl, ww, _⟩
          exact .inl (.inl (ww.sub _ _ (ee _ _ ((e10.trans e13) _ _ fq8))))
        · rintro i3 x3 _ H16 H17 hi3 ⟨P15, s2, od5, e15, rfl, w15, et7⟩ hy3
          obtain ⟨eH3, hx3⟩ := hy3
          rw [eH3]
          obtain ⟨it2, _, hd3, eD3⟩ := AR.get (AR.up ((e10.trans e13).trans e15) al13) hx3
          obtain rfl : x3 = (S it2) := hd3
          rw [eD3, itr] at et7
          obtain ⟨o2, eo2, et7⟩ := ob_some et7
          rw [hF3] at eo2
          unfold bd_due_3 at eo2
          obtain ⟨t5, et8, eo2⟩ := ob_some eo2
          have hB2 : ∀ (Q : (Bool → Hp → Prop)), (∀ Hz Pz, Ext P15 Pz → Wd G.T Pz Hz (cs0) → Q t5 Hz) → (tTest (tChain rLe rLt (tC (V.int 0)) (tOp (L2.rIxT K) (tDGet (tOp (rIxL K) (tVar 1) (tVar 4)) (tVar 6)) (tC (V.int 0))) (tCB (rLenM K) (tCons (tVar 1) tNil)))) [some (S named1), some (.ref a1), some (.ref a2), some (.ref p5), some (V.int ((i2 : Nat) : Int)), some (S s2), some (S it2), none] H16 Q := by
            intro  Q hQ
            obtain ⟨hc9, et8⟩ := chk_some et8
            obtain ⟨v3, hat3, hd4⟩ := AR.getI (i := ((i2 : Nat) : Int)) (d := ([] : (List ((List Nat) × (Int × (List Nat)))))) (AR.up (((((((((e1.trans e3).trans e4).trans e6).trans e7).trans e8).trans e9).trans e10).trans e13).trans e15) al1) hc9
            obtain ⟨a4, od6, vs8, rfl, fq13, al19⟩ := hd4
            obtain ⟨hc10, et8⟩ := chk_some et8
            obtain ⟨v4, hv1, hd5⟩ := DR.get (k := it2) (d := (default : (Int × (List Nat)))) al19 hc10
            obtain ⟨a5, u1, u2, rfl, fq14, hu1, hu2⟩ := hd5
            obtain rfl : u1 = (V.int ((dL (arcs1.getD (ixP arcs1.length ((i2 : Nat) : Int)) ([] : (List ((List Nat) × (Int × (List Nat)))))) it2).getD (default : (Int × (List Nat)))).1) := hu1
            obtain rfl : u2 = (S ((dL (arcs1.getD (ixP arcs1.length ((i2 : Nat) : Int)) ([] : (List ((List Nat) × (Int × (List Nat)))))) it2).getD (default : (Int × (List Nat)))).2) := hu2
            refine ⟨_, rfl, _, rfl, a1, _, _, _, rfl, rfl, (.inl (.inl (w15.sub _ _ ((((((((((e1.trans e3).trans e4).trans e6).trans e7).trans e8).trans e9).trans e10).trans e13).trans e15) _ _ fq1)))), hat3, _, rfl, a4, _, rfl, (.inl ⟨vs8, kS it2, (.inr ⟨_, w15.sub _ _ fq13⟩), rfl, hv1.symm⟩), a5, _, _, _, rfl, rfl, (w15.sqt (.inl (.inl fq14))), (atI_nat (j := 0) rfl), _, _, rfl, rfl, _, rfl, ?_⟩
            refine iteB (fun hb6 => ?_) (fun hb6 => ?_)
            · rw [ite_t hb6] at et8
              refine ⟨_, rfl, a1, vs1, (arcs1.length), rfl, (.inl (.inl (w15.sub _ _ ((((((((((e1.trans e3).trans e4).trans e6).trans e7).trans e8).trans e9).trans e10).trans e13).trans e15) _ _ fq1)))), (AR.len (AR.up (((((((((e1.trans e3).trans e4).trans e6).trans e7).trans e8).trans e9).trans e10).trans e13).trans e15) al1)), _, _, rfl, rfl, _, rfl, ?_⟩
              obtain rfl := Option.some.inj et8
              exact hQ H16 P15 (Ext.refl _) w15
            · rw [ite_f hb6] at et8
              refine ⟨_, rfl, ?_⟩
              obtain rfl := Option.some.inj et8
              exact hQ H16 P15 (Ext.refl _) w15
          refine hB2  _ fun H18 P16  e16 w16  => ?_
          refine iteB (fun hb7 => ?_) (fun hb7 => ?_)
          · rw [ite_t hb7] at eo2
            refine ⟨_, rfl, (by show 2 ≤ sizeLine; decide), fun p9 np9 => ?_⟩
            have e17 := w16.fext np9 (HO.tup ([(S (cs "state")), (V.int ((i2 : Nat) : Int))] : List V))
            have w17 := w16.frz np9 (HO.tup ([(S (cs "state")), (V.int ((i2 : Nat) : Int))] : List V))
            have fq15 : upd P16 p9 (HO.tup ([(S (cs "state")), (V.int ((i2 : Nat) : Int))] : List V)) p9 = some (HO.tup ([(S (cs "state")), (V.int ((i2 : Nat) : Int))] : List V)) := upd_same
            generalize upd H18 p9 (HO.tup ([(S (cs "state")), (V.int ((i2 : Nat) : Int))] : List V)) = H19 at w17 ⊢
            generalize upd P16 p9 (HO.tup ([(S (cs "state")), (V.int ((i2 : Nat) : Int))] : List V)) = P17 at w17 e17 fq15
            obtain rfl := Option.some.inj eo2
            dsimp only at et7
            obtain rfl := Option.some.inj et7
            rw [Lr.el_rt] at eo1
            obtain rfl := Option.some.inj eo1
            dsimp only at et4
            obtain rfl := Option.some.inj et4
            rw [Lr.el_rt] at eR
            obtain rfl := Option.some.inj eR
            exact q H19 P17 (.ref p9) (((((((((((e1.trans e3).trans e4).trans e6).trans e7).trans e8).trans e9).trans e10).trans e13).trans e15).trans e16).trans e17) w17 (yDt_of (R1 := (y2 K yS yI)) (show (y2 K yS yI) P17 (.ref p9) ((cs "state"), ((i2 : Nat) : Int)) from ⟨_, _, _, rfl, fq15, rfl, rfl⟩) rfl)
          · rw [ite_f hb7] at eo2
            obtain ⟨hc11, eo2⟩ := chk_some eo2
            obtain ⟨v5, hat4, hd6⟩ := AR.getI (i := ((i2 : Nat) : Int)) (d := ([] : (List ((List Nat) × (Int × (List Nat)))))) (AR.up ((((((((((e1.trans e3).trans e4).trans e6).trans e7).trans e8).trans e9).trans e10).trans e13).trans e15).trans e16) al1) hc11
            obtain ⟨a6, od7, vs9, rfl, fq16, al20⟩ := hd6
            obtain ⟨hc12, eo2⟩ := chk_some eo2
            obtain ⟨v6, hv2, hd7⟩ := DR.get (k := it2) (d := (default : (Int × (List Nat)))) al20 hc12
            obtain ⟨a7, u3, u4, rfl, fq17, hu3, hu4⟩ := hd7
            obtain rfl : u3 = (V.int ((dL (arcs1.getD (ixP arcs1.length ((i2 : Nat) : Int)) ([] : (List ((List Nat) × (Int × (List Nat)))))) it2).getD (default : (Int × (List Nat)))).1) := hu3
            obtain rfl : u4 = (S ((dL (arcs1.getD (ixP arcs1.length ((i2 : Nat) : Int)) ([] : (List ((List Nat) × (Int × (List Nat)))))) it2).getD (default : (Int × (List Nat)))).2) := hu4
            obtain ⟨hc13, eo2⟩ := chk_some eo2
            refine ⟨_, rfl, _, rfl, _, rfl, a1, _, _, _, rfl, rfl, (.inl (.inl (w16.sub _ _ (((((((((((e1.trans e3).trans e4).trans e6).trans e7).trans e8).trans e9).trans e10).trans e13).trans e15).trans e16) _ _ fq1)))), hat4, _, rfl, a6, _, rfl, (.inl ⟨vs9, kS it2, (.inr ⟨_, w16.sub _ _ fq16⟩), rfl, hv2.symm⟩), a7, _, _, _, rfl, rfl, (w16.sqt (.inl (.inl fq17))), (atI_nat (j := 1) rfl), _, _, rfl, rfl, (sz hc13), ?_⟩
            obtain rfl := Option.some.inj eo2
            dsimp only at et7
            exact ⟨P16, (s2 ++ ((dL (arcs1.getD (ixP arcs1.length ((i2 : Nat) : Int)) ([] : (List ((List Nat) × (Int × (List Nat)))))) it2).getD (default : (Int × (List Nat)))).2), (some (S it2)), (e15.trans e16), rfl, w16, et7⟩
        rintro _ H20 ⟨P18, s3, od8, e18, rfl, w18, et9⟩
        rw [AR.dropall (AR.up (e10.trans e13) al13), itr] at et9
        obtain rfl := Option.some.inj et9
        rw [Lr.el_nx] at eo1
        obtain ⟨hc14, eo1⟩ := chk_some eo1
        refine ⟨_, rfl, _, rfl, fun D2 nD2 => ?_⟩
        refine lc_it (walk_str (z := ⟨⟨s3⟩⟩)) (fun i Hz => ∃ (Pz : Hp) (vsz : List V), Ext P18 Pz ∧ Wd G.T Pz Hz ((D2, (HO.lst vsz)) :: cs0) ∧ AR yS Pz vsz (((s3.take i).filter (fun ic1 => (!(decide (ic1 ∈ named1))))).map (fun ic1 => ([ic1] : List Nat)))) ?_ ?_ ?_ ?_
        · exact ⟨P18, [], Ext.refl _, w18.new nD2 _, AR.nil⟩
        · rintro i Hz _ ⟨Pz, vsz, ee, ww, _⟩
          trivial
        · rintro i4 x4 H21 H22 hi4 ⟨P19, vs10, e19, w19, al21⟩ hy4
          obtain ⟨eH4, hx4⟩ := hy4
          rw [eH4]
          obtain ⟨it3, hitit3, exit3⟩ := hx4
          obtain rfl : x4 = S ([it3] : List Nat) := exit3
          have eD4 := str_drop hitit3
          refine ⟨rfl, ?_⟩
          refine ⟨_, rfl, _, rfl, it3, _, rfl, rfl, _, rfl, ?_⟩
          refine iteB (fun hb8 => ?_) (fun hb8 => ?_)
          · refine ⟨_, rfl, vs10, (w19.get 0 rfl), (szl (by rw [AR.len al21]; exact Nat.lt_of_le_of_lt len_tf (Nat.lt_of_lt_of_le hi4 (str_bnd hc14)))), ?_⟩
            exact ⟨P19, _, e19, (w19.put 0 (HO.lst (vs10 ++ [(S ([it3] : List Nat))])) rfl), (by rw [take_snoc_filter eD4 (p := fun it3 => (!(decide (it3 ∈ named1)))) hb8]; exact (AR.snoc al21 rfl))⟩
          · exact ⟨P19, _, e19, w19, (by rw [take_snoc_filter_no eD4 (p := fun it3 => (!(decide (it3 ∈ named1)))) hb8]; exact al21)⟩
        rintro H23 ⟨P20, vs11, e20, w20, al22⟩
        rw [take_str_all] at al22
        have e21 : Ext P20 (upd P20 D2 (HO.lst vs11)) := w20.kext
        have w21 : Wd G.T (upd P20 D2 (HO.lst vs11)) H23 (cs0) := w20.keep
        have fq18 : upd P20 D2 (HO.lst vs11) D2 = some (HO.lst vs11) := upd_same
        generalize upd P20 D2 (HO.lst vs11) = P21 at w21 e21 fq18
        have al23 := (AR.up e21 al22)
        refine ⟨(by show 0 ≤ sizeLine; decide), fun p10 np10 => ?_⟩
        have al24 : AR yS P21 ([] : List V) ([] : List (List Nat)) := AR.nil
        have e22 := w21.fext np10 (HO.lst ([] : List V))
        have w22 := w21.frz np10 (HO.lst ([] : List V))
        have fq19 : upd P21 p10 (HO.lst ([] : List V)) p10 = some (HO.lst ([] : List V)) := upd_same
        generalize upd H23 p10 (HO.lst ([] : List V)) = H24 at w22 ⊢
        generalize upd P21 p10 (HO.lst ([] : List V)) = P22 at w22 e22 fq19
        have al25 := (AR.up e22 al24)
        obtain ⟨hc15, eo1⟩ := chk_some eo1
        refine ⟨((s3.filter (fun ic1 => (!(decide (ic1 ∈ named1))))).map (fun ic1 => ([ic1] : List Nat))), ([] : List (List Nat)), (Mo.mo (R := (yL yS)) (P := P22) w22.sub ⟨_, _, rfl, (e22 _ _ fq18), (AR.up e22 al23)⟩), (Mo.mo (R := (yL yS)) (P := P22) w22.sub ⟨_, _, rfl, fq19, al25⟩), hc15, _, rfl, ?_⟩
        refine iteB (fun hb9 => ?_) (fun hb9 => ?_)
        · rw [ite_t hb9] at eo1
          refine ⟨_, rfl, (by show 2 ≤ sizeLine; decide), fun p11 np11 => ?_⟩
          have e23 := w22.fext np11 (HO.tup ([(S (cs "state")), (V.int ((i2 : Nat) : Int))] : List V))
          have w23 := w22.frz np11 (HO.tup ([(S (cs "state")), (V.int ((i2 : Nat) : Int))] : List V))
          have fq20 : upd P22 p11 (HO.tup ([(S (cs "state")), (V.int ((i2 : Nat) : Int))] : List V)) p11 = some (HO.tup ([(S (cs "state")), (V.int ((i2 : Nat) : Int))] : List V)) := upd_same
          generalize upd H24 p11 (HO.tup ([(S (cs "state")), (V.int ((i2 : Nat) : Int))] : List V)) = H25 at w23 ⊢
          generalize upd P22 p11 (HO.tup ([(S (cs "state")), (V.int ((i2 : Nat) : Int))] : List V)) = P23 at w23 e23 fq20
          obtain rfl := Option.some.inj eo1
          dsimp only at et4
          obtain rfl := Option.some.inj et4
          rw [Lr.el_rt] at eR
          obtain rfl := Option.some.inj eR
          exact q H25 P23 (.ref p11) (((((((((((((e1.trans e3).trans e4).trans e6).trans e7).trans e8).trans e9).trans e10).trans e13).trans e18).trans e20).trans e21).trans e22).trans e23) w23 (yDt_of (R1 := (y2 K yS yI)) (show (y2 K yS yI) P23 (.ref p11) ((cs "state"), ((i2 : Nat) : Int)) from ⟨_, _, _, rfl, fq20, rfl, rfl⟩) rfl)
        · rw [ite_f hb9] at eo1
          obtain rfl := Option.some.inj eo1
          dsimp only at et4
          exact ⟨P22, (), (some (S s3)), od8, (some (V.int ((i2 : Nat) : Int))), (((((e10.trans e13).trans e18).trans e20).trans e21).trans e22), rfl, w22, et4⟩
    rintro _ H26 ⟨P24, s4, od9, od10, od11, e24, rfl, w24, et11⟩
    rw [drop_range_all, itr] at et11
    obtain rfl := Option.some.inj et11
    rw [Lr.el_nx] at eR
    refine ⟨_, rfl, a1, vs1, (arcs1.length), rfl, (.inl (.inl (w24.sub _ _ ((((((((e1.trans e3).trans e4).trans e6).trans e7).trans e8).trans e9).trans e24) _ _ fq1)))), (AR.len (AR.up (((((((e1.trans e3).trans e4).trans e6).trans e7).trans e8).trans e9).trans e24) al1)), (by show 2 ≤ sizeLine; decide), fun p12 np12 => ?_⟩
    have e25 := w24.fext np12 (HO.tup ([(S (cs "made")), (V.int (arcs1.length : Int))] : List V))
    have w25 := w24.frz np12 (HO.tup ([(S (cs "made")), (V.int (arcs1.length : Int))] : List V))
    have fq21 : upd P24 p12 (HO.tup ([(S (cs "made")), (V.int (arcs1.length : Int))] : List V)) p12 = some (HO.tup ([(S (cs "made")), (V.int (arcs1.length : Int))] : List V)) := upd_same
    generalize upd H26 p12 (HO.tup ([(S (cs "made")), (V.int (arcs1.length : Int))] : List V)) = H27 at w25 ⊢
    generalize upd P24 p12 (HO.tup ([(S (cs "made")), (V.int (arcs1.length : Int))] : List V)) = P25 at w25 e25 fq21
    obtain rfl := Option.some.inj eR
    exact q H27 P25 (.ref p12) ((((((((e1.trans e3).trans e4).trans e6).trans e7).trans e8).trans e9).trans e24).trans e25) w25 (yDt_of (R1 := (y2 K yS yI)) (show (y2 K yS yI) P25 (.ref p12) ((cs "made"), (arcs1.length : Int)) from ⟨_, _, _, rfl, fq21, rfl, rfl⟩) rfl)
theorem fn_due {P : Program} {w : World} {K : PySem.W.Frag} {mg : Str → Option Value} {base : Heap} {G : GA} {f : Addr} {fd : FuncData} (T : Tx P w K G mg base) (F : Fun K "_law_due" "_law_due" s_due f fd) : FnOk P w K mg base CX0 4 f fd ["_law_named", "_law_arcs", "_law_endings"] (sp_due K G) := by
  refine F.ok sc_due (fun vs H Q E h => ?_) (fun cdv A outer s H vs Q E hr h => ⟨t_due K G, ?_, rd_due T.fa vs H Q E h⟩)
  · obtain ⟨_, _, _, _, _, _, _, _, rfl, _⟩ := h
    rfl
  · exact (pss_cons (ps_if (pt_cmpR o_neS (pe_m1 PySem.F.slot_str_join PySem.F.type_str_join m_join pe_strS (pe_lc (own := [("_law_sign_here", 7)]) rfl sc_due.nd (pi_str (pe_c0 (c_law_signs T) hr (by decide) (by rfl))) (blkOk_by (N := ["_law_named", "_law_arcs", "_law_endings", "_law_keys", "_law_k", "_law_texts", "_law_key", "_law_sign_here"]) (sc := defScope s_due) (by decide +kernel)) (fun _ _ _ _ _ => (pg_name (i := 7) sc_due.nd rfl (Or.inl rfl))) (fun _ _ _ _ _ => pts_one (pt_cmpR o_inS (pv 7) (pv 0) (by rfl))) (fun _ _ _ _ _ => (pv 7)))) (pv 0) (nomark _)) (pss_one (ps_ret (pe_tup (pa_cons pe_strS (pa_cons (pv 0) pa_nil))))) pss_nil) (pss_cons (ps_set (i := 3) sc_due.nd rfl (.inl rfl) (pe_callB (c_sortedK (K := K) (R := yS) (lt := ltT) ((hr.mono (by decide : 2 ≤ _)).in1.in1).units) (by rfl) T.z_sorted (by decide +kernel) (pa_cons (pe_op op_cat (pe_callTy (c_listS rfl) (by rfl) T.z_list (by decide +kernel) (pa_cons (pv 0) pa_nil)) (pe_lst (pa_cons pe_strS (pa_cons pe_strS (pa_cons pe_strS pa_nil))))) pa_nil))) (pss_cons (ps_for PassesOwn.never rfl (pi_range1 (by rfl) T.z_range (pa_cons (pe_callB (c_max3 rfl) (by rfl) T.z_max (by decide +kernel) (pa_cons pe_int (pa_cons (pe_callB c_lenM (by rfl) T.z_len PySem.boot_len (pa_cons (pv 1) pa_nil)) (pa_cons (pe_callB c_lenM (by rfl) T.z_len PySem.boot_len (pa_cons (pv 2) pa_nil)) pa_nil)))) pa_nil)) (pg_name (i := 4) sc_due.nd rfl (Or.inl rfl)) (pss_cons (ps_if (PW.pt (pw_or (pt_cmpR o_ge (pv 4) (pe_callB c_lenM (by rfl) T.z_len PySem.boot_len (pa_cons (pv 1) pa_nil)) (nomark _)) (pw_or (pt_cmpR o_ge (pv 4) (pe_callB c_lenM (by rfl) T.z_len PySem.boot_len (pa_cons (pv 2) pa_nil)) (nomark _)) (pw_or1 (pt_cmpR (o_neRK (K := K) (R1 := (yL yS)) (ok1 := (okL okS)) hr.units) (pe_callB (c_sortedK (K := K) (R := yS) (lt := ltT) ((hr.mono (by decide : 2 ≤ _)).in1.in1).units) (by rfl) T.z_sorted (by decide +kernel) (pa_cons (pe_callTy (c_listK rfl) (by rfl) T.z_list (by decide +kernel) (pa_cons (pe_ix ix_list (pv 1) (pv 4) (fun _ _ => rfl)) pa_nil)) pa_nil)) (pv 3) (nomark _)))))) (pss_one (ps_ret (pe_tup (pa_cons pe_strS (pa_cons (pv 4) pa_nil))))) pss_nil) (pss_cons (ps_set (i := 5) sc_due.nd rfl (.inl rfl) (pe_ix ix_list (pv 2) (pv 4) (fun _ _ => rfl))) (pss_cons (ps_for PassesOwn.never rfl (pi_list (pv 3)) (pg_name (i := 6) sc_due.nd rfl (Or.inl rfl)) (pss_cons (ps_if (pt_not (pt_chain o_le o_lt pe_int (pe_ix ix_tup (pe_dget (un1 hr.units) (pe_ix ix_list (pv 1) (pv 4) (fun _ _ => rfl)) (pv 6) (fun _ _ => rfl)) pe_int (fun _ _ => rfl)) (pe_callB c_lenM (by rfl) T.z_len PySem.boot_len (pa_cons (pv 1) pa_nil)))) (pss_one (ps_ret (pe_tup (pa_cons pe_strS (pa_cons (pv 4) pa_nil))))) pss_nil) (pss_one (ps_set (i := 5) sc_due.nd rfl (.inl rfl) (pe_op o_addS (pv 5) (pe_ix ix_tup (pe_dget (un1 hr.units) (pe_ix ix_list (pv 1) (pv 4) (fun _ _ => rfl)) (pv 6) (fun _ _ => rfl)) pe_int (fun _ _ => rfl))))))) (pss_one (ps_if (pt_cmpR (o_neRK (K := K) (R1 := (yL yS)) (ok1 := (okL okS)) hr.units) (pe_lc (own := [("_law_sign_here", 7)]) rfl sc_due.nd (pi_str (pv 5)) (blkOk_by (N := ["_law_named", "_law_arcs", "_law_endings", "_law_keys", "_law_k", "_law_texts", "_law_key", "_law_sign_here"]) (sc := defScope s_due) (by decide +kernel)) (fun _ _ _ _ _ => (pg_name (i := 7) sc_due.nd rfl (Or.inl rfl))) (fun _ _ _ _ _ => pts_one (pt_cmpR o_niS (pv 7) (pv 0) (by rfl))) (fun _ _ _ _ _ => (pv 7))) (pe_lst pa_nil) (nomark _)) (pss_one (ps_ret (pe_tup (pa_cons pe_strS (pa_cons (pv 4) pa_nil))))) pss_nil)))))) (pss_one (ps_ret (pe_tup (pa_cons pe_strS (pa_cons (pe_callB c_lenM (by rfl) T.z_len PySem.boot_len (pa_cons (pv 1) pa_nil)) pa_nil))))))))
theorem c_due {P : Program} {w : World} {K : PySem.W.Frag} {mg : Str → Option Value} {base : Heap} {G : GA} (T : Tx P w K G mg base) : Cal P w K mg base 4 "_law_due" (sp_due K G) := by
  obtain ⟨f, fd, F, b, g⟩ := T.d_due
  exact ⟨f, fd, _, fn_due T F, g, F.kp, b⟩

def bd_law_1 (ns : List Int) (t1 : ((List Nat) × Box)) (i1 : Nat) (s1 : (Box × (List (List Nat)) × (List (List ((List Nat) × (Int × (List Nat))))))) : Option (Box × (List (List Nat)) × (List (List ((List Nat) × (Int × (List Nat)))))) :=
  (ob (m_spoil ns s1.1 t1.1 s1.2.2 s1.2.1) (fun (t8 : (Box × (List (List Nat)) × (List (List ((List Nat) × (Int × (List Nat))))))) => (some (t8.1, t8.2.1, t8.2.2))))
def m_law (ns : List Int) : Option Bool :=
  (ob (m_chosen ns box0) (fun (t1 : ((List Nat) × Box)) => (ob (takeO ns t1.2 4) (fun (t2 : (Int × Box)) => (ob (m_table ns t2.2 t1.1 (1 + t2.1)) (fun (t3 : (((List (List ((List Nat) × (Int × (List Nat))))) × (List (List Nat))) × Box)) => (ob (m_copied t3.1.1) (fun (t4 : (List (List ((List Nat) × (Int × (List Nat)))))) => (ob (m_made t1.1 t4 t3.1.2) (fun (t5 : PyData) => (chk (SeqAt.shaped t5 = true ∧ SeqAt.shaped (PyData.tuple [(eS ((cs "made"), (t3.1.1.length : Int)).1), (PyData.int ((cs "made"), (t3.1.1.length : Int)).2)]) = true) (if (!(PyData.eqv t5 (PyData.tuple [(eS ((cs "made"), (t3.1.1.length : Int)).1), (PyData.int ((cs "made"), (t3.1.1.length : Int)).2)]))) then (some false) else (ob (takeO ns t3.2 3) (fun (t6 : (Int × Box)) => (chk (-(2 ^ 62) ≤ t6.1 ∧ t6.1 < 2 ^ 62) (ob (itf (bd_law_1 ns t1) (List.range (t6.1).toNat) (t6.2, t3.1.2, t3.1.1)) (fun (s2 : (Box × (List (List Nat)) × (List (List ((List Nat) × (Int × (List Nat))))))) => (ob (ob (takeO ns s2.1 6) (fun (t10 : (Int × Box)) => (if (decide (t10.1 = 0)) then (chk (t1.1.length + ([10] : List Nat).length ≤ 1000000) (chk (t1.1.length + ([32] : List Nat).length ≤ 1000000) (ob (takeO ns t10.2 4) (fun (t11 : (Int × Box)) => (chk (inR ([(cs "ba"), (cs "aa"), (t1.1 ++ ([10] : List Nat)), (t1.1 ++ ([32] : List Nat))] : List (List Nat)).length t11.1) (some ((([(cs "ba"), (cs "aa"), (t1.1 ++ ([10] : List Nat)), (t1.1 ++ ([32] : List Nat))] : List (List Nat)).getD (ixP ([(cs "ba"), (cs "aa"), (t1.1 ++ ([10] : List Nat)), (t1.1 ++ ([32] : List Nat))] : List (List Nat)).length t11.1) ([] : List Nat)), t11.2))))))) else (some (t1.1, t10.2))))) (fun (t9 : ((List Nat) × Box)) => (ob (m_due t9.1 s2.2.2 s2.2.1) (fun (t12 : PyData) => (ob (m_copied s2.2.2) (fun (t13 : (List (List ((List Nat) × (Int × (List Nat)))))) => (ob (m_made t9.1 t13 s2.2.1) (fun (t14 : PyData) => (chk (SeqAt.shaped t14 = true ∧ SeqAt.shaped t12 = true) (some (PyData.eqv t14 t12))))))))))))))))))))))))))))
def sp_law (K : PySem.W.Frag) (G : GA) : Sp := fun vs H Q E => ∃ (P : Hp) (cs0 : Cs) (ascr : Addr) (ns0 : List Int) (R0 : Bool), vs = [V.ref ascr] ∧ Wd G.T P H (cs0) ∧ SqL K P ascr (ns0.map V.int) ∧ ns0.length ≤ 63 ∧ m_law (absL ns0) = some R0 ∧ ∀ (H1 P1 : Hp), Ext P P1 → Wd G.T P1 H1 (cs0) → Q (V.bl R0) H1
def t_law (K : PySem.W.Frag) (G : GA) : TS := (tSeq (tAsg (tCall (sp_box K G) [] E0 (tCons (tVar 0) tNil)) (gName 1)) (tSeq (tAsg (tCall (sp_chosen K G) [] E0 (tCons (tVar 1) tNil)) (gName 2)) (tSeq (tAsg (tCall (sp_table K G) [] E0 (tCons (tVar 1) (tCons (tVar 2) (tCons (tOp rAdd (tC (V.int 1)) (tCall (sp_take K G) [] E0 (tCons (tVar 1) (tCons (tC (V.int 4)) tNil)))) tNil)))) (gTup K 2 (gCons (gName 3) (gCons (gName 4) gNil)))) (tSeq (tLockN (tIfS (tTest (tOp (rNeDt K) (tCall (sp_made K G) [] E0 (tCons (tVar 2) (tCons (tCall (sp_copied K G) [] E0 (tCons (tVar 3) tNil)) (tCons (tCB (rListL K) (tCons (tVar 4) tNil)) tNil)))) (tTup (tCons (tC (S (cs "made"))) (tCons (tCB (rLenM K) (tCons (tVar 3) tNil)) tNil))))) (tRet (tC (V.bl false))) tNext)) (tSeq (tFor (iRng1 (tCons (tCall (sp_take K G) [] E0 (tCons (tVar 1) (tCons (tC (V.int 3)) tNil))) tNil)) (gName 5) (tDrop (tCall (sp_spoil K G) [] E0 (tCons (tVar 1) (tCons (tVar 2) (tCons (tVar 3) (tCons (tVar 4) tNil))))))) (Evl.tCut (tIfS (tTest (tOp rEqI (tCall (sp_take K G) [] E0 (tCons (tVar 1) (tCons (tC (V.int 6)) tNil))) (tC (V.int 0)))) (tAsg (tOp (rIxL K) (tLst (tCons (tC (S (cs "ba"))) (tCons (tC (S (cs "aa"))) (tCons (tOp rAddS (tVar 2) (tC (S ([10] : List Nat)))) (tCons (tOp rAddS (tVar 2) (tC (S ([32] : List Nat)))) tNil))))) (tCall (sp_take K G) [] E0 (tCons (tVar 1) (tCons (tC (V.int 4)) tNil)))) (gName 2)) tNext) (tLockD (tSeq (tAsg (tCall (sp_due K G) [] E0 (tCons (tVar 2) (tCons (tVar 3) (tCons (tVar 4) tNil)))) (gName 6)) (tRet (tOp (rEqDt K) (tCall (sp_made K G) [] E0 (tCons (tVar 2) (tCons (tCall (sp_copied K G) [] E0 (tCons (tVar 3) tNil)) (tCons (tCB (rListL K) (tCons (tVar 4) tNil)) tNil)))) (tVar 6)))))))))))
theorem sc_law : FnScope ["_law_script", "_law_box_here", "_law_named", "_law_arcs", "_law_endings", "_law_turn", "_law_due_here"] ["_law_script"] (defScope s_law) := ⟨rfl, rfl, rfl, by decide +kernel, rfl, by decide +kernel, by decide +kernel⟩
theorem rd_law {K : PySem.W.Frag} {G : GA} (F : Fa K G) (vs : List V) (H : Hp) (Q : VK) (E : XK) (h : sp_law K G vs H Q E) : t_law K G { nx := fun _ H1 => Q .non H1, rt := Q } (L2.start ["_law_script", "_law_box_here", "_law_named", "_law_arcs", "_law_endings", "_law_turn", "_law_due_here"] vs) H := by
  obtain ⟨P, cs0, ascr, ns0, R0, rfl, w, hl0, hlen0, eR, q⟩ := h
  unfold m_law at eR
  refine ⟨_, rfl, P, (cs0), ascr, ns0, rfl, w, hl0, hlen0, fun H1 P1 p1 l1 e1 w1 hl => ?_⟩
  generalize absL ns0 = ns at hl eR
  obtain ⟨t1, et1, eR⟩ := ob_some eR
  refine ⟨_, rfl, P1, (cs0), p1, l1, ns, box0, t1, rfl, w1, hl, et1, fun H2 P2 e2 w2 => ?_⟩
  obtain ⟨t2, et2, eR⟩ := ob_some eR
  refine ⟨_, rfl, _, rfl, _, rfl, P2, (cs0), p1, l1, ns, t1.2, 4, t2, rfl, w2, (Ext.sql e2 hl), et2, fun H3 P3 e3 w3 => ?_⟩
  obtain ⟨t3, et3, eR⟩ := ob_some eR
  refine ⟨_, _, rfl, rfl, P3, (cs0), p1, l1, ns, t2.2, t1.1, (1 + t2.1), t3, rfl, w3, (Ext.sql (e2.trans e3) hl), et3, fun H4 P4 p2 p3 p4 z1 vs1 e4 w4 fq1 hd2 hd1 => ?_⟩
  refine ⟨p2, ([(.ref p3), (.ref p4)] : List V), rfl, (w4.sqt (.inl (.inl fq1))), rfl, ?_⟩
  refine ⟨_, _, rfl, _, _, rfl, rfl, ?_⟩
  have w5 : Wd G.T P4 H4 ((p3, HO.lst (dlV z1)) :: ([(p4, (HO.lst vs1)), (p1, (boxO l1 t3.2))] ++ (dlC z1 ++ cs0))) := (w4.pull 2 rfl)
  refine ⟨z1, (Wd.dlHas (T := G.T) (P := P4) (H := H4) (z := z1) (x := (p3, HO.lst (dlV z1))) (l := [(p4, (HO.lst vs1)), (p1, (boxO l1 t3.2))]) (rest := cs0) w5).1, (Wd.dlHas (T := G.T) (P := P4) (H := H4) (z := z1) (x := (p3, HO.lst (dlV z1))) (l := [(p4, (HO.lst vs1)), (p1, (boxO l1 t3.2))]) (rest := cs0) w5).2, fun os1 hos1 => ?_⟩
  obtain ⟨P5, e5, w6, al1, kk1, fa1⟩ := Wd.lendD (T := G.T) (P := P4) (H := H4) (a := p3) (l := [(p4, (HO.lst vs1)), (p1, (boxO l1 t3.2))]) (rest := cs0) (z := z1) hos1 hd2 w5
  have w7 : Wd G.T P5 (lockAll H4 z1 os1) ((p4, (HO.lst vs1)) :: (p1, (boxO l1 t3.2)) :: cs0) := w6
  clear w6
  generalize lockAll H4 z1 os1 = H5 at w7 ⊢
  obtain ⟨t4, et4, eR⟩ := ob_some eR
  refine ⟨_, rfl, _, rfl, P5, ((p4, (HO.lst vs1)) :: (p1, (boxO l1 t3.2)) :: cs0), (.ref p3), t3.1.1, t4, rfl, w7, ⟨_, _, rfl, fa1, al1⟩, et4, fun H6 P6 p5 vs2 e6 w8 hd3 => ?_⟩
  have e7 : Ext P6 (upd P6 p5 (HO.lst vs2)) := w8.kext
  have w9 : Wd G.T (upd P6 p5 (HO.lst vs2)) H6 ((p4, (HO.lst vs1)) :: (p1, (boxO l1 t3.2)) :: cs0) := w8.keep
  have fq2 : upd P6 p5 (HO.lst vs2) p5 = some (HO.lst vs2) := upd_same
  generalize upd P6 p5 (HO.lst vs2) = P7 at w9 e7 fq2
  have al2 := (AR.up e7 hd3)
  refine ⟨_, rfl, p4, vs1, rfl, (.inl (.inl (w9.get 0 rfl))), fun p6 np1 => ?_⟩
  have al3 : AR yS P7 vs1 t3.1.2 := (AR.up ((e5.trans e6).trans e7) hd1)
  have e8 := w9.fext np1 (HO.lst vs1)
  have w10 := w9.frz np1 (HO.lst vs1)
  have fq3 : upd P7 p6 (HO.lst vs1) p6 = some (HO.lst vs1) := upd_same
  generalize upd H6 p6 (HO.lst vs1) = H7 at w10 ⊢
  generalize upd P7 p6 (HO.lst vs1) = P8 at w10 e8 fq3
  have al4 := (AR.up e8 al3)
  obtain ⟨t5, et5, eR⟩ := ob_some eR
  refine ⟨P8, ((p4, (HO.lst vs1)) :: (p1, (boxO l1 t3.2)) :: cs0), t1.1, (.ref p5), t4, (.ref p6), t3.1.2, t5, rfl, w10, ⟨_, _, rfl, (e8 _ _ fq2), (AR.up e8 al2)⟩, ⟨_, _, rfl, fq3, al4⟩, et5, fun H8 P9 v1 e9 w11 hd4 => ?_⟩
  refine ⟨_, rfl, p3, (dlV z1), (t3.1.1.length), rfl, (.inl (.inl (w11.sub _ _ ((((e6.trans e7).trans e8).trans e9) _ _ fa1)))), (AR.len (AR.up (((e6.trans e7).trans e8).trans e9) al1)), (by show 2 ≤ sizeLine; decide), fun p7 np2 => ?_⟩
  have e10 := w11.fext np2 (HO.tup ([(S (cs "made")), (V.int (t3.1.1.length : Int))] : List V))
  have w12 := w11.frz np2 (HO.tup ([(S (cs "made")), (V.int (t3.1.1.length : Int))] : List V))
  have fq4 : upd P9 p7 (HO.tup ([(S (cs "made")), (V.int (t3.1.1.length : Int))] : List V)) p7 = some (HO.tup ([(S (cs "made")), (V.int (t3.1.1.length : Int))] : List V)) := upd_same
  generalize upd H8 p7 (HO.tup ([(S (cs "made")), (V.int (t3.1.1.length : Int))] : List V)) = H9 at w12 ⊢
  generalize upd P9 p7 (HO.tup ([(S (cs "made")), (V.int (t3.1.1.length : Int))] : List V)) = P10 at w12 e10 fq4
  obtain ⟨hc1, eR⟩ := chk_some eR
  refine ⟨t5, (PyData.tuple [(eS ((cs "made"), (t3.1.1.length : Int)).1), (PyData.int ((cs "made"), (t3.1.1.length : Int)).2)]), (Mo.mo (R := (yDt K)) (P := P10) w12.sub (Mo.mo e10 hd4)), (Mo.mo (R := (yDt K)) (P := P10) w12.sub (yDt_of (R1 := (y2 K yS yI)) (show (y2 K yS yI) P10 (.ref p7) ((cs "made"), (t3.1.1.length : Int)) from ⟨_, _, _, rfl, fq4, rfl, rfl⟩) rfl)), hc1, _, rfl, ?_⟩
  refine iteB (fun hb1 => ?_) (fun hb1 => ?_)
  · rw [ite_t hb1] at eR
    refine ⟨LkAt.up (((((e6.trans e7).trans e8).trans e9).trans e10).trans w12.sub) kk1, ?_⟩
    have w13 : Wd G.T (cutP (p3 :: z1.map (·.1)) P10) (unlockAll H9 z1) ((p3, HO.lst (dlV z1)) :: ([(p4, (HO.lst vs1)), (p1, (boxO l1 t3.2))] ++ (dlC z1 ++ cs0))) := Wd.back (T := G.T) (l := [(p4, (HO.lst vs1)), (p1, (boxO l1 t3.2))]) (rest := cs0) hos1 w5 w12 (LkAt.up ((((e6.trans e7).trans e8).trans e9).trans e10) kk1) (((((e6.trans e7).trans e8).trans e9).trans e10) _ _ fa1)
    have e11 : Ext P4 (cutP (p3 :: z1.map (·.1)) P10) := cutP_old (((((e5.trans e6).trans e7).trans e8).trans e9).trans e10) (fun x hx => extn (Ext.refl _) (w5.lentNone x hx))
    generalize unlockAll H9 z1 = H10 at w13 ⊢
    generalize cutP (p3 :: z1.map (·.1)) P10 = P11 at w13 e11
    have w14 : Wd G.T P11 H10 ((p4, (HO.lst vs1)) :: (p1, (boxO l1 t3.2)) :: (p3, HO.lst (dlV z1)) :: (dlC z1 ++ cs0)) := ((w13.pull 2 rfl).pull 2 rfl)
    have w15 : Wd G.T P11 H10 ((p4, (HO.lst vs1)) :: (p1, (boxO l1 t3.2)) :: cs0) := (Wd.dlDrop (T := G.T) (P := P11) (H := H10) (x := (p3, HO.lst (dlV z1))) (l := [(p4, (HO.lst vs1)), (p1, (boxO l1 t3.2))]) (rest := cs0) (z := z1) (w14.pull 2 rfl))
    obtain rfl := Option.some.inj eR
    exact q H10 P11 ((((e1.trans e2).trans e3).trans e4).trans e11) ((w15.pull 0 rfl).tl.pull 0 rfl).tl
  · rw [ite_f hb1] at eR
    refine ⟨LkAt.up (((((e6.trans e7).trans e8).trans e9).trans e10).trans w12.sub) kk1, ?_⟩
    have w16 : Wd G.T (cutP (p3 :: z1.map (·.1)) P10) (unlockAll H9 z1) ((p3, HO.lst (dlV z1)) :: ([(p4, (HO.lst vs1)), (p1, (boxO l1 t3.2))] ++ (dlC z1 ++ cs0))) := Wd.back (T := G.T) (l := [(p4, (HO.lst vs1)), (p1, (boxO l1 t3.2))]) (rest := cs0) hos1 w5 w12 (LkAt.up ((((e6.trans e7).trans e8).trans e9).trans e10) kk1) (((((e6.trans e7).trans e8).trans e9).trans e10) _ _ fa1)
    have e12 : Ext P4 (cutP (p3 :: z1.map (·.1)) P10) := cutP_old (((((e5.trans e6).trans e7).trans e8).trans e9).trans e10) (fun x hx => extn (Ext.refl _) (w5.lentNone x hx))
    generalize unlockAll H9 z1 = H11 at w16 ⊢
    generalize cutP (p3 :: z1.map (·.1)) P10 = P12 at w16 e12
    have w17 : Wd G.T P12 H11 ((p4, (HO.lst vs1)) :: (p1, (boxO l1 t3.2)) :: (p3, HO.lst (dlV z1)) :: (dlC z1 ++ cs0)) := ((w16.pull 2 rfl).pull 2 rfl)
    obtain ⟨t6, et6, eR⟩ := ob_some eR
    refine ⟨_, rfl, P12, ((p4, (HO.lst vs1)) :: (p3, HO.lst (dlV z1)) :: (dlC z1 ++ cs0)), p1, l1, ns, t3.2, 3, t6, rfl, (w17.pull 1 rfl), (Ext.sql (((e2.trans e3).trans e4).trans e12) hl), et6, fun H12 P13 e13 w18 => ?_⟩
    obtain ⟨hc2, eR⟩ := chk_some eR
    obtain ⟨t7, et7, eR⟩ := ob_some eR
    obtain ⟨F1, hF1, et7⟩ := nm_itf et7
    refine ⟨_, rfl, hc2.1, hc2.2, for_it walk_range0 (fun i σz Hz => ∃ (Pz : Hp) (zs : (Box × (List (List Nat)) × (List (List ((List Nat) × (Int × (List Nat))))))) (lz1 : List V) (lz2 : Dz) (yz0 : Option V), Ext P13 Pz ∧ σz = [some (V.ref ascr), some (V.ref p1), some (S t1.1), some (.ref p3), some (.ref p4), yz0, none] ∧ Wd G.T Pz Hz ((p1, (boxO l1 zs.1)) :: (p4, (HO.lst lz1)) :: (p3, HO.lst (dlV lz2)) :: (dlC lz2 ++ cs0)) ∧ AR yS Pz lz1 zs.2.1 ∧ DLR kS (y2 K yI yS) Pz lz2 zs.2.2 ∧ itf F1 ((List.range (t6.1).toNat).drop i) zs = some t7) ?_ ?_ ?_ ?_⟩
    · exact ⟨P13, (t6.2, t3.1.2, t3.1.1), vs1, z1, none, Ext.refl _, rfl, w18, (AR.up (e12.trans e13) hd1), (DLR.up (e12.trans e13) hd2), et7⟩
    · rintro i σz Hz _ ⟨Pz, zs, lz1, lz2, yz0, ee, rfl, ww, _⟩
      trivial
    · rintro i1 x1 _ H13 H14 hi1 ⟨P14, s1, vs3, vs4, od1, e14, rfl, w19, al5, al6, et8⟩ hy1
      obtain ⟨eH1, hx1⟩ := hy1
      rw [eH1]
      subst hx1
      have eD1 := range_drop (n := (t6.1).toNat) (i := i1) (by assumption)
      rw [eD1, itf] at et8
      obtain ⟨o1, eo1, et8⟩ := ob_some et8
      rw [hF1] at eo1
      unfold bd_law_1 at eo1
      obtain ⟨t8, et9, eo1⟩ := ob_some eo1
      refine ⟨_, rfl, _, rfl, _, rfl, _, rfl, P14, (cs0), p1, l1, ns, s1.1, t1.1, p3, vs4, s1.2.2, p4, vs3, s1.2.1, t8, rfl, ((w19.pull 1 rfl).pull 1 rfl), (Ext.sql (((((e2.trans e3).trans e4).trans e12).trans e13).trans e14) hl), al6, al5, et9, fun H15 P15 vs6 vs5 e15 w20 al8 al7 => ?_⟩
      obtain rfl := Option.some.inj eo1
      exact ⟨P15, (t8.1, t8.2.1, t8.2.2), vs6, vs5, (some (V.int ((i1 : Nat) : Int))), (e14.trans e15), rfl, w20, al8, al7, et8⟩
    rintro _ H16 ⟨P16, s2, vs7, vs8, od2, e16, rfl, w21, al9, al10, et10⟩
    rw [drop_range_all, itf] at et10
    obtain rfl := Option.some.inj et10
    obtain ⟨t9, et11, eR⟩ := ob_some eR
    refine q_join (fun σz Hz => ∃ (Pz : Hp), Ext P16 Pz ∧ σz = [some (V.ref ascr), some (V.ref p1), some (S t9.1), some (.ref p3), some (.ref p4), od2, none] ∧ Wd G.T Pz Hz ((p1, (boxO l1 t9.2)) :: (p4, (HO.lst vs7)) :: (p3, HO.lst (dlV vs8)) :: (dlC vs8 ++ cs0))) ?_ ?_
    · obtain ⟨t10, et12, et11⟩ := ob_some et11
      refine ⟨_, rfl, P16, ((p4, (HO.lst vs7)) :: (p3, HO.lst (dlV vs8)) :: (dlC vs8 ++ cs0)), p1, l1, ns, s2.1, 6, t10, rfl, w21, (Ext.sql (((((e2.trans e3).trans e4).trans e12).trans e13).trans e16) hl), et12, fun H17 P17 e17 w22 => ?_⟩
      refine ⟨_, _, rfl, rfl, _, rfl, ?_⟩
      refine iteB (fun hb2 => ?_) (fun hb2 => ?_)
      · rw [ite_t hb2] at et11
        obtain ⟨hc3, et11⟩ := chk_some et11
        obtain ⟨hc4, et11⟩ := chk_some et11
        refine ⟨_, rfl, _, _, rfl, rfl, (sz hc3), _, rfl, _, _, rfl, rfl, (sz hc4), (by show 4 ≤ sizeLine; decide), fun p8 np3 => ?_⟩
        have al11 : AR yS P17 ([(S (cs "ba")), (S (cs "aa")), (S (t1.1 ++ ([10] : List Nat))), (S (t1.1 ++ ([32] : List Nat)))] : List V) ([(cs "ba"), (cs "aa"), (t1.1 ++ ([10] : List Nat)), (t1.1 ++ ([32] : List Nat))] : List (List Nat)) := (AR.cons rfl (AR.cons rfl (AR.cons rfl (AR.cons rfl AR.nil))))
        have e18 := w22.fext np3 (HO.lst ([(S (cs "ba")), (S (cs "aa")), (S (t1.1 ++ ([10] : List Nat))), (S (t1.1 ++ ([32] : List Nat)))] : List V))
        have w23 := w22.frz np3 (HO.lst ([(S (cs "ba")), (S (cs "aa")), (S (t1.1 ++ ([10] : List Nat))), (S (t1.1 ++ ([32] : List Nat)))] : List V))
        have fq5 : upd P17 p8 (HO.lst ([(S (cs "ba")), (S (cs "aa")), (S (t1.1 ++ ([10] : List Nat))), (S (t1.1 ++ ([32] : List Nat)))] : List V)) p8 = some (HO.lst ([(S (cs "ba")), (S (cs "aa")), (S (t1.1 ++ ([10] : List Nat))), (S (t1.1 ++ ([32] : List Nat)))] : List V)) := upd_same
        generalize upd H17 p8 (HO.lst ([(S (cs "ba")), (S (cs "aa")), (S (t1.1 ++ ([10] : List Nat))), (S (t1.1 ++ ([32] : List Nat)))] : List V)) = H18 at w23 ⊢
        generalize upd P17 p8 (HO.lst ([(S (cs "ba")), (S (cs "aa")), (S (t1.1 ++ ([10] : List Nat))), (S (t1.1 ++ ([32] : List Nat)))] : List V)) = P18 at w23 e18 fq5
        have al12 := (AR.up e18 al11)
        obtain ⟨t11, et13, et11⟩ := ob_some et11
        refine ⟨_, rfl, P18, ((p4, (HO.lst vs7)) :: (p3, HO.lst (dlV vs8)) :: (dlC vs8 ++ cs0)), p1, l1, ns, t10.2, 4, t11, rfl, w23, (Ext.sql (((((((e2.trans e3).trans e4).trans e12).trans e13).trans e16).trans e17).trans e18) hl), et13, fun H19 P19 e19 w24 => ?_⟩
        obtain ⟨hc5, et11⟩ := chk_some et11
        obtain ⟨v2, hat1, hd5⟩ := AR.getI (i := t11.1) (d := ([] : List Nat)) (AR.up e19 al12) hc5
        obtain rfl : v2 = (S (([(cs "ba"), (cs "aa"), (t1.1 ++ ([10] : List Nat)), (t1.1 ++ ([32] : List Nat))] : List (List Nat)).getD (ixP ([(cs "ba"), (cs "aa"), (t1.1 ++ ([10] : List Nat)), (t1.1 ++ ([32] : List Nat))] : List (List Nat)).length t11.1) ([] : List Nat))) := hd5
        refine ⟨p8, _, _, _, rfl, rfl, (.inl (.inl (w24.sub _ _ (e19 _ _ fq5)))), hat1, ?_⟩
        obtain rfl := Option.some.inj et11
        exact ⟨P19, ((e17.trans e18).trans e19), rfl, w24⟩
      · rw [ite_f hb2] at et11
        obtain rfl := Option.some.inj et11
        exact ⟨P17, e17, rfl, w22⟩
    rintro _ H20 ⟨P20, e20, rfl, w25⟩
    have w26 : Wd G.T P20 H20 ((p3, HO.lst (dlV vs8)) :: ([(p1, (boxO l1 t9.2)), (p4, (HO.lst vs7))] ++ (dlC vs8 ++ cs0))) := (w25.pull 2 rfl)
    refine ⟨vs8, (Wd.dlHas (T := G.T) (P := P20) (H := H20) (z := vs8) (x := (p3, HO.lst (dlV vs8))) (l := [(p1, (boxO l1 t9.2)), (p4, (HO.lst vs7))]) (rest := cs0) w26).1, (Wd.dlHas (T := G.T) (P := P20) (H := H20) (z := vs8) (x := (p3, HO.lst (dlV vs8))) (l := [(p1, (boxO l1 t9.2)), (p4, (HO.lst vs7))]) (rest := cs0) w26).2, fun os2 hos2 => ?_⟩
    obtain ⟨P21, e21, w27, al13⟩ := Wd.dlLocked (T := G.T) (P := P20) (H := H20) (z := vs8) (x := (p3, HO.lst (dlV vs8))) (l := [(p1, (boxO l1 t9.2)), (p4, (HO.lst vs7))]) (rest := cs0) hos2 (DLR.up e20 al10) w26
    generalize lockAll H20 vs8 os2 = H21 at w27 ⊢
    generalize dlV vs8 = vs9 at w27 al13
    have e22 : Ext P21 (upd P21 p3 (HO.lst vs9)) := w27.kext
    have w28 : Wd G.T (upd P21 p3 (HO.lst vs9)) H21 ((p1, (boxO l1 t9.2)) :: (p4, (HO.lst vs7)) :: cs0) := w27.keep
    have fq6 : upd P21 p3 (HO.lst vs9) p3 = some (HO.lst vs9) := upd_same
    generalize upd P21 p3 (HO.lst vs9) = P22 at w28 e22 fq6
    have al14 := (AR.up e22 al13)
    have e23 : Ext P22 (upd P22 p4 (HO.lst vs7)) := (w28.pull 1 rfl).kext
    have w29 : Wd G.T (upd P22 p4 (HO.lst vs7)) H21 ((p1, (boxO l1 t9.2)) :: cs0) := (w28.pull 1 rfl).keep
    have fq7 : upd P22 p4 (HO.lst vs7) p4 = some (HO.lst vs7) := upd_same
    generalize upd P22 p4 (HO.lst vs7) = P23 at w29 e23 fq7
    have al15 := (AR.up (((e20.trans e21).trans e22).trans e23) al9)
    obtain ⟨t12, et14, eR⟩ := ob_some eR
    refine ⟨_, rfl, _, rfl, _, rfl, P23, ((p1, (boxO l1 t9.2)) :: cs0), t9.1, (.ref p3), s2.2.2, (.ref p4), s2.2.1, t12, rfl, w29, ⟨_, _, rfl, (e23 _ _ fq6), (AR.up e23 al14)⟩, ⟨_, _, rfl, fq7, al15⟩, et14, fun H22 P24 v3 e24 w30 hd6 => ?_⟩
    obtain ⟨t13, et15, eR⟩ := ob_some eR
    refine ⟨_, rfl, _, rfl, P24, ((p1, (boxO l1 t9.2)) :: cs0), (.ref p3), s2.2.2, t13, rfl, w30, ⟨_, _, rfl, ((e23.trans e24) _ _ fq6), (AR.up (e23.trans e24) al14)⟩, et15, fun H23 P25 p9 vs10 e25 w31 hd7 => ?_⟩
    have e26 : Ext P25 (upd P25 p9 (HO.lst vs10)) := w31.kext
    have w32 : Wd G.T (upd P25 p9 (HO.lst vs10)) H23 ((p1, (boxO l1 t9.2)) :: cs0) := w31.keep
    have fq8 : upd P25 p9 (HO.lst vs10) p9 = some (HO.lst vs10) := upd_same
    generalize upd P25 p9 (HO.lst vs10) = P26 at w32 e26 fq8
    have al16 := (AR.up e26 hd7)
    refine ⟨_, rfl, p4, vs7, rfl, (.inl (.inl (w32.sub _ _ (((e24.trans e25).trans e26) _ _ fq7)))), fun p10 np4 => ?_⟩
    have al17 : AR yS P26 vs7 s2.2.1 := (AR.up ((e24.trans e25).trans e26) al15)
    have e27 := w32.fext np4 (HO.lst vs7)
    have w33 := w32.frz np4 (HO.lst vs7)
    have fq9 : upd P26 p10 (HO.lst vs7) p10 = some (HO.lst vs7) := upd_same
    generalize upd H23 p10 (HO.lst vs7) = H24 at w33 ⊢
    generalize upd P26 p10 (HO.lst vs7) = P27 at w33 e27 fq9
    have al18 := (AR.up e27 al17)
    obtain ⟨t14, et16, eR⟩ := ob_some eR
    refine ⟨P27, ((p1, (boxO l1 t9.2)) :: cs0), t9.1, (.ref p9), t13, (.ref p10), s2.2.1, t14, rfl, w33, ⟨_, _, rfl, (e27 _ _ fq8), (AR.up e27 al16)⟩, ⟨_, _, rfl, fq9, al18⟩, et16, fun H25 P28 v4 e28 w34 hd8 => ?_⟩
    obtain ⟨hc6, eR⟩ := chk_some eR
    refine ⟨_, rfl, t14, t12, (Mo.mo (R := (yDt K)) (P := P28) w34.sub hd8), (Mo.mo (R := (yDt K)) (P := P28) w34.sub (Mo.mo (((e25.trans e26).trans e27).trans e28) hd6)), hc6, ?_⟩
    obtain rfl := Option.some.inj eR
    exact q H25 P28 (((((((((((((((e1.trans e2).trans e3).trans e4).trans e12).trans e13).trans e16).trans e20).trans e21).trans e22).trans e23).trans e24).trans e25).trans e26).trans e27).trans e28) (w34.pull 0 rfl).tl
theorem fn_law {P : Program} {w : World} {K : PySem.W.Frag} {mg : Str → Option Value} {base : Heap} {G : GA} {f : Addr} {fd : FuncData} (T : Tx P w K G mg base) (F : Fun K "law" "law" s_law f fd) : FnOk P w K mg base CX0 8 f fd ["_law_script"] (sp_law K G) := by
  refine F.ok sc_law (fun vs H Q E h => ?_) (fun cdv A outer s H vs Q E hr h => ⟨t_law K G, ?_, rd_law T.fa vs H Q E h⟩)
  · obtain ⟨_, _, _, _, _, rfl, _⟩ := h
    rfl
  · exact (pss_cons (ps_set (i := 1) sc_law.nd rfl (.inl rfl) (pe_c (c_box T) hr (by decide) (by rfl) (pa_cons (pv 0) pa_nil))) (pss_cons (ps_set (i := 2) sc_law.nd rfl (.inl rfl) (pe_c (c_chosen T) hr (by decide) (by rfl) (pa_cons (pv 1) pa_nil))) (pss_cons (ps_asg (pe_c (c_table T) hr (by decide) (by rfl) (pa_cons (pv 1) (pa_cons (pv 2) (pa_cons (pe_op o_add pe_int (pe_c (c_take T) hr (by decide) (by rfl) (pa_cons (pv 1) (pa_cons pe_int pa_nil)))) pa_nil)))) (pg_tup rfl (pgs_cons (pg_name (i := 3) sc_law.nd rfl (Or.inl rfl)) (pgs_cons (pg_name (i := 4) sc_law.nd rfl (Or.inl rfl)) pgs_nil)))) (pss_cons (ps_lockN (ps_if (pt_cmpR (o_neDt hr.units) (pe_c (c_made T) hr (by decide) (by rfl) (pa_cons (pv 2) (pa_cons (pe_c (c_copied T) hr (by decide) (by rfl) (pa_cons (pv 3) pa_nil)) (pa_cons (pe_callTy c_listL (by rfl) T.z_list (by decide +kernel) (pa_cons (pv 4) pa_nil)) pa_nil)))) (pe_tup (pa_cons pe_strS (pa_cons (pe_callB c_lenM (by rfl) T.z_len PySem.boot_len (pa_cons (pv 3) pa_nil)) pa_nil))) (nomark _)) (pss_one (ps_ret pe_bl)) pss_nil)) (pss_cons (ps_for PassesOwn.never rfl (pi_range1 (by rfl) T.z_range (pa_cons (pe_c (c_take T) hr (by decide) (by rfl) (pa_cons (pv 1) (pa_cons pe_int pa_nil))) pa_nil)) (pg_name (i := 5) sc_law.nd rfl (Or.inl rfl)) (pss_one (ps_expr (pe_c (c_spoil T) hr (by decide) (by rfl) (pa_cons (pv 1) (pa_cons (pv 2) (pa_cons (pv 3) (pa_cons (pv 4) pa_nil)))))))) (Evl.pss_cut (ps_if (pt_cmpR o_eqI (pe_c (c_take T) hr (by decide) (by rfl) (pa_cons (pv 1) (pa_cons pe_int pa_nil))) pe_int (nomark _)) (pss_one (ps_set (i := 2) sc_law.nd rfl (.inl rfl) (pe_ix ix_list (pe_lst (pa_cons pe_strS (pa_cons pe_strS (pa_cons (pe_op o_addS (pv 2) pe_strS) (pa_cons (pe_op o_addS (pv 2) pe_strS) pa_nil))))) (pe_c (c_take T) hr (by decide) (by rfl) (pa_cons (pv 1) (pa_cons pe_int pa_nil))) (fun _ _ => rfl)))) pss_nil) (pss_lockD (pss_cons (ps_set (i := 6) sc_law.nd rfl (.inl rfl) (pe_c (c_due T) hr (by decide) (by rfl) (pa_cons (pv 2) (pa_cons (pv 3) (pa_cons (pv 4) pa_nil))))) (pss_one (ps_ret (pe_cmpR (o_eqDt hr.units) (pe_c (c_made T) hr (by decide) (by rfl) (pa_cons (pv 2) (pa_cons (pe_c (c_copied T) hr (by decide) (by rfl) (pa_cons (pv 3) pa_nil)) (pa_cons (pe_callTy c_listL (by rfl) T.z_list (by decide +kernel) (pa_cons (pv 4) pa_nil)) pa_nil)))) (pv 6) (nomark _))))))))))))
theorem c_law {P : Program} {w : World} {K : PySem.W.Frag} {mg : Str → Option Value} {base : Heap} {G : GA} (T : Tx P w K G mg base) : Cal P w K mg base 8 "law" (sp_law K G) := by
  obtain ⟨f, fd, F, b, g⟩ := T.d_law
  exact ⟨f, fd, _, fn_law T F, g, F.kp, b⟩

/-! ### the draws: signs -/
def Sg (t : List Nat) : Prop := ∀ c ∈ t, c ∈ cSIGNS
theorem law_signs_eq : m_law_signs = some cSIGNS := by
  unfold m_law_signs
  decide
theorem sign_ok {ns : List Int} {b : Box} : Ok (m_sign ns b) fun t => t.1 ∈ cSIGNS := by
  unfold m_sign
  refine Ok.obe law_signs_eq (Ok.bind (Ok.take (Q := fun t => 0 ≤ t.1 ∧ t.1 < 94) (by decide) fun t b' h1 h2 => ⟨h1, h2⟩) fun t ht => ?_)
  have hl : cSIGNS.length = 94 := by decide
  refine Ok.chk ⟨inR_nat ⟨ht.1, by rw [hl]; omega⟩, by decide⟩ (Ok.pure ?_)
  show cSIGNS.getD (ixP cSIGNS.length t.1) 0 ∈ cSIGNS
  rw [ixP_nat ht.1]
  exact getD_mem (by rw [hl]; omega)
theorem cs_nil : cs "" = [] := by decide
theorem join1 {P : Nat → Prop} : ∀ {ts : List (List Nat)}, (∀ t ∈ ts, ∃ c, t = [c] ∧ P c) → (TL.joinL (cs "") ts).length = ts.length ∧ (∀ c ∈ TL.joinL (cs "") ts, P c) ∧ (ts.map List.length).sum + ts.length * (cs "").length = ts.length := by
  intro ts
  rw [cs_nil, joinL_nil]
  simp only [List.length_nil, Nat.mul_zero, Nat.add_zero]
  induction ts with
  | nil => intro _; exact ⟨rfl, (fun c h => by cases h), rfl⟩
  | cons t ts ih =>
    intro h
    obtain ⟨i1, i2, i3⟩ := ih fun u hu => h u (List.mem_cons_of_mem _ hu)
    obtain ⟨c, rfl, hc⟩ := h t List.mem_cons_self
    refine ⟨?_, fun d hd => ?_, ?_⟩
    · simp only [List.flatten_cons, List.length_append, i1, List.length_cons, List.length_nil]
      omega
    · rw [List.flatten_cons] at hd
      rcases List.mem_append.mp hd with hd | hd
      · rw [List.mem_singleton.mp hd]
        exact hc
      · exact i2 d hd
    · simp only [List.map_cons, List.sum_cons, i3, List.length_cons, List.length_nil]
      omega
theorem palette_ok {ns : List Int} {b : Box} : Ok (m_palette ns b) fun t => t.1.length = 4 ∧ Sg t.1 := by
  unfold m_palette
  refine Ok.bind (Ok.take (Q := fun t => 0 ≤ t.1 ∧ t.1 < 2) (by decide) fun t b' h1 h2 => ⟨h1, h2⟩) fun t ht => ?_
  refine Ok.ite (fun _ => ?_) (fun _ => ?_)
  · refine Ok.bind (Ok.take (Q := fun t => 0 ≤ t.1 ∧ t.1 < 4) (by decide) fun t b' h1 h2 => ⟨h1, h2⟩) fun u hu => ?_
    refine Ok.chk (inR_nat ⟨hu.1, hu.2⟩) (Ok.pure ?_)
    rw [ixP_nat hu.1]
    have key : ∀ x ∈ ([(cs "ab1."), (cs "a1./"), (cs "abc "), (cs "xy70")] : List (List Nat)), x.length = 4 ∧ ∀ c ∈ x, c ∈ cSIGNS := by decide
    exact key _ (getD_mem (by show u.1.toNat < 4; omega))
  · refine Ok.bind (Ok.mps (Q := fun t => t.1.length = 4 ∧ ∀ y ∈ t.1, ∃ c, y = [c] ∧ c ∈ cSIGNS) (fun y => ∃ c, y = [c] ∧ c ∈ cSIGNS) (fun x _ b => ?_) (fun ys b' hl h => ⟨by rw [hl]; rfl, h⟩)) fun t ht => ?_
    · unfold bd_palette_1
      exact Ok.bind sign_ok fun s hs => Ok.pure ⟨_, rfl, hs⟩
    · obtain ⟨j1, j2, j3⟩ := join1 ht.2
      refine Ok.chk (by rw [j3, ht.1]; decide) (Ok.pure ⟨by rw [j1, ht.1], j2⟩)

/-! ### machines: what they are -/
abbrev Arc := List (List Nat × (Int × List Nat))
def kinds3 : List (List Nat) := [cs "letter", cs "figure", cs "mark"]
def keysOf (named : List Nat) : List (List Nat) := named.map (fun c => [c]) ++ kinds3
theorem signs_nd : cSIGNS.Nodup := by decide
/-- named signs: in order -/
def Nam (named : List Nat) : Prop := cSIGNS.filter (fun c => decide (c ∈ named)) = named
theorem Nam.sg {n : List Nat} (h : Nam n) : Sg n := fun c hc => by
  rw [← h] at hc
  exact (List.mem_filter.mp hc).1
theorem Nam.len {n : List Nat} (h : Nam n) : n.length ≤ 94 := by
  rw [← h]
  exact List.length_filter_le _ _
theorem Nam.nd {n : List Nat} (h : Nam n) : n.Nodup := by
  rw [← h]
  exact signs_nd.filter _
theorem nam_filter (p : Nat → Bool) : Nam (cSIGNS.filter p) := by
  unfold Nam
  refine List.filter_congr fun c hc => ?_
  cases h : p c with
  | true => exact decide_eq_true (List.mem_filter.mpr ⟨hc, h⟩)
  | false => exact decide_eq_false fun q => by rw [(List.mem_filter.mp q).2] at h; cases h
theorem nam_nil : Nam [] := by
  unfold Nam
  decide
theorem keys_nd {n : List Nat} (h : Nam n) : (keysOf n).Nodup := by
  unfold keysOf
  refine List.nodup_append.mpr ⟨h.nd.map _ (fun a b hab e => hab (by injection e)), by decide, fun x hx y hy e => ?_⟩
  obtain ⟨c, _, rfl⟩ := List.mem_map.mp hx
  have key : ∀ z ∈ kinds3, 1 < z.length := by decide
  have := key y hy
  rw [← e] at this
  exact absurd this (by simp)
theorem keys_len (n : List Nat) : (keysOf n).length = n.length + 3 := by
  unfold keysOf
  rw [List.length_append, List.length_map]
  rfl
/-- words and endings -/
def Wr (named : List Nat) (L : Nat) (w : List Nat) : Prop := (∀ c ∈ w, c ∈ named) ∧ w.length ≤ L
structure ArcOk (named : List Nat) (L : Nat) (n : Nat) (r : Arc) : Prop where
  keys : (r.map (·.1)).Perm (keysOf named)
  arc : ∀ p ∈ r, 0 ≤ p.2.1 ∧ p.2.1 < (n : Int) ∧ Wr named L p.2.2
structure TabOk (named : List Nat) (L : Nat) (n : Nat) (arcs : List Arc) (ends : List (List Nat)) : Prop where
  la : arcs.length = n
  le : ends.length = n
  row : ∀ r ∈ arcs, ArcOk named L n r
  en : ∀ e ∈ ends, Wr named L e
section
variable {κ A : Type} [DecidableEq κ]
theorem dL_none {m : List (κ × A)} {k : κ} (h : k ∉ m.map (·.1)) : dL m k = none := by
  unfold dL
  rw [List.find?_eq_none.mpr]
  · rfl
  · intro p hp q
    exact h (List.mem_map.mpr ⟨p, hp, of_decide_eq_true q⟩)
theorem dP_new {m : List (κ × A)} {k : κ} {x : A} (h : k ∉ m.map (·.1)) : dP m k x = m ++ [(k, x)] := by
  unfold dP dH
  rw [if_neg]
  intro q
  obtain ⟨p, hp, e⟩ := List.any_eq_true.mp q
  exact h (List.mem_map.mpr ⟨p, hp, of_decide_eq_true e⟩)
theorem dL_of {m : List (κ × A)} {k : κ} (h : k ∈ m.map (·.1)) : ∃ x, dL m k = some x ∧ (k, x) ∈ m := by
  unfold dL
  cases q : m.find? fun p => decide (p.1 = k) with
  | none =>
    obtain ⟨p, hp, e⟩ := List.mem_map.mp h
    have := List.find?_eq_none.mp q p hp
    exact absurd (decide_eq_true e) this
  | some p =>
    have h1 := List.mem_of_find?_eq_some q
    have h2 := List.find?_some q
    have h2 : p.1 = k := of_decide_eq_true h2
    exact ⟨p.2, rfl, by rw [← h2]; exact h1⟩
end

theorem word_ok {ns : List Int} {b : Box} {named : List Nat} {limit : Int} (hn : Nam named) (hl : 0 ≤ limit ∧ limit < 100) : Ok (m_word ns b named limit) fun t => Wr named limit.toNat t.1 := by
  unfold m_word
  refine Ok.ite (fun _ => Ok.pure ⟨(fun c hc => by rw [cs_nil] at hc; cases hc), by rw [cs_nil]; exact Nat.zero_le _⟩) (fun h0 => ?_)
  have hpos : 0 < named.length := by
    cases named with
    | nil => exact absurd h0 (by decide)
    | cons a l => exact Nat.succ_pos _
  have hle := hn.len
  refine Ok.bind (Ok.take (Q := fun t => 0 ≤ t.1 ∧ t.1 < limit + 1) (by omega) fun t b' h1 h2 => ⟨h1, h2⟩) fun t ht => ?_
  refine Ok.chk (by omega) (Ok.chk (by rw [List.length_range]; omega) ?_)
  refine Ok.bind (Ok.mps (Q := fun y => y.1.length = t.1.toNat ∧ ∀ z ∈ y.1, ∃ c, z = [c] ∧ c ∈ named) (fun y => ∃ c, y = [c] ∧ c ∈ named) (fun x _ b => ?_) (fun ys b' hl h => ⟨by rw [hl, List.length_range], h⟩)) fun y hy => ?_
  · unfold bd_word_1
    refine Ok.chk (by omega) (Ok.bind (Ok.take (Q := fun t => 0 ≤ t.1 ∧ t.1 < (named.length : Int)) (by omega) fun t b' h1 h2 => ⟨h1, h2⟩) fun u hu => ?_)
    refine Ok.chk ⟨inR_nat hu, by omega⟩ (Ok.pure ⟨_, rfl, ?_⟩)
    rw [ixP_nat hu.1]
    exact getD_mem (by omega)
  · obtain ⟨j1, j2, j3⟩ := join1 hy.2
    refine Ok.chk (by rw [j3, hy.1]; omega) (Ok.pure ⟨j2, ?_⟩)
    rw [j1, hy.1]
    omega
theorem table_ok {ns : List Int} {b : Box} {named : List Nat} {n : Nat} (hn : Nam named) (hc : 0 < n ∧ n < 1000) : Ok (m_table ns b named (n : Int)) fun t => TabOk named 2 n t.1.1 t.1.2 := by
  have hnl := hn.len
  have hnd := keys_nd hn
  unfold m_table
  refine Ok.chk (by omega) (Ok.bind (P := fun s => s.2.length = n ∧ ∀ r ∈ s.2, ArcOk named 2 n r) (Ok.itf (fun i s => s.2.length = i ∧ ∀ r ∈ s.2, ArcOk named 2 n r) 0 ⟨rfl, fun r h => by cases h⟩ (fun j x s hx hI => ?_) (fun s h => ⟨by rw [h.1, List.length_range]; omega, h.2⟩)) fun s hs => ?_)
  · unfold bd_table_1
    have hjl : j < n := by
      have := (List.getElem?_eq_some_iff.mp hx).1
      rw [List.length_range] at this
      omega
    refine Ok.chk (by omega) (Ok.chk (by rw [List.length_map]; show named.length + 3 ≤ 1000000; omega) ?_)
    refine Ok.bind (P := fun z => ArcOk named 2 n z.1) (Ok.itf (fun i z => z.1.map (·.1) = (keysOf named).take i ∧ ∀ p ∈ z.1, 0 ≤ p.2.1 ∧ p.2.1 < (n : Int) ∧ Wr named 2 p.2.2) 0 ⟨rfl, fun p h => by cases h⟩ (fun i k z hk hz => ?_) (fun z hz => ⟨List.Perm.of_eq ?_, hz.2⟩)) fun z hz => ?_
    · rw [Nat.zero_add] at hz ⊢
      unfold bd_table_2
      refine Ok.bind (Ok.take (Q := fun t => 0 ≤ t.1 ∧ t.1 < (n : Int)) (by omega) fun t b' h1 h2 => ⟨h1, h2⟩) fun t ht => ?_
      refine Ok.bind (word_ok hn (by decide)) fun w hw => ?_
      have hzl : z.1.length = i := by
        have := congrArg List.length hz.1
        rw [List.length_map, List.length_take] at this
        have hi := (List.getElem?_eq_some_iff.mp hk).1
        have hi : i < (keysOf named).length := hi
        omega
      have hi : i < (keysOf named).length := (List.getElem?_eq_some_iff.mp hk).1
      have hkk : (keysOf named)[i]? = some k := hk
      refine Ok.chk (by rw [hzl]; rw [keys_len] at hi; omega) (Ok.pure ?_)
      have hnot : k ∉ z.1.map (·.1) := by
        rw [hz.1]
        intro hm
        obtain ⟨j, hj⟩ := List.mem_iff_getElem?.mp hm
        rw [List.getElem?_take] at hj
        split at hj
        · rename_i hji
          have := (List.getElem?_inj (Nat.lt_trans hji hi) hnd).mp (hj.trans hkk.symm)
          omega
        · cases hj
      show (dP z.1 k (t.1, w.1)).map (·.1) = _ ∧ ∀ p ∈ dP z.1 k (t.1, w.1), _
      rw [dP_new hnot]
      refine ⟨?_, fun p hp => ?_⟩
      · rw [List.map_append, hz.1, List.take_succ, hkk]
        rfl
      · rcases List.mem_append.mp hp with h | h
        · exact hz.2 p h
        · rw [List.mem_singleton.mp h]
          exact ⟨ht.1, ht.2, hw⟩
    · rw [hz.1, Nat.zero_add]
      exact List.take_length
    · refine Ok.chk (by rw [hI.1]; omega) (Ok.pure ⟨?_, fun r hr => ?_⟩)
      · rw [List.length_append, hI.1]
        rfl
      · rcases List.mem_append.mp hr with h | h
        · exact hI.2 r h
        · rw [List.mem_singleton.mp h]
          exact hz
  · refine Ok.chk (by omega) (Ok.chk (by rw [List.length_range]; omega) ?_)
    refine Ok.bind (Ok.mps (Q := fun y => y.1.length = n ∧ ∀ z ∈ y.1, Wr named 2 z) (fun y => Wr named 2 y) (fun x _ b => ?_) (fun ys b' hl h => ⟨by rw [hl, List.length_range]; omega, h⟩)) fun y hy => Ok.pure ⟨hs.1, hy.1, hs.2, hy.2⟩
    unfold bd_table_3
    exact Ok.bind (word_ok hn (by decide)) fun w hw => Ok.pure hw

/-! ### data that is well laid and equal to itself -/
def Dok (d : PyData) : Prop := SeqAt.shaped d = true ∧ PyData.eqv d d = true
theorem dok {A : Type} {R : Rel A} {ok : A → Bool} {n : Nat} [e : En ([] : PySem.W.Frag) R ok n] (x : A) (h : ok x = true) (hn : n ≤ 64) : Dok (e.enc x) := ⟨shp h hn, e.inj.mpr rfl⟩
theorem dokT {t : List Nat} (h : okS t = true) : Dok (eS t) := dok (R := yS) t h (by decide)
theorem dokS {ts : List (List Nat)} (h : okL okS ts = true) : Dok (PyData.tuple (ts.map (fun x => eS x))) := dok (R := yU [] yS) ts h (by decide)
theorem dokI {t : List Nat} {n : Int} (h : okS t = true) : Dok (PyData.tuple [eS t, PyData.int n]) := dok (R := y2 [] yS yI) (t, n) (by unfold ok_2; rw [h]; rfl) (by decide)
theorem eqvS (x y : List Nat) : PyData.eqv (eS x) (eS y) = decide (x = y) := eqv_dec (K := ([] : PySem.W.Frag)) (R1 := yS)

/-! ### k21: what machines that are not made need -/
theorem len_le_of_nd {A : Type} [DecidableEq A] : ∀ {l m : List A}, l.Nodup → (∀ x ∈ l, x ∈ m) → l.length ≤ m.length
  | [], _, _, _ => Nat.zero_le _
  | x :: l, m, hn, h => by
    have hx := h x List.mem_cons_self
    have hn' := List.nodup_cons.mp hn
    have := len_le_of_nd (l := l) (m := m.erase x) hn'.2 fun y hy => by
      refine (List.mem_erase_of_ne (fun e => hn'.1 (by rw [← e]; exact hy))).mpr (h y (List.mem_cons_of_mem _ hy))
    rw [List.length_erase_of_mem hx] at this
    have hp : 0 < m.length := List.length_pos_of_mem hx
    rw [List.length_cons]
    omega
theorem dL_nd {κ A : Type} [DecidableEq κ] {m : List (κ × A)} {k : κ} {x : A} (hn : (m.map (·.1)).Nodup) (h : (k, x) ∈ m) : dL m k = some x := by
  obtain ⟨y, e, hy⟩ := dL_of (m := m) (k := k) (List.mem_map.mpr ⟨_, h, rfl⟩)
  rw [e]
  obtain ⟨a, ha⟩ := List.mem_iff_getElem?.mp h
  obtain ⟨b, hb⟩ := List.mem_iff_getElem?.mp hy
  have ha' : (m.map (·.1))[a]? = some k := by rw [List.getElem?_map, ha]; rfl
  have hb' : (m.map (·.1))[b]? = some k := by rw [List.getElem?_map, hb]; rfl
  have := (List.getElem?_inj (List.getElem?_eq_some_iff.mp ha').1 hn).mp (ha'.trans hb'.symm)
  subst this
  rw [ha] at hb
  have := Option.some.inj hb
  injection this with _ e2
  rw [e2]
theorem dL_some_mem {κ A : Type} [DecidableEq κ] {m : List (κ × A)} {k : κ} : (dL m k).isSome = true ↔ k ∈ m.map (·.1) := by
  constructor
  · intro h
    cases q : decide (k ∈ m.map (·.1)) with
    | true => exact of_decide_eq_true q
    | false => rw [dL_none (of_decide_eq_false q)] at h; cases h
  · intro h
    obtain ⟨x, e, _⟩ := dL_of h
    rw [e]
    rfl
theorem only_named_eq {t named : List Nat} (h : t.length ≤ 1000000) : m_only_named t named = some (decide (∀ c ∈ t, c ∈ named)) := by
  unfold m_only_named
  rw [chk_eq h]
  congr 1
  rw [Bool.eq_iff_iff, List.all_eq_true, decide_eq_true_eq]
  constructor
  · intro h c hc
    exact of_decide_eq_true (h _ (List.mem_map.mpr ⟨c, hc, rfl⟩))
  · intro h x hx
    obtain ⟨c, hc, rfl⟩ := List.mem_map.mp hx
    exact decide_eq_true (h c hc)
theorem okS_keys {named : List Nat} (h : Sg named) : ∀ k ∈ keysOf named, okS k = true := by
  intro k hk
  rcases List.mem_append.mp hk with hk | hk
  · obtain ⟨c, hc, rfl⟩ := List.mem_map.mp hk
    have key : ∀ c ∈ cSIGNS, okS [c] = true := by decide
    exact key c (h c hc)
  · have key : ∀ k ∈ kinds3, okS k = true := by decide
    exact key k hk
theorem srt_perm {A : Type} (lt : A → A → Bool) (l : List A) : (srt lt l).Perm l := List.mergeSort_perm _ _
theorem srt_ord (l : List (List Nat)) : (srt ltT l).Pairwise fun a b => ¬ b < a := by
  have h : (srt ltT l).Pairwise fun a b => (!ltT b a) = true := by
    unfold srt
    refine List.pairwise_mergeSort (fun a b c h1 h2 => ?_) (fun a b => ?_) l
    · simp only [ltT, Bool.not_eq_true', decide_eq_false_iff_not] at *
      intro h3
      rcases tlt_tri a b with h | h | h
      · exact h2 (tlt_trans h3 h)
      · rw [h] at h3; exact h2 h3
      · exact h1 h
    · simp only [ltT, Bool.or_eq_true, Bool.not_eq_true', decide_eq_false_iff_not]
      rcases tlt_tri a b with h | h | h
      · exact .inl (tlt_asym h)
      · rw [h]; exact .inl (tlt_irr _)
      · exact .inr (tlt_asym h)
  refine h.imp fun {a b} q => ?_
  simp only [ltT, Bool.not_eq_true', decide_eq_false_iff_not] at q
  exact q
theorem srt_uniq {l m : List (List Nat)} (hn : m.Nodup) (hp : l.Perm m) : srt ltT l = srt ltT m := by
  have asc : ∀ k : List (List Nat), k.Nodup → (srt ltT k).Pairwise fun a b => id a < id b := fun k hk => by
    have h2 : (srt ltT k).Pairwise (· ≠ ·) := (srt_perm ltT k).nodup_iff.mpr hk
    refine List.Pairwise.imp₂ (fun a b h1 h2 => ?_) (srt_ord k) h2
    rcases tlt_tri a b with h | h | h
    · exact h
    · exact absurd h h2
    · exact absurd h h1
  exact ord_uniq (key := id) ((srt_perm ltT l).trans (hp.trans (srt_perm ltT m).symm)) (asc l (hp.nodup_iff.mpr hn)) (asc m hn)
theorem okL_srt {named : List Nat} (h : Sg named) : okL okS (srt ltT (keysOf named)) = true := by
  unfold okL
  rw [List.all_eq_true]
  intro k hk
  exact okS_keys h k ((srt_perm ltT (keysOf named)).mem_iff.mp hk)
theorem copy_eq {r : Arc} (hn : (r.map (·.1)).Nodup) (hl : r.length ≤ 1000000) : bd_Machine_init_3 r = some r := by
  unfold bd_Machine_init_3
  rw [chk_eq (by rw [List.length_map]; exact hl)]
  have key : ∀ (done rest : Arc), done ++ rest = r → itf (bd_Machine_init_4 r) (rest.map (fun x => x.1)) done = some r := by
    intro done rest
    induction rest generalizing done with
    | nil => intro e; rw [List.append_nil] at e; rw [e]; rfl
    | cons p rest ih =>
      intro e
      rw [List.map_cons, itf]
      have hm : p ∈ r := by rw [← e]; simp
      have hd : dL r p.1 = some p.2 := dL_nd hn hm
      have hnot : p.1 ∉ done.map (·.1) := by
        rw [← e, List.map_append, List.map_cons] at hn
        have := (List.nodup_append.mp hn).2.2
        exact fun h => this _ h _ List.mem_cons_self rfl
      have : bd_Machine_init_4 r p.1 done = some (done ++ [p]) := by
        unfold bd_Machine_init_4
        rw [hd, chk_eq (show (some p.2).isSome = true from rfl)]
        show some (dP done p.1 p.2) = _
        rw [dP_new hnot]
      rw [this, ob_eq]
      exact ih (done ++ [p]) (by rw [← e]; simp)
  rw [key [] r rfl]
  rfl
theorem join_one : ∀ l : List Nat, TL.joinL (cs "") (l.map (fun c => ([c] : List Nat))) = l := by
  intro l
  rw [cs_nil, joinL_nil]
  induction l with
  | nil => rfl
  | cons a l ih => rw [List.map_cons, List.flatten_cons, ih]; rfl
theorem join_chk {l : List Nat} (h : l.length ≤ 1000000) : ((l.map (fun c => ([c] : List Nat))).map List.length).sum + (l.map (fun c => ([c] : List Nat))).length * (cs "").length ≤ 1000000 := by
  have hj := join1 (P := fun _ => True) (ts := l.map (fun c => ([c] : List Nat))) (fun t ht => by
    obtain ⟨c, _, rfl⟩ := List.mem_map.mp ht
    exact ⟨c, rfl, trivial⟩)
  rw [hj.2.2, List.length_map]
  exact h
theorem in_order_eq (t : List Nat) : m_in_order t = some (cSIGNS.filter fun c => decide (c ∈ t)) := by
  unfold m_in_order
  rw [chk_eq (by decide), chk_eq (join_chk (Nat.le_trans (List.length_filter_le _ _) (by decide))), join_one]
def rowC (r : Arc) : Arc := (srt ltT (r.map (·.1))).map fun k => (k, (dL r k).getD default)
theorem rowC_keys (r : Arc) : (rowC r).map (·.1) = srt ltT (r.map (·.1)) := by
  unfold rowC
  rw [List.map_map]
  exact List.map_id' _
theorem rowC_perm (r : Arc) : ((rowC r).map (·.1)).Perm (r.map (·.1)) := by
  rw [rowC_keys]
  exact srt_perm _ _
theorem rowC_dL {r : Arc} (hn : (r.map (·.1)).Nodup) (k : List Nat) : dL (rowC r) k = dL r k := by
  have hn2 : ((rowC r).map (·.1)).Nodup := (rowC_perm r).nodup_iff.mpr hn
  by_cases hk : k ∈ r.map (·.1)
  · obtain ⟨x, hx, _⟩ := dL_of hk
    rw [hx]
    refine dL_nd hn2 ?_
    have : k ∈ srt ltT (r.map (·.1)) := (srt_perm _ _).mem_iff.mpr hk
    have := List.mem_map_of_mem (f := fun k => (k, (dL r k).getD default)) this
    rw [hx] at this
    exact this
  · rw [dL_none hk, dL_none fun h => hk ((rowC_perm r).mem_iff.mp h)]
theorem rowC_len (r : Arc) : (rowC r).length = r.length := by
  have := (rowC_perm r).length_eq
  rw [List.length_map, List.length_map] at this
  exact this
theorem copy_loop {r : Arc} : ∀ (ks : List (List Nat)) (z : Arc), (z.map (·.1) ++ ks).Nodup → (∀ k ∈ ks, k ∈ r.map (·.1)) → z.length + ks.length ≤ 1000 → itf (bd_copied_2 r) ks z = some (z ++ ks.map fun k => (k, (dL r k).getD default))
  | [], z, _, _, _ => by rw [itf, List.map_nil, List.append_nil]
  | k :: ks, z, hn, hk, hl => by
    rw [List.length_cons] at hl
    obtain ⟨x, hx, _⟩ := dL_of (hk k List.mem_cons_self)
    have hnot : k ∉ z.map (·.1) := fun h => (List.nodup_append.mp hn).2.2 k h k List.mem_cons_self rfl
    have e : bd_copied_2 r k z = some (z ++ [(k, (dL r k).getD default)]) := by
      unfold bd_copied_2
      rw [chk_eq (by rw [hx]; rfl), chk_eq (by omega), dP_new hnot]
    rw [itf, e, ob_eq, copy_loop ks _ (by rw [List.map_append, List.append_assoc]; exact hn) (fun j hj => hk j (List.mem_cons_of_mem _ hj)) (by rw [List.length_append, List.length_singleton]; omega), List.append_assoc]
    rfl
theorem copy_row {r : Arc} (hn : (r.map (·.1)).Nodup) (hl : r.length ≤ 1000) : itf (bd_copied_2 r) (srt ltT (r.map (fun x => x.1))) [] = some (rowC r) := by
  rw [copy_loop _ [] (by rw [List.map_nil, List.nil_append]; exact (srt_perm _ _).nodup_iff.mpr hn) (fun k hk => (srt_perm _ _).mem_iff.mp hk) (by rw [(srt_perm _ _).length_eq, List.length_map, List.length_nil]; omega)]
  rfl
theorem copied_eq {arcs : List Arc} (h : ∀ r ∈ arcs, (r.map (·.1)).Nodup ∧ r.length ≤ 1000) (hl : arcs.length ≤ 1000) : m_copied arcs = some (arcs.map rowC) := by
  have key : ∀ (rs : List Arc) (s : List Arc), (∀ r ∈ rs, (r.map (·.1)).Nodup ∧ r.length ≤ 1000) → s.length + rs.length ≤ 1000 → itf bd_copied_1 rs s = some (s ++ rs.map rowC) := by
    intro rs
    induction rs with
    | nil => intro s _ _; rw [itf, List.map_nil, List.append_nil]
    | cons r rs ih =>
      intro s h hl
      rw [List.length_cons] at hl
      have h1 := h r List.mem_cons_self
      have e : bd_copied_1 r s = some (s ++ [rowC r]) := by
        unfold bd_copied_1
        rw [copy_row h1.1 h1.2, ob_eq, chk_eq (by omega)]
      rw [itf, e, ob_eq, ih _ (fun q hq => h q (List.mem_cons_of_mem _ hq)) (by rw [List.length_append, List.length_singleton]; omega), List.append_assoc]
      rfl
  unfold m_copied
  rw [key arcs [] h (by rw [List.length_nil]; omega), ob_eq, List.nil_append]
theorem dP_keys {m : Arc} {k : List Nat} {x : Int × List Nat} (h : k ∈ m.map (·.1)) : (dP m k x).map (·.1) = m.map (·.1) := by
  unfold dP
  rw [dH_eq, dL_some_mem.mpr h, if_pos rfl, List.map_map]
  refine List.map_congr_left fun p _ => ?_
  show (if p.1 = k then (p.1, x) else p).1 = p.1
  split <;> rfl
theorem okS_sg' {t : List Nat} (h : Sg t) : okS t = true := by
  unfold okS
  rw [List.all_eq_true]
  intro c hc
  exact (by decide : ∀ c ∈ cSIGNS, decide (c < 1114112) = true) c (h c hc)

/-! ### k21: what is due, and what is made -/
def goodV (named : List Nat) (n : Int) (v : Int × List Nat) : Bool := (decide (0 ≤ v.1) && decide (v.1 < n)) && decide (∀ c ∈ v.2, c ∈ named)
def goodN (named : List Nat) (n : Int) (r : Arc) (e : List Nat) : Bool := (decide (srt ltT (r.map (fun x => x.1)) = srt ltT (keysOf named)) && decide (∀ c ∈ e, c ∈ named)) && (r.map (fun x => x.2)).all (goodV named n)
def badN (named : List Nat) (A : List Arc) (E : List (List Nat)) (i : Nat) : Bool := (decide ((A.length : Int) ≤ ((i : Nat) : Int)) || decide ((E.length : Int) ≤ ((i : Nat) : Int))) || !goodN named (A.length : Int) (A.getD i []) (E.getD i [])
def stD (i : Int) : PyData := PyData.tuple [(eS ((cs "state"), i).1), (PyData.int ((cs "state"), i).2)]
def sgD (t : List Nat) : PyData := PyData.tuple [(eS ((cs "signs"), t).1), (eS ((cs "signs"), t).2)]
def mdD (i : Int) : PyData := PyData.tuple [(eS ((cs "made"), i).1), (PyData.int ((cs "made"), i).2)]
def mN (A : List Arc) (E : List (List Nat)) : Int := mx3 1 (A.length : Int) (E.length : Int)
def dueD (named : List Nat) (A : List Arc) (E : List (List Nat)) : PyData := if cSIGNS.filter (fun c => decide (c ∈ named)) = named then (match (List.range (mN A E).toNat).find? (badN named A E) with
  | some k => stD (k : Int)
  | none => mdD (A.length : Int)) else sgD named
/-- words and endings, rows, tables: whatever was done to them -/
def WI (n : Nat) (w : List Nat) : Prop := w.length ≤ n ∧ Sg w
structure RI (a n : Nat) (r : Arc) : Prop where
  nd : (r.map (·.1)).Nodup
  len : r.length ≤ a
  key : ∀ k ∈ r.map (·.1), okS k = true
  word : ∀ p ∈ r, WI n p.2.2
structure TI (n : Nat) (A : List Arc) (E : List (List Nat)) : Prop where
  la : A.length ≤ 4
  le : E.length ≤ 4 + n
  row : ∀ r ∈ A, RI (100 + 3 * n) (2 + n) r
  en : ∀ e ∈ E, WI (2 + n) e
theorem mN_bd {A : List Arc} {E : List (List Nat)} (h1 : A.length ≤ 100) (h2 : E.length ≤ 100) : -(2 ^ 62) ≤ mN A E ∧ mN A E < 2 ^ 62 := by
  unfold mN mx3
  split <;> split <;> omega
theorem find_loop {R : Type} {f : Nat → Unit → Option (Lr Unit R)} {bad : Nat → Bool} {g : Nat → R} (h : ∀ i, f i () = some (if bad i = true then Lr.rt (g i) else Lr.nx ())) : ∀ l : List Nat, itr f l () = some (match l.find? bad with | some k => Lr.rt (g k) | none => Lr.nx ())
  | [] => rfl
  | i :: l => by
    rw [itr, h i, ob_eq, List.find?_cons]
    cases hb : bad i with
    | true => rfl
    | false => exact find_loop h l
section
variable {named : List Nat} {a n : Nat} {r : Arc} {e : List Nat}
theorem RI.okR (h : RI a n r) : (okL okS) (srt ltT (r.map (fun x => x.1))) = true := by
  unfold okL
  rw [List.all_eq_true]
  exact fun k hk => h.key k ((srt_perm ltT _).mem_iff.mp hk)
theorem RI.vals (h : RI a n r) : ∀ v ∈ r.map (fun x => x.2), WI n v.2 := fun v hv => by
  obtain ⟨p, hp, rfl⟩ := List.mem_map.mp hv
  exact h.word p hp
theorem row_loop {sz : Int} {named : List Nat} : ∀ {vs : List (Int × List Nat)}, (∀ v ∈ vs, WI 1000 v.2) → itr (bd_is_row_1 named sz) vs () = some (if vs.all (goodV named sz) = true then Lr.nx () else Lr.rt false)
  | [], _ => rfl
  | v :: vs, h => by
    have hv := h v List.mem_cons_self
    have e : bd_is_row_1 named sz v () = some (if goodV named sz v = true then Lr.nx () else Lr.rt false) := by
      unfold bd_is_row_1 goodV
      cases hb : (decide (0 ≤ v.1) && decide (v.1 < sz)) with
      | false => rfl
      | true =>
        rw [only_named_eq (by have := hv.1; omega)]
        cases decide (∀ c ∈ v.2, c ∈ named) with
        | false => rfl
        | true => rfl
    rw [itr, e, ob_eq, List.all_cons]
    cases goodV named sz v with
    | false => rfl
    | true => exact row_loop fun w hw => h w (List.mem_cons_of_mem _ hw)
theorem is_row_any {sz : Int} (hn : Nam named) (h : RI a n r) (hl : n ≤ 1000) (he : WI n e) : m_is_row r e named sz = some (goodN named sz r e) := by
  have hnl := hn.len
  have hko : named.map (fun c => [c]) ++ [cs "letter", cs "figure", cs "mark"] = keysOf named := rfl
  unfold m_is_row goodN
  rw [chk_eq (by omega), chk_eq (by rw [List.length_map]; show named.length + 3 ≤ 1000000; omega), hko, chk_eq ⟨h.okR, okL_srt hn.sg⟩]
  cases hk : decide (srt ltT (r.map (fun x => x.1)) = srt ltT (keysOf named)) with
  | false => rfl
  | true =>
    rw [only_named_eq (by have := he.1; omega)]
    cases decide (∀ c ∈ e, c ∈ named) with
    | false => rfl
    | true =>
      rw [show (!true) = false from rfl, if_neg (by decide), ob_eq, show (!true) = false from rfl, ob_eq, if_neg (by decide), row_loop fun v hv => ⟨by have := (h.vals v hv).1; omega, (h.vals v hv).2⟩]
      cases (r.map (fun x => x.2)).all (goodV named sz) with
      | false => rfl
      | true => rfl
end
section
variable {named : List Nat} {n : Nat} {A : List Arc} {E : List (List Nat)}
theorem TI.rowAt (h : TI n A E) {i : Nat} (hi : i < A.length) : RI (100 + 3 * n) (2 + n) (A.getD i []) := h.row _ (getD_mem hi)
theorem TI.enAt (h : TI n A E) {i : Nat} (hi : i < E.length) : WI (2 + n) (E.getD i []) := h.en _ (getD_mem hi)
theorem init_turn (hn : Nam named) (hl : n ≤ 10) (h : TI n A E) (i : Nat) : bd_Machine_init_2 named A E i () = some (if badN named A E i = true then Lr.rt (Rs.er ((3, (FV.i ((i : Nat) : Int)), (FV.i 0)) : Er)) else Lr.nx ()) := by
  unfold bd_Machine_init_2 badN
  cases hb : (decide ((A.length : Int) ≤ ((i : Nat) : Int)) || decide ((E.length : Int) ≤ ((i : Nat) : Int))) with
  | true => rfl
  | false =>
    rw [Bool.or_eq_false_iff, decide_eq_false_iff_not, decide_eq_false_iff_not] at hb
    have ha : i < A.length := by omega
    have he : i < E.length := by omega
    rw [if_neg (by decide), chk_eq (inR_nat (by omega)), chk_eq (inR_nat (by omega)), ixP_nat (by omega), ixP_nat (by omega), Int.toNat_natCast, is_row_any hn (h.rowAt ha) (by omega) (h.enAt he), ob_eq, Bool.false_or]
    cases goodN named (A.length : Int) (A.getD i []) (E.getD i []) with
    | false => rfl
    | true => rfl
theorem signs_all {named : List Nat} (h : cSIGNS.filter (fun c => decide (c ∈ named)) = named) : (named.map (fun c => (decide (c ∈ cSIGNS)))).all id = true := by
  rw [List.all_eq_true]
  intro x hx
  obtain ⟨c, hc, rfl⟩ := List.mem_map.mp hx
  rw [← h] at hc
  exact decide_eq_true (List.mem_filter.mp hc).1
theorem made_any (hN : named.length ≤ 100) (hl : n ≤ 10) (h : TI n A E) : m_made named A E = some (dueD named A E) := by
  have hla := h.la
  have hle := h.le
  unfold m_made m_Machine_init dueD
  rw [chk_eq (show named.length ≤ 1000000 by omega), in_order_eq, ob_eq]
  by_cases hn : cSIGNS.filter (fun c => decide (c ∈ named)) = named
  · rw [if_pos hn, signs_all hn, if_neg (by decide), hn, decide_eq_true rfl, ob_eq, if_neg (by decide)]
    rw [show mx3 1 (A.length : Int) (E.length : Int) = mN A E from rfl, chk_eq (mN_bd (by omega) (by omega)), find_loop (init_turn hn hl h), ob_eq]
    cases (List.range (mN A E).toNat).find? (badN named A E) with
    | some k => rfl
    | none =>
      rw [Lr.el_nx, chk_eq (by omega), mpo_map (f := bd_Machine_init_3) (g := fun r => r) (fun r hr => copy_eq (h.row r hr).nd (by have := (h.row r hr).len; omega)), List.map_id']
      rfl
  · rw [if_neg hn, decide_eq_false hn]
    have e : (if (!((named.map (fun ic1 => (decide (ic1 ∈ cSIGNS)))).all id)) = true then (some true) else (some (!false))) = some true := by
      split <;> rfl
    rw [e]
    rfl
/-! what is due -/
theorem due3_loop {i : Nat} {r : Arc} (hi : inR A.length ((i : Nat) : Int)) (er : A.getD (ixP A.length ((i : Nat) : Int)) [] = r) : ∀ (ks : List (List Nat)) (s : List Nat), (∀ k ∈ ks, (dL r k).isSome = true ∧ ((dL r k).getD default).2.length ≤ 1000) → s.length + ks.length * 1000 ≤ 1000000 → itr (bd_due_3 A i) ks s = some (if (ks.all fun k => decide (0 ≤ ((dL r k).getD default).1) && decide (((dL r k).getD default).1 < (A.length : Int))) = true then Lr.nx (s ++ (ks.map fun k => ((dL r k).getD default).2).flatten) else Lr.rt (stD (i : Int)))
  | [], s, _, _ => by
    rw [List.map_nil, List.flatten_nil, List.append_nil]
    rfl
  | k :: ks, s, hk, hl => by
    rw [List.length_cons, Nat.add_mul] at hl
    obtain ⟨h1, h2⟩ := hk k List.mem_cons_self
    have e : bd_due_3 A i k s = some (if (decide (0 ≤ ((dL r k).getD default).1) && decide (((dL r k).getD default).1 < (A.length : Int))) = true then Lr.nx (s ++ ((dL r k).getD default).2) else Lr.rt (stD (i : Int))) := by
      unfold bd_due_3
      rw [er, chk_eq hi, chk_eq h1, chk_eq h1, chk_eq hi, chk_eq (by omega)]
      by_cases z : 0 ≤ ((dL r k).getD default).1
      · rw [if_pos (decide_eq_true z), ob_eq, decide_eq_true z, Bool.true_and]
        cases decide (((dL r k).getD default).1 < (A.length : Int)) with
        | false => rfl
        | true => rfl
      · rw [if_neg (by rw [decide_eq_true_eq]; exact z), ob_eq, decide_eq_false z]
        rfl
    rw [itr, e, List.all_cons]
    cases (decide (0 ≤ ((dL r k).getD default).1) && decide (((dL r k).getD default).1 < (A.length : Int))) with
    | false => rfl
    | true =>
      show itr (bd_due_3 A i) ks (s ++ ((dL r k).getD default).2) = _
      rw [due3_loop hi er ks _ (fun j hj => hk j (List.mem_cons_of_mem _ hj)) (by rw [List.length_append]; omega), Bool.true_and, List.map_cons, List.flatten_cons, List.append_assoc]
theorem due_turn (hn : Nam named) (hl : n ≤ 10) (h : TI n A E) (i : Nat) : bd_due_2 named A E i () = some (if badN named A E i = true then Lr.rt (stD (i : Int)) else Lr.nx ()) := by
  have hnl := hn.len
  unfold bd_due_2 badN
  by_cases hA : (A.length : Int) ≤ ((i : Nat) : Int)
  · rw [decide_eq_true hA]
    rfl
  by_cases hE : (E.length : Int) ≤ ((i : Nat) : Int)
  · rw [decide_eq_false hA, decide_eq_true hE]
    rfl
  have ha : i < A.length := by omega
  have he : i < E.length := by omega
  have hia : inR A.length ((i : Nat) : Int) := inR_nat (by omega)
  have hie : inR E.length ((i : Nat) : Int) := inR_nat (by omega)
  have er : A.getD (ixP A.length ((i : Nat) : Int)) [] = A.getD i [] := by rw [ixP_nat (by omega), Int.toNat_natCast]
  have ee : E.getD (ixP E.length ((i : Nat) : Int)) [] = E.getD i [] := by rw [ixP_nat (by omega), Int.toNat_natCast]
  have hr := h.rowAt ha
  have hw := h.enAt he
  have hko : named.map (fun c => [c]) ++ [cs "letter", cs "figure", cs "mark"] = keysOf named := rfl
  rw [decide_eq_false hA, decide_eq_false hE, if_neg (by decide), if_neg (by decide), chk_eq hia, er, ee, hko, chk_eq ⟨hr.okR, okL_srt hn.sg⟩, chk_eq hie, Bool.or_false, Bool.false_or]
  generalize A.getD i [] = r at er hr ⊢
  generalize E.getD i [] = e at hw ⊢
  unfold goodN
  by_cases hk : srt ltT (r.map (fun x => x.1)) = srt ltT (keysOf named)
  · rw [decide_eq_true hk, show (!true) = false from rfl, ob_eq, if_neg (by decide), Bool.true_and]
    have hm : ∀ k, k ∈ srt ltT (keysOf named) ↔ k ∈ r.map (·.1) := fun k => by rw [← hk]; exact (srt_perm ltT _).mem_iff
    have hget : ∀ k ∈ srt ltT (keysOf named), (dL r k).isSome = true ∧ (k, (dL r k).getD default) ∈ r := fun k hk => by
      obtain ⟨x, e1, e2⟩ := dL_of ((hm k).mp hk)
      rw [e1]
      exact ⟨rfl, e2⟩
    have hkl : (srt ltT (keysOf named)).length ≤ 97 := by
      rw [(srt_perm ltT _).length_eq, keys_len]
      omega
    have hwl := hw.1
    have e3 := due3_loop hia er (srt ltT (keysOf named)) e (fun k hk => ⟨(hget k hk).1, by have := (hr.word _ (hget k hk).2).1; exact Nat.le_trans this (by omega)⟩) (by omega)
    rw [e3, ob_eq]
    have hback : ∀ p ∈ r, p.1 ∈ srt ltT (keysOf named) ∧ (dL r p.1).getD default = p.2 := fun p hp => ⟨(hm p.1).mpr (List.mem_map_of_mem hp), by rw [dL_nd hr.nd hp]; rfl⟩
    by_cases hT : ((srt ltT (keysOf named)).all fun k => decide (0 ≤ ((dL r k).getD default).1) && decide (((dL r k).getD default).1 < (A.length : Int))) = true
    · rw [if_pos hT, Lr.el_nx]
      have hsg : ∀ c ∈ e ++ ((srt ltT (keysOf named)).map fun k => ((dL r k).getD default).2).flatten, c ∈ cSIGNS := by
        intro c hc
        rcases List.mem_append.mp hc with z | z
        · exact hw.2 c z
        · obtain ⟨w, hw1, hw2⟩ := List.mem_flatten.mp z
          obtain ⟨k, hk1, rfl⟩ := List.mem_map.mp hw1
          exact (hr.word _ (hget k hk1).2).2 c hw2
      have hlen : (e ++ ((srt ltT (keysOf named)).map fun k => ((dL r k).getD default).2).flatten).length ≤ 1000000 := by
        have key : ∀ ks : List (List Nat), (∀ k ∈ ks, k ∈ srt ltT (keysOf named)) → ((ks.map fun k => ((dL r k).getD default).2).flatten).length ≤ ks.length * 1000 := by
          intro ks
          induction ks with
          | nil => intro _; exact Nat.le_refl 0
          | cons k ks ih =>
            intro hks
            have h1 := ih fun j hj => hks j (List.mem_cons_of_mem _ hj)
            have h2 := (hr.word _ (hget k (hks k List.mem_cons_self)).2).1
            have h2 : ((dL r k).getD default).2.length ≤ 2 + n := h2
            rw [List.map_cons, List.flatten_cons, List.length_append, List.length_cons, Nat.add_mul]
            omega
        have := key _ fun k hk => hk
        rw [List.length_append]
        omega
      rw [chk_eq hlen]
      have hmemG : (∀ c ∈ e ++ ((srt ltT (keysOf named)).map fun k => ((dL r k).getD default).2).flatten, c ∈ named) ↔ (decide (∀ c ∈ e, c ∈ named) && (r.map (fun x => x.2)).all (goodV named (A.length : Int))) = true := by
        rw [Bool.and_eq_true, decide_eq_true_eq, List.all_eq_true]
        constructor
        · intro z
          refine ⟨fun c hc => z c (List.mem_append_left _ hc), fun v hv => ?_⟩
          obtain ⟨p, hp, rfl⟩ := List.mem_map.mp hv
          obtain ⟨b1, b2⟩ := hback p hp
          have ht := List.all_eq_true.mp hT p.1 b1
          rw [b2] at ht
          unfold goodV
          rw [Bool.and_eq_true]
          refine ⟨ht, decide_eq_true fun c hc => z c (List.mem_append_right _ (List.mem_flatten.mpr ⟨p.2.2, List.mem_map.mpr ⟨p.1, b1, by rw [b2]⟩, hc⟩))⟩
        · intro z c hc
          rcases List.mem_append.mp hc with y | y
          · exact z.1 c y
          · obtain ⟨w, hw1, hw2⟩ := List.mem_flatten.mp y
            obtain ⟨k, hk1, rfl⟩ := List.mem_map.mp hw1
            have := z.2 _ (List.mem_map_of_mem (f := fun x => x.2) (hget k hk1).2)
            unfold goodV at this
            rw [Bool.and_eq_true, decide_eq_true_eq] at this
            exact this.2 c hw2
      generalize e ++ ((srt ltT (keysOf named)).map fun k => ((dL r k).getD default).2).flatten = t at hsg hlen hmemG ⊢
      have hok : (okL okS) ((t.filter (fun ic1 => (!(decide (ic1 ∈ named))))).map (fun ic1 => ([ic1] : List Nat))) = true := by
        unfold okL
        rw [List.all_eq_true]
        intro k hk
        obtain ⟨c, hc, rfl⟩ := List.mem_map.mp hk
        exact okS_sg' fun d hd => by rw [List.mem_singleton.mp hd]; exact hsg c (List.mem_filter.mp hc).1
      rw [chk_eq ⟨hok, rfl⟩]
      by_cases hall : ∀ c ∈ t, c ∈ named
      · rw [hmemG.mp hall]
        have ef : t.filter (fun ic1 => (!(decide (ic1 ∈ named)))) = [] := List.filter_eq_nil_iff.mpr fun c hc => by
          rw [decide_eq_true (hall c hc)]
          decide
        rw [ef]
        rfl
      · have hb : (decide (∀ c ∈ e, c ∈ named) && (r.map (fun x => x.2)).all (goodV named (A.length : Int))) = false := by
          cases q : (decide (∀ c ∈ e, c ∈ named) && (r.map (fun x => x.2)).all (goodV named (A.length : Int))) with
          | false => rfl
          | true => exact absurd (hmemG.mpr q) hall
        rw [hb]
        have ef : decide ((t.filter (fun ic1 => (!(decide (ic1 ∈ named))))).map (fun ic1 => ([ic1] : List Nat)) = ([] : List (List Nat))) = false := by
          refine decide_eq_false fun q => hall fun c hc => ?_
          rw [List.map_eq_nil_iff, List.filter_eq_nil_iff] at q
          have := q c hc
          by_cases y : c ∈ named
          · exact y
          · rw [decide_eq_false y] at this
            exact absurd rfl this
        rw [ef]
        rfl
    · have hb : ((r.map (fun x => x.2)).all (goodV named (A.length : Int))) = false := by
        cases q : ((r.map (fun x => x.2)).all (goodV named (A.length : Int))) with
        | false => rfl
        | true =>
          refine absurd (List.all_eq_true.mpr fun k hk => ?_) hT
          have := List.all_eq_true.mp q _ (List.mem_map_of_mem (f := fun x => x.2) (hget k hk).2)
          unfold goodV at this
          rw [Bool.and_eq_true] at this
          exact this.1
      rw [if_neg hT, hb, Bool.and_false]
      rfl
  · rw [decide_eq_false hk]
    rfl
theorem due_any (hN : named.length ≤ 100) (hl : n ≤ 10) (h : TI n A E) : m_due named A E = some (dueD named A E) := by
  have hla := h.la
  have hle := h.le
  unfold m_due dueD
  rw [law_signs_eq, ob_eq, chk_eq (by decide), chk_eq (join_chk (Nat.le_trans (List.length_filter_le _ _) (by decide))), join_one]
  by_cases hn : cSIGNS.filter (fun c => decide (c ∈ named)) = named
  · rw [if_pos hn, decide_eq_true hn, show (!true) = false from rfl, if_neg (by decide), chk_eq (by omega), chk_eq (by rw [List.length_map]; show named.length + 3 ≤ 1000000; omega)]
    rw [show mx3 1 (A.length : Int) (E.length : Int) = mN A E from rfl, chk_eq (mN_bd (by omega) (by omega)), find_loop (due_turn hn hl h), ob_eq]
    cases (List.range (mN A E).toNat).find? (badN named A E) with
    | some k => rfl
    | none => rfl
  · rw [if_neg hn, decide_eq_false hn]
    rfl
/-! the copies -/
theorem rowC_mem {r : Arc} (hn : (r.map (·.1)).Nodup) (p : List Nat × (Int × List Nat)) : p ∈ rowC r ↔ p ∈ r := by
  unfold rowC
  rw [List.mem_map]
  constructor
  · rintro ⟨k, hk, rfl⟩
    obtain ⟨x, e1, e2⟩ := dL_of ((srt_perm ltT _).mem_iff.mp hk)
    rw [e1]
    exact e2
  · intro hp
    exact ⟨p.1, (srt_perm ltT _).mem_iff.mpr (List.mem_map_of_mem hp), by rw [dL_nd hn hp]; rfl⟩
theorem rowC_ri {a b : Nat} {r : Arc} (h : RI a b r) : RI a b (rowC r) := ⟨(rowC_perm r).nodup_iff.mpr h.nd, by rw [rowC_len]; exact h.len, fun k hk => h.key k ((rowC_perm r).mem_iff.mp hk), fun p hp => h.word p ((rowC_mem h.nd p).mp hp)⟩
theorem TI.copy (h : TI n A E) : TI n (A.map rowC) E := ⟨by rw [List.length_map]; exact h.la, h.le, fun r hr => by
  obtain ⟨q, hq, rfl⟩ := List.mem_map.mp hr
  exact rowC_ri (h.row q hq), h.en⟩
theorem good_copy {a b : Nat} {r : Arc} (h : RI a b r) (sz : Int) (e : List Nat) : goodN named sz (rowC r) e = goodN named sz r e := by
  unfold goodN
  have e1 : srt ltT ((rowC r).map (fun x => x.1)) = srt ltT (r.map (fun x => x.1)) := srt_uniq h.nd (rowC_perm r)
  have e2 : ((rowC r).map (fun x => x.2)).all (goodV named sz) = (r.map (fun x => x.2)).all (goodV named sz) := by
    rw [Bool.eq_iff_iff, List.all_eq_true, List.all_eq_true]
    constructor
    · intro z v hv
      obtain ⟨p, hp, rfl⟩ := List.mem_map.mp hv
      exact z _ (List.mem_map_of_mem (f := fun x => x.2) ((rowC_mem h.nd p).mpr hp))
    · intro z v hv
      obtain ⟨p, hp, rfl⟩ := List.mem_map.mp hv
      exact z _ (List.mem_map_of_mem (f := fun x => x.2) ((rowC_mem h.nd p).mp hp))
  rw [e1, e2]
theorem due_copy (h : TI n A E) : dueD named (A.map rowC) E = dueD named A E := by
  have e : badN named (A.map rowC) E = badN named A E := by
    funext i
    unfold badN
    rw [List.length_map]
    by_cases hi : i < A.length
    · have e1 : (A.map rowC).getD i [] = rowC (A.getD i []) := by
        rw [List.getD, List.getD, List.getElem?_map, List.getElem?_eq_getElem hi]
        rfl
      rw [e1, good_copy (h.rowAt hi)]
    · rw [decide_eq_true (show (A.length : Int) ≤ ((i : Nat) : Int) by omega)]
      rfl
  unfold dueD mN
  rw [e, List.length_map]
theorem due_dok (hN : okS named = true) : Dok (dueD named A E) := by
  unfold dueD
  split
  · split
    · exact dokI (t := cs "state") (by decide)
    · exact dokI (t := cs "made") (by decide)
  · exact dok (R := y2 [] yS yS) (cs "signs", named) (by unfold ok_2; rw [hN]; rfl) (by decide)
end

/-! ### k21: machines that are refused -/
theorem chosen4 {ns : List Int} {b : Box} : Ok (m_chosen ns b) fun t => Nam t.1 ∧ t.1.length ≤ 4 := by
  unfold m_chosen
  refine Ok.bind (Ok.take (Q := fun t => 0 ≤ t.1 ∧ t.1 < 6) (by decide) fun t b' h1 h2 => ⟨h1, h2⟩) fun t ht => ?_
  refine Ok.ite (fun _ => Ok.pure (by rw [cs_nil]; exact ⟨nam_nil, Nat.zero_le _⟩)) (fun _ => ?_)
  refine Ok.bind palette_ok fun p hp => Ok.obe law_signs_eq (Ok.chk (by decide) ?_)
  refine Ok.chk (join_chk (Nat.le_trans (List.length_filter_le _ _) (by decide))) (Ok.pure ?_)
  show Nam (TL.joinL _ _) ∧ (TL.joinL _ _).length ≤ 4
  rw [join_one]
  refine ⟨nam_filter _, ?_⟩
  have := len_le_of_nd (l := cSIGNS.filter (fun c => decide (c ∈ p.1))) (m := p.1) (signs_nd.filter _) fun x hx => of_decide_eq_true (List.mem_filter.mp hx).2
  rw [hp.1] at this
  exact this
theorem strange_len {named : List Nat} (h4 : named.length ≤ 4) : 90 ≤ (cSIGNS.filter (fun c => !(decide (c ∈ named)))).length := by
  have h1 := len_le_of_nd (l := cSIGNS.filter (fun c => decide (c ∈ named))) (m := named) (signs_nd.filter _) fun x hx => of_decide_eq_true (List.mem_filter.mp hx).2
  have h2 : ∀ l : List Nat, (l.filter (fun c => decide (c ∈ named))).length + (l.filter (fun c => !(decide (c ∈ named)))).length = l.length := by
    intro l
    induction l with
    | nil => rfl
    | cons c l ih =>
      rw [List.filter_cons, List.filter_cons]
      by_cases hc : c ∈ named
      · rw [decide_eq_true hc, if_pos rfl, if_neg (by decide), List.length_cons, List.length_cons]
        omega
      · rw [decide_eq_false hc, if_neg (by decide), if_pos (by decide), List.length_cons, List.length_cons]
        omega
  have h3 := h2 cSIGNS
  have h5 : cSIGNS.length = 94 := by decide
  omega
theorem dP_mem {m : Arc} {k : List Nat} {x : Int × List Nat} {p : List Nat × (Int × List Nat)} (h : p ∈ dP m k x) : p = (k, x) ∨ p ∈ m := by
  by_cases hk : k ∈ m.map (·.1)
  · unfold dP at h
    rw [dH_eq, dL_some_mem.mpr hk, if_pos rfl] at h
    obtain ⟨q, hq, rfl⟩ := List.mem_map.mp h
    by_cases e : q.1 = k
    · rw [if_pos e, e]
      exact .inl rfl
    · rw [if_neg e]
      exact .inr hq
  · rw [dP_new hk] at h
    rcases List.mem_append.mp h with z | z
    · exact .inr z
    · exact .inl (List.mem_singleton.mp z)
theorem RI.put {a b : Nat} {m : Arc} (h : RI a b m) {k : List Nat} (hk : okS k = true) {x : Int × List Nat} (hx : WI b x.2) : RI (a + 1) b (dP m k x) := by
  by_cases hm : k ∈ m.map (·.1)
  · have e := dP_keys (x := x) hm
    have el := congrArg List.length e
    rw [List.length_map, List.length_map] at el
    refine ⟨by rw [e]; exact h.nd, by have := h.len; omega, by rw [e]; exact h.key, fun p hp => ?_⟩
    rcases dP_mem hp with rfl | z
    · exact hx
    · exact h.word p z
  · rw [dP_new hm]
    refine ⟨?_, by rw [List.length_append]; have := h.len; show m.length + 1 ≤ a + 1; omega, fun j hj => ?_, fun p hp => ?_⟩
    · rw [List.map_append]
      exact List.nodup_append.mpr ⟨h.nd, by simp, fun y hy z hz => by
        rw [List.map_cons, List.map_nil, List.mem_singleton] at hz
        rw [hz]
        exact fun e => hm (by rw [← show y = k from e]; exact hy)⟩
    · rw [List.map_append] at hj
      rcases List.mem_append.mp hj with z | z
      · exact h.key j z
      · rw [List.map_cons, List.map_nil, List.mem_singleton] at z
        rw [z]
        exact hk
    · rcases List.mem_append.mp hp with z | z
      · exact h.word p z
      · rw [List.mem_singleton.mp z]
        exact hx
theorem WI.mono {a b : Nat} {w : List Nat} (h : WI a w) (hab : a ≤ b) : WI b w := ⟨Nat.le_trans h.1 hab, h.2⟩
theorem RI.mono {a b c d : Nat} {r : Arc} (h : RI a b r) (h1 : a ≤ c) (h2 : b ≤ d) : RI c d r := ⟨h.nd, Nat.le_trans h.len h1, h.key, fun p hp => (h.word p hp).mono h2⟩
theorem WI.nil (n : Nat) : WI n [] := ⟨Nat.zero_le _, fun c hc => by cases hc⟩
theorem WI.add {a b : Nat} {w v : List Nat} (h : WI a w) (k : WI b v) : WI (a + b) (w ++ v) := ⟨by rw [List.length_append]; exact Nat.add_le_add h.1 k.1, fun c hc => by
  rcases List.mem_append.mp hc with z | z
  · exact h.2 c z
  · exact k.2 c z⟩
theorem spoil_ok {ns : List Int} {b : Box} {named : List Nat} {A : List Arc} {E : List (List Nat)} {n : Nat} (h4 : named.length ≤ 4) (hl : n ≤ 5) (h : TI n A E) : Ok (m_spoil ns b named A E) fun s => TI (n + 1) s.2.2 s.2.1 := by
  have hsl := strange_len h4
  have hla := h.la
  have hle := h.le
  unfold m_spoil
  refine Ok.bind (Ok.take (Q := fun t => 0 ≤ t.1 ∧ t.1 < 8) (by decide) fun t b' h1 h2 => ⟨h1, h2⟩) fun t1 h1 => ?_
  refine Ok.bind (Ok.take (Q := fun t => 0 ≤ t.1 ∧ t.1 < 5) (by decide) fun t b' h1 h2 => ⟨h1, h2⟩) fun t2 h2 => ?_
  refine Ok.obe law_signs_eq (Ok.chk (by decide) (Ok.bind (Ok.take (Q := fun t => 0 ≤ t.1 ∧ t.1 < 90) (by decide) fun t b' h1 h2 => ⟨h1, h2⟩) fun t3 h3 => ?_))
  have hin : inR ((cSIGNS.filter (fun ic0 => (!(decide (ic0 ∈ named))))).map (fun ic0 => ([ic0] : List Nat))).length t3.1 := inR_nat ⟨h3.1, by rw [List.length_map]; omega⟩
  have hst : ∃ c, ((cSIGNS.filter (fun ic0 => (!(decide (ic0 ∈ named))))).map (fun ic0 => ([ic0] : List Nat))).getD (ixP ((cSIGNS.filter (fun ic0 => (!(decide (ic0 ∈ named))))).map (fun ic0 => ([ic0] : List Nat))).length t3.1) ([] : List Nat) = [c] ∧ c ∈ cSIGNS := by
    rw [ixP_nat h3.1]
    have := getD_mem (l := (cSIGNS.filter (fun ic0 => (!(decide (ic0 ∈ named))))).map (fun ic0 => ([ic0] : List Nat))) (n := t3.1.toNat) (d := []) (by rw [List.length_map]; omega)
    obtain ⟨c, hc, e⟩ := List.mem_map.mp this
    exact ⟨c, e.symm, (List.mem_filter.mp hc).1⟩
  refine Ok.chk hin ?_
  generalize ((cSIGNS.filter (fun ic0 => (!(decide (ic0 ∈ named))))).map (fun ic0 => ([ic0] : List Nat))).getD (ixP ((cSIGNS.filter (fun ic0 => (!(decide (ic0 ∈ named))))).map (fun ic0 => ([ic0] : List Nat))).length t3.1) ([] : List Nat) = st at hst ⊢
  obtain ⟨c, rfl, hc⟩ := hst
  have hc1 : WI 1 [c] := ⟨Nat.le_refl _, fun d hd => by rw [List.mem_singleton.mp hd]; exact hc⟩
  have hokc : okS [c] = true := okS_sg' hc1.2
  refine Ok.bind (P := fun e => e.length ≤ 4 + n ∧ ∀ w ∈ e, WI (2 + n) w) (Ok.ite (fun _ => Ok.chk h2.1 (Ok.pure ⟨by rw [List.length_take]; omega, fun w hw => h.en w (List.mem_of_mem_take hw)⟩)) (fun _ => Ok.pure ⟨hle, h.en⟩)) fun e5 h5 => ?_
  refine Ok.bind (P := fun e => e.length ≤ 4 + (n + 1) ∧ ∀ w ∈ e, WI (2 + n) w) (Ok.ite (fun _ => Ok.chk (by omega) (Ok.pure ⟨by rw [List.length_append]; show e5.length + 1 ≤ _; omega, fun w hw => ?_⟩)) (fun _ => Ok.pure ⟨by omega, h5.2⟩)) fun e6 h6 => ?_
  · rcases List.mem_append.mp hw with z | z
    · exact h5.2 w z
    · rw [List.mem_singleton.mp z, cs_nil]
      exact WI.nil _
  refine Ok.bind (P := fun e => e.length ≤ 4 + (n + 1) ∧ ∀ w ∈ e, WI (2 + (n + 1)) w) (Ok.ite (fun hb => ?_) (fun _ => Ok.pure ⟨h6.1, fun w hw => (h6.2 w hw).mono (by omega)⟩)) fun e7 h7 => ?_
  · rw [Bool.and_eq_true, decide_eq_true_eq, decide_eq_true_eq] at hb
    have hi : inR e6.length t2.1 := inR_nat ⟨h2.1, hb.2⟩
    have hg := h6.2 _ (getD_mem (l := e6) (n := ixP e6.length t2.1) (d := []) (by rw [ixP_nat h2.1]; omega))
    refine Ok.chk hi (Ok.chk (by have := hg.1; show _ + 1 ≤ _; omega) (Ok.chk hi (Ok.pure ⟨by rw [List.length_set]; exact h6.1, fun w hw => ?_⟩)))
    rcases List.mem_or_eq_of_mem_set hw with z | z
    · exact (h6.2 w z).mono (by omega)
    · rw [z]
      exact hg.add hc1
  refine Ok.ite (fun hb => ?_) (fun _ => Ok.pure ⟨hla, h7.1, fun r hr => (h.row r hr).mono (by omega) (by omega), h7.2⟩)
  rw [Bool.and_eq_true, decide_eq_true_eq, decide_eq_true_eq] at hb
  have hia : inR A.length t2.1 := inR_nat ⟨h2.1, hb.2⟩
  have hr : RI (100 + 3 * n) (2 + n) (A.getD (ixP A.length t2.1) []) := h.row _ (getD_mem (by rw [ixP_nat h2.1]; omega))
  generalize A.getD (ixP A.length t2.1) [] = r at hr ⊢
  have hrl := hr.len
  refine Ok.chk hia ?_
  refine Ok.bind (P := fun k => okS k.1 = true) (Ok.chk ⟨hr.okR, rfl⟩ (Ok.ite (fun hb => ?_) (fun _ => Ok.pure (by show okS (cs "mark") = true; decide)))) fun t8 h8 => ?_
  · have hpos : 0 < (srt ltT (r.map (fun x => x.1))).length := by
      cases hs : srt ltT (r.map (fun x => x.1)) with
      | nil => rw [hs] at hb; exact absurd hb (by decide)
      | cons x l => exact Nat.succ_pos _
    have hsl : (srt ltT (r.map (fun x => x.1))).length = r.length := by rw [(srt_perm ltT _).length_eq, List.length_map]
    refine Ok.bind (Ok.take (Q := fun t => 0 ≤ t.1 ∧ t.1 < ((srt ltT (r.map (fun x => x.1))).length : Int)) (by omega) fun t b' h1 h2 => ⟨h1, h2⟩) fun t9 h9 => ?_
    refine Ok.chk (inR_nat h9) (Ok.pure ?_)
    refine hr.key _ ((srt_perm ltT _).mem_iff.mp (getD_mem ?_))
    rw [ixP_nat h9.1]
    omega
  have hword : WI (2 + n) ((dL r t8.1).getD (0, cs "")).2 := by
    by_cases hk : t8.1 ∈ r.map (·.1)
    · obtain ⟨x, e1, e2⟩ := dL_of hk
      rw [e1]
      exact hr.word _ e2
    · rw [dL_none hk, cs_nil]
      exact WI.nil _
  refine Ok.bind (P := fun z => RI (100 + 3 * n) (2 + n) z) (Ok.ite (fun _ => Ok.pure ⟨List.nodup_nil, Nat.zero_le _, fun k hk => (by cases hk), fun p hp => (by cases hp)⟩) (fun _ => Ok.pure hr)) fun r10 h10 => ?_
  have hl10 := h10.len
  refine Ok.bind (P := fun z => RI (101 + 3 * n) (2 + n) z.1) (Ok.ite (fun _ => ?_) (fun _ => Ok.pure (h10.mono (by omega) (by omega)))) fun t11 h11 => ?_
  · refine Ok.bind (Ok.take (Q := fun t => 0 ≤ t.1 ∧ t.1 < 3) (by decide) fun t b' h1 h2 => ⟨h1, h2⟩) fun t12 h12 => ?_
    have hk : okS (([[c], (cs "none"), (cs "")] : List (List Nat)).getD (ixP ([[c], (cs "none"), (cs "")] : List (List Nat)).length t12.1) []) = true := by
      have hm := getD_mem (l := ([[c], (cs "none"), (cs "")] : List (List Nat))) (n := ixP ([[c], (cs "none"), (cs "")] : List (List Nat)).length t12.1) (d := []) (by rw [ixP_nat h12.1]; show t12.1.toNat < 3; omega)
      generalize ([[c], (cs "none"), (cs "")] : List (List Nat)).getD (ixP ([[c], (cs "none"), (cs "")] : List (List Nat)).length t12.1) [] = k at hm ⊢
      simp only [List.mem_cons, List.not_mem_nil, or_false] at hm
      rcases hm with rfl | rfl | rfl
      · exact hokc
      · decide
      · decide
    refine Ok.chk (inR_nat ⟨h12.1, by show t12.1 < 3; omega⟩) (Ok.chk (by omega) (Ok.obe rfl (Ok.pure ?_)))
    refine (h10.put hk (x := (0, cs "")) ?_).mono (by omega) (by omega)
    rw [cs_nil]
    exact WI.nil _
  have hl11 := h11.len
  refine Ok.bind (P := fun z => RI (102 + 3 * n) (2 + n) z.1) (Ok.ite (fun _ => ?_) (fun _ => Ok.pure (h11.mono (by omega) (by omega)))) fun t14 h14 => ?_
  · refine Ok.bind (Ok.take (Q := fun t => 0 ≤ t.1 ∧ t.1 < 4) (by decide) fun t b' h1 h2 => ⟨h1, h2⟩) fun t15 h15 => ?_
    exact Ok.chk (inR_nat ⟨h15.1, by show t15.1 < 4; omega⟩) (Ok.chk (by omega) (Ok.pure (by
      have := h11.put h8 (x := ((([(-1 : Int), (A.length : Int), (10 ^ 9), (-(A.length : Int) : Int)] : List Int).getD (ixP ([(-1 : Int), (A.length : Int), (10 ^ 9), (-(A.length : Int) : Int)] : List Int).length t15.1) (0 : Int)), ((dL r t8.1).getD (0, cs "")).2)) hword
      exact this.mono (by omega) (by omega))))
  have hl14 := h14.len
  refine Ok.bind (P := fun z => RI (103 + 3 * n) (2 + (n + 1)) z) (Ok.ite (fun _ => ?_) (fun _ => Ok.pure (h14.mono (by omega) (by omega)))) fun r16 h16 => ?_
  · have hw2 : WI (2 + (n + 1)) ([c] ++ ((dL r t8.1).getD (0, cs "")).2) := (hc1.add hword).mono (by omega)
    exact Ok.chk (by have := hw2.1; rw [List.length_append] at this; omega) (Ok.chk (by omega) (Ok.pure (((h14.mono (Nat.le_refl _) (by omega)).put h8 hw2).mono (by omega) (by omega))))
  have hset : ∀ q ∈ A.set (ixP A.length t2.1) r16, RI (100 + 3 * (n + 1)) (2 + (n + 1)) q := fun q hq => by
    rcases List.mem_or_eq_of_mem_set hq with z | z
    · exact (h.row q z).mono (by omega) (by omega)
    · rw [z]
      exact h16.mono (by omega) (by omega)
  refine Ok.ite (fun _ => Ok.chk h2.1 (Ok.pure ⟨?_, h7.1, fun q hq => hset q (List.mem_of_mem_take hq), h7.2⟩)) (fun _ => Ok.pure ⟨?_, h7.1, hset, h7.2⟩)
  · show ((A.set (ixP A.length t2.1) r16).take t2.1.toNat).length ≤ 4
    rw [List.length_take, List.length_set]
    omega
  · show (A.set (ixP A.length t2.1) r16).length ≤ 4
    rw [List.length_set]
    exact hla
theorem tab_ti {named : List Nat} {n : Nat} {A : List Arc} {E : List (List Nat)} (hn : Nam named) (h4 : named.length ≤ 4) (hc : n ≤ 4) (h : TabOk named 2 n A E) : TI 0 A E := by
  have hw : ∀ w, Wr named 2 w → WI (2 + 0) w := fun w hw => ⟨hw.2, fun c hc => hn.sg c (hw.1 c hc)⟩
  refine ⟨by rw [h.la]; exact hc, by rw [h.le]; omega, fun r hr => ?_, fun e he => hw e (h.en e he)⟩
  have ha := h.row r hr
  have hl := ha.keys.length_eq
  rw [List.length_map, keys_len] at hl
  exact ⟨ha.keys.nodup_iff.mpr (keys_nd hn), by omega, fun k hk => okS_keys hn.sg k (ha.keys.mem_iff.mp hk), fun p hp => hw _ (ha.arc p hp).2.2⟩
theorem tab_due {named : List Nat} {n : Nat} {A : List Arc} {E : List (List Nat)} (hn : Nam named) (hp : 0 < n) (h : TabOk named 2 n A E) : dueD named A E = mdD (A.length : Int) := by
  unfold dueD
  rw [if_pos (show cSIGNS.filter (fun c => decide (c ∈ named)) = named from hn)]
  have e : (List.range (mN A E).toNat).find? (badN named A E) = none := by
    rw [List.find?_eq_none]
    intro i hi
    have hi := List.mem_range.mp hi
    have hla := h.la
    have hle := h.le
    have hm : (mN A E).toNat = n := by
      unfold mN mx3
      rw [hla, hle]
      split
      · split <;> omega
      · omega
    rw [hm] at hi
    have ha := h.row _ (getD_mem (l := A) (n := i) (d := []) (by omega))
    have he := h.en _ (getD_mem (l := E) (n := i) (d := []) (by omega))
    unfold badN goodN
    rw [decide_eq_false (by omega), decide_eq_false (by omega), decide_eq_true (srt_uniq (keys_nd hn) ha.keys), decide_eq_true he.1]
    have : (((A.getD i []).map (fun x => x.2)).all (goodV named (A.length : Int))) = true := by
      rw [List.all_eq_true]
      intro v hv
      obtain ⟨p, hp, rfl⟩ := List.mem_map.mp hv
      have := ha.arc p hp
      unfold goodV
      rw [decide_eq_true this.1, decide_eq_true (show p.2.1 < (A.length : Int) by rw [hla]; exact this.2.1), decide_eq_true this.2.2.1]
      rfl
    rw [this]
    decide
  rw [e]
theorem law_true (ns : List Int) (h : ns.length ≤ 63) : m_law (absL ns) = some true := by
  refine Ok.eq ?_
  unfold m_law
  refine Ok.bind chosen4 fun t1 hn => ?_
  obtain ⟨hn, hn4⟩ := hn
  refine Ok.bind (Ok.take (Q := fun t => 0 ≤ t.1 ∧ t.1 < 4) (by decide) fun t b' h1 h2 => ⟨h1, h2⟩) fun t2 h2 => ?_
  obtain ⟨n, en⟩ : ∃ n : Nat, 1 + t2.1 = (n : Int) := ⟨(1 + t2.1).toNat, by omega⟩
  rw [en]
  refine Ok.bind (table_ok hn (by omega)) fun t3 ht => ?_
  have hT := tab_ti hn hn4 (by omega) ht
  have hcopy : ∀ {k : Nat} {A : List Arc} {E : List (List Nat)}, k ≤ 10 → TI k A E → m_copied A = some (A.map rowC) := fun hk hA => copied_eq (fun r hr => ⟨(hA.row r hr).nd, by have := (hA.row r hr).len; omega⟩) (by have := hA.la; omega)
  rw [hcopy (by decide) hT, ob_eq, made_any (by omega) (by decide) hT.copy, ob_eq, due_copy hT, tab_due hn (by omega) ht]
  have hd : Dok (mdD (t3.1.1.length : Int)) := dokI (t := cs "made") (by decide)
  refine Ok.chk ⟨hd.1, hd.1⟩ (Ok.no (b := !(PyData.eqv (mdD (t3.1.1.length : Int)) (mdD (t3.1.1.length : Int)))) (by rw [hd.2]; rfl) ?_)
  refine Ok.bind (Ok.take (Q := fun t => 0 ≤ t.1 ∧ t.1 < 3) (by decide) fun t b' h1 h2 => ⟨h1, h2⟩) fun t6 h6 => Ok.chk (by omega) ?_
  refine Ok.bind (P := fun s => TI 2 s.2.2 s.2.1) ?_ fun s hs => ?_
  · refine Ok.itf (fun i s => TI i s.2.2 s.2.1) 0 hT (fun j x s hx hI => ?_) (fun s hI => ?_)
    · have hj : j < 2 := by
        have := (List.getElem?_eq_some_iff.mp hx).1
        rw [List.length_range] at this
        omega
      unfold bd_law_1
      exact Ok.bind (spoil_ok hn4 (by omega) hI) fun t8 h8 => Ok.pure h8
    · rw [List.length_range, Nat.zero_add] at hI
      have hk : t6.1.toNat ≤ 2 := by omega
      exact ⟨hI.la, by have := hI.le; omega, fun r hr => (hI.row r hr).mono (by omega) (by omega), fun e he => (hI.en e he).mono (by omega)⟩
  refine Ok.bind (P := fun t => okS t.1 = true ∧ t.1.length ≤ 5) ?_ fun t9 h9 => ?_
  · refine Ok.bind (Ok.take (Q := fun t => 0 ≤ t.1 ∧ t.1 < 6) (by decide) fun t b' h1 h2 => ⟨h1, h2⟩) fun t10 h10 => ?_
    have hok := okS_sg' hn.sg
    have hadd : ∀ c, c < 1114112 → okS (t1.1 ++ [c]) = true ∧ (t1.1 ++ [c]).length ≤ 5 := fun c hc => ⟨by
      unfold okS at hok ⊢
      rw [List.all_append, hok]
      show (true && (decide (c < 1114112) && true)) = true
      rw [decide_eq_true hc]
      rfl, by rw [List.length_append]; show _ + 1 ≤ 5; omega⟩
    refine Ok.ite (fun _ => ?_) (fun _ => Ok.pure ⟨hok, Nat.le_trans hn4 (by decide)⟩)
    refine Ok.chk (by show _ + 1 ≤ _; omega) (Ok.chk (by show _ + 1 ≤ _; omega) (Ok.bind (Ok.take (Q := fun t => 0 ≤ t.1 ∧ t.1 < 4) (by decide) fun t b' h1 h2 => ⟨h1, h2⟩) fun t11 h11 => Ok.chk (inR_nat ⟨h11.1, by show t11.1 < 4; omega⟩) (Ok.pure ?_)))
    have hm := getD_mem (l := ([(cs "ba"), (cs "aa"), (t1.1 ++ ([10] : List Nat)), (t1.1 ++ ([32] : List Nat))] : List (List Nat))) (n := ixP ([(cs "ba"), (cs "aa"), (t1.1 ++ ([10] : List Nat)), (t1.1 ++ ([32] : List Nat))] : List (List Nat)).length t11.1) (d := []) (by rw [ixP_nat h11.1]; show t11.1.toNat < 4; omega)
    show okS (([(cs "ba"), (cs "aa"), (t1.1 ++ ([10] : List Nat)), (t1.1 ++ ([32] : List Nat))] : List (List Nat)).getD (ixP ([(cs "ba"), (cs "aa"), (t1.1 ++ ([10] : List Nat)), (t1.1 ++ ([32] : List Nat))] : List (List Nat)).length t11.1) []) = true ∧ (([(cs "ba"), (cs "aa"), (t1.1 ++ ([10] : List Nat)), (t1.1 ++ ([32] : List Nat))] : List (List Nat)).getD (ixP ([(cs "ba"), (cs "aa"), (t1.1 ++ ([10] : List Nat)), (t1.1 ++ ([32] : List Nat))] : List (List Nat)).length t11.1) []).length ≤ 5
    generalize ([(cs "ba"), (cs "aa"), (t1.1 ++ ([10] : List Nat)), (t1.1 ++ ([32] : List Nat))] : List (List Nat)).getD (ixP ([(cs "ba"), (cs "aa"), (t1.1 ++ ([10] : List Nat)), (t1.1 ++ ([32] : List Nat))] : List (List Nat)).length t11.1) [] = k at hm ⊢
    simp only [List.mem_cons, List.not_mem_nil, or_false] at hm
    rcases hm with rfl | rfl | rfl | rfl
    · decide
    · decide
    · exact hadd 10 (by decide)
    · exact hadd 32 (by decide)
  rw [due_any (by omega) (by decide) hs, ob_eq, hcopy (by decide) hs, ob_eq, made_any (by omega) (by decide) hs.copy, ob_eq, due_copy hs]
  have hd := due_dok (A := s.2.2) (E := s.2.1) h9.1
  exact Ok.chk ⟨hd.1, hd.1⟩ (Ok.pure hd.2)

theorem all_mk {l : PySem.W.OpenLaw} {w : World} {K : PySem.W.Frag} {h : Heap} {mg : Str → Option Value} {fa : Addr} (X : K.In h) (Gh : h.Ns mainGlobals mg) (hfa : mg "law" = some (.ref fa))
    {f_take : Addr} {od_take an_take : Option Addr} {sl_take : Array (Option Value)} {oc_take kV_take dc_take pm_take cd_take ct_take : Value}
    (a_take : PySem.W.nsIn K mainGlobals "_law_take" = some (some (.ref f_take)))
    (l_take : K.lookup f_take = some ⟨oc_take, od_take, .func (PySem.W.fnOf "_law_take" "_law_take" (defArgs s_take) (defBody s_take) (defScope s_take) .none kV_take dc_take pm_take an_take cd_take ct_take), sl_take⟩) (c_take : PySem.W.codeIn K cd_take "_law_take" = true) (k_take : PySem.W.keepIn K (.ref f_take) = true)
    {f_box : Addr} {od_box an_box : Option Addr} {sl_box : Array (Option Value)} {oc_box kV_box dc_box pm_box cd_box ct_box : Value}
    (a_box : PySem.W.nsIn K mainGlobals "_law_box" = some (some (.ref f_box)))
    (l_box : K.lookup f_box = some ⟨oc_box, od_box, .func (PySem.W.fnOf "_law_box" "_law_box" (defArgs s_box) (defBody s_box) (defScope s_box) .none kV_box dc_box pm_box an_box cd_box ct_box), sl_box⟩) (c_box : PySem.W.codeIn K cd_box "_law_box" = true) (k_box : PySem.W.keepIn K (.ref f_box) = true)
    {f_law_signs : Addr} {od_law_signs an_law_signs : Option Addr} {sl_law_signs : Array (Option Value)} {oc_law_signs kV_law_signs dc_law_signs pm_law_signs cd_law_signs ct_law_signs : Value}
    (a_law_signs : PySem.W.nsIn K mainGlobals "_law_signs" = some (some (.ref f_law_signs)))
    (l_law_signs : K.lookup f_law_signs = some ⟨oc_law_signs, od_law_signs, .func (PySem.W.fnOf "_law_signs" "_law_signs" (defArgs s_law_signs) (defBody s_law_signs) (defScope s_law_signs) .none kV_law_signs dc_law_signs pm_law_signs an_law_signs cd_law_signs ct_law_signs), sl_law_signs⟩) (c_law_signs : PySem.W.codeIn K cd_law_signs "_law_signs" = true) (k_law_signs : PySem.W.keepIn K (.ref f_law_signs) = true)
    {f_sign : Addr} {od_sign an_sign : Option Addr} {sl_sign : Array (Option Value)} {oc_sign kV_sign dc_sign pm_sign cd_sign ct_sign : Value}
    (a_sign : PySem.W.nsIn K mainGlobals "_law_sign" = some (some (.ref f_sign)))
    (l_sign : K.lookup f_sign = some ⟨oc_sign, od_sign, .func (PySem.W.fnOf "_law_sign" "_law_sign" (defArgs s_sign) (defBody s_sign) (defScope s_sign) .none kV_sign dc_sign pm_sign an_sign cd_sign ct_sign), sl_sign⟩) (c_sign : PySem.W.codeIn K cd_sign "_law_sign" = true) (k_sign : PySem.W.keepIn K (.ref f_sign) = true)
    {f_palette : Addr} {od_palette an_palette : Option Addr} {sl_palette : Array (Option Value)} {oc_palette kV_palette dc_palette pm_palette cd_palette ct_palette : Value}
    (a_palette : PySem.W.nsIn K mainGlobals "_law_palette" = some (some (.ref f_palette)))
    (l_palette : K.lookup f_palette = some ⟨oc_palette, od_palette, .func (PySem.W.fnOf "_law_palette" "_law_palette" (defArgs s_palette) (defBody s_palette) (defScope s_palette) .none kV_palette dc_palette pm_palette an_palette cd_palette ct_palette), sl_palette⟩) (c_palette : PySem.W.codeIn K cd_palette "_law_palette" = true) (k_palette : PySem.W.keepIn K (.ref f_palette) = true)
    {f_chosen : Addr} {od_chosen an_chosen : Option Addr} {sl_chosen : Array (Option Value)} {oc_chosen kV_chosen dc_chosen pm_chosen cd_chosen ct_chosen : Value}
    (a_chosen : PySem.W.nsIn K mainGlobals "_law_chosen" = some (some (.ref f_chosen)))
    (l_chosen : K.lookup f_chosen = some ⟨oc_chosen, od_chosen, .func (PySem.W.fnOf "_law_chosen" "_law_chosen" (defArgs s_chosen) (defBody s_chosen) (defScope s_chosen) .none kV_chosen dc_chosen pm_chosen an_chosen cd_chosen ct_chosen), sl_chosen⟩) (c_chosen : PySem.W.codeIn K cd_chosen "_law_chosen" = true) (k_chosen : PySem.W.keepIn K (.ref f_chosen) = true)
    {f_word : Addr} {od_word an_word : Option Addr} {sl_word : Array (Option Value)} {oc_word kV_word dc_word pm_word cd_word ct_word : Value}
    (a_word : PySem.W.nsIn K mainGlobals "_law_word" = some (some (.ref f_word)))
    (l_word : K.lookup f_word = some ⟨oc_word, od_word, .func (PySem.W.fnOf "_law_word" "_law_word" (defArgs s_word) (defBody s_word) (defScope s_word) .none kV_word dc_word pm_word an_word cd_word ct_word), sl_word⟩) (c_word : PySem.W.codeIn K cd_word "_law_word" = true) (k_word : PySem.W.keepIn K (.ref f_word) = true)
    {f_table : Addr} {od_table an_table : Option Addr} {sl_table : Array (Option Value)} {oc_table kV_table dc_table pm_table cd_table ct_table : Value}
    (a_table : PySem.W.nsIn K mainGlobals "_law_table" = some (some (.ref f_table)))
    (l_table : K.lookup f_table = some ⟨oc_table, od_table, .func (PySem.W.fnOf "_law_table" "_law_table" (defArgs s_table) (defBody s_table) (defScope s_table) .none kV_table dc_table pm_table an_table cd_table ct_table), sl_table⟩) (c_table : PySem.W.codeIn K cd_table "_law_table" = true) (k_table : PySem.W.keepIn K (.ref f_table) = true)
    {f_copied : Addr} {od_copied an_copied : Option Addr} {sl_copied : Array (Option Value)} {oc_copied kV_copied dc_copied pm_copied cd_copied ct_copied : Value}
    (a_copied : PySem.W.nsIn K mainGlobals "_law_copied" = some (some (.ref f_copied)))
    (l_copied : K.lookup f_copied = some ⟨oc_copied, od_copied, .func (PySem.W.fnOf "_law_copied" "_law_copied" (defArgs s_copied) (defBody s_copied) (defScope s_copied) .none kV_copied dc_copied pm_copied an_copied cd_copied ct_copied), sl_copied⟩) (c_copied : PySem.W.codeIn K cd_copied "_law_copied" = true) (k_copied : PySem.W.keepIn K (.ref f_copied) = true)
    {f_in_order : Addr} {od_in_order an_in_order : Option Addr} {sl_in_order : Array (Option Value)} {oc_in_order kV_in_order dc_in_order pm_in_order cd_in_order ct_in_order : Value}
    (a_in_order : PySem.W.nsIn K mainGlobals "in_order" = some (some (.ref f_in_order)))
    (l_in_order : K.lookup f_in_order = some ⟨oc_in_order, od_in_order, .func (PySem.W.fnOf "in_order" "in_order" (defArgs s_in_order) (defBody s_in_order) (defScope s_in_order) .none kV_in_order dc_in_order pm_in_order an_in_order cd_in_order ct_in_order), sl_in_order⟩) (c_in_order : PySem.W.codeIn K cd_in_order "in_order" = true) (k_in_order : PySem.W.keepIn K (.ref f_in_order) = true)
    {f_only_named : Addr} {od_only_named an_only_named : Option Addr} {sl_only_named : Array (Option Value)} {oc_only_named kV_only_named dc_only_named pm_only_named cd_only_named ct_only_named : Value}
    (a_only_named : PySem.W.nsIn K mainGlobals "only_named" = some (some (.ref f_only_named)))
    (l_only_named : K.lookup f_only_named = some ⟨oc_only_named, od_only_named, .func (PySem.W.fnOf "only_named" "only_named" (defArgs s_only_named) (defBody s_only_named) (defScope s_only_named) .none kV_only_named dc_only_named pm_only_named an_only_named cd_only_named ct_only_named), sl_only_named⟩) (c_only_named : PySem.W.codeIn K cd_only_named "only_named" = true) (k_only_named : PySem.W.keepIn K (.ref f_only_named) = true)
    {f_is_row : Addr} {od_is_row an_is_row : Option Addr} {sl_is_row : Array (Option Value)} {oc_is_row kV_is_row dc_is_row pm_is_row cd_is_row ct_is_row : Value}
    (a_is_row : PySem.W.nsIn K mainGlobals "is_row" = some (some (.ref f_is_row)))
    (l_is_row : K.lookup f_is_row = some ⟨oc_is_row, od_is_row, .func (PySem.W.fnOf "is_row" "is_row" (defArgs s_is_row) (defBody s_is_row) (defScope s_is_row) .none kV_is_row dc_is_row pm_is_row an_is_row cd_is_row ct_is_row), sl_is_row⟩) (c_is_row : PySem.W.codeIn K cd_is_row "is_row" = true) (k_is_row : PySem.W.keepIn K (.ref f_is_row) = true)
    {f_made : Addr} {od_made an_made : Option Addr} {sl_made : Array (Option Value)} {oc_made kV_made dc_made pm_made cd_made ct_made : Value}
    (a_made : PySem.W.nsIn K mainGlobals "_law_made" = some (some (.ref f_made)))
    (l_made : K.lookup f_made = some ⟨oc_made, od_made, .func (PySem.W.fnOf "_law_made" "_law_made" (defArgs s_made) (defBody s_made) (defScope s_made) .none kV_made dc_made pm_made an_made cd_made ct_made), sl_made⟩) (c_made : PySem.W.codeIn K cd_made "_law_made" = true) (k_made : PySem.W.keepIn K (.ref f_made) = true)
    {f_spoil : Addr} {od_spoil an_spoil : Option Addr} {sl_spoil : Array (Option Value)} {oc_spoil kV_spoil dc_spoil pm_spoil cd_spoil ct_spoil : Value}
    (a_spoil : PySem.W.nsIn K mainGlobals "_law_spoil" = some (some (.ref f_spoil)))
    (l_spoil : K.lookup f_spoil = some ⟨oc_spoil, od_spoil, .func (PySem.W.fnOf "_law_spoil" "_law_spoil" (defArgs s_spoil) (defBody s_spoil) (defScope s_spoil) .none kV_spoil dc_spoil pm_spoil an_spoil cd_spoil ct_spoil), sl_spoil⟩) (c_spoil : PySem.W.codeIn K cd_spoil "_law_spoil" = true) (k_spoil : PySem.W.keepIn K (.ref f_spoil) = true)
    {f_due : Addr} {od_due an_due : Option Addr} {sl_due : Array (Option Value)} {oc_due kV_due dc_due pm_due cd_due ct_due : Value}
    (a_due : PySem.W.nsIn K mainGlobals "_law_due" = some (some (.ref f_due)))
    (l_due : K.lookup f_due = some ⟨oc_due, od_due, .func (PySem.W.fnOf "_law_due" "_law_due" (defArgs s_due) (defBody s_due) (defScope s_due) .none kV_due dc_due pm_due an_due cd_due ct_due), sl_due⟩) (c_due : PySem.W.codeIn K cd_due "_law_due" = true) (k_due : PySem.W.keepIn K (.ref f_due) = true)
    {f_law : Addr} {od_law an_law : Option Addr} {sl_law : Array (Option Value)} {oc_law kV_law dc_law pm_law cd_law ct_law : Value}
    (a_law : PySem.W.nsIn K mainGlobals "law" = some (some (.ref f_law)))
    (l_law : K.lookup f_law = some ⟨oc_law, od_law, .func (PySem.W.fnOf "law" "law" (defArgs s_law) (defBody s_law) (defScope s_law) .none kV_law dc_law pm_law an_law cd_law ct_law), sl_law⟩) (c_law : PySem.W.codeIn K cd_law "law" = true) (k_law : PySem.W.keepIn K (.ref f_law) = true)
    (z_abs : PySem.W.nsIn K mainGlobals "abs" = some none)
    (z_all : PySem.W.nsIn K mainGlobals "all" = some none)
    (z_int : PySem.W.nsIn K mainGlobals "int" = some none)
    (z_len : PySem.W.nsIn K mainGlobals "len" = some none)
    (z_list : PySem.W.nsIn K mainGlobals "list" = some none)
    (z_max : PySem.W.nsIn K mainGlobals "max" = some none)
    (z_range : PySem.W.nsIn K mainGlobals "range" = some none)
    (z_sorted : PySem.W.nsIn K mainGlobals "sorted" = some none)
    {x_SIGNS : Str} {t_SIGNS : Tok} (g_SIGNS : PySem.W.nsIn K mainGlobals "SIGNS" = some (some (.str x_SIGNS t_SIGNS))) (e_SIGNS : x_SIGNS = ⟨⟨cSIGNS⟩⟩)
    {aT_KINDS : Addr} {dT_KINDS : Option Addr} {nT_KINDS : Nat} {slT_KINDS : Array (Option Value)} {x_KINDS0 x_KINDS1 x_KINDS2 : Str} {t_KINDS0 t_KINDS1 t_KINDS2 : Tok} (g_KINDS : PySem.W.nsIn K mainGlobals "KINDS" = some (some (.ref aT_KINDS))) (l_KINDS : K.lookup aT_KINDS = some ⟨.type "tuple", dT_KINDS, .seq #[.str x_KINDS0 t_KINDS0, .str x_KINDS1 t_KINDS1, .str x_KINDS2 t_KINDS2] nT_KINDS, slT_KINDS⟩) (e_KINDS0 : x_KINDS0 = ⟨⟨(cs "letter")⟩⟩) (e_KINDS1 : x_KINDS1 = ⟨⟨(cs "figure")⟩⟩) (e_KINDS2 : x_KINDS2 = ⟨⟨(cs "mark")⟩⟩)
    {C_Machine : Addr} (aC_Machine : PySem.W.nsIn K mainGlobals "Machine" = some (some (.ref C_Machine))) (pg_Machine : PySem.W.plainGet K C_Machine Str.empty = true) (hd_Machine : PySem.W.hasDictIn K C_Machine = true) (po_Machine : PySem.W.plainOver K C_Machine = true) (sa_Machine : PySem.W.findIn K (.ref C_Machine) "__setattr__" = some (some (.builtin "object.__setattr__"))) (mk_Machine : PySem.W.makesIn K C_Machine = true) (kc_Machine : PySem.W.keepIn K (.ref C_Machine) = true)
    (na_Machine_arcs : PySem.W.findIn K (.ref C_Machine) "arcs" = some none)
    (na_Machine_ends : PySem.W.findIn K (.ref C_Machine) "ends" = some none)
    (na_Machine_named : PySem.W.findIn K (.ref C_Machine) "named" = some none)
    {f_Machine_init : Addr} {od_Machine_init an_Machine_init : Option Addr} {sl_Machine_init : Array (Option Value)} {oc_Machine_init kV_Machine_init dc_Machine_init pm_Machine_init cd_Machine_init ct_Machine_init : Value}
    (in_Machine_init : PySem.W.findIn K (.ref C_Machine) "__init__" = some (some (.ref f_Machine_init))) (if_Machine_init : PySem.W.isFn K (.ref f_Machine_init) = true)
    (l_Machine_init : K.lookup f_Machine_init = some ⟨oc_Machine_init, od_Machine_init, .func (PySem.W.fnOf "__init__" "Machine.__init__" (defArgs s_Machine_init) (defBody s_Machine_init) (defScope s_Machine_init) .none kV_Machine_init dc_Machine_init pm_Machine_init an_Machine_init cd_Machine_init ct_Machine_init), sl_Machine_init⟩) (c_Machine_init : PySem.W.codeIn K cd_Machine_init "Machine.__init__" = true) (k_Machine_init : PySem.W.keepIn K (.ref f_Machine_init) = true)
    {f_Machine_size : Addr} {od_Machine_size an_Machine_size : Option Addr} {sl_Machine_size : Array (Option Value)} {oc_Machine_size kV_Machine_size dc_Machine_size pm_Machine_size cd_Machine_size ct_Machine_size : Value}
    {p_Machine_size : Addr} {r_Machine_size : List Value} (in_Machine_size : PySem.W.findIn K (.ref C_Machine) "size" = some (some (.ref p_Machine_size))) (pg_Machine_size : PySem.W.specialIn K (.ref p_Machine_size) "__get__" = some (some (.builtin "property.__get__"))) (pt_Machine_size : PySem.W.takesIn K (.ref p_Machine_size) = some true) (pr_Machine_size : PySem.W.recIn K p_Machine_size "property" = some (.ref f_Machine_size :: r_Machine_size))
    (l_Machine_size : K.lookup f_Machine_size = some ⟨oc_Machine_size, od_Machine_size, .func (PySem.W.fnOf "size" "Machine.size" (defArgs s_Machine_size) (defBody s_Machine_size) (defScope s_Machine_size) .none kV_Machine_size dc_Machine_size pm_Machine_size an_Machine_size cd_Machine_size ct_Machine_size), sl_Machine_size⟩) (c_Machine_size : PySem.W.codeIn K cd_Machine_size "Machine.size" = true) (k_Machine_size : PySem.W.keepIn K (.ref f_Machine_size) = true)
    {C_InvalidSigns : Addr}
    (aC_InvalidSigns : PySem.W.nsIn K mainGlobals "InvalidSigns" = some (some (.ref C_InvalidSigns)))
    {C_InvalidMachine : Addr}
    (aC_InvalidMachine : PySem.W.nsIn K mainGlobals "InvalidMachine" = some (some (.ref C_InvalidMachine)))
    (xm_InvalidMachine_InvalidMachine : PySem.W.exmOne K (.ref C_InvalidMachine) (.ref C_InvalidMachine) = some true)
    (xm_InvalidMachine_InvalidSigns : PySem.W.exmOne K (.ref C_InvalidMachine) (.ref C_InvalidSigns) = some false)
    (xm_InvalidSigns_InvalidSigns : PySem.W.exmOne K (.ref C_InvalidSigns) (.ref C_InvalidSigns) = some true)
    (xfb_InvalidMachine : xfB K C_InvalidMachine = true)
    (xfb_InvalidSigns : xfB K C_InvalidSigns = true)
    (xn_InvalidMachine_state : PySem.W.findIn K (.ref C_InvalidMachine) "state" = some none)
    (xn_InvalidSigns_text : PySem.W.findIn K (.ref C_InvalidSigns) "text" = some none)
    (zz_super : PySem.W.nsIn K mainGlobals "super" = some none)
    (zz_op : PySem.W.nsIn K PySem.cStatics "thirdparty.any" = some none)
    (zz_top : (l.prog.main.scope.names.lookup ("super" : Str)).isSome = false)
    {fi_InvalidSigns cd_InvalidSigns cl_InvalidSigns : Addr} {nm_InvalidSigns qn_InvalidSigns : Str} {N_InvalidSigns : Addr} {bs_InvalidSigns bm_InvalidSigns : List Value} {sn_InvalidSigns : List Str} {sb_InvalidSigns : List Value} {ab_InvalidSigns : Bool} {co_InvalidSigns : Option Bool} {dd_InvalidSigns : Option Addr} {ka_InvalidSigns kb_InvalidSigns kc_InvalidSigns ke_InvalidSigns kf_InvalidSigns : Option Value}
    (lC_InvalidSigns : K.lookup C_InvalidSigns = some (excClassObj nm_InvalidSigns qn_InvalidSigns C_InvalidSigns N_InvalidSigns bs_InvalidSigns bm_InvalidSigns true sn_InvalidSigns sb_InvalidSigns ab_InvalidSigns co_InvalidSigns dd_InvalidSigns ka_InvalidSigns kb_InvalidSigns kc_InvalidSigns ke_InvalidSigns kf_InvalidSigns "ValueError.__new__"))
    (rv_InvalidSigns : PySem.HandSPX.refsVE bm_InvalidSigns = true)
    (sa_InvalidSigns : PySem.W.findIn K (.ref C_InvalidSigns) "__setattr__" = some (some (.builtin "object.__setattr__")))
    (bx_InvalidSigns : PySem.W.subIn K (.ref C_InvalidSigns) (.type "BaseException") = some true)
    (ty_InvalidSigns : PySem.W.typeIn K (.ref C_InvalidSigns) = some (.type "type"))
    (kp_InvalidSigns : PySem.W.keepIn K (.ref C_InvalidSigns) = true)
    (in_InvalidSigns : PySem.W.findIn K (.ref C_InvalidSigns) "__init__" = some (some (.ref fi_InvalidSigns)))
    (ti_InvalidSigns : PySem.W.typeIn K (.ref fi_InvalidSigns) = some (.type "function"))
    {oi_InvalidSigns : Value} {odi_InvalidSigns : Option Addr} {dci_InvalidSigns pmi_InvalidSigns cti_InvalidSigns : Value} {sli_InvalidSigns : Array (Option Value)}
    (li_InvalidSigns : K.lookup fi_InvalidSigns = some ⟨oi_InvalidSigns, odi_InvalidSigns, .func (PySem.W.fnX "__init__" "InvalidSigns.__init__" (defArgs sx_InvalidSigns) (defBody sx_InvalidSigns) (defScope sx_InvalidSigns) [("__class__", cl_InvalidSigns)] .none .none dci_InvalidSigns pmi_InvalidSigns none (.ref cd_InvalidSigns) cti_InvalidSigns), sli_InvalidSigns⟩)
    (ci_InvalidSigns : PySem.W.codeIn K (.ref cd_InvalidSigns) "InvalidSigns.__init__" = true)
    {xa_InvalidSigns : Value} {xb_InvalidSigns : Option Addr} {xv_InvalidSigns : Array Value} {xs_InvalidSigns : Array (Option Value)} {xfl_InvalidSigns : Str} {xt_InvalidSigns : Tok}
    (lk_InvalidSigns : K.lookup cd_InvalidSigns = some ⟨xa_InvalidSigns, xb_InvalidSigns, .fields xv_InvalidSigns, xs_InvalidSigns⟩)
    (lv_InvalidSigns : xv_InvalidSigns[2]? = some (.str xfl_InvalidSigns xt_InvalidSigns))
    (lf_InvalidSigns : ((l.prog.main.file : Str) == xfl_InvalidSigns) = true)
    {ya_InvalidSigns : Value} {yb_InvalidSigns : Option Addr} {ys_InvalidSigns : Array (Option Value)}
    (lc_InvalidSigns : K.lookup cl_InvalidSigns = some ⟨ya_InvalidSigns, yb_InvalidSigns, .cell (some (.ref C_InvalidSigns)), ys_InvalidSigns⟩)
    (si_InvalidSigns : PySem.W.ks_superIn K C_InvalidSigns C_InvalidSigns "__init__" = some (some (.builtin "ValueError.__init__")))
    (sv_InvalidSigns : PySem.W.subIn K (.ref C_InvalidSigns) (.type "ValueError") = some true)
    (so_InvalidSigns : PySem.W.mroIn K C_InvalidSigns (.ref C_InvalidSigns) = some true)
    (no_InvalidSigns_text : PySem.W.findIn K (.ref C_InvalidSigns) "text" = some none)
    {fi_InvalidMachine cd_InvalidMachine cl_InvalidMachine : Addr} {nm_InvalidMachine qn_InvalidMachine : Str} {N_InvalidMachine : Addr} {bs_InvalidMachine bm_InvalidMachine : List Value} {sn_InvalidMachine : List Str} {sb_InvalidMachine : List Value} {ab_InvalidMachine : Bool} {co_InvalidMachine : Option Bool} {dd_InvalidMachine : Option Addr} {ka_InvalidMachine kb_InvalidMachine kc_InvalidMachine ke_InvalidMachine kf_InvalidMachine : Option Value}
    (lC_InvalidMachine : K.lookup C_InvalidMachine = some (excClassObj nm_InvalidMachine qn_InvalidMachine C_InvalidMachine N_InvalidMachine bs_InvalidMachine bm_InvalidMachine true sn_InvalidMachine sb_InvalidMachine ab_InvalidMachine co_InvalidMachine dd_InvalidMachine ka_InvalidMachine kb_InvalidMachine kc_InvalidMachine ke_InvalidMachine kf_InvalidMachine "ValueError.__new__"))
    (rv_InvalidMachine : PySem.HandSPX.refsVE bm_InvalidMachine = true)
    (sa_InvalidMachine : PySem.W.findIn K (.ref C_InvalidMachine) "__setattr__" = some (some (.builtin "object.__setattr__")))
    (bx_InvalidMachine : PySem.W.subIn K (.ref C_InvalidMachine) (.type "BaseException") = some true)
    (ty_InvalidMachine : PySem.W.typeIn K (.ref C_InvalidMachine) = some (.type "type"))
    (kp_InvalidMachine : PySem.W.keepIn K (.ref C_InvalidMachine) = true)
    (in_InvalidMachine : PySem.W.findIn K (.ref C_InvalidMachine) "__init__" = some (some (.ref fi_InvalidMachine)))
    (ti_InvalidMachine : PySem.W.typeIn K (.ref fi_InvalidMachine) = some (.type "function"))
    {oi_InvalidMachine : Value} {odi_InvalidMachine : Option Addr} {dci_InvalidMachine pmi_InvalidMachine cti_InvalidMachine : Value} {sli_InvalidMachine : Array (Option Value)}
    (li_InvalidMachine : K.lookup fi_InvalidMachine = some ⟨oi_InvalidMachine, odi_InvalidMachine, .func (PySem.W.fnX "__init__" "InvalidMachine.__init__" (defArgs sx_InvalidMachine) (defBody sx_InvalidMachine) (defScope sx_InvalidMachine) [("__class__", cl_InvalidMachine)] .none .none dci_InvalidMachine pmi_InvalidMachine none (.ref cd_InvalidMachine) cti_InvalidMachine), sli_InvalidMachine⟩)
    (ci_InvalidMachine : PySem.W.codeIn K (.ref cd_InvalidMachine) "InvalidMachine.__init__" = true)
    {xa_InvalidMachine : Value} {xb_InvalidMachine : Option Addr} {xv_InvalidMachine : Array Value} {xs_InvalidMachine : Array (Option Value)} {xfl_InvalidMachine : Str} {xt_InvalidMachine : Tok}
    (lk_InvalidMachine : K.lookup cd_InvalidMachine = some ⟨xa_InvalidMachine, xb_InvalidMachine, .fields xv_InvalidMachine, xs_InvalidMachine⟩)
    (lv_InvalidMachine : xv_InvalidMachine[2]? = some (.str xfl_InvalidMachine xt_InvalidMachine))
    (lf_InvalidMachine : ((l.prog.main.file : Str) == xfl_InvalidMachine) = true)
    {ya_InvalidMachine : Value} {yb_InvalidMachine : Option Addr} {ys_InvalidMachine : Array (Option Value)}
    (lc_InvalidMachine : K.lookup cl_InvalidMachine = some ⟨ya_InvalidMachine, yb_InvalidMachine, .cell (some (.ref C_InvalidMachine)), ys_InvalidMachine⟩)
    (si_InvalidMachine : PySem.W.ks_superIn K C_InvalidMachine C_InvalidMachine "__init__" = some (some (.builtin "ValueError.__init__")))
    (sv_InvalidMachine : PySem.W.subIn K (.ref C_InvalidMachine) (.type "ValueError") = some true)
    (so_InvalidMachine : PySem.W.mroIn K C_InvalidMachine (.ref C_InvalidMachine) = some true)
    (no_InvalidMachine_state : PySem.W.findIn K (.ref C_InvalidMachine) "state" = some none)
    : ∃ fd : FuncData, (∀ (s : Shared) (v : Value), BindsTo s fd ⟨[v], []⟩ [("_law_script", v)]) ∧ ∀ base : Heap, K.In base → base.Ns mainGlobals mg → FnOk l.prog w K mg base CX0 8 fa fd ["_law_script"] (spL K) := by
  have e := hfa.symm.trans (PySem.W.mg_of X Gh a_law)
  cases e
  have F_take := fun_mk (st := s_take) l_take c_take k_take
  have b_take := F_take.binds (ps := ["_law_box_here", "_law_size"]) fun _ _ _ _ _ _ us hl => match us, hl with | [_, _], _ => rfl
  have F_box := fun_mk (st := s_box) l_box c_box k_box
  have b_box := F_box.binds (ps := ["_law_script"]) fun _ _ _ _ _ _ us hl => match us, hl with | [_], _ => rfl
  have F_law_signs := fun_mk (st := s_law_signs) l_law_signs c_law_signs k_law_signs
  have b_law_signs := F_law_signs.binds (ps := []) fun _ _ _ _ _ _ us hl => match us, hl with | [], _ => rfl
  have F_sign := fun_mk (st := s_sign) l_sign c_sign k_sign
  have b_sign := F_sign.binds (ps := ["_law_box_here"]) fun _ _ _ _ _ _ us hl => match us, hl with | [_], _ => rfl
  have F_palette := fun_mk (st := s_palette) l_palette c_palette k_palette
  have b_palette := F_palette.binds (ps := ["_law_box_here"]) fun _ _ _ _ _ _ us hl => match us, hl with | [_], _ => rfl
  have F_chosen := fun_mk (st := s_chosen) l_chosen c_chosen k_chosen
  have b_chosen := F_chosen.binds (ps := ["_law_box_here"]) fun _ _ _ _ _ _ us hl => match us, hl with | [_], _ => rfl
  have F_word := fun_mk (st := s_word) l_word c_word k_word
  have b_word := F_word.binds (ps := ["_law_box_here", "_law_named", "_law_limit"]) fun _ _ _ _ _ _ us hl => match us, hl with | [_, _, _], _ => rfl
  have F_table := fun_mk (st := s_table) l_table c_table k_table
  have b_table := F_table.binds (ps := ["_law_box_here", "_law_named", "_law_count"]) fun _ _ _ _ _ _ us hl => match us, hl with | [_, _, _], _ => rfl
  have F_copied := fun_mk (st := s_copied) l_copied c_copied k_copied
  have b_copied := F_copied.binds (ps := ["_law_arcs"]) fun _ _ _ _ _ _ us hl => match us, hl with | [_], _ => rfl
  have F_in_order := fun_mk (st := s_in_order) l_in_order c_in_order k_in_order
  have b_in_order := F_in_order.binds (ps := ["signs"]) fun _ _ _ _ _ _ us hl => match us, hl with | [_], _ => rfl
  have F_only_named := fun_mk (st := s_only_named) l_only_named c_only_named k_only_named
  have b_only_named := F_only_named.binds (ps := ["text", "signs"]) fun _ _ _ _ _ _ us hl => match us, hl with | [_, _], _ => rfl
  have F_is_row := fun_mk (st := s_is_row) l_is_row c_is_row k_is_row
  have b_is_row := F_is_row.binds (ps := ["row", "ending", "signs", "size"]) fun _ _ _ _ _ _ us hl => match us, hl with | [_, _, _, _], _ => rfl
  have F_made := fun_mk (st := s_made) l_made c_made k_made
  have b_made := F_made.binds (ps := ["_law_named", "_law_arcs", "_law_endings"]) fun _ _ _ _ _ _ us hl => match us, hl with | [_, _, _], _ => rfl
  have F_spoil := fun_mk (st := s_spoil) l_spoil c_spoil k_spoil
  have b_spoil := F_spoil.binds (ps := ["_law_box_here", "_law_named", "_law_arcs", "_law_endings"]) fun _ _ _ _ _ _ us hl => match us, hl with | [_, _, _, _], _ => rfl
  have F_due := fun_mk (st := s_due) l_due c_due k_due
  have b_due := F_due.binds (ps := ["_law_named", "_law_arcs", "_law_endings"]) fun _ _ _ _ _ _ us hl => match us, hl with | [_, _, _], _ => rfl
  have F_law := fun_mk (st := s_law) l_law c_law k_law
  have b_law := F_law.binds (ps := ["_law_script"]) fun _ _ _ _ _ _ us hl => match us, hl with | [_], _ => rfl
  have F_Machine_init := fun_mk (st := s_Machine_init) l_Machine_init c_Machine_init k_Machine_init
  have b_Machine_init := F_Machine_init.binds (ps := ["self", "signs", "arcs", "endings"]) fun _ _ _ _ _ _ us hl => match us, hl with | [_, _, _, _], _ => rfl
  have F_Machine_size := fun_mk (st := s_Machine_size) l_Machine_size c_Machine_size k_Machine_size
  have b_Machine_size := F_Machine_size.binds (ps := ["self"]) fun _ _ _ _ _ _ us hl => match us, hl with | [_], _ => rfl
  have O_InvalidSigns : OexC K C_InvalidSigns := ⟨⟨_, _, _, _, _, _, _, _, _, _, _, _, _, _, _, lC_InvalidSigns, rv_InvalidSigns⟩, sa_InvalidSigns, bx_InvalidSigns, ty_InvalidSigns, kp_InvalidSigns⟩
  have I_InvalidSigns : ExI l.prog K "InvalidSigns.__init__" sx_InvalidSigns C_InvalidSigns fi_InvalidSigns cd_InvalidSigns cl_InvalidSigns _ := { lk := ⟨_, _, _, _, _, _, li_InvalidSigns, rfl⟩, code := ci_InvalidSigns, hcode := ⟨_, _, _, _, _, _, lk_InvalidSigns, lv_InvalidSigns, lf_InvalidSigns⟩, cell := ⟨_, _, _, lc_InvalidSigns⟩, top := zz_top, sup := zz_super, op := zz_op, oex := O_InvalidSigns, sin := si_InvalidSigns, sub := sv_InvalidSigns, own := so_InvalidSigns }
  have O_InvalidMachine : OexC K C_InvalidMachine := ⟨⟨_, _, _, _, _, _, _, _, _, _, _, _, _, _, _, lC_InvalidMachine, rv_InvalidMachine⟩, sa_InvalidMachine, bx_InvalidMachine, ty_InvalidMachine, kp_InvalidMachine⟩
  have I_InvalidMachine : ExI l.prog K "InvalidMachine.__init__" sx_InvalidMachine C_InvalidMachine fi_InvalidMachine cd_InvalidMachine cl_InvalidMachine _ := { lk := ⟨_, _, _, _, _, _, li_InvalidMachine, rfl⟩, code := ci_InvalidMachine, hcode := ⟨_, _, _, _, _, _, lk_InvalidMachine, lv_InvalidMachine, lf_InvalidMachine⟩, cell := ⟨_, _, _, lc_InvalidMachine⟩, top := zz_top, sup := zz_super, op := zz_op, oex := O_InvalidMachine, sin := si_InvalidMachine, sub := sv_InvalidMachine, own := so_InvalidMachine }
  refine ⟨PySem.W.fnOf "law" "law" (defArgs s_law) (defBody s_law) (defScope s_law) .none kV_law dc_law pm_law an_law cd_law ct_law, fun s v => .of_eq rfl, fun base _ _ => ?_⟩
  have E_InvalidSigns : ExC l.prog w K mg base 1 "InvalidSigns" C_InvalidSigns (spX1 C_InvalidSigns "text") := ⟨O_InvalidSigns, ⟨_, _, _, in_InvalidSigns, ti_InvalidSigns, init1 I_InvalidSigns (PySem.W.mg_none_of X Gh zz_super) rfl rfl rfl rfl (NdefX.nscope_by (by decide +kernel)) no_InvalidSigns_text rfl rfl (fun L => rfl) (fun L => ⟨_, rfl⟩) (fun L => rfl), .all fun us hl => match us, hl with | [_, _], _ => rfl, PySem.W.mg_of X Gh aC_InvalidSigns⟩⟩
  have E_InvalidMachine : ExC l.prog w K mg base 1 "InvalidMachine" C_InvalidMachine (spX1 C_InvalidMachine "state") := ⟨O_InvalidMachine, ⟨_, _, _, in_InvalidMachine, ti_InvalidMachine, init1 I_InvalidMachine (PySem.W.mg_none_of X Gh zz_super) rfl rfl rfl rfl (NdefX.nscope_by (by decide +kernel)) no_InvalidMachine_state rfl rfl (fun L => rfl) (fun L => ⟨_, rfl⟩) (fun L => rfl), .all fun us hl => match us, hl with | [_, _], _ => rfl, PySem.W.mg_of X Gh aC_InvalidMachine⟩⟩
  have T : Tx l.prog w K ⟨0, aT_KINDS, C_Machine, C_InvalidSigns, C_InvalidMachine, []⟩ mg base := {
    fa := ⟨trivial, sqt_strs l_KINDS rfl rfl (by show 3 ≤ sizeLine; decide) (.cons ⟨_, by rw [e_KINDS0]⟩ (.cons ⟨_, by rw [e_KINDS1]⟩ (.cons ⟨_, by rw [e_KINDS2]⟩ .nil))), ⟨pg_Machine, hd_Machine, po_Machine, sa_Machine⟩, na_Machine_arcs, na_Machine_ends, na_Machine_named, xm_InvalidMachine_InvalidMachine, xm_InvalidMachine_InvalidSigns, xm_InvalidSigns_InvalidSigns, (xfB_ok xfb_InvalidMachine), (xfB_ok xfb_InvalidSigns), xn_InvalidMachine_state, xn_InvalidSigns_text⟩
    d_take := ⟨_, _, F_take, b_take, PySem.W.mg_of X Gh a_take⟩
    d_box := ⟨_, _, F_box, b_box, PySem.W.mg_of X Gh a_box⟩
    d_law_signs := ⟨_, _, F_law_signs, b_law_signs, PySem.W.mg_of X Gh a_law_signs⟩
    d_sign := ⟨_, _, F_sign, b_sign, PySem.W.mg_of X Gh a_sign⟩
    d_palette := ⟨_, _, F_palette, b_palette, PySem.W.mg_of X Gh a_palette⟩
    d_chosen := ⟨_, _, F_chosen, b_chosen, PySem.W.mg_of X Gh a_chosen⟩
    d_word := ⟨_, _, F_word, b_word, PySem.W.mg_of X Gh a_word⟩
    d_table := ⟨_, _, F_table, b_table, PySem.W.mg_of X Gh a_table⟩
    d_copied := ⟨_, _, F_copied, b_copied, PySem.W.mg_of X Gh a_copied⟩
    d_in_order := ⟨_, _, F_in_order, b_in_order, PySem.W.mg_of X Gh a_in_order⟩
    d_only_named := ⟨_, _, F_only_named, b_only_named, PySem.W.mg_of X Gh a_only_named⟩
    d_is_row := ⟨_, _, F_is_row, b_is_row, PySem.W.mg_of X Gh a_is_row⟩
    d_made := ⟨_, _, F_made, b_made, PySem.W.mg_of X Gh a_made⟩
    d_spoil := ⟨_, _, F_spoil, b_spoil, PySem.W.mg_of X Gh a_spoil⟩
    d_due := ⟨_, _, F_due, b_due, PySem.W.mg_of X Gh a_due⟩
    d_law := ⟨_, _, F_law, b_law, PySem.W.mg_of X Gh a_law⟩
    z_abs := PySem.W.mg_none_of X Gh z_abs
    z_all := PySem.W.mg_none_of X Gh z_all
    z_int := PySem.W.mg_none_of X Gh z_int
    z_len := PySem.W.mg_none_of X Gh z_len
    z_list := PySem.W.mg_none_of X Gh z_list
    z_max := PySem.W.mg_none_of X Gh z_max
    z_range := PySem.W.mg_none_of X Gh z_range
    z_sorted := PySem.W.mg_none_of X Gh z_sorted
    g_SIGNS := ⟨_, PySem.W.mg_of X Gh g_SIGNS, ⟨t_SIGNS, by rw [e_SIGNS]⟩⟩
    g_KINDS := ⟨_, PySem.W.mg_of X Gh g_KINDS, rfl⟩
    d_Machine_init := ⟨_, _, F_Machine_init, b_Machine_init, PySem.W.mg_of X Gh aC_Machine, ⟨mk_Machine, in_Machine_init, if_Machine_init, kc_Machine⟩⟩
    d_Machine_size := ⟨_, _, _, F_Machine_size, b_Machine_size, ⟨in_Machine_size, pg_Machine_size, pt_Machine_size, ⟨_, pr_Machine_size⟩⟩⟩
    nm_InvalidSigns := PySem.W.mg_of X Gh aC_InvalidSigns
    nm_InvalidMachine := PySem.W.mg_of X Gh aC_InvalidMachine
    e_InvalidSigns := E_InvalidSigns
    e_InvalidMachine := E_InvalidMachine
  }
  refine (fn_law T F_law).imp (fun vs H Q E h => ?_)
  obtain ⟨a, ns, rfl, hS, hl, q⟩ := h
  exact ⟨clean H, [], a, ns, true, rfl, Wd.all H (fun _ h => nomatch h), clean_sql hS, hl, law_true ns hl, fun H1 P1 _ _ => q H1⟩
end G
open PySem PySem.W PySem.Calls PyProof.Rows
set_option hygiene false in
local macro_rules | `(tactic| o_head (kHook $K $as $e)) => `(tactic| (refine HandSHeadRun.head_any (r := OpenLaw.row PySem.Challenge.rw_regrow_k21_machine_refusals) (q := HeadX.qv) (H := kHook $K $as $e) (ob := fun s => List.map (HandSHeadRun.getT s) $as) (M := 20000) (loose := HeadX.names) (kwd := []) (fun s => List.map_congr_left fun a _ => HandSHeadRun.getT_eq s a) ?e1 ?e2 (fun w => ?run) (by rfl) ?e4 ?e5 ?e6 ?e7 ?e8 ?e9 ?hw ?hc))
set_option hygiene false in
local macro_rules | `(tactic| o_head (kmHook $K $as $e $ts)) => `(tactic| (refine HandSHeadRun.head_any (r := OpenLaw.row PySem.Challenge.rw_regrow_k21_machine_refusals) (q := HeadX.qv) (H := kmHook $K $as $e $ts) (ob := fun s => (List.map (HandSHeadRun.getT s) $as, List.map (HandSHeadRun.getT s) $ts)) (M := 20000) (loose := HeadX.names) (kwd := []) (fun s => Prod.ext (List.map_congr_left fun a _ => HandSHeadRun.getT_eq s a) (List.map_congr_left fun a _ => HandSHeadRun.getT_eq s a)) ?e1 ?e2 (fun w => ?run) (by rfl) ?e4 ?e5 ?e6 ?e7 ?e8 ?e9 ?hw ?hc))
set_option maxHeartbeats 0 in
theorem PySem.Challenge.cw_regrow_k21_machine_refusals_holds : PySem.Challenge.rw_regrow_k21_machine_refusals.Holds := by
  w_on; refine HeadX.lookE fun said => ?_; k_head
  case hw => w_witness2
  case e1 => as_aux_lemma => kernel_rfl
  case e2 => intro s; as_aux_lemma => kernel_rfl
  case e4 => rfl
  case e5 => rfl
  case e6 => rfl
  case e7 => first | assumption | decide +kernel
  case e8 => decide +kernel
  case e9 => exact ⟨rfl, rfl, rfl, rfl, rfl, by decide +kernel⟩
  case run => exact Eq.mp (by kernel_rfl) (HeadX.run_all w)
  k_fill
  refine L2.walk_of (l := PySem.Challenge.rw_regrow_k21_machine_refusals) (n := 63) (k := 8) (x := "_law_script") (CX := fun _ => L2.CX0) (sp := fun w => G.spL _) rfl (by decide) rfl ⟨rfl, by decide, by decide⟩ (fun w h Y => PySem.W.kIn_of Y) ?F (fun _ _ a ns hl _ hS => ⟨a, ns, rfl, hS, hl, fun _ => rfl⟩) (fun _ _ _ _ _ h => h)
  case F =>
    intro w mg fa h KX Gh hmg
    refine' G.all_mk KX Gh hmg ?a_take ?l_take ?c_take ?k_take ?a_box ?l_box ?c_box ?k_box ?a_law_signs ?l_law_signs ?c_law_signs ?k_law_signs ?a_sign ?l_sign ?c_sign ?k_sign ?a_palette ?l_palette ?c_palette ?k_palette ?a_chosen ?l_chosen ?c_chosen ?k_chosen ?a_word ?l_word ?c_word ?k_word ?a_table ?l_table ?c_table ?k_table ?a_copied ?l_copied ?c_copied ?k_copied ?a_in_order ?l_in_order ?c_in_order ?k_in_order ?a_only_named ?l_only_named ?c_only_named ?k_only_named ?a_is_row ?l_is_row ?c_is_row ?k_is_row ?a_made ?l_made ?c_made ?k_made ?a_spoil ?l_spoil ?c_spoil ?k_spoil ?a_due ?l_due ?c_due ?k_due ?a_law ?l_law ?c_law ?k_law ?z_abs ?z_all ?z_int ?z_len ?z_list ?z_max ?z_range ?z_sorted ?g_SIGNS ?e_SIGNS ?g_KINDS ?l_KINDS ?e_KINDS0 ?e_KINDS1 ?e_KINDS2 ?aC_Machine ?pg_Machine ?hd_Machine ?po_Machine ?sa_Machine ?mk_Machine ?kc_Machine ?na_Machine_arcs ?na_Machine_ends ?na_Machine_named ?in_Machine_init ?if_Machine_init ?l_Machine_init ?c_Machine_init ?k_Machine_init ?in_Machine_size ?pg_Machine_size ?pt_Machine_size ?pr_Machine_size ?l_Machine_size ?c_Machine_size ?k_Machine_size ?aC_InvalidSigns ?aC_InvalidMachine ?xm_InvalidMachine_InvalidMachine ?xm_InvalidMachine_InvalidSigns ?xm_InvalidSigns_InvalidSigns ?xfb_InvalidMachine ?xfb_InvalidSigns ?xn_InvalidMachine_state ?xn_InvalidSigns_text ?zz_super ?zz_op ?zz_top ?lC_InvalidSigns ?rv_InvalidSigns ?sa_InvalidSigns ?bx_InvalidSigns ?ty_InvalidSigns ?kp_InvalidSigns ?in_InvalidSigns ?ti_InvalidSigns ?li_InvalidSigns ?ci_InvalidSigns ?lk_InvalidSigns ?lv_InvalidSigns ?lf_InvalidSigns ?lc_InvalidSigns ?si_InvalidSigns ?sv_InvalidSigns ?so_InvalidSigns ?no_InvalidSigns_text ?lC_InvalidMachine ?rv_InvalidMachine ?sa_InvalidMachine ?bx_InvalidMachine ?ty_InvalidMachine ?kp_InvalidMachine ?in_InvalidMachine ?ti_InvalidMachine ?li_InvalidMachine ?ci_InvalidMachine ?lk_InvalidMachine ?lv_InvalidMachine ?lf_InvalidMachine ?lc_InvalidMachine ?si_InvalidMachine ?sv_InvalidMachine ?so_InvalidMachine ?no_InvalidMachine_state
    (case a_take => k_is)
    (case l_take => k_is)
    (case c_take => k_is)
    (case k_take => k_is)
    (case a_box => k_is)
    (case l_box => k_is)
    (case c_box => k_is)
    (case k_box => k_is)
    (case a_law_signs => k_is)
    (case l_law_signs => k_is)
    (case c_law_signs => k_is)
    (case k_law_signs => k_is)
    (case a_sign => k_is)
    (case l_sign => k_is)
    (case c_sign => k_is)
    (case k_sign => k_is)
    (case a_palette => k_is)
    (case l_palette => k_is)
    (case c_palette => k_is)
    (case k_palette => k_is)
    (case a_chosen => k_is)
    (case l_chosen => k_is)
    (case c_chosen => k_is)
    (case k_chosen => k_is)
    (case a_word => k_is)
    (case l_word => k_is)
    (case c_word => k_is)
    (case k_word => k_is)
    (case a_table => k_is)
    (case l_table => k_is)
    (case c_table => k_is)
    (case k_table => k_is)
    (case a_copied => k_is)
    (case l_copied => k_is)
    (case c_copied => k_is)
    (case k_copied => k_is)
    (case a_in_order => k_is)
    (case l_in_order => k_is)
    (case c_in_order => k_is)
    (case k_in_order => k_is)
    (case a_only_named => k_is)
    (case l_only_named => k_is)
    (case c_only_named => k_is)
    (case k_only_named => k_is)
    (case a_is_row => k_is)
    (case l_is_row => k_is)
    (case c_is_row => k_is)
    (case k_is_row => k_is)
    (case a_made => k_is)
    (case l_made => k_is)
    (case c_made => k_is)
    (case k_made => k_is)
    (case a_spoil => k_is)
    (case l_spoil => k_is)
    (case c_spoil => k_is)
    (case k_spoil => k_is)
    (case a_due => k_is)
    (case l_due => k_is)
    (case c_due => k_is)
    (case k_due => k_is)
    (case a_law => k_is)
    (case l_law => k_is)
    (case c_law => k_is)
    (case k_law => k_is)
    (case z_abs => k_is)
    (case z_all => k_is)
    (case z_int => k_is)
    (case z_len => k_is)
    (case z_list => k_is)
    (case z_max => k_is)
    (case z_range => k_is)
    (case z_sorted => k_is)
    (case g_SIGNS => k_is)
    (case e_SIGNS => first | rfl | decide +kernel)
    (case g_KINDS => k_is)
    (case l_KINDS => k_is)
    (case e_KINDS0 => first | rfl | decide +kernel)
    (case e_KINDS1 => first | rfl | decide +kernel)
    (case e_KINDS2 => first | rfl | decide +kernel)
    (case aC_Machine => k_is)
    (case pg_Machine => k_is)
    (case hd_Machine => k_is)
    (case po_Machine => k_is)
    (case sa_Machine => k_is)
    (case mk_Machine => k_is)
    (case kc_Machine => k_is)
    (case na_Machine_arcs => k_is)
    (case na_Machine_ends => k_is)
    (case na_Machine_named => k_is)
    (case in_Machine_init => k_is)
    (case if_Machine_init => k_is)
    (case l_Machine_init => k_is)
    (case c_Machine_init => k_is)
    (case k_Machine_init => k_is)
    (case in_Machine_size => k_is)
    (case pg_Machine_size => k_is)
    (case pt_Machine_size => k_is)
    (case pr_Machine_size => k_is)
    (case l_Machine_size => k_is)
    (case c_Machine_size => k_is)
    (case k_Machine_size => k_is)
    (case aC_InvalidSigns => k_is)
    (case aC_InvalidMachine => k_is)
    (case xm_InvalidMachine_InvalidMachine => first | k_is | rfl | kernel_rfl | decide +kernel)
    (case xm_InvalidMachine_InvalidSigns => first | k_is | rfl | kernel_rfl | decide +kernel)
    (case xm_InvalidSigns_InvalidSigns => first | k_is | rfl | kernel_rfl | decide +kernel)
    (case xfb_InvalidMachine => first | rfl | kernel_rfl | decide +kernel)
    (case xfb_InvalidSigns => first | rfl | kernel_rfl | decide +kernel)
    (case xn_InvalidMachine_state => k_is)
    (case xn_InvalidSigns_text => k_is)
    (case zz_super => k_is)
    (case zz_op => first | k_is | rfl | kernel_rfl | decide +kernel)
    (case zz_top => first | rfl | decide +kernel)
    (case lC_InvalidSigns => k_is)
    (case rv_InvalidSigns => first | rfl | decide +kernel)
    (case sa_InvalidSigns => k_is)
    (case bx_InvalidSigns => first | k_is | rfl | kernel_rfl | decide +kernel)
    (case ty_InvalidSigns => first | k_is | rfl | kernel_rfl | decide +kernel)
    (case kp_InvalidSigns => k_is)
    (case in_InvalidSigns => k_is)
    (case ti_InvalidSigns => first | k_is | rfl | kernel_rfl | decide +kernel)
    (case li_InvalidSigns => k_is)
    (case ci_InvalidSigns => k_is)
    (case lk_InvalidSigns => k_is)
    (case lv_InvalidSigns => rfl)
    (case lf_InvalidSigns => first | rfl | decide +kernel)
    (case lc_InvalidSigns => k_is)
    (case si_InvalidSigns => first | k_is | rfl | kernel_rfl | decide +kernel)
    (case sv_InvalidSigns => first | k_is | rfl | kernel_rfl | decide +kernel)
    (case so_InvalidSigns => first | k_is | rfl | kernel_rfl | decide +kernel)
    (case no_InvalidSigns_text => k_is)
    (case lC_InvalidMachine => k_is)
    (case rv_InvalidMachine => first | rfl | decide +kernel)
    (case sa_InvalidMachine => k_is)
    (case bx_InvalidMachine => first | k_is | rfl | kernel_rfl | decide +kernel)
    (case ty_InvalidMachine => first | k_is | rfl | kernel_rfl | decide +kernel)
    (case kp_InvalidMachine => k_is)
    (case in_InvalidMachine => k_is)
    (case ti_InvalidMachine => first | k_is | rfl | kernel_rfl | decide +kernel)
    (case li_InvalidMachine => k_is)
    (case ci_InvalidMachine => k_is)
    (case lk_InvalidMachine => k_is)
    (case lv_InvalidMachine => rfl)
    (case lf_InvalidMachine => first | rfl | decide +kernel)
    (case lc_InvalidMachine => k_is)
    (case si_InvalidMachine => first | k_is | rfl | kernel_rfl | decide +kernel)
    (case sv_InvalidMachine => first | k_is | rfl | kernel_rfl | decide +kernel)
    (case so_InvalidMachine => first | k_is | rfl | kernel_rfl | decide +kernel)
    (case no_InvalidMachine_state => k_is)
