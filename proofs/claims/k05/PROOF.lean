import PyProof.Rows.All
import Wide.All
import OpenK.AllK
import Wide.FinOn
import HandS.ForMost
import HandS.ForExc
import HandS.Deep
import HandS.IsInst
import HandS.Wide
import KE.SortData
import HandS.TupLe
import HandS.EndBits
import PySem.Challenge.RW_spanforest_k05_deepest_of_a_row
set_option Elab.async false
set_option linter.all false
set_option autoImplicit false
set_option maxRecDepth 100000
set_option maxHeartbeats 4000000
/-! Lay1: data over a part of the heap, slots, own mutable objects, the state, what an expression gives. -/
namespace L3
open PySem PySem.Spec L2

/-! ### the heap without some addresses -/
def cut (m : List Addr) (H : Hp) : Hp := fun b => if b ∈ m then none else H b
theorem cut_in {m : List Addr} {H : Hp} {b : Addr} (h : b ∈ m) : cut m H b = none := by unfold cut; rw [if_pos h]
theorem cut_out {m : List Addr} {H : Hp} {b : Addr} (h : b ∉ m) : cut m H b = H b := by unfold cut; rw [if_neg h]
theorem cut_same {m : List Addr} {H H' : Hp} (e : Same H H') : Same (cut m H) (cut m H') := fun b o h => by
  by_cases hb : b ∈ m
  · rw [cut_in hb] at h; cases h
  · rw [cut_out hb] at h ⊢; exact e b o h
theorem cut_less {m m' : List Addr} {H : Hp} (s : ∀ a, a ∈ m' → a ∈ m) : Same (cut m H) (cut m' H) := fun b o h => by
  by_cases hb : b ∈ m
  · rw [cut_in hb] at h; cases h
  · rw [cut_out hb] at h; rw [cut_out fun z => hb (s b z)]; exact h
theorem cut_full {m : List Addr} {H : Hp} : Same (cut m H) H := fun b o h => by
  by_cases hb : b ∈ m
  · rw [cut_in hb] at h; cases h
  · rw [cut_out hb] at h; exact h
theorem cut_nil {H : Hp} : cut [] H = H := by funext b; unfold cut; rw [if_neg (by simp)]
theorem cut_upd {m : List Addr} {H : Hp} {a : Addr} {o : HO} (h : a ∈ m) : cut m (upd H a o) = cut m H := by
  funext b
  by_cases hb : b ∈ m
  · rw [cut_in hb, cut_in hb]
  · rw [cut_out hb, cut_out hb, upd_ne (fun e => hb (by rw [e]; exact h))]
/-- an address that H does not know may be excluded -/
theorem cut_more {m : List Addr} {H : Hp} {a : Addr} (h : H a = none) : cut (a :: m) H = cut m H := by
  funext b
  by_cases hb : b = a
  · subst hb
    rw [cut_in List.mem_cons_self]
    by_cases hm : b ∈ m
    · rw [cut_in hm]
    · rw [cut_out hm, h]
  · by_cases hm : b ∈ m
    · rw [cut_in hm, cut_in (List.mem_cons_of_mem _ hm)]
    · rw [cut_out hm, cut_out]
      intro z
      rcases List.mem_cons.mp z with z | z
      · exact hb z
      · exact hm z
theorem cut_cons_upd {m : List Addr} {H : Hp} {a : Addr} {o : HO} (h : H a = none) : cut (a :: m) (upd H a o) = cut m H := by
  rw [cut_upd List.mem_cons_self, cut_more h]

theorem same_new {H : Hp} {p : Addr} (h : H p = none) (o : HO) : Same H (upd H p o) := fun b u q => by rw [upd_ne (ne_of_none q h)]; exact q
theorem same_seqT {K : PySem.W.Frag} {H H' : Hp} {a : Addr} {xs : List V} (e : Same H H') (h : SqT K H a xs) : SqT K H' a xs := by
  rcases h with (h | ⟨o, h⟩) | h
  · exact .inl (.inl (e _ _ h))
  · exact .inl (.inr ⟨o, e _ _ h⟩)
  · exact .inr h

theorem rd_same {H H' : Hp} {a : Addr} {o : HO} (s : Same H H') (h : Rd H a o) : Rd H' a o := by
  rcases h with h | ⟨ob, h⟩
  · exact .inl (s _ _ h)
  · exact .inr ⟨ob, s _ _ h⟩

/-! ### data: lists and tuples that stand in the heap (tracked or locked); the law's script, wherever it stands -/
def scrD (ns : List Int) : PyData := .dict (ns.map fun n => (PyData.int n, PyData.none))
mutual
inductive Dp (K : PySem.W.Frag) (H : Hp) : V → PyData → Prop
  | non : Dp K H .non .none
  | bl (b : Bool) : Dp K H (.bl b) (.bool b)
  | int (i : Int) : Dp K H (.int i) (.int i)
  | str (x : Str) : Dp K H (.str x) (.str x)
  | lst {a : Addr} {xs : List V} {ds : List PyData} : Rd H a (.lst xs) → DpAll K H xs ds → Dp K H (.ref a) (.list ds)
  | tup {a : Addr} {xs : List V} {ds : List PyData} : Rd H a (.tup xs) → DpAll K H xs ds → Dp K H (.ref a) (.tuple ds)
  | scr {a : Addr} {ns : List Int} {kvs : List (PyData × PyData)} : SqL K H a (ns.map V.int) → kvs = (ns.map fun n => (PyData.int n, PyData.none)) → Dp K H (.ref a) (.dict kvs)
inductive DpAll (K : PySem.W.Frag) (H : Hp) : List V → List PyData → Prop
  | nil : DpAll K H [] []
  | cons {v : V} {vs : List V} {d : PyData} {ds : List PyData} : Dp K H v d → DpAll K H vs ds → DpAll K H (v :: vs) (d :: ds)
end
mutual
theorem dp_K {K : PySem.W.Frag} {G : Hp} : ∀ (d : PyData) (v : V), d.canLay0 = true → Dp K G v d → L2.Dp K G v d
  | .none, _, _, h => by cases h; exact .non
  | .bool _, _, _, h => by cases h; exact .bl _
  | .int _, _, _, h => by cases h; exact .int _
  | .str _, _, _, h => by cases h; exact .str _
  | .list ds, _, c, h => by
    cases h with
    | lst hs ha => exact .lst (.inl hs) (dpAll_K ds _ (by simpa [PyData.canLay0] using c) ha)
  | .tuple ds, _, c, h => by
    cases h with
    | tup hs ha => exact .tup (.inl hs) (dpAll_K ds _ (by simpa [PyData.canLay0] using c) ha)
  | .dict _, _, c, _ => by simp [PyData.canLay0] at c
theorem dpAll_K {K : PySem.W.Frag} {G : Hp} : ∀ (ds : List PyData) (vs : List V), PyData.canLayAll0 ds = true → DpAll K G vs ds → L2.DpAll K G vs ds
  | [], _, _, h => by cases h; exact .nil
  | d :: ds, _, c, h => by
    have c' : d.canLay0 = true ∧ PyData.canLayAll0 ds = true := by simpa [PyData.canLayAll0] using c
    cases h with
    | cons h1 h2 => exact .cons (dp_K d _ c'.1 h1) (dpAll_K ds _ c'.2 h2)
end
mutual
theorem dp_mono {K : PySem.W.Frag} {G G' : Hp} (e : Same G G') : ∀ (d : PyData) (v : V), Dp K G v d → Dp K G' v d
  | .none, _, h => by cases h; exact .non
  | .bool _, _, h => by cases h; exact .bl _
  | .int _, _, h => by cases h; exact .int _
  | .str _, _, h => by cases h; exact .str _
  | .list ds, _, h => by
    cases h with
    | lst hs ha => exact .lst (rd_same e hs) (dpAll_mono e ds _ ha)
  | .tuple ds, _, h => by
    cases h with
    | tup hs ha => exact .tup (rd_same e hs) (dpAll_mono e ds _ ha)
  | .dict _, _, h => by
    cases h with
    | scr hs he => exact .scr (e.seq hs) he
theorem dpAll_mono {K : PySem.W.Frag} {G G' : Hp} (e : Same G G') : ∀ (ds : List PyData) (vs : List V), DpAll K G vs ds → DpAll K G' vs ds
  | [], _, h => by cases h; exact .nil
  | d :: ds, _, h => by
    cases h with
    | cons h1 h2 => exact .cons (dp_mono e d _ h1) (dpAll_mono e ds _ h2)
end
section
variable {K : PySem.W.Frag} {G G' H : Hp}
theorem dpAll_length : ∀ {vs : List V} {ds : List PyData}, DpAll K G vs ds → vs.length = ds.length
  | _, _, .nil => rfl
  | _, _, .cons _ h => congrArg (· + 1) (dpAll_length h)
theorem dpAll_app : ∀ {vs ws : List V} {ds es : List PyData}, DpAll K G vs ds → DpAll K G ws es → DpAll K G (vs ++ ws) (ds ++ es)
  | _, _, _, _, .nil, h => h
  | _, _, _, _, .cons a b, h => .cons a (dpAll_app b h)
theorem dpAll_get : ∀ {vs : List V} {ds : List PyData} {i : Nat} {d : PyData}, DpAll K G vs ds → ds[i]? = some d → ∃ v, vs[i]? = some v ∧ Dp K G v d
  | _, _, i, _, .nil, h => by simp at h
  | _, _, 0, _, .cons a b, h => by simp at h; subst h; exact ⟨_, rfl, a⟩
  | _, _, i + 1, _, .cons a b, h => by
    obtain ⟨v, e, q⟩ := dpAll_get (i := i) b (by simpa using h)
    exact ⟨v, by simpa using e, q⟩
theorem dpAll_getV : ∀ {vs : List V} {ds : List PyData} {i : Nat} {v : V}, DpAll K G vs ds → vs[i]? = some v → ∃ d, ds[i]? = some d ∧ Dp K G v d
  | _, _, i, _, .nil, h => by simp at h
  | _, _, 0, _, .cons a b, h => by simp at h; subst h; exact ⟨_, rfl, a⟩
  | _, _, i + 1, _, .cons a b, h => by
    obtain ⟨v, e, q⟩ := dpAll_getV (i := i) b (by simpa using h)
    exact ⟨v, by simpa using e, q⟩
theorem dpAll_take : ∀ {vs : List V} {ds : List PyData} (n : Nat), DpAll K G vs ds → DpAll K G (vs.take n) (ds.take n)
  | _, _, 0, _ => .nil
  | _, _, _ + 1, .nil => .nil
  | _, _, n + 1, .cons a b => .cons a (dpAll_take n b)
theorem dpAll_drop : ∀ {vs : List V} {ds : List PyData} (n : Nat), DpAll K G vs ds → DpAll K G (vs.drop n) (ds.drop n)
  | _, _, 0, h => h
  | _, _, _ + 1, .nil => .nil
  | _, _, n + 1, .cons a b => dpAll_drop n b
theorem dpAll_dropLast {vs : List V} {ds : List PyData} (h : DpAll K G vs ds) : DpAll K G vs.dropLast ds.dropLast := by
  rw [List.dropLast_eq_take, List.dropLast_eq_take, dpAll_length h]
  exact dpAll_take _ h
theorem dpAll_ints : ∀ {vs : List V} {ns : List Int}, DpAll K G vs (ns.map PyData.int) → vs = ns.map V.int
  | _, [], h => by cases h; rfl
  | _, n :: ns, h => by
    cases h with
    | cons a b => cases a; rw [dpAll_ints b]; rfl
theorem dpAll_of_ints : ∀ ns : List Int, DpAll K G (ns.map V.int) (ns.map PyData.int)
  | [] => .nil
  | n :: ns => .cons (.int n) (dpAll_of_ints ns)
/-- what needs no heap -/
def flatD : PyData → Bool
  | .list _ => false
  | .tuple _ => false
  | .dict _ => false
  | _ => true
theorem dp_flat {v : V} {d : PyData} (h : Dp K G v d) (f : flatD d = true) : Dp K G' v d := by
  cases h with
  | non => exact .non
  | bl b => exact .bl b
  | int i => exact .int i
  | str x => exact .str x
  | lst _ _ => cases f
  | tup _ _ => cases f
  | scr _ _ => cases f
end

/-! ### slots, own objects -/
/-- what is known of a slot or a value: nothing; data; the very value -/
inductive Sl where
  | no
  | d (x : PyData)
  | v (x : V)
def SlOk (K : PySem.W.Frag) (G : Hp) : Sl → V → Prop
  | .no, _ => True
  | .d x, v => Dp K G v x
  | .v x, v => v = x
def SlotOk (K : PySem.W.Frag) (G : Hp) : Sl → Option V → Prop
  | .no, _ => True
  | .d x, o => ∃ v, o = some v ∧ Dp K G v x
  | .v x, o => o = some x
/-- a mutable object: a list of data; an instance with one attribute that holds data; one without; any other thing -/
inductive Mo where
  | lst (ds : List PyData)
  | ins (C : Addr) (f : Str) (x : PyData)
  | raw (o : HO)
def MoOk (K : PySem.W.Frag) (G H : Hp) (a : Addr) : Mo → Prop
  | .lst ds => ∃ vs, H a = some (.lst vs) ∧ DpAll K G vs ds
  | .ins C f x => ∃ dx v, H a = some (.ins C dx [(f, v)]) ∧ Dp K G v x
  | .raw o => H a = some o
inductive Slots (K : PySem.W.Frag) (G : Hp) : List Sl → L2.St → Prop where
  | nil : Slots K G [] []
  | cons {r : Sl} {o : Option V} {ρ : List Sl} {σ : L2.St} : SlotOk K G r o → Slots K G ρ σ → Slots K G (r :: ρ) (o :: σ)

section
variable {K : PySem.W.Frag} {G G' H H' : Hp}
theorem slOk_mono (e : Same G G') {r : Sl} {v : V} (h : SlOk K G r v) : SlOk K G' r v := by
  cases r with
  | no => trivial
  | d x => exact dp_mono e x v h
  | v x => exact h
theorem slotOk_mono (e : Same G G') {r : Sl} {o : Option V} (h : SlotOk K G r o) : SlotOk K G' r o := by
  cases r with
  | no => trivial
  | d x => obtain ⟨v, a, b⟩ := h; exact ⟨v, a, dp_mono e x v b⟩
  | v x => exact h
theorem slotOk_of {r : Sl} {v : V} (h : SlOk K G r v) : SlotOk K G r (some v) := by
  cases r with
  | no => trivial
  | d x => exact ⟨v, rfl, h⟩
  | v x => exact congrArg some (show v = x from h)
theorem Slots.mono (e : Same G G') : ∀ {ρ : List Sl} {σ : L2.St}, Slots K G ρ σ → Slots K G' ρ σ
  | _, _, .nil => .nil
  | _, _, .cons a b => .cons (slotOk_mono e a) (Slots.mono e b)
theorem Slots.length : ∀ {ρ : List Sl} {σ : L2.St}, Slots K G ρ σ → σ.length = ρ.length
  | _, _, .nil => rfl
  | _, _, .cons a b => congrArg (· + 1) (Slots.length b)
theorem Slots.get : ∀ {ρ : List Sl} {σ : L2.St} {i : Nat} {r : Sl}, Slots K G ρ σ → ρ[i]? = some r → ∃ o, σ[i]? = some o ∧ SlotOk K G r o
  | _, _, i, _, .nil, h => by simp at h
  | _, _, 0, _, .cons a b, h => by simp at h; subst h; exact ⟨_, rfl, a⟩
  | _, _, i + 1, _, .cons a b, h => by
    obtain ⟨o, e, q⟩ := Slots.get (i := i) b (by simpa using h)
    exact ⟨o, by simpa using e, q⟩
theorem Slots.set {r : Sl} {o : Option V} (h : SlotOk K G r o) : ∀ {ρ : List Sl} {σ : L2.St} (i : Nat), Slots K G ρ σ → Slots K G (ρ.set i r) (σ.set i o)
  | _, _, _, .nil => .nil
  | _, _, 0, .cons _ t => .cons h t
  | _, _, i + 1, .cons q t => .cons q (Slots.set h i t)
theorem MoOk.mono (e : Same G G') (s : Same H H') {a : Addr} {m : Mo} (h : MoOk K G H a m) : MoOk K G' H' a m := by
  cases m with
  | lst ds => obtain ⟨vs, x, y⟩ := h; exact ⟨vs, s _ _ x, dpAll_mono e ds vs y⟩
  | ins C f x => obtain ⟨dx, v, p, q⟩ := h; exact ⟨dx, v, s _ _ p, dp_mono e x v q⟩
  | raw o => exact s a o h
theorem MoOk.there {a : Addr} {m : Mo} (h : MoOk K G H a m) : ∃ o, H a = some o := by
  cases m with
  | lst ds => obtain ⟨vs, x, _⟩ := h; exact ⟨_, x⟩
  | ins C f x => obtain ⟨dx, v, p, _⟩ := h; exact ⟨_, p⟩
  | raw o => exact ⟨o, h⟩
end

/-! ### the state -/
/-- what stays: the frame heap (all that stands ahead and is not to change), the addresses that data is not to lean on -/
structure Fz where
  F : Hp
  m0 : List Addr
abbrev Own := List (Addr × Mo)
def ex (Z : Fz) (own : Own) : List Addr := own.map (·.1) ++ Z.m0
structure RepH (K : PySem.W.Frag) (Z : Fz) (own : Own) (H : Hp) : Prop where
  fr : Same Z.F H
  owns : ∀ p ∈ own, Z.F p.1 = none ∧ MoOk K (cut (ex Z own) H) H p.1 p.2
  m0 : ∀ a ∈ Z.m0, ∃ o, H a = some o
  nd : (own.map (·.1)).Nodup
  dj : ∀ p ∈ own, p.1 ∉ Z.m0
structure Rep (K : PySem.W.Frag) (Z : Fz) (own : Own) (ρ : List Sl) (σ : L2.St) (H : Hp) : Prop where
  h : RepH K Z own H
  s : Slots K (cut (ex Z own) H) ρ σ
section
variable {K : PySem.W.Frag} {Z : Fz} {own : Own} {ρ : List Sl} {σ : L2.St} {H H' : Hp}
theorem RepH.mono (e : Same H H') (R : RepH K Z own H) : RepH K Z own H' :=
  ⟨R.fr.trans e, fun p hp => ⟨(R.owns p hp).1, (R.owns p hp).2.mono (cut_same e) e⟩, fun a ha => let ⟨o, h⟩ := R.m0 a ha; ⟨o, e a o h⟩, R.nd, R.dj⟩
theorem Rep.mono (e : Same H H') (R : Rep K Z own ρ σ H) : Rep K Z own ρ σ H' := ⟨R.h.mono e, R.s.mono (cut_same e)⟩
/-- all that is excluded stands there -/
theorem RepH.there (R : RepH K Z own H) {a : Addr} (h : a ∈ ex Z own) : ∃ o, H a = some o := by
  rcases List.mem_append.mp h with h | h
  · obtain ⟨p, hp, e⟩ := List.mem_map.mp h
    obtain ⟨o, q⟩ := (R.owns p hp).2.there
    exact ⟨o, by rw [← e]; exact q⟩
  · exact R.m0 a h
theorem RepH.new (R : RepH K Z own H) {p : Addr} (h : H p = none) : p ∉ ex Z own := fun z => by
  obtain ⟨o, e⟩ := R.there z
  rw [h] at e; cases e
/-- a new object in the part that data leans on -/
theorem RepH.newAt (R : RepH K Z own H) {p : Addr} {o : HO} (h : H p = none) : cut (ex Z own) (upd H p o) p = some o := by
  rw [cut_out (R.new h), upd_same]
theorem RepH.freshF (R : RepH K Z own H) {p : Addr} (h : H p = none) : Z.F p = none := R.fr.free h
/-- a new mutable object -/
theorem RepH.cons (R : RepH K Z own H) {p : Addr} {m : Mo} {H' : Hp} (h : H p = none) (e : Same H H') (hm : MoOk K (cut (p :: ex Z own) H') H' p m) : RepH K Z ((p, m) :: own) H' := by
  have hn : p ∉ own.map (·.1) := fun z => R.new h (List.mem_append_left _ z)
  refine ⟨R.fr.trans e, fun q hq => ?_, fun a ha => let ⟨o, h⟩ := R.m0 a ha; ⟨o, e a o h⟩, List.nodup_cons.mpr ⟨hn, R.nd⟩, fun q hq z => ?_⟩
  case refine_2 =>
    rcases List.mem_cons.mp hq with rfl | hq
    · exact R.new h (List.mem_append_right _ z)
    · exact R.dj q hq z
  rcases List.mem_cons.mp hq with rfl | hq
  · exact ⟨R.freshF h, hm⟩
  · refine ⟨(R.owns q hq).1, (R.owns q hq).2.mono (fun b o hb => ?_) e⟩
    show cut (p :: ex Z own) H' b = some o
    have hbe : b ∉ ex Z own := fun z => by rw [cut_in z] at hb; cases hb
    rw [cut_out hbe] at hb
    have hbp : b ≠ p := ne_of_none hb h
    rw [cut_out]
    · exact e b o hb
    · intro z
      rcases List.mem_cons.mp z with z | z
      · exact hbp z
      · exact hbe z
theorem Rep.cons (R : Rep K Z own ρ σ H) {p : Addr} {m : Mo} {H' : Hp} (h : H p = none) (e : Same H H') (hm : MoOk K (cut (p :: ex Z own) H') H' p m) : Rep K Z ((p, m) :: own) ρ σ H' := by
  refine ⟨R.h.cons h e hm, R.s.mono fun b o hb => ?_⟩
  show cut (p :: ex Z own) H' b = some o
  have hbe : b ∉ ex Z own := fun z => by rw [cut_in z] at hb; cases hb
  rw [cut_out hbe] at hb
  have hbp : b ≠ p := ne_of_none hb h
  rw [cut_out]
  · exact e b o hb
  · intro z
    rcases List.mem_cons.mp z with z | z
    · exact hbp z
    · exact hbe z
end

/-! ### readings that are there -/
def tE (X : Cx) (e : Expr) : TE := fun σ H Q => ∃ t, PE X e t ∧ t σ H Q
theorem pe_E {X : Cx} {e : Expr} : PE X e (tE X e) := ⟨fun pins s σ H Q I ⟨t, h, q⟩ => h.run pins s σ H Q I q⟩
def tT (X : Cx) (e : Expr) : TT := fun σ H Q => ∃ t, PT X e t ∧ t σ H Q
theorem pt_T {X : Cx} {e : Expr} : PT X e (tT X e) := ⟨fun pins s σ H Q I ⟨t, h, q⟩ => h.run pins s σ H Q I q⟩
def tA (X : Cx) (es : List Expr) : TA := fun σ H Q => ∃ t, PA X es t ∧ t σ H Q
theorem pa_A {X : Cx} {es : List Expr} : PA X es (tA X es) := ⟨fun pos pins s σ H Q I ⟨t, h, q⟩ => h.run pos pins s σ H Q I q⟩
def tS (X : Cx) (st : Stmt) : TS := fun D σ H => ∃ t, PS X st t ∧ t D σ H
theorem ps_S {X : Cx} {st : Stmt} : PS X st (tS X st) := ⟨fun pins s σ H D I ⟨t, h, q⟩ => h.run pins s σ H D I q⟩
def tSs (X : Cx) (sts : List Stmt) : TS := fun D σ H => ∃ t, PSs X sts t ∧ t D σ H
theorem pss_Ss {X : Cx} {sts : List Stmt} : PSs X sts (tSs X sts) := ⟨fun pins s σ H D I ⟨t, h, q⟩ => h.run pins s σ H D I q⟩

/-! ### the judgements -/
/-- e gives r, and leaves all as it was -/
def PD (X : Cx) (Z : Fz) (own : Own) (ρ : List Sl) (e : Expr) (r : Sl) : Prop :=
  ∀ σ H, Rep X.K Z own ρ σ H → ∀ Q : VK, (∀ v H', Same H H' → SlOk X.K (cut (ex Z own) H') r v → Q v H') → tE X e σ H Q
/-- e gives a value that reads d (own objects too) -/
def PW' (X : Cx) (Z : Fz) (own : Own) (ρ : List Sl) (e : Expr) (d : PyData) : Prop :=
  ∀ σ H, Rep X.K Z own ρ σ H → ∀ Q : VK, (∀ v H', Same H H' → Dp X.K H' v d → Q v H') → tE X e σ H Q
/-- e gives a new list of ds -/
def PN (X : Cx) (Z : Fz) (own : Own) (ρ : List Sl) (e : Expr) (ds : List PyData) : Prop :=
  ∀ σ H, Rep X.K Z own ρ σ H → ∀ Q : VK, (∀ p vs H', H p = none → Same H H' → H' p = some (.lst vs) → DpAll X.K (cut (p :: ex Z own) H') vs ds → Q (.ref p) H') → tE X e σ H Q
/-- the test e gives b -/
def PB (X : Cx) (Z : Fz) (own : Own) (ρ : List Sl) (e : Expr) (b : Bool) : Prop :=
  ∀ σ H, Rep X.K Z own ρ σ H → ∀ Q : Bool → Hp → Prop, (∀ H', Same H H' → Q b H') → tT X e σ H Q
/-- arguments -/
inductive SlsOk (K : PySem.W.Frag) (G : Hp) : List Sl → List V → Prop where
  | nil : SlsOk K G [] []
  | cons {r : Sl} {v : V} {rs : List Sl} {vs : List V} : SlOk K G r v → SlsOk K G rs vs → SlsOk K G (r :: rs) (v :: vs)
theorem SlsOk.mono {K : PySem.W.Frag} {G G' : Hp} (e : Same G G') : ∀ {rs : List Sl} {vs : List V}, SlsOk K G rs vs → SlsOk K G' rs vs
  | _, _, .nil => .nil
  | _, _, .cons a b => .cons (slOk_mono e a) (SlsOk.mono e b)
def PDs (X : Cx) (Z : Fz) (own : Own) (ρ : List Sl) (es : List Expr) (rs : List Sl) : Prop :=
  ∀ σ H, Rep X.K Z own ρ σ H → ∀ Q : List V → Hp → Prop, (∀ vs H', Same H H' → SlsOk X.K (cut (ex Z own) H') rs vs → Q vs H') → tA X es σ H Q
theorem slsOk_data {K : PySem.W.Frag} {G : Hp} : ∀ {ds : List PyData} {vs : List V}, SlsOk K G (ds.map Sl.d) vs → DpAll K G vs ds
  | [], _, h => by cases h; exact .nil
  | d :: ds, _, h => by
    cases h with
    | cons a b => exact .cons a (slsOk_data b)

section
variable {X : Cx} {Z : Fz} {own : Own} {ρ : List Sl} {e : Expr} {es : List Expr} {r : Sl} {rs : List Sl} {d : PyData} {ds : List PyData}
theorem pd_of {t : TE} (h : PE X e t) (q : ∀ σ H, Rep X.K Z own ρ σ H → ∀ Q : VK, (∀ v H', Same H H' → SlOk X.K (cut (ex Z own) H') r v → Q v H') → t σ H Q) : PD X Z own ρ e r :=
  fun σ H R Q k => ⟨t, h, q σ H R Q k⟩
theorem pw_of_d (h : PD X Z own ρ e (.d d)) : PW' X Z own ρ e d := fun σ H R Q k => h σ H R Q fun v H' s hv => k v H' s (dp_mono cut_full d v hv)
theorem pw_of_own {a : Addr} (h : PD X Z own ρ e (.v (.ref a))) (ho : (a, Mo.lst ds) ∈ own) : PW' X Z own ρ e (.list ds) := fun σ H R Q k => h σ H R Q fun v H' s hv => by
  have e : v = .ref a := hv
  subst e
  obtain ⟨_, vs, h1, h2⟩ := (R.h.mono s).owns _ ho
  exact k _ H' s (.lst (.inl h1) (dpAll_mono cut_full ds vs h2))
theorem pd_flat (h : PW' X Z own ρ e d) (f : flatD d = true) : PD X Z own ρ e (.d d) := fun σ H R Q k => h σ H R Q fun v H' s hv => k v H' s (dp_flat hv f)
theorem pd_of_n (h : PN X Z own ρ e ds) : PD X Z own ρ e (.d (.list ds)) := fun σ H R Q k => h σ H R Q fun p vs H' hp s e q => by
  refine k _ H' s (.lst (.inl ?_) (dpAll_mono (cut_less fun a ha => List.mem_cons_of_mem _ ha) ds vs q))
  rw [cut_out (R.h.new hp)]
  exact e
theorem pds_nil : PDs X Z own ρ [] [] := fun σ H R Q k => ⟨tNil, pa_nil, k [] H (Same.refl H) .nil⟩
theorem pds_cons (h1 : PD X Z own ρ e r) (h2 : PDs X Z own ρ es rs) (hs : starEach (e :: es) X.env = (false, eval e X.env) :: starEach es X.env := by rfl) : PDs X Z own ρ (e :: es) (r :: rs) := fun σ H R Q k =>
  ⟨_, pa_cons pe_E pa_A hs, h1 σ H R _ fun v H1 s1 q1 => h2 σ H1 (R.mono s1) _ fun vs H2 s2 q2 => k _ H2 (s1.trans s2) (.cons (slOk_mono (cut_same s2) q1) q2)⟩
end
end L3
set_option Elab.async false
set_option linter.all false
set_option autoImplicit false
set_option maxRecDepth 100000
set_option maxHeartbeats 4000000
/-! Lay2: the rules for expressions. -/
namespace L3
open PySem PySem.Spec L2

/-- e gives a value of which P holds -/
def PG (X : Cx) (Z : Fz) (own : Own) (ρ : List Sl) (e : Expr) (P : Hp → V → Prop) : Prop :=
  ∀ σ H, Rep X.K Z own ρ σ H → ∀ Q : VK, (∀ v H', Same H H' → P H' v → Q v H') → tE X e σ H Q
def Mono (P : Hp → V → Prop) : Prop := ∀ H H' v, Same H H' → P H v → P H' v
/-- the value as one that is looked at only -/
def PW (X : Cx) (Z : Fz) (own : Own) (ρ : List Sl) (e : Expr) (r : Sl) : Prop := PG X Z own ρ e fun H v => SlOk X.K H r v
def LstIs (K : PySem.W.Frag) (Z : Fz) (own : Own) (ds : List PyData) : Hp → V → Prop := fun H v => ∃ a vs, v = .ref a ∧ Rd H a (.lst vs) ∧ DpAll K (cut (ex Z own) H) vs ds
/-- e gives a list of ds (an own one or not) -/
def PL (X : Cx) (Z : Fz) (own : Own) (ρ : List Sl) (e : Expr) (ds : List PyData) : Prop := PG X Z own ρ e (LstIs X.K Z own ds)
theorem mono_sl {X : Cx} {Z : Fz} {own : Own} {r : Sl} : Mono fun H v => SlOk X.K (cut (ex Z own) H) r v := fun _ _ _ s h => slOk_mono (cut_same s) h
theorem mono_w {X : Cx} {r : Sl} : Mono fun H v => SlOk X.K H r v := fun _ _ _ s h => slOk_mono s h
theorem mono_l {X : Cx} {Z : Fz} {own : Own} {ds : List PyData} : Mono (LstIs X.K Z own ds) := fun _ _ _ s ⟨a, vs, e, h, d⟩ => ⟨a, vs, e, rd_same s h, dpAll_mono (cut_same s) _ _ d⟩

/-! ### a value as a list; as one that is looked at -/
inductive AsL (own : Own) : Sl → List PyData → Prop where
  | d (ds : List PyData) : AsL own (.d (.list ds)) ds
  | o {a : Addr} {ds : List PyData} : (a, Mo.lst ds) ∈ own → AsL own (.v (.ref a)) ds
inductive AsW (own : Own) : Sl → Sl → Prop where
  | d (x : PyData) : AsW own (.d x) (.d x)
  | o {a : Addr} {ds : List PyData} : (a, Mo.lst ds) ∈ own → AsW own (.v (.ref a)) (.d (.list ds))
  | v (x : V) : AsW own (.v x) (.v x)
section
variable {X : Cx} {Z : Fz} {own : Own} {ρ : List Sl} {H : Hp}
theorem AsL.is {r : Sl} {ds : List PyData} {v : V} (h : AsL own r ds) (R : RepH X.K Z own H) (hv : SlOk X.K (cut (ex Z own) H) r v) : LstIs X.K Z own ds H v := by
  cases h with
  | d _ =>
    cases hv with
    | lst hs ha => exact ⟨_, _, rfl, rd_same cut_full hs, ha⟩
  | o ho =>
    obtain ⟨_, vs, h1, h2⟩ := R.owns _ ho
    exact ⟨_, vs, hv, .inl h1, h2⟩
theorem AsW.is {r r' : Sl} {v : V} (h : AsW own r r') (R : RepH X.K Z own H) (hv : SlOk X.K (cut (ex Z own) H) r v) : SlOk X.K H r' v := by
  cases h with
  | d x => exact dp_mono cut_full x v hv
  | @o a ds ho =>
    obtain ⟨_, vs, h1, h2⟩ := R.owns _ ho
    have e : v = .ref a := hv
    subst e
    exact .lst (.inl h1) (dpAll_mono cut_full ds vs h2)
  | v x => exact hv
variable {e : Expr} {r r' : Sl} {ds : List PyData}
theorem pl_of (h : PD X Z own ρ e r) (a : AsL own r ds) : PL X Z own ρ e ds := fun σ H R Q k => h σ H R Q fun v H' s hv => k v H' s (a.is (R.h.mono s) hv)
theorem pw_of (h : PD X Z own ρ e r) (a : AsW own r r') : PW X Z own ρ e r' := fun σ H R Q k => h σ H R Q fun v H' s hv => k v H' s (a.is (R.h.mono s) hv)
theorem pd_of_pn (h : PN X Z own ρ e ds) : PD X Z own ρ e (.d (.list ds)) := pd_of_n h
end

/-! ### names, constants -/
def kn : Sl → Bool
  | .no => false
  | _ => true
section
variable {X : Cx} {Z : Fz} {own : Own} {ρ : List Sl} {pos : Pos}
theorem pd_name (i : Nat) {x : Str} {r : Sl} (hρ : ρ[i]? = some r) (hk : kn r = true := by rfl) (hN : X.N[i]? = some x := by rfl) (hv : Vis X.env.scope x := by first | exact Or.inl rfl | exact Or.inr (Or.inl rfl) | exact Or.inr (Or.inr rfl)) (hd : (x == ("__debug__" : Str)) = false := by decide)
    (hcd : (x == ("__classdict__" : Str)) = false := by decide) : PD X Z own ρ (.Name x pos) r :=
  pd_of (pe_var hN hv hd hcd) fun σ H R Q k => by
    obtain ⟨o, e, q⟩ := R.s.get hρ
    cases r with
    | no => cases hk
    | d y => obtain ⟨v, rfl, q⟩ := q; exact ⟨v, e, k v H (Same.refl H) q⟩
    | v y =>
      have q' : o = some y := q
      subst q'
      exact ⟨y, e, k y H (Same.refl H) rfl⟩
theorem pd_int {i : Int} {j} : PD X Z own ρ (.Constant (.int i) j pos) (.d (.int i)) := pd_of pe_int fun σ H R Q k => k _ H (Same.refl H) (Dp.int i)
theorem pd_bl {b : Bool} {j} : PD X Z own ρ (.Constant (.bool b) j pos) (.d (.bool b)) := pd_of pe_bl fun σ H R Q k => k _ H (Same.refl H) (Dp.bl b)
theorem pd_non {j} : PD X Z own ρ (.Constant .none j pos) (.d .none) := pd_of pe_non fun σ H R Q k => k _ H (Same.refl H) Dp.non
theorem pd_str {x : Str} {j} : PD X Z own ρ (.Constant (.str x) j pos) (.d (.str x)) := pd_of pe_str fun σ H R Q k => k _ H (Same.refl H) (Dp.str x)
/-- a module's constant -/
theorem pd_globI {x : Str} {i : Int} {t : Tok} (hg : Gl X x) (hm : X.mg x = some (.int i t)) (hd : (x == ("__debug__" : Str)) = false := by decide) : PD X Z own ρ (.Name x pos) (.d (.int i)) :=
  pd_of (pe_glob (v := .int i) hg hm ⟨t, rfl⟩ hd) fun σ H R Q k => k _ H (Same.refl H) (Dp.int i)
/-- a class, a built-in type as a value -/
theorem pd_glob {x : Str} {v : V} {u : Value} (hg : Gl X x) (hm : X.mg x = some u) (hr : RelV v u) (hd : (x == ("__debug__" : Str)) = false := by decide) : PD X Z own ρ (.Name x pos) (.v v) :=
  pd_of (pe_glob hg hm hr hd) fun σ H R Q k => k _ H (Same.refl H) rfl
theorem pd_ty {x : Str} {n : String} (hg : Gl X x) (hm : X.mg x = none) (hv : bootBuiltins x = some (.type n)) (hn : x ≠ "__name__" := by decide) (hd : (x == ("__debug__" : Str)) = false := by decide) : PD X Z own ρ (.Name x pos) (.v (.ty n)) :=
  pd_of (pe_bltn (v := .ty n) hg hm hv rfl hn hd) fun σ H R Q k => k _ H (Same.refl H) rfl
end

/-! ### two-place operators -/
structure BinR (X : Cx) (Z : Fz) (own : Own) (op : Operator) (ra rb rz : Sl) : Prop where
  ex : ∃ r, OpR X (binaryOp op) r ∧ ∀ x y H, RepH X.K Z own H → SlOk X.K (cut (ex Z own) H) ra x → SlOk X.K (cut (ex Z own) H) rb y →
    ∀ Q : VK, (∀ v H', Same H H' → SlOk X.K (cut (ex Z own) H') rz v → Q v H') → r x y H Q
section
variable {X : Cx} {Z : Fz} {own : Own} {ρ : List Sl} {pos : Pos} {a b : Expr} {ra rb rz : Sl} {op : Operator}
theorem pd_bin (ha : PD X Z own ρ a ra) (hb : PD X Z own ρ b rb) (h : BinR X Z own op ra rb rz) : PD X Z own ρ (.BinOp a op b pos) rz := by
  obtain ⟨r, ho, h⟩ := h.ex
  exact pd_of (pe_op ho pe_E pe_E) fun σ H R Q k => ha σ H R _ fun x H1 s1 p1 => hb σ H1 (R.mono s1) _ fun y H2 s2 p2 =>
    h x y H2 (R.h.mono (s1.trans s2)) (slOk_mono (cut_same s2) p1) p2 Q fun v H' s3 pz => k v H' (s1.trans (s2.trans s3)) pz
theorem binI {C : Int → Int → Prop} {g : Int → Int → Int} {i j : Int} (ho : OpR X (binaryOp op) (rI C fun i j => .int (g i j))) (hc : C i j) : BinR X Z own op (.d (.int i)) (.d (.int j)) (.d (.int (g i j))) :=
  .mk ⟨_, ho, fun x y H R hx hy Q k => by cases hx; cases hy; exact ⟨i, j, rfl, rfl, hc, k _ H (Same.refl H) (Dp.int _)⟩⟩
theorem binI0 {g : Int → Int → Int} {i j : Int} (ho : OpR X (binaryOp op) (rI0 fun i j => .int (g i j))) : BinR X Z own op (.d (.int i)) (.d (.int j)) (.d (.int (g i j))) :=
  .mk ⟨_, ho, fun x y H R hx hy Q k => by cases hx; cases hy; exact ⟨i, j, rfl, rfl, k _ H (Same.refl H) (Dp.int _)⟩⟩
variable {i j : Int}
theorem bin_add : BinR X Z own .Add (.d (.int i)) (.d (.int j)) (.d (.int (i + j))) := binI0 op_add
theorem bin_sub : BinR X Z own .Sub (.d (.int i)) (.d (.int j)) (.d (.int (i - j))) := binI0 op_sub
theorem op_mulX : OpR X (binaryOp .Mult) (rI IntMulOk fun i j => .int (i * j)) := opI fun _ _ _ _ _ _ _ hc q => PyProof.Rows.mul_int q hc
theorem bin_mul (h : IntMulOk i j) : BinR X Z own .Mult (.d (.int i)) (.d (.int j)) (.d (.int (i * j))) := binI op_mulX h
theorem bin_fdiv (h : CDiv i j) : BinR X Z own .FloorDiv (.d (.int i)) (.d (.int j)) (.d (.int (i / j))) := binI op_fdiv h
theorem bin_mod (h : 0 < j) : BinR X Z own .Mod (.d (.int i)) (.d (.int j)) (.d (.int (i % j))) := binI op_mod h
theorem bin_pow (h : CPow i j) : BinR X Z own .Pow (.d (.int i)) (.d (.int j)) (.d (.int (i ^ j.toNat))) := binI op_pow h
/-- text * 0, text * 1 -/
theorem op_mulS : OpR X (binaryOp .Mult) (fun x y H Q => ∃ s k, x = .str s ∧ y = .int (if k = true then 1 else 0) ∧ Q (.str (if k = true then s else Str.empty)) H) := by
  intro pins s σ H x y v u Q I rx ry h
  obtain ⟨z, k, rfl, rfl, q⟩ := h
  obtain ⟨t, rfl⟩ := rx
  obtain ⟨t', rfl⟩ := ry
  cases k with
  | true =>
    refine PySem.P.mul_str (by decide) (fun _ e => by simp at e) (fun _ e => by simp at e) ?_
    have e1 : ¬ (if (true : Bool) = true then (1 : Int) else 0) < 1 := by decide
    rw [if_neg e1, if_pos (by simp)]
    exact ⟨.str z, H, I, ⟨_, rfl⟩, q⟩
  | false => exact PySem.P.mul_str_none (by decide) (by decide) ⟨.str Str.empty, H, I.tok _, ⟨_, rfl⟩, q⟩
theorem bin_mulS {s : Str} {k : Bool} : BinR X Z own .Mult (.d (.str s)) (.d (.int (if k = true then 1 else 0))) (.d (.str (if k = true then s else Str.empty))) :=
  BinR.mk ⟨_, op_mulS, fun x y H R hx hy Q q => by cases hx; cases hy; exact ⟨s, k, rfl, rfl, q _ H (Same.refl H) (Dp.str _)⟩⟩
/-- tuple + tuple, none of them empty -/
theorem bin_catT {as bs : List PyData} (h1 : as ≠ []) (h2 : bs ≠ []) (hz : as.length + bs.length ≤ sizeLine) : BinR X Z own .Add (.d (.tuple as)) (.d (.tuple bs)) (.d (.tuple (as ++ bs))) :=
  BinR.mk ⟨_, op_catT, fun x y H R hx hy Q k => by
    cases hx with
    | @tup _ xs _ ha da =>
      cases hy with
      | @tup _ ys _ hb db =>
        refine ⟨_, _, _, _, rfl, rfl, (.inl (rd_same cut_full ha)), (.inl (rd_same cut_full hb)), ?_, by rw [dpAll_length da, dpAll_length db]; exact hz, ?_, ?_⟩
        · intro z; subst z; cases da; exact h1 rfl
        · intro z; subst z; cases db; exact absurd rfl h2
        · intro _ p hp
          have s := same_new hp (HO.tup (xs ++ ys))
          exact k _ _ s (.tup (.inl (R.newAt hp)) (dpAll_app (dpAll_mono (cut_same s) _ _ da) (dpAll_mono (cut_same s) _ _ db)))⟩
/-- list + list, list * 0 or 1: new lists -/
def rCatR : R2 := fun x y H Q => ∃ l b xs zs, x = .ref l ∧ y = .ref b ∧ Rd H l (.lst xs) ∧ Rd H b (.lst zs) ∧ xs.length + zs.length ≤ sizeLine ∧ ∀ p, H p = none → Q (.ref p) (upd H p (.lst (xs ++ zs)))
theorem Inv.lstR {pins : List (Addr × Obj)} {σ : L2.St} {H : Hp} {s : Shared} {l : Addr} {xs : List V} (I : L2.Inv X pins σ H s) (hH : Rd H l (.lst xs)) :
    xs.length ≤ sizeLine ∧ ∃ (its : List Value) (n : Nat), Vals xs its ∧ xs.length = its.length ∧ s.heap.get? l = some { cls := .type "list", data := .seq its.toArray n } := by
  obtain ⟨z, its, n, r, e⟩ := hH.ok I.hok
  exact ⟨z, its, n, r, r.length, e⟩
theorem op_catR : OpR X (binaryOp .Add) rCatR := by
  intro pins s σ H x y v u Q I rx ry h
  obtain ⟨l, b, xs, zs, rfl, rfl, hH, hB, hz, q⟩ := h
  cases rx
  cases ry
  obtain ⟨z, its, n, r, hl, e⟩ := Inv.lstR I hH
  obtain ⟨z2, its2, n2, r2, hl2, e2⟩ := Inv.lstR I hB
  refine PySem.P.add_list e e2 ?_ (by rw [List.size_toArray, List.size_toArray]; omega)
  have ea : its.toArray ++ its2.toArray = (its ++ its2).toArray := by simp
  rw [ea]
  exact ⟨.ref _, _, I.lnew (t' := s.toks) (r.append r2) (by rw [List.length_append]; omega), rfl, q _ I.fresh⟩
end

/-! ### new lists -/
section
variable {X : Cx} {Z : Fz} {own : Own} {ρ : List Sl} {pos : Pos} {a b e : Expr} {as bs ds : List PyData} {H : Hp}
/-- what a rule that makes a new list hands on -/
theorem pn_end {H1 : Hp} {Q : VK} {vs : List V} (R : RepH X.K Z own H1) (hd : DpAll X.K (cut (ex Z own) H1) vs ds) (k : ∀ p vs H', H1 p = none → Same H1 H' → H' p = some (.lst vs) → DpAll X.K (cut (p :: ex Z own) H') vs ds → Q (.ref p) H') :
    ∀ p, H1 p = none → Q (.ref p) (upd H1 p (.lst vs)) := fun p hp => k p vs _ hp (same_new hp _) upd_same (by rw [cut_cons_upd hp]; exact hd)
theorem pn_cat (ha : PL X Z own ρ a as) (hb : PL X Z own ρ b bs) (hz : as.length + bs.length ≤ sizeLine) : PN X Z own ρ (.BinOp a .Add b pos) (as ++ bs) := fun σ H R Q k =>
  ⟨_, pe_op op_catR pe_E pe_E, ha σ H R _ fun x H1 s1 p1 => hb σ H1 (R.mono s1) _ fun y H2 s2 p2 => by
    obtain ⟨l, xs, rfl, hl, dl⟩ := mono_l _ _ _ s2 p1
    obtain ⟨m, ys, rfl, hm, dm⟩ := p2
    refine ⟨l, m, xs, ys, rfl, rfl, hl, hm, by rw [dpAll_length dl, dpAll_length dm]; exact hz, fun p hp => ?_⟩
    exact pn_end (R.h.mono (s1.trans s2)) (dpAll_app dl dm) (fun p vs H' h1 h2 h3 h4 => k p vs H' (s1.free (s2.free h1)) (s1.trans (s2.trans h2)) h3 h4) p hp⟩

/-- arguments that are data -/
def PDD (X : Cx) (Z : Fz) (own : Own) (ρ : List Sl) (es : List Expr) (ds : List PyData) : Prop :=
  ∀ σ H, Rep X.K Z own ρ σ H → ∀ Q : List V → Hp → Prop, (∀ vs H', Same H H' → DpAll X.K (cut (ex Z own) H') vs ds → Q vs H') → tA X es σ H Q
/-- arguments that are looked at -/
def PWW (X : Cx) (Z : Fz) (own : Own) (ρ : List Sl) (es : List Expr) (rs : List Sl) : Prop :=
  ∀ σ H, Rep X.K Z own ρ σ H → ∀ Q : List V → Hp → Prop, (∀ vs H', Same H H' → SlsOk X.K H' rs vs → Q vs H') → tA X es σ H Q
end
section
variable {X : Cx} {Z : Fz} {own : Own} {ρ : List Sl} {pos : Pos} {a b e i : Expr} {es : List Expr} {as bs ds : List PyData} {d : PyData} {r : Sl} {rs : List Sl} {H : Hp}
theorem pdd_nil : PDD X Z own ρ [] [] := fun σ H R Q k => ⟨tNil, pa_nil, k [] H (Same.refl H) .nil⟩
theorem pdd_cons (h1 : PD X Z own ρ e (.d d)) (h2 : PDD X Z own ρ es ds) (hs : starEach (e :: es) X.env = (false, eval e X.env) :: starEach es X.env := by rfl) : PDD X Z own ρ (e :: es) (d :: ds) := fun σ H R Q k =>
  ⟨_, pa_cons pe_E pa_A hs, h1 σ H R _ fun v H1 s1 q1 => h2 σ H1 (R.mono s1) _ fun vs H2 s2 q2 => k _ H2 (s1.trans s2) (.cons (dp_mono (cut_same s2) _ _ q1) q2)⟩
theorem pww_nil : PWW X Z own ρ [] [] := fun σ H R Q k => ⟨tNil, pa_nil, k [] H (Same.refl H) .nil⟩
theorem pww_cons (h1 : PW X Z own ρ e r) (h2 : PWW X Z own ρ es rs) (hs : starEach (e :: es) X.env = (false, eval e X.env) :: starEach es X.env := by rfl) : PWW X Z own ρ (e :: es) (r :: rs) := fun σ H R Q k =>
  ⟨_, pa_cons pe_E pa_A hs, h1 σ H R _ fun v H1 s1 q1 => h2 σ H1 (R.mono s1) _ fun vs H2 s2 q2 => k _ H2 (s1.trans s2) (.cons (slOk_mono s2 q1) q2)⟩
theorem sz1000 {n : Nat} (h : n.ble 1000 = true) : n ≤ sizeLine := Nat.le_of_lt (small1000 (Nat.le_of_ble_eq_true h))
/-- a tuple, a list, as written -/
theorem pd_tup {k} (h : PDD X Z own ρ es ds) (hz : ds.length ≤ sizeLine := by exact sz1000 rfl) : PD X Z own ρ (.Tuple es k pos) (.d (.tuple ds)) :=
  pd_of (pe_tup pa_A) fun σ H R Q k => h σ H R _ fun vs H1 s1 q1 => ⟨by rw [dpAll_length q1]; exact hz, fun p hp => by
    have s := same_new hp (HO.tup vs)
    exact k _ _ (s1.trans s) (.tup (.inl ((R.h.mono s1).newAt hp)) (dpAll_mono (cut_same s) _ _ q1))⟩
theorem pn_lst (h : PDD X Z own ρ es ds) (hz : ds.length ≤ sizeLine := by exact sz1000 rfl) : PN X Z own ρ (.List es pos) ds := fun σ H R Q k =>
  ⟨_, pe_lst pa_A, h σ H R _ fun vs H1 s1 q1 => ⟨by rw [dpAll_length q1]; exact hz, pn_end (R.h.mono s1) q1 fun p vs H' h1 h2 h3 h4 => k p vs H' (s1.free h1) (s1.trans h2) h3 h4⟩⟩

/-! ### subscripts -/
inductive IxO (own : Own) : Sl → Int → PyData → Prop where
  | l {ds : List PyData} {k : Int} {d : PyData} : atI ds k = some d → IxO own (.d (.list ds)) k d
  | t {ds : List PyData} {k : Int} {d : PyData} : atI ds k = some d → IxO own (.d (.tuple ds)) k d
  | o {a : Addr} {ds : List PyData} {k : Int} {d : PyData} : (a, Mo.lst ds) ∈ own → atI ds k = some d → IxO own (.v (.ref a)) k d
  | s {ns : List Int} {k n : Int} : atI ns k = some n → IxO own (.d (scrD ns)) k (.int n)
theorem atI_map {α β : Type} {f : α → β} {xs : List α} {k : Int} {x : α} (h : atI xs k = some x) : atI (xs.map f) k = some (f x) := by
  unfold atI at h ⊢
  rw [List.length_map]
  cases q : ixN xs.length k with
  | none => rw [q] at h; cases h
  | some j =>
    rw [q] at h
    show (xs.map f)[j]? = _
    rw [List.getElem?_map, show xs[j]? = some x from h]
    rfl
theorem atI_dp {G : Hp} {vs : List V} {k : Int} (h : DpAll X.K G vs ds) (e : atI ds k = some d) : ∃ v, atI vs k = some v ∧ Dp X.K G v d := by
  unfold atI at e ⊢
  rw [dpAll_length h]
  cases q : ixN ds.length k with
  | none => rw [q] at e; cases e
  | some j =>
    rw [q] at e
    exact dpAll_get h (show ds[j]? = some d from e)
theorem map_scr_inj : ∀ {ns ms : List Int}, (ns.map fun n => (PyData.int n, PyData.none)) = (ms.map fun n => (PyData.int n, PyData.none)) → ns = ms
  | [], [], _ => rfl
  | [], m :: ms, h => by cases h
  | n :: ns, [], h => by cases h
  | n :: ns, m :: ms, h => by
    rw [List.map_cons, List.map_cons] at h
    injection h with h1 h2
    injection h1 with h3 _
    injection h3 with h4
    rw [h4, map_scr_inj h2]
theorem scr_is {G : Hp} {v : V} {ns : List Int} (h : Dp X.K G v (scrD ns)) : ∃ q, v = .ref q ∧ SqL X.K G q (ns.map V.int) := by
  unfold scrD at h
  cases h with
  | @scr q ms _ hs he => exact ⟨q, rfl, by rw [map_scr_inj he]; exact hs⟩
theorem pd_ix {k : Int} (ha : PD X Z own ρ a r) (hi : PD X Z own ρ i (.d (.int k))) (h : IxO own r k d) (hs : PlainIx i := by exact fun _ _ => rfl) : PD X Z own ρ (.Subscript a i pos) (.d d) :=
  pd_of (pe_ix (ix_list.or ix_tup) pe_E pe_E hs) fun σ H R Q q => ha σ H R _ fun x H1 s1 p1 => hi σ H1 (R.mono s1) _ fun y H2 s2 p2 => by
    have R2 := R.h.mono (s1.trans s2)
    have p1 := slOk_mono (cut_same s2) p1
    cases p2
    cases h with
    | l e =>
      cases p1 with
      | @lst m vs _ hs ha =>
        obtain ⟨v, ev, dv⟩ := atI_dp ha e
        exact .inl ⟨m, vs, k, v, rfl, rfl, .inl (rd_same cut_full hs), ev, q v H2 (s1.trans s2) dv⟩
    | t e =>
      cases p1 with
      | @tup m vs _ hs ha =>
        obtain ⟨v, ev, dv⟩ := atI_dp ha e
        exact .inr ⟨m, vs, k, v, rfl, rfl, (.inl (rd_same cut_full hs)), ev, q v H2 (s1.trans s2) dv⟩
    | @o m _ _ _ ho e =>
      obtain ⟨_, vs, h1, h2⟩ := R2.owns _ ho
      obtain ⟨v, ev, dv⟩ := atI_dp h2 e
      exact .inl ⟨m, vs, k, v, p1, rfl, SqL.of h1, ev, q v H2 (s1.trans s2) dv⟩
    | s e =>
      obtain ⟨m, ev, hs⟩ := scr_is p1
      exact .inl ⟨m, _, k, _, ev, rfl, cut_full.seq hs, atI_map e, q _ H2 (s1.trans s2) (Dp.int _)⟩
/-- a part of a slice -/
inductive PP (X : Cx) (Z : Fz) (own : Own) (ρ : List Sl) : Option Expr → Option Int → Prop where
  | none : PP X Z own ρ none none
  | some {e : Expr} {k : Int} : PD X Z own ρ e (.d (.int k)) → PP X Z own ρ (some e) (some k)
def tO (X : Cx) (e : Option Expr) : TO := fun σ H Q => ∃ t, PO X e t ∧ t σ H Q
theorem po_O {e : Option Expr} : PO X e (tO X e) := ⟨fun pins s σ H Q I ⟨t, h, q⟩ => h.run pins s σ H Q I q⟩
theorem PP.run {e : Option Expr} {o : Option Int} (h : PP X Z own ρ e o) {σ : L2.St} {H : Hp} (R : Rep X.K Z own ρ σ H) {Q : Option Int → Hp → Prop} (k : ∀ H', Same H H' → Q o H') : tO X e σ H Q := by
  cases h with
  | none => exact ⟨_, po_none, k H (Same.refl H)⟩
  | some he => exact ⟨_, po_some pe_E, he σ H R _ fun v H' s hv => by cases hv; exact ⟨_, rfl, k H' s⟩⟩
def cutD (xs : List PyData) (lo hi : Option Int) : List PyData := (xs.drop (HT.sIx xs.length 0 lo)).take (HT.sIx xs.length xs.length hi - HT.sIx xs.length 0 lo)
theorem dpAll_cut {G : Hp} {vs : List V} {lo hi : Option Int} (h : DpAll X.K G vs ds) : DpAll X.K G (cutV vs lo hi) (cutD ds lo hi) := by
  unfold cutV cutD
  rw [dpAll_length h]
  exact dpAll_take _ (dpAll_drop _ h)
theorem pn_slice {lo hi : Option Expr} {l u : Option Int} {p2 : Pos} (ha : PL X Z own ρ a ds) (hl : PP X Z own ρ lo l) (hu : PP X Z own ρ hi u) : PN X Z own ρ (.Subscript a (.Slice lo hi none p2) pos) (cutD ds l u) := fun σ H R Q k =>
  ⟨_, pe_slice sl_list pe_E po_O po_O, ha σ H R _ fun x H1 s1 p1 => hl.run (R.mono s1) fun H2 s2 => hu.run (R.mono (s1.trans s2)) fun H3 s3 => by
    obtain ⟨m, vs, rfl, hm, dm⟩ := mono_l _ _ _ (s2.trans s3) p1
    have s13 := (s1.trans s2).trans s3
    refine ⟨m, vs, rfl, .inl hm, fun p hp => ?_⟩
    exact pn_end (R.h.mono s13) (dpAll_cut dm) (fun p vs H' h1 h2 h3 h4 => k p vs H' (s13.free h1) (s13.trans h2) h3 h4) p hp⟩
/-- of the script -/
def cutZ (ns : List Int) (lo hi : Option Int) : List Int := (ns.drop (HT.sIx ns.length 0 lo)).take (HT.sIx ns.length ns.length hi - HT.sIx ns.length 0 lo)
theorem pn_sliceS {lo hi : Option Expr} {l u : Option Int} {p2 : Pos} {ns : List Int} (ha : PD X Z own ρ a (.d (scrD ns))) (hl : PP X Z own ρ lo l) (hu : PP X Z own ρ hi u) : PN X Z own ρ (.Subscript a (.Slice lo hi none p2) pos) ((cutZ ns l u).map PyData.int) := fun σ H R Q k =>
  ⟨_, pe_slice sl_list pe_E po_O po_O, ha σ H R _ fun x H1 s1 p1 => hl.run (R.mono s1) fun H2 s2 => hu.run (R.mono (s1.trans s2)) fun H3 s3 => by
    obtain ⟨m, rfl, hs⟩ := scr_is p1
    have s13 := (s1.trans s2).trans s3
    refine ⟨m, _, rfl, (cut_full.trans (s2.trans s3)).seq hs, fun p hp => ?_⟩
    have e : cutV (ns.map V.int) l u = (cutZ ns l u).map V.int := by
      unfold cutV cutZ
      rw [List.length_map, List.map_take, List.map_drop]
    rw [e]
    exact pn_end (R.h.mono s13) (dpAll_of_ints _) (fun p vs H' h1 h2 h3 h4 => k p vs H' (s13.free h1) (s13.trans h2) h3 h4) p hp⟩
/-- t[lo:hi], not the whole -/
theorem pd_sliceT {lo hi : Option Expr} {l u : Option Int} {p2 : Pos} (ha : PD X Z own ρ a (.d (.tuple ds))) (hl : PP X Z own ρ lo l) (hu : PP X Z own ρ hi u) (hz : ¬ (HT.sIx ds.length 0 l = 0 ∧ HT.sIx ds.length ds.length u = ds.length)) : PD X Z own ρ (.Subscript a (.Slice lo hi none p2) pos) (.d (.tuple (cutD ds l u))) := fun σ H R Q k =>
  ⟨_, pe_slice sl_tup pe_E po_O po_O, ha σ H R _ fun x H1 s1 p1 => hl.run (R.mono s1) fun H2 s2 => hu.run (R.mono (s1.trans s2)) fun H3 s3 => by
    have p1 := dp_mono (cut_same (s2.trans s3)) _ _ p1
    have s13 := (s1.trans s2).trans s3
    cases p1 with
    | @tup m vs _ hs hd =>
      refine ⟨m, vs, rfl, (.inl (rd_same cut_full hs)), ?_, fun p hp => ?_⟩
      · rw [dpAll_length hd]; exact hz
      · have s := same_new hp (HO.tup (cutV vs l u))
        exact k _ _ (s13.trans s) (.tup (.inl ((R.h.mono s13).newAt hp)) (dpAll_cut (dpAll_mono (cut_same s) _ _ hd)))⟩
end
end L3
set_option Elab.async false
set_option linter.all false
set_option autoImplicit false
set_option maxRecDepth 100000
set_option maxHeartbeats 4000000
/-! Lay3: comparisons, tests, built-in calls. -/
namespace L3
open PySem PySem.Spec L2

/-! ### comparisons -/
/-- on values that are looked at: the answer b -/
structure CmpR (X : Cx) (op : CmpOp) (ra rb : Sl) (b : Bool) : Prop where
  ex : ∃ r, OpR X (compareOp op) r ∧ ∀ x y H, SlOk X.K H ra x → SlOk X.K H rb y → ∀ Q : VK, Q (.bl b) H → r x y H Q
section
variable {X : Cx} {Z : Fz} {own : Own} {ρ : List Sl} {pos : Pos} {a b c e : Expr} {es : List Expr} {ra rb rc : Sl} {op op' : CmpOp} {p q : Bool}
theorem pd_cmp (ha : PW X Z own ρ a ra) (hb : PW X Z own ρ b rb) (h : CmpR X op ra rb p) (hm : behindInMarks op b = false) : PD X Z own ρ (.Compare a [op] [b] pos) (.d (.bool p)) := by
  obtain ⟨r, ho, h⟩ := h.ex
  exact pd_of (pe_cmpR ho pe_E pe_E hm) fun σ H R Q k => ha σ H R _ fun x H1 s1 p1 => hb σ H1 (R.mono s1) _ fun y H2 s2 p2 => h x y H2 (slOk_mono s2 p1) p2 Q (k _ H2 (s1.trans s2) (Dp.bl p))
theorem pb_cmp (ha : PW X Z own ρ a ra) (hb : PW X Z own ρ b rb) (h : CmpR X op ra rb p) (hm : behindInMarks op b = false) : PB X Z own ρ (.Compare a [op] [b] pos) p := by
  obtain ⟨r, ho, h⟩ := h.ex
  exact fun σ H R Q k => ⟨_, pt_cmpR ho pe_E pe_E hm, ha σ H R _ fun x H1 s1 p1 => hb σ H1 (R.mono s1) _ fun y H2 s2 p2 => h x y H2 (slOk_mono s2 p1) p2 _ ⟨p, rfl, k H2 (s1.trans s2)⟩⟩
theorem pd_chain (ha : PW X Z own ρ a ra) (hb : PW X Z own ρ b rb) (hc : p = true → PW X Z own ρ c rc) (h : CmpR X op ra rb p) (h' : CmpR X op' rb rc q) (hm : lastMarks [op, op'] [b, c] = false := by with_unfolding_all rfl) :
    PD X Z own ρ (.Compare a [op, op'] [b, c] pos) (.d (.bool (p && q))) := by
  obtain ⟨r, ho, h⟩ := h.ex
  obtain ⟨r', ho', h'⟩ := h'.ex
  refine pd_of (pe_chain ho ho' pe_E pe_E pe_E hm) fun σ H R Q k => ha σ H R _ fun x H1 s1 p1 => hb σ H1 (R.mono s1) _ fun y H2 s2 p2 => h x y H2 (slOk_mono s2 p1) p2 _ ⟨p, rfl, ?_⟩
  cases p with
  | false => exact iteF (k _ H2 (s1.trans s2) (Dp.bl _))
  | true => exact iteT (hc rfl σ H2 ((R.mono s1).mono s2) _ fun z H3 s3 p3 => h' y z H3 (slOk_mono s3 p2) p3 Q (k _ H3 ((s1.trans s2).trans s3) (Dp.bl _)))
theorem pb_chain (ha : PW X Z own ρ a ra) (hb : PW X Z own ρ b rb) (hc : p = true → PW X Z own ρ c rc) (h : CmpR X op ra rb p) (h' : CmpR X op' rb rc q) (hm : lastMarks [op, op'] [b, c] = false := by with_unfolding_all rfl) :
    PB X Z own ρ (.Compare a [op, op'] [b, c] pos) (p && q) := by
  obtain ⟨r, ho, h⟩ := h.ex
  obtain ⟨r', ho', h'⟩ := h'.ex
  refine fun σ H R Q k => ⟨_, pt_chain ho ho' pe_E pe_E pe_E hm, ha σ H R _ fun x H1 s1 p1 => hb σ H1 (R.mono s1) _ fun y H2 s2 p2 => h x y H2 (slOk_mono s2 p1) p2 _ ⟨p, rfl, ?_⟩⟩
  cases p with
  | false => exact iteF ⟨_, rfl, k H2 (s1.trans s2)⟩
  | true => exact iteT (hc rfl σ H2 ((R.mono s1).mono s2) _ fun z H3 s3 p3 => h' y z H3 (slOk_mono s3 p2) p3 _ ⟨_, rfl, k H3 ((s1.trans s2).trans s3)⟩)
section
variable {i j : Int} {d d' : PyData}
theorem cmpI0 {g : Int → Int → Bool} (ho : OpR X (compareOp op) (rI0 fun i j => .bl (g i j))) : CmpR X op (.d (.int i)) (.d (.int j)) (g i j) :=
  CmpR.mk ⟨_, ho, fun x y H hx hy Q k => by cases hx; cases hy; exact ⟨i, j, rfl, rfl, k⟩⟩
theorem cmp_lt : CmpR X .Lt (.d (.int i)) (.d (.int j)) (decide (i < j)) := cmpI0 op_lt
theorem cmp_le : CmpR X .LtE (.d (.int i)) (.d (.int j)) (decide (i ≤ j)) := cmpI0 op_le
theorem cmp_gt : CmpR X .Gt (.d (.int i)) (.d (.int j)) (decide (j < i)) := cmpI0 op_gt
theorem cmp_ge : CmpR X .GtE (.d (.int i)) (.d (.int j)) (decide (j ≤ i)) := cmpI0 op_ge
theorem vint_dec (i j : Int) : decide (V.int i = V.int j) = decide (i = j) := by
  by_cases h : i = j
  · subst h; simp
  · rw [decide_eq_false h, decide_eq_false fun e => h (V.int.inj e)]
theorem vbl_dec (i j : Bool) : decide (V.bl i = V.bl j) = decide (i = j) := by
  by_cases h : i = j
  · subst h; simp
  · rw [decide_eq_false h, decide_eq_false fun e => h (V.bl.inj e)]
theorem vstr_dec (i j : Str) : decide (V.str i = V.str j) = decide (i = j) := by
  by_cases h : i = j
  · subst h; simp
  · rw [decide_eq_false h, decide_eq_false fun e => h (V.str.inj e)]
theorem cmp_eqI : CmpR X .Eq (.d (.int i)) (.d (.int j)) (decide (i = j)) :=
  CmpR.mk ⟨_, op_eq, fun x y H hx hy Q k => by cases hx; cases hy; exact ⟨rfl, by rw [vint_dec]; exact k⟩⟩
theorem cmp_neI : CmpR X .NotEq (.d (.int i)) (.d (.int j)) (!decide (i = j)) :=
  CmpR.mk ⟨_, op_ne, fun x y H hx hy Q k => by cases hx; cases hy; exact ⟨rfl, by rw [vint_dec]; exact k⟩⟩
theorem cmp_eqB {s t : Bool} : CmpR X .Eq (.d (.bool s)) (.d (.bool t)) (decide (s = t)) :=
  CmpR.mk ⟨_, op_eq, fun x y H hx hy Q k => by cases hx; cases hy; exact ⟨rfl, by rw [vbl_dec]; exact k⟩⟩
theorem cmp_neB {s t : Bool} : CmpR X .NotEq (.d (.bool s)) (.d (.bool t)) (!decide (s = t)) :=
  CmpR.mk ⟨_, op_ne, fun x y H hx hy Q k => by cases hx; cases hy; exact ⟨rfl, by rw [vbl_dec]; exact k⟩⟩
theorem cmp_eqS {s t : Str} : CmpR X .Eq (.d (.str s)) (.d (.str t)) (decide (s = t)) :=
  CmpR.mk ⟨_, op_eq, fun x y H hx hy Q k => by cases hx; cases hy; exact ⟨rfl, by rw [vstr_dec]; exact k⟩⟩
theorem cmp_neS {s t : Str} : CmpR X .NotEq (.d (.str s)) (.d (.str t)) (!decide (s = t)) :=
  CmpR.mk ⟨_, op_ne, fun x y H hx hy Q k => by cases hx; cases hy; exact ⟨rfl, by rw [vstr_dec]; exact k⟩⟩
theorem cmp_eqD {k : Nat} (hr : Room k X.A) (s : SeqAt.shaped d = true) (s' : SeqAt.shaped d' = true) : CmpR X .Eq (.d d) (.d d') (PyData.eqv d d') :=
  CmpR.mk ⟨_, op_eqD hr.units, fun x y H hx hy Q k => ⟨d, d', dp_K _ _ (SeqAt.canLay_of_shaped s) hx, dp_K _ _ (SeqAt.canLay_of_shaped s') hy, s, s', k⟩⟩
theorem cmp_neD {k : Nat} (hr : Room k X.A) (s : SeqAt.shaped d = true) (s' : SeqAt.shaped d' = true) : CmpR X .NotEq (.d d) (.d d') (!PyData.eqv d d') :=
  CmpR.mk ⟨_, op_neD hr.units, fun x y H hx hy Q k => ⟨d, d', dp_K _ _ (SeqAt.canLay_of_shaped s) hx, dp_K _ _ (SeqAt.canLay_of_shaped s') hy, s, s', k⟩⟩
theorem room_in {k : Nat} (hr : Room k X.A) : X.A.units + 65 < cLine := by have := hr.un; omega
theorem cmp_inD {k : Nat} {ds : List PyData} (hr : Room k X.A) (s : SeqAt.shaped d = true) (s' : SeqAt.shaped (.list ds) = true) : CmpR X .In (.d d) (.d (.list ds)) (ds.any fun z => PyData.eqv z d) :=
  CmpR.mk ⟨_, op_inD (room_in hr), fun x y H hx hy Q k => ⟨d, ds, dp_K _ _ (SeqAt.canLay_of_shaped s) hx, dp_K _ _ (SeqAt.canLay_of_shaped s') hy, s, s', k⟩⟩
theorem cmp_notInD {k : Nat} {ds : List PyData} (hr : Room k X.A) (s : SeqAt.shaped d = true) (s' : SeqAt.shaped (.list ds) = true) : CmpR X .NotIn (.d d) (.d (.list ds)) (!ds.any fun z => PyData.eqv z d) :=
  CmpR.mk ⟨_, op_notInD (room_in hr), fun x y H hx hy Q k => ⟨d, ds, dp_K _ _ (SeqAt.canLay_of_shaped s) hx, dp_K _ _ (SeqAt.canLay_of_shaped s') hy, s, s', k⟩⟩
/-- i in (a tuple of ints) -/
theorem inV_ints (i : Int) : ∀ ns : List Int, inV (.int i) (ns.map V.int) = decide (i ∈ ns)
  | [] => by simp [inV]
  | n :: ns => by
    have ih := inV_ints i ns
    unfold inV at ih ⊢
    rw [List.map_cons, List.any_cons, ih]
    show ((n == i) || _) = _
    by_cases h : n = i
    · subst h; simp
    · have h' : ¬ i = n := fun e => h e.symm
      simp [h, h']
theorem flat_ints : ∀ ns : List Int, (ns.map V.int).all flatV = true
  | [] => rfl
  | n :: ns => by
    rw [List.map_cons, List.all_cons, flat_ints ns]
    rfl
theorem cmp_inT {ns : List Int} : CmpR X .In (.d (.int i)) (.d (.tuple (ns.map PyData.int))) (decide (i ∈ ns)) :=
  CmpR.mk ⟨_, op_in_seq, fun x y H hx hy Q k => by
    cases hx
    cases hy with
    | @tup m vs _ hs ha =>
      have e := dpAll_ints ha
      subst e
      refine ⟨m, _, rfl, .inr ((.inl hs)), rfl, flat_ints ns, ?_⟩
      show Q (.bl (inV (.int i) (ns.map V.int))) H
      rw [inV_ints]
      exact k⟩
theorem cmp_ltT {k : Nat} {ns ms : List Int} (hr : Room k X.A) : CmpR X .Lt (.d (.tuple (ns.map PyData.int))) (.d (.tuple (ms.map PyData.int))) (HT.lexLt ns ms) :=
  CmpR.mk ⟨_, op_ltT hr.units0, fun x y H hx hy Q k => by
    cases hx with
    | @tup m vs _ hs ha =>
      cases hy with
      | @tup m' vs' _ hs' ha' =>
        have e := dpAll_ints ha
        have e' := dpAll_ints ha'
        subst e e'
        exact ⟨m, m', ns, ms, rfl, rfl, (.inl hs), (.inl hs'), k⟩⟩
theorem cmp_isN : CmpR X .Is (.d d) (.d .none) (match d with | .none => true | _ => false) :=
  CmpR.mk ⟨_, op_isN, fun x y H hx hy Q k => by
    cases hy
    refine ⟨rfl, ?_⟩
    cases hx <;> exact k⟩
theorem cmp_notN : CmpR X .IsNot (.d d) (.d .none) (match d with | .none => false | _ => true) :=
  CmpR.mk ⟨_, op_notN, fun x y H hx hy Q k => by
    cases hy
    refine ⟨rfl, ?_⟩
    cases hx <;> exact k⟩
/-- is not True, is not False, of any value -/
theorem op_isnot_any : OpR X (compareOp .IsNot) (fun x y H Q => ∃ b, y = .bl b ∧ Q (.bl (!decide (x = .bl b))) H) := by
  intro pins s σ H x y v u Q I rx ry h
  obtain ⟨b, rfl, q⟩ := h
  cases (show u = Value.bool b from ry)
  have go : ∀ w : Value, PySem.plainIs w (.bool b) = true → (w == Value.bool b) = decide (x = .bl b) → wpAny (model X.prog X.w) X.A (compareOp .IsNot w (.bool b)) (EP X pins σ Q) X.xe s := fun w hp he =>
    wpAny_isNot_plain hp ⟨.bl _, H, I, by rw [he]; rfl, q⟩
  cases x with
  | non => cases (show v = Value.none from rx); exact go _ rfl (by simp <;> rfl)
  | bl c =>
    cases (show v = Value.bool c from rx)
    refine go _ rfl ?_
    by_cases h : c = b
    · subst h; simp
    · have h1 : (Value.bool c == Value.bool b) = false := beq_eq_false_iff_ne.mpr fun z => h (Value.bool.inj z)
      rw [h1, decide_eq_false fun z => h (V.bl.inj z)]
  | int i => obtain ⟨t, rfl⟩ := (show ∃ t, v = Value.int i t from rx); exact go _ rfl (by simp <;> rfl)
  | str i => obtain ⟨t, rfl⟩ := (show ∃ t, v = Value.str i t from rx); exact go _ rfl (by simp <;> rfl)
  | byt i => obtain ⟨t, rfl⟩ := (show ∃ t, v = Value.bytes i t from rx); exact go _ rfl (by simp <;> rfl)
  | flt i => obtain ⟨t, rfl⟩ := (show ∃ t, v = Value.float i t from rx); exact go _ rfl (by simp <;> rfl)
  | ref a => cases (show v = Value.ref a from rx); exact go _ rfl (by simp <;> rfl)
  | ty n => cases (show v = Value.type n from rx); exact go _ rfl (by simp <;> rfl)
def isB (b : Bool) : PyData → Bool
  | .bool c => decide (c = b)
  | _ => false
theorem cmp_isnotB {b : Bool} : CmpR X .IsNot (.d d) (.d (.bool b)) (!isB b d) :=
  CmpR.mk ⟨_, op_isnot_any, fun x y H hx hy Q k => by
    cases hy
    refine ⟨b, rfl, ?_⟩
    cases hx with
    | bl c => rw [vbl_dec]; exact k
    | non => exact k
    | int i => exact k
    | str x => exact k
    | lst _ _ => exact k
    | tup _ _ => exact k
    | scr _ _ => exact k⟩
end

/-! ### tests -/
def tWh (X : Cx) (e : Expr) : TT := fun σ H Q => ∃ t, L2.PW X e t ∧ t σ H Q
theorem pw_Wh {e : Expr} : L2.PW X e (tWh X e) := ⟨fun w pins s σ H Q I ⟨t, h, q⟩ => h.run w pins s σ H Q I q⟩
/-- a chain of and, of or -/
def PBA (X : Cx) (Z : Fz) (own : Own) (ρ : List Sl) (o : BoolOp) (es : List Expr) (pos : Pos) (b : Bool) : Prop :=
  ∀ σ H, Rep X.K Z own ρ σ H → ∀ Q : Bool → Hp → Prop, (∀ H', Same H H' → Q b H') → tWh X (.BoolOp o es pos) σ H Q
theorem pba_one (h : PB X Z own ρ a p) : PBA X Z own ρ .And [a] pos p := fun σ H R Q k => ⟨_, pw_and1 pt_T, h σ H R Q k⟩
theorem pbo_one (h : PB X Z own ρ a p) : PBA X Z own ρ .Or [a] pos p := fun σ H R Q k => ⟨_, pw_or1 pt_T, h σ H R Q k⟩
theorem pba_cons (h : PB X Z own ρ a p) (h' : p = true → PBA X Z own ρ .And (b :: es) pos q) : PBA X Z own ρ .And (a :: b :: es) pos (p && q) := fun σ H R Q k => ⟨_, pw_and pt_T pw_Wh, h σ H R _ fun H1 s1 => by
  cases p with
  | false => exact iteF (k H1 s1)
  | true => exact iteT (h' rfl σ H1 (R.mono s1) Q fun H2 s2 => k H2 (s1.trans s2))⟩
theorem pbo_cons (h : PB X Z own ρ a p) (h' : p = false → PBA X Z own ρ .Or (b :: es) pos q) : PBA X Z own ρ .Or (a :: b :: es) pos (p || q) := fun σ H R Q k => ⟨_, pw_or pt_T pw_Wh, h σ H R _ fun H1 s1 => by
  cases p with
  | true => exact iteT (k H1 s1)
  | false => exact iteF (h' rfl σ H1 (R.mono s1) Q fun H2 s2 => k H2 (s1.trans s2))⟩
theorem pb_bo {o : BoolOp} (h : PBA X Z own ρ o es pos p) : PB X Z own ρ (.BoolOp o es pos) p := fun σ H R Q k => ⟨_, pw_Wh.pt, h σ H R Q k⟩
theorem pb_not (h : PB X Z own ρ a p) : PB X Z own ρ (.UnaryOp .Not a pos) (!p) := fun σ H R Q k => ⟨_, pt_not pt_T, h σ H R _ fun H' s => k H' s⟩
theorem pb_val (h : PD X Z own ρ a (.d (.bool p))) (he : ∀ whole, isTrue a X.env whole = (do let v ← whole; standAt a.pos; holding [v] (truthy v)) := by intro _; rfl) : PB X Z own ρ a p := fun σ H R Q k =>
  ⟨_, L2.pt_val pe_E he, h σ H R _ fun v H' s hv => by cases hv; exact ⟨p, rfl, k H' s⟩⟩
theorem pb_list {ds : List PyData} (h : PL X Z own ρ a ds) (he : ∀ whole, isTrue a X.env whole = (do let v ← whole; standAt a.pos; holding [v] (truthy v)) := by intro _; rfl) : PB X Z own ρ a (!ds.isEmpty) := fun σ H R Q k =>
  ⟨_, pt_truth pe_E he, h σ H R _ fun v H' s ⟨m, vs, e, hm, hd⟩ => by
    subst e
    refine ⟨!ds.isEmpty, .inl ⟨vs, .inl hm, ?_⟩, k H' s⟩
    cases hd <;> rfl⟩
/-- as values: bools -/
def PDA (X : Cx) (Z : Fz) (own : Own) (ρ : List Sl) (o : BoolOp) (es : List Expr) (pos : Pos) (b : Bool) : Prop := PD X Z own ρ (.BoolOp o es pos) (.d (.bool b))
theorem pda_one {o : BoolOp} (h : PD X Z own ρ a (.d (.bool p))) : PDA X Z own ρ o [a] pos p := fun σ H R Q k => ⟨_, pe_one pe_E, h σ H R Q k⟩
theorem pda_and (h : PD X Z own ρ a (.d (.bool p))) (h' : p = true → PDA X Z own ρ .And (b :: es) pos q) : PDA X Z own ρ .And (a :: b :: es) pos (p && q) := fun σ H R Q k => ⟨_, pe_and pe_E pe_E, h σ H R _ fun v H1 s1 hv => by
  cases hv
  refine ⟨p, rfl, ?_⟩
  cases p with
  | false => exact iteF (k _ H1 s1 (Dp.bl _))
  | true => exact iteT (h' rfl σ H1 (R.mono s1) Q fun v H2 s2 hv => k v H2 (s1.trans s2) hv)⟩
theorem pda_or (h : PD X Z own ρ a (.d (.bool p))) (h' : p = false → PDA X Z own ρ .Or (b :: es) pos q) : PDA X Z own ρ .Or (a :: b :: es) pos (p || q) := fun σ H R Q k => ⟨_, pe_or pe_E pe_E, h σ H R _ fun v H1 s1 hv => by
  cases hv
  refine ⟨p, rfl, ?_⟩
  cases p with
  | true => exact iteT (k _ H1 s1 (Dp.bl _))
  | false => exact iteF (h' rfl σ H1 (R.mono s1) Q fun v H2 s2 hv => k v H2 (s1.trans s2) hv)⟩
theorem pd_not (h : PD X Z own ρ a (.d (.bool p))) : PD X Z own ρ (.UnaryOp .Not a pos) (.d (.bool (!p))) := fun σ H R Q k => ⟨_, pe_not pe_E, h σ H R _ fun v H1 s1 hv => by
  cases hv
  exact ⟨p, rfl, k _ H1 s1 (Dp.bl _)⟩⟩
theorem pd_ifE {d d' : PyData} (hc : PB X Z own ρ c p) (ha : p = true → PD X Z own ρ a (.d d)) (hb : p = false → PD X Z own ρ b (.d d')) : PD X Z own ρ (.IfExp c a b pos) (.d (if p = true then d else d')) := fun σ H R Q k => ⟨_, pe_ifExp pt_T pe_E pe_E, hc σ H R _ fun H1 s1 => by
  cases p with
  | true => exact iteT (ha rfl σ H1 (R.mono s1) Q fun v H2 s2 hv => k v H2 (s1.trans s2) hv)
  | false => exact iteF (hb rfl σ H1 (R.mono s1) Q fun v H2 s2 hv => k v H2 (s1.trans s2) hv)⟩
end
end L3
set_option Elab.async false
set_option linter.all false
set_option autoImplicit false
set_option maxRecDepth 100000
set_option maxHeartbeats 4000000
/-! Lay4: built-in calls, calls of defs, what is walked, comprehensions. -/
namespace L3
open PySem PySem.Spec L2

section
variable {X : Cx} {Z : Fz} {own : Own} {ρ : List Sl} {pos p : Pos} {a b e : Expr} {es : List Expr} {r : Sl} {ds : List PyData} {d : PyData} {i j : Int}
/-! ### len, max, min, sum, int, isinstance -/
inductive LenO (own : Own) : Sl → Nat → Prop where
  | l (ds : List PyData) : LenO own (.d (.list ds)) ds.length
  | t (ds : List PyData) : LenO own (.d (.tuple ds)) ds.length
  | o {a : Addr} {ds : List PyData} : (a, Mo.lst ds) ∈ own → LenO own (.v (.ref a)) ds.length
  | s (ns : List Int) : LenO own (.d (scrD ns)) ns.length
theorem pd_len {n : Nat} (h : PD X Z own ρ e r) (l : LenO own r n) (hm : X.mg "len" = none) (hg : Gl X "len" := by rfl) (he : starEach (e :: []) X.env = (false, eval e X.env) :: starEach [] X.env := by rfl) (hpl : (backTo pos (starEach [] X.env)).any (·.1) = false := by rfl) :
    PD X Z own ρ (.Call (.Name "len" p) [e] [] pos) (.d (.int n)) :=
  pd_of (pe_callB call_len_seq hg hm PySem.boot_len (pa_cons pe_E pa_nil he) (by decide) (by decide) he hpl) fun σ H R Q k => h σ H R _ fun v H1 s1 q1 => by
    cases l with
    | l ds =>
      cases q1 with
      | lst hs ha => exact ⟨_, _, rfl, .inl (.inl (rd_same cut_full hs)), by rw [dpAll_length ha]; exact k _ H1 s1 (Dp.int _)⟩
    | t ds =>
      cases q1 with
      | tup hs ha => exact ⟨_, _, rfl, .inr ((.inl (rd_same cut_full hs))), by rw [dpAll_length ha]; exact k _ H1 s1 (Dp.int _)⟩
    | @o m ds ho =>
      obtain ⟨_, vs, h1, h2⟩ := (R.h.mono s1).owns _ ho
      have e : v = .ref m := q1
      subst e
      exact ⟨_, _, rfl, .inl (SqL.of h1), by rw [dpAll_length h2]; exact k _ H1 s1 (Dp.int _)⟩
    | s ns =>
      obtain ⟨m, ev, hs⟩ := scr_is q1
      subst ev
      exact ⟨_, _, rfl, .inl (cut_full.seq hs), by rw [List.length_map]; exact k _ H1 s1 (Dp.int _)⟩
theorem boot_max : bootBuiltins "max" = some (.builtin "max") := by decide +kernel
theorem boot_min : bootBuiltins "min" = some (.builtin "min") := by decide +kernel
theorem boot_sum : bootBuiltins "sum" = some (.builtin "sum") := by decide +kernel
theorem boot_sorted : bootBuiltins "sorted" = some (.builtin "sorted") := by decide +kernel
theorem boot_isi : bootBuiltins "isinstance" = some (.builtin "isinstance") := by decide +kernel
theorem boot_int : bootBuiltins "int" = some (.type "int") := by decide +kernel
theorem boot_list : bootBuiltins "list" = some (.type "list") := by decide +kernel
theorem boot_bool : bootBuiltins "bool" = some (.type "bool") := by decide +kernel
theorem boot_tuple : bootBuiltins "tuple" = some (.type "tuple") := by decide +kernel
theorem boot_ve : bootBuiltins "ValueError" = some (.type "ValueError") := by decide +kernel
theorem max_ite (i j : Int) : (if j > i then j else i) = max i j := by split <;> omega
theorem min_ite (i j : Int) : (if j < i then j else i) = min i j := by split <;> omega
theorem pd_max2 (ha : PD X Z own ρ a (.d (.int i))) (hb : PD X Z own ρ b (.d (.int j))) (hm : X.mg "max" = none) (hc : X.calm = true := by rfl) (hg : Gl X "max" := by rfl) (he : starEach (a :: [b]) X.env = (false, eval a X.env) :: starEach [b] X.env := by rfl)
    (he2 : starEach (b :: []) X.env = (false, eval b X.env) :: starEach [] X.env := by rfl) (hpl : (backTo pos (starEach [b] X.env)).any (·.1) = false := by rfl) : PD X Z own ρ (.Call (.Name "max" p) [a, b] [] pos) (.d (.int (max i j))) :=
  pd_of (pe_callB (call_max2 hc) hg hm boot_max (pa_cons pe_E (pa_cons pe_E pa_nil he2) he) (by decide) (by decide) he hpl) fun σ H R Q k => ha σ H R _ fun x H1 s1 q1 => hb σ H1 (R.mono s1) _ fun y H2 s2 q2 => by
    cases q1; cases q2
    exact ⟨i, j, rfl, by rw [max_ite]; exact k _ H2 (s1.trans s2) (Dp.int _)⟩
theorem pd_min2 (ha : PD X Z own ρ a (.d (.int i))) (hb : PD X Z own ρ b (.d (.int j))) (hm : X.mg "min" = none) (hc : X.calm = true := by rfl) (hg : Gl X "min" := by rfl) (he : starEach (a :: [b]) X.env = (false, eval a X.env) :: starEach [b] X.env := by rfl)
    (he2 : starEach (b :: []) X.env = (false, eval b X.env) :: starEach [] X.env := by rfl) (hpl : (backTo pos (starEach [b] X.env)).any (·.1) = false := by rfl) : PD X Z own ρ (.Call (.Name "min" p) [a, b] [] pos) (.d (.int (min i j))) :=
  pd_of (pe_callB (call_min2 hc) hg hm boot_min (pa_cons pe_E (pa_cons pe_E pa_nil he2) he) (by decide) (by decide) he hpl) fun σ H R Q k => ha σ H R _ fun x H1 s1 q1 => hb σ H1 (R.mono s1) _ fun y H2 s2 q2 => by
    cases q1; cases q2
    exact ⟨i, j, rfl, by rw [min_ite]; exact k _ H2 (s1.trans s2) (Dp.int _)⟩
/-- of a list of ints: the one that is there and none is greater -/
theorem pd_maxL {ns : List Int} {m : Int} (h : PL X Z own ρ e (ns.map PyData.int)) (h1 : m ∈ ns) (h2 : ∀ y ∈ ns, y ≤ m) (hm : X.mg "max" = none) (hc : X.calm = true := by rfl) (hg : Gl X "max" := by rfl) (he : starEach (e :: []) X.env = (false, eval e X.env) :: starEach [] X.env := by rfl)
    (hpl : (backTo pos (starEach [] X.env)).any (·.1) = false := by rfl) : PD X Z own ρ (.Call (.Name "max" p) [e] [] pos) (.d (.int m)) :=
  pd_of (pe_callB (cr_max hc) hg hm boot_max (pa_cons pe_E pa_nil he) (by decide) (by decide) he hpl) fun σ H R Q k => h σ H R _ fun x H1 s1 ⟨l, vs, ex, hl, hd⟩ => by
    have ev := dpAll_ints hd
    subst ev ex
    refine ⟨l, ns, rfl, .inl hl, List.length_pos_of_mem h1, fun m' a1 a2 => ?_⟩
    have : m' = m := Int.le_antisymm (h2 m' a1) (a2 m h1)
    subst this
    exact k _ H1 s1 (Dp.int _)
theorem pd_minL {ns : List Int} {m : Int} (h : PL X Z own ρ e (ns.map PyData.int)) (h1 : m ∈ ns) (h2 : ∀ y ∈ ns, m ≤ y) (hm : X.mg "min" = none) (hc : X.calm = true := by rfl) (hg : Gl X "min" := by rfl) (he : starEach (e :: []) X.env = (false, eval e X.env) :: starEach [] X.env := by rfl)
    (hpl : (backTo pos (starEach [] X.env)).any (·.1) = false := by rfl) : PD X Z own ρ (.Call (.Name "min" p) [e] [] pos) (.d (.int m)) :=
  pd_of (pe_callB (cr_min hc) hg hm boot_min (pa_cons pe_E pa_nil he) (by decide) (by decide) he hpl) fun σ H R Q k => h σ H R _ fun x H1 s1 ⟨l, vs, ex, hl, hd⟩ => by
    have ev := dpAll_ints hd
    subst ev ex
    refine ⟨l, ns, rfl, .inl hl, List.length_pos_of_mem h1, fun m' a1 a2 => ?_⟩
    have : m' = m := Int.le_antisymm (a2 m h1) (h2 m' a1)
    subst this
    exact k _ H1 s1 (Dp.int _)
theorem pd_sum {ns : List Int} (h : PL X Z own ρ e (ns.map PyData.int)) (hm : X.mg "sum" = none) (hc : X.calm = true := by rfl) (hg : Gl X "sum" := by rfl) (he : starEach (e :: []) X.env = (false, eval e X.env) :: starEach [] X.env := by rfl)
    (hpl : (backTo pos (starEach [] X.env)).any (·.1) = false := by rfl) : PD X Z own ρ (.Call (.Name "sum" p) [e] [] pos) (.d (.int ns.sum)) :=
  pd_of (pe_callB (cr_sum hc) hg hm boot_sum (pa_cons pe_E pa_nil he) (by decide) (by decide) he hpl) fun σ H R Q k => h σ H R _ fun x H1 s1 ⟨l, vs, ex, hl, hd⟩ => by
    have ev := dpAll_ints hd
    subst ev ex
    exact ⟨l, ns, rfl, .inl hl, k _ H1 s1 (Dp.int _)⟩
theorem pd_intB {t : Bool} (h : PD X Z own ρ e (.d (.bool t))) (hm : X.mg "int" = none) (hg : Gl X "int" := by rfl) (he : starEach (e :: []) X.env = (false, eval e X.env) :: starEach [] X.env := by rfl) (hpl : (backTo pos (starEach [] X.env)).any (·.1) = false := by rfl) :
    PD X Z own ρ (.Call (.Name "int" p) [e] [] pos) (.d (.int (if t = true then 1 else 0))) :=
  pd_of (pe_callTy call_int1 hg hm boot_int (pa_cons pe_E pa_nil he) (by decide) (by decide) he hpl) fun σ H R Q k => h σ H R _ fun v H1 s1 q1 => by
    cases q1
    exact .inr ⟨t, rfl, k _ H1 s1 (Dp.int _)⟩
/-- the type's name of data -/
def tyD : PyData → String
  | .none => "NoneType"
  | .bool _ => "bool"
  | .int _ => "int"
  | .str _ => "str"
  | .list _ => "list"
  | .tuple _ => "tuple"
  | .dict _ => "dict"
def isDct : PyData → Bool
  | .dict _ => true
  | _ => false
theorem kit_ii : kitB "int" "int" = some true := by decide +kernel
theorem kit_bi : kitB "bool" "int" = some true := by decide +kernel
theorem kit_ib : kitB "int" "bool" = some false := by decide +kernel
theorem kit_bb : kitB "bool" "bool" = some true := by decide +kernel
theorem kit_tt : kitB "tuple" "tuple" = some true := by decide +kernel
theorem kit_ll : kitB "list" "list" = some true := by decide +kernel
theorem kit_it : kitB "int" "tuple" = some false := by decide +kernel
theorem kit_ni : kitB "NoneType" "int" = some false := by decide +kernel
theorem kit_si : kitB "str" "int" = some false := by decide +kernel
theorem kit_ti : kitB "tuple" "int" = some false := by decide +kernel
theorem kit_li : kitB "list" "int" = some false := by decide +kernel
theorem tyX_of {K : PySem.W.Frag} {H : Hp} {v : V} (h : Dp K H v d) (hn : ∀ kvs, d ≠ .dict kvs) : TyX K H v (.type (tyD d)) := by
  cases h with
  | non => exact .base .non
  | bl b => exact .base (.bl b)
  | int i => exact .base (.int i)
  | str x => exact .base (.str x)
  | lst hs _ =>
    rcases hs with h | ⟨o, h⟩
    · exact .base (.lst h)
    · exact .base (.frz h)
  | tup hs _ =>
    rcases hs with h | ⟨o, h⟩
    · exact .base (.tup h)
    · exact .fTuple h
  | scr _ _ => exact absurd rfl (hn _)
theorem pd_isi {n : String} {t : Bool} {x : Str} {px : Pos} (h : PW X Z own ρ e (.d d)) (hk : kitB (tyD d) n = some t) (hm : X.mg "isinstance" = none) (hmx : X.mg x = none) (hbx : bootBuiltins x = some (.type n)) (hnd : isDct d = false := by rfl) (hgx : Gl X x := by rfl) (hg : Gl X "isinstance" := by rfl)
    (hnx : x ≠ "__name__" := by decide) (hdx : (x == ("__debug__" : Str)) = false := by decide) (he : starEach (e :: [.Name x px]) X.env = (false, eval e X.env) :: starEach [.Name x px] X.env := by rfl)
    (he2 : starEach (.Name x px :: []) X.env = (false, eval (.Name x px) X.env) :: starEach [] X.env := by rfl) (hpl : (backTo pos (starEach [.Name x px] X.env)).any (·.1) = false := by rfl) : PD X Z own ρ (.Call (.Name "isinstance" p) [e, .Name x px] [] pos) (.d (.bool t)) :=
  pd_of (pe_callB call_isi hg hm boot_isi (pa_cons pe_E (pa_cons (pe_bltn (v := .ty n) hgx hmx hbx rfl hnx hdx) pa_nil he2) he) (by decide) (by decide) he hpl) fun σ H R Q k => h σ H R _ fun v H1 s1 q1 =>
    ⟨v, .ty n, _, _, t, rfl, .ty n, tyX_of q1 (fun kvs z => by rw [z] at hnd; cases hnd), kit_ty hk, k _ H1 s1 (Dp.bl t)⟩

/-! ### list(x), sorted(x) -/
theorem pn_listOf (h : PL X Z own ρ e ds) (hm : X.mg "list" = none) (hg : Gl X "list" := by rfl) (he : starEach (e :: []) X.env = (false, eval e X.env) :: starEach [] X.env := by rfl) (hpl : (backTo pos (starEach [] X.env)).any (·.1) = false := by rfl) :
    PN X Z own ρ (.Call (.Name "list" p) [e] [] pos) ds := fun σ H R Q k =>
  ⟨_, pe_callTy call_list_of hg hm boot_list (pa_cons pe_E pa_nil he) (by decide) (by decide) he hpl, h σ H R _ fun x H1 s1 ⟨l, vs, ex, hl, hd⟩ => by
    subst ex
    exact ⟨l, vs, rfl, .inl (.inl hl), pn_end (R.h.mono s1) hd fun p vs H' h1 h2 h3 h4 => k p vs H' (s1.free h1) (s1.trans h2) h3 h4⟩⟩
open PySem.W in
theorem each_of {K : PySem.W.Frag} {G : Hp} {β : Type} (enc : β → PyData) : ∀ {bs : List β} {vs : List V} {us : List Value}, DpAll K G vs (bs.map enc) → Vals vs us → EachIs (fun u b => ∃ x, RelV x u ∧ Dp K G x (enc b)) us bs
  | [], _, _, h, r => by cases h; cases r; exact .nil
  | b :: bs, _, _, h, r => by
    cases h with
    | cons h1 h2 =>
      cases r with
      | cons r1 r2 => exact .cons ⟨_, r1, h1⟩ (each_of enc h2 r2)
open PySem.W in
theorem of_each {K : PySem.W.Frag} {G : Hp} {β : Type} (enc : β → PyData) : ∀ {bs : List β} {us : List Value}, EachIs (fun u b => ∃ x, RelV x u ∧ Dp K G x (enc b)) us bs → ∃ vs, DpAll K G vs (bs.map enc) ∧ Vals vs us
  | _, _, .nil => ⟨[], .nil, .nil⟩
  | _, _, .cons ⟨x, r, h⟩ t => by
    obtain ⟨vs, h1, h2⟩ := of_each enc t
    exact ⟨x :: vs, .cons h h1, .cons r h2⟩
open PySem.W in
/-- sorted of a tracked list of like data -/
def rSortedD (K : PySem.W.Frag) {β : Type} (enc : β → PyData) (bs : List β) : List V → Hp → VK → Prop := fun xs H Q => ∃ a vs G, xs = [.ref a] ∧ Rd H a (.lst vs) ∧ Same G H ∧ DpAll K G vs (bs.map enc) ∧
  ∀ p vs', H p = none → DpAll K G vs' ((bs.mergeSort (dataLe false enc)).map enc) → Q (.ref p) (upd H p (.lst vs'))
open PySem.W in
theorem cr_sortedD {β : Type} {enc : β → PyData} {bs : List β} {k : Nat} (hr : Room k X.A) (hal : AllAlike (bs.map enc)) (hk : Sortable (bs.map enc)) (hdp : ∀ b ∈ bs, SeqAt.shaped (enc b) = true) : CallR X (.builtin "sorted") (rSortedD X.K enc bs) := by
  intro pins s σ H xs us Q I r h
  obtain ⟨a, vs, G, rfl, hl, hG, hd, q⟩ := h
  obtain ⟨its, rv, pl, hz⟩ := I.list (show SqL X.K H a vs from .inl hl)
  rw [Vals.ref1 r]
  have ee := each_of enc hd rv
  have er : EachIs (fun v b => ∃ as, Reads s.heap v (enc b) as) its bs := (each_mem ee).mono fun u b ⟨⟨x, rx, hx⟩, hb⟩ => Dp.reads I _ x u (dp_K _ _ (SeqAt.canLay_of_shaped (hdp b hb)) (dp_mono hG _ _ hx)) rx
  have hlen : bs.length ≤ sizeLine := by
    have e1 := dpAll_length hd
    rw [List.length_map] at e1
    omega
  refine sorted_data pl.isList ee er hal hk hlen (fun b hb => by
    have h1 := hr.un
    have h2 : (enc b).depth ≤ 64 := by
      have h3 := hdp b hb
      unfold SeqAt.shaped at h3
      rw [Bool.and_eq_true] at h3
      exact of_decide_eq_true h3.2
    omega) fun out ho eo => ?_
  obtain ⟨vs', h1, h2⟩ := of_each enc eo
  obtain ⟨ep, he'⟩ := PyProof.Rows.sortedAll_at s.heap its out.toArray
  have hlen' : vs'.length ≤ sizeLine := by rw [h2.length, ho]; exact hlen
  exact ⟨.ref _, upd H (s.heap.objs.size + 1) (.lst vs'), I.laid (t' := s.toks) (fun _ _ => PyProof.Rows.sortedAll_old) (Nat.le_succ _) ⟨hlen', out, ep, h2, he'⟩, rfl, q _ vs' (I.hok.fresh (Nat.le_succ _)) h1⟩
open PySem.W in
theorem pn_sorted {β : Type} {enc : β → PyData} {bs : List β} {k : Nat} (h : PL X Z own ρ e (bs.map enc)) (hr : Room k X.A) (hal : AllAlike (bs.map enc)) (hk : Sortable (bs.map enc)) (hdp : ∀ b ∈ bs, SeqAt.shaped (enc b) = true) (hm : X.mg "sorted" = none) (hg : Gl X "sorted" := by rfl)
    (he : starEach (e :: []) X.env = (false, eval e X.env) :: starEach [] X.env := by rfl) (hpl : (backTo pos (starEach [] X.env)).any (·.1) = false := by rfl) :
    PN X Z own ρ (.Call (.Name "sorted" p) [e] [] pos) ((bs.mergeSort (dataLe false enc)).map enc) := fun σ H R Q q =>
  ⟨_, pe_callB (cr_sortedD hr hal hk hdp) hg hm boot_sorted (pa_cons pe_E pa_nil he) (by decide) (by decide) he hpl, h σ H R _ fun x H1 s1 ⟨l, vs, ex', hl, hd⟩ => by
    subst ex'
    exact ⟨l, vs, cut (ex Z own) H1, rfl, hl, cut_full, hd, fun p vs' hp hd' => pn_end (R.h.mono s1) hd' (fun p vs H' h1 h2 h3 h4 => q p vs H' (s1.free h1) (s1.trans h2) h3 h4) p hp⟩⟩
end
end L3
set_option Elab.async false
set_option linter.all false
set_option autoImplicit false
set_option maxRecDepth 100000
set_option maxHeartbeats 4000000
/-! Lay5: calls of defs, what is walked, comprehensions, slices with a step. -/
namespace L3
open PySem PySem.Spec L2

/-! ### promises -/
/-- called with data ds of which Φ ds d holds, it hands back d -/
def SpD (K : PySem.W.Frag) (Φ : List PyData → PyData → Prop) : Sp := fun vs H Q _ => ∃ m0 ds d, (∀ a ∈ m0, ∃ o, H a = some o) ∧ DpAll K (cut m0 H) vs ds ∧ Φ ds d ∧ ∀ v H', Same H H' → Dp K (cut m0 H') v d → Q v H'
/-- .. a new list of es -/
def SpL (K : PySem.W.Frag) (Φ : List PyData → List PyData → Prop) : Sp := fun vs H Q _ => ∃ m0 ds es, (∀ a ∈ m0, ∃ o, H a = some o) ∧ DpAll K (cut m0 H) vs ds ∧ Φ ds es ∧
  ∀ p ws H', H p = none → Same H H' → H' p = some (.lst ws) → DpAll K (cut (p :: m0) H') ws es → Q (.ref p) H'
theorem spL_D {K : PySem.W.Frag} {Φ : List PyData → List PyData → Prop} {vs : List V} {H : Hp} {Q : VK} {E : XK} (h : SpD K (fun ds d => ∃ es, Φ ds es ∧ d = .list es) vs H Q E) : SpL K Φ vs H Q E := by
  obtain ⟨m0, ds, _, h1, h2, ⟨es, h3, rfl⟩, k⟩ := h
  refine ⟨m0, ds, es, h1, h2, h3, fun p ws H' hp s e hd => k _ H' s (.lst (.inl ?_) (dpAll_mono (cut_less fun a ha => List.mem_cons_of_mem _ ha) _ _ hd))⟩
  rw [cut_out]
  · exact e
  · intro z
    obtain ⟨o, q⟩ := h1 p z
    rw [hp] at q; cases q
theorem fnL_D {P : Program} {w : World} {K : PySem.W.Frag} {mg : Str → Option Value} {base : Heap} {CX : CXT} {k : Nat} {f : Addr} {fd : FuncData} {ps : List Str} {Φ : List PyData → List PyData → Prop} (F : FnOk P w K mg base CX k f fd ps (SpL K Φ)) :
    FnOk P w K mg base CX k f fd ps (SpD K fun ds d => ∃ es, Φ ds es ∧ d = .list es) := F.imp fun _ _ _ _ h => spL_D h
theorem ex_there {X : Cx} {Z : Fz} {own : Own} {H : Hp} (R : RepH X.K Z own H) : ∀ a ∈ ex Z own, ∃ o, H a = some o := fun a ha => R.there ha
section
variable {X : Cx} {Z : Fz} {own : Own} {ρ : List Sl} {pos p : Pos} {a b e : Expr} {es : List Expr} {r : Sl} {rs : List Sl} {ds : List PyData} {d : PyData} {i j : Int}
variable {k : Nat} {f : Addr} {fd : FuncData} {ps : List Str} {x : Str}
/-- f(e, ..), all arguments data -/
theorem pd_call {Φ : List PyData → PyData → Prop} (F : FnOk X.prog X.w X.K X.mg X.base CX0 k f fd ps (SpD X.K Φ)) (hr : Room k X.A) (hm : X.mg x = some (.ref f)) (hk : PySem.W.keepIn X.K (.ref f) = true) (hb : Binds X.K fd ps []) (ha : PDD X Z own ρ (e :: es) ds) (hΦ : Φ ds d)
    (hg : Gl X x := by rfl) (hdb : (x == ("__debug__" : Str)) = false := by decide) (he : starEach (e :: es) X.env = (false, eval e X.env) :: starEach es X.env := by rfl) (hpl : (backTo pos (starEach es X.env)).any (·.1) = false := by rfl) :
    PD X Z own ρ (.Call (.Name x p) (e :: es) [] pos) (.d d) :=
  pd_of (pe_call F hr hg hm hk hb .nil pass0 pa_A hdb he hpl) fun σ H R Q q => ha σ H R _ fun vs H1 s1 q1 => by
    rw [List.append_nil]
    exact ⟨ex Z own, ds, d, ex_there (R.h.mono s1), q1, hΦ, fun v H' s hv => q v H' (s1.trans s) hv⟩
/-- .. own lists among them, what comes is flat -/
theorem pd_callF {Φ : List PyData → PyData → Prop} (F : FnOk X.prog X.w X.K X.mg X.base CX0 k f fd ps (SpD X.K Φ)) (hr : Room k X.A) (hm : X.mg x = some (.ref f)) (hk : PySem.W.keepIn X.K (.ref f) = true) (hb : Binds X.K fd ps []) (ha : PWW X Z own ρ (e :: es) (ds.map Sl.d)) (hΦ : Φ ds d) (hf : flatD d = true := by rfl)
    (hg : Gl X x := by rfl) (hdb : (x == ("__debug__" : Str)) = false := by decide) (he : starEach (e :: es) X.env = (false, eval e X.env) :: starEach es X.env := by rfl) (hpl : (backTo pos (starEach es X.env)).any (·.1) = false := by rfl) :
    PD X Z own ρ (.Call (.Name x p) (e :: es) [] pos) (.d d) :=
  pd_of (pe_call F hr hg hm hk hb .nil pass0 pa_A hdb he hpl) fun σ H R Q q => ha σ H R _ fun vs H1 s1 q1 => by
    rw [List.append_nil]
    refine ⟨[], ds, d, (fun a ha => absurd ha (by simp)), by rw [cut_nil]; exact slsOk_data q1, hΦ, fun v H' s hv => q v H' (s1.trans s) (dp_flat hv hf)⟩
theorem pn_call {Φ : List PyData → List PyData → Prop} (F : FnOk X.prog X.w X.K X.mg X.base CX0 k f fd ps (SpL X.K Φ)) (hr : Room k X.A) (hm : X.mg x = some (.ref f)) (hk : PySem.W.keepIn X.K (.ref f) = true) (hb : Binds X.K fd ps []) {es' : List PyData} (ha : PDD X Z own ρ (e :: es) ds) (hΦ : Φ ds es')
    (hg : Gl X x := by rfl) (hdb : (x == ("__debug__" : Str)) = false := by decide) (he : starEach (e :: es) X.env = (false, eval e X.env) :: starEach es X.env := by rfl) (hpl : (backTo pos (starEach es X.env)).any (·.1) = false := by rfl) :
    PN X Z own ρ (.Call (.Name x p) (e :: es) [] pos) es' := fun σ H R Q q =>
  ⟨_, pe_call F hr hg hm hk hb .nil pass0 pa_A hdb he hpl, ha σ H R _ fun vs H1 s1 q1 => by
    rw [List.append_nil]
    exact ⟨ex Z own, ds, es', ex_there (R.h.mono s1), q1, hΦ, fun p ws H' hp s e hd => q p ws H' (s1.free hp) (s1.trans s) e hd⟩⟩

/-! ### what is walked -/
/-- J walks l: at each turn, in any heap that keeps what data leans on -/
structure ItOk (K : PySem.W.Frag) (m : List Addr) (H1 : Hp) (l : List PyData) (J : It) : Prop where
  go : ∀ m' H' k, Same (cut m H1) (cut m' H') → k < l.length → J.go k H'
  stop : ∀ m' H', Same (cut m H1) (cut m' H') → J.stop l.length H'
  yld : ∀ m' H' k x H2 d, Same (cut m H1) (cut m' H') → (∀ a ∈ m', ∃ o, H' a = some o) → l[k]? = some d → J.yld k H' x H2 → Same H' H2 ∧ Dp K (cut m' H2) x d
def PIt (X : Cx) (Z : Fz) (own : Own) (ρ : List Sl) (tg iter : Expr) (l : List PyData) : Prop :=
  ∃ wi, PI X tg iter wi ∧ ∀ σ H, Rep X.K Z own ρ σ H → ∀ R : It → Hp → Prop, (∀ J H1, Same H H1 → ItOk X.K (ex Z own) H1 l J → R J H1) → wi σ H R
theorem itOk_list {m : List Addr} {H1 : Hp} {q : Addr} {vs : List V} (h : Rd (cut m H1) q (.lst vs)) (hd : DpAll X.K (cut m H1) vs ds) : ItOk X.K m H1 ds (Itl X.K q) where
  go := fun m' H' k s hk => by
    obtain ⟨v, hv, _⟩ := dpAll_get hd (List.getElem?_eq_getElem hk)
    exact ⟨vs, v, .inl (rd_same cut_full (rd_same s h)), hv⟩
  stop := fun m' H' s => ⟨vs, .inl (rd_same cut_full (rd_same s h)), by rw [dpAll_length hd]; exact Nat.le_refl _⟩
  yld := fun m' H' k x H2 d s _ hk y => by
    obtain ⟨e, y⟩ := y
    subst e
    have hx := y vs (.inl (rd_same cut_full (rd_same s h)))
    obtain ⟨d', hd', hx'⟩ := dpAll_getV hd hx
    rw [hk] at hd'
    cases hd'
    exact ⟨Same.refl _, dp_mono s _ _ hx'⟩
theorem itOk_tup {m : List Addr} {H1 : Hp} {q : Addr} {vs : List V} (h : Rd (cut m H1) q (.tup vs)) (hd : DpAll X.K (cut m H1) vs ds) : ItOk X.K m H1 ds (Itt X.K q) where
  go := fun m' H' k s hk => by
    obtain ⟨v, hv, _⟩ := dpAll_get hd (List.getElem?_eq_getElem hk)
    exact ⟨vs, v, .inl (rd_same cut_full (rd_same s h)), hv⟩
  stop := fun m' H' s => ⟨vs, .inl (rd_same cut_full (rd_same s h)), by rw [dpAll_length hd]; exact Nat.le_refl _⟩
  yld := fun m' H' k x H2 d s _ hk y => by
    obtain ⟨e, y⟩ := y
    subst e
    have hx := y vs (.inl (rd_same cut_full (rd_same s h)))
    obtain ⟨d', hd', hx'⟩ := dpAll_getV hd hx
    rw [hk] at hd'
    cases hd'
    exact ⟨Same.refl _, dp_mono s _ _ hx'⟩
/-- lo, lo + 1, .. n of them -/
def rngD (lo : Int) (n : Nat) : List PyData := (List.range n).map fun k => PyData.int (lo + (k : Nat))
theorem rngD_length (lo : Int) (n : Nat) : (rngD lo n).length = n := by unfold rngD; rw [List.length_map, List.length_range]
theorem rngD_get {lo : Int} {n k : Nat} (h : k < n) : (rngD lo n)[k]? = some (.int (lo + (k : Nat))) := by
  unfold rngD
  rw [List.getElem?_map, List.getElem?_range h]
  rfl
theorem itOk_rng {m : List Addr} {H1 : Hp} {lo : Int} {n : Nat} : ItOk X.K m H1 (rngD lo n) (Itr lo n) where
  go := fun m' H' k s hk => by rw [rngD_length] at hk; exact hk
  stop := fun m' H' s => by rw [rngD_length]; exact Nat.le_refl n
  yld := fun m' H' k x H2 d s _ hk y => by
    obtain ⟨e, y⟩ := y
    subst e y
    have hk' : k < n := by
      have := (List.getElem?_eq_some_iff.mp hk).1
      rwa [rngD_length] at this
    rw [rngD_get hk'] at hk
    cases hk
    exact ⟨Same.refl _, Dp.int _⟩
/-- enumerate -/
def enumD (ds : List PyData) : List PyData := ds.zipIdx.map fun p => PyData.tuple [.int ((p.2 : Nat) : Int), p.1]
theorem enumD_length : (enumD ds).length = ds.length := by unfold enumD; rw [List.length_map, List.length_zipIdx]
theorem enumD_get {k : Nat} : (enumD ds)[k]? = ds[k]?.map fun d => PyData.tuple [.int (k : Nat), d] := by
  unfold enumD
  rw [List.getElem?_map, List.getElem?_zipIdx]
  cases ds[k]? <;> simp
theorem itOk_enum {m : List Addr} {H1 : Hp} {q : Addr} {vs : List V} (h : Rd (cut m H1) q (.lst vs)) (hd : DpAll X.K (cut m H1) vs ds) : ItOk X.K m H1 (enumD ds) (Ite X.K q) where
  go := fun m' H' k s hk => by
    rw [enumD_length] at hk
    obtain ⟨v, hv, _⟩ := dpAll_get hd (List.getElem?_eq_getElem hk)
    exact ⟨vs, v, .inl (rd_same cut_full (rd_same s h)), hv⟩
  stop := fun m' H' s => ⟨vs, .inl (rd_same cut_full (rd_same s h)), by rw [dpAll_length hd, enumD_length]; exact Nat.le_refl _⟩
  yld := fun m' H' k x H2 d s hm hk y => by
    obtain ⟨t, z, e1, hn, e2, y⟩ := y
    subst e1 e2
    have hx := y vs (.inl (rd_same cut_full (rd_same s h)))
    obtain ⟨d', hd', hx'⟩ := dpAll_getV hd hx
    rw [enumD_get, hd'] at hk
    cases hk
    have s2 := same_new hn (HO.tup [.int (k : Nat), z])
    refine ⟨s2, .tup (.inl ?_) (.cons (.int _) (.cons (dp_mono (cut_same s2) _ _ (dp_mono s _ _ hx')) .nil))⟩
    rw [cut_out, upd_same]
    intro hm'
    obtain ⟨o, ho⟩ := hm t hm'
    rw [hn] at ho; cases ho
theorem pit_list {tg : Expr} (h : PD X Z own ρ e (.d (.list ds))) : PIt X Z own ρ tg e ds := ⟨_, pi_list pe_E, fun σ H R Q k => h σ H R _ fun v H1 s1 q1 => by
  cases q1 with
  | @lst m vs _ hs ha => exact ⟨m, rfl, ⟨vs, .inl (rd_same cut_full hs)⟩, k _ H1 s1 (itOk_list hs ha)⟩⟩
theorem pit_tup {tg : Expr} (h : PD X Z own ρ e (.d (.tuple ds))) : PIt X Z own ρ tg e ds := ⟨_, pi_tup pe_E, fun σ H R Q k => h σ H R _ fun v H1 s1 q1 => by
  cases q1 with
  | @tup m vs _ hs ha => exact ⟨m, rfl, ⟨vs, .inl (rd_same cut_full hs)⟩, k _ H1 s1 (itOk_tup hs ha)⟩⟩
theorem pit_range1 {tg : Expr} (h : PD X Z own ρ e (.d (.int i))) (h1 : -(2 ^ 62) ≤ i) (h2 : i < 2 ^ 62) (hm : X.mg "range" = none) (hg : Gl X "range" := by rfl) (hs : starEach [e] X.env = [(false, eval e X.env)] := by rfl) (he : starEach (e :: []) X.env = (false, eval e X.env) :: starEach [] X.env := by rfl) :
    PIt X Z own ρ tg (.Call (.Name "range" p) [e] [] pos) (rngD 0 i.toNat) := ⟨_, pi_range1 hg hm (pa_cons pe_E pa_nil he) hs, fun σ H R Q k => h σ H R _ fun v H1 s1 q1 => by
  cases q1
  exact ⟨i, rfl, h1, h2, k _ H1 s1 itOk_rng⟩⟩
theorem pit_range2 {tg : Expr} (h : PD X Z own ρ a (.d (.int i))) (h' : PD X Z own ρ b (.d (.int j))) (h1 : -(2 ^ 62) ≤ i) (h2 : i < 2 ^ 62) (h3 : -(2 ^ 62) ≤ j) (h4 : j < 2 ^ 62) (hm : X.mg "range" = none) (hg : Gl X "range" := by rfl)
    (hs : starEach [a, b] X.env = [(false, eval a X.env), (false, eval b X.env)] := by rfl) (hs2 : starEach [b] X.env = [(false, eval b X.env)] := by rfl) (he : starEach (a :: [b]) X.env = (false, eval a X.env) :: starEach [b] X.env := by rfl) (he2 : starEach (b :: []) X.env = (false, eval b X.env) :: starEach [] X.env := by rfl) :
    PIt X Z own ρ tg (.Call (.Name "range" p) [a, b] [] pos) (rngD i (j - i).toNat) := ⟨_, pi_range2 hg hm (pa_cons pe_E (pa_cons pe_E pa_nil he2) he) hs hs2, fun σ H R Q k => h σ H R _ fun v H1 s1 q1 => h' σ H1 (R.mono s1) _ fun u H2 s2 q2 => by
  cases q1; cases q2
  exact ⟨i, j, rfl, ⟨h1, h2, h3, h4⟩, k _ H2 (s1.trans s2) itOk_rng⟩⟩
theorem pit_enum {elts : List Expr} {kk : Nat} {tpos : Pos} (h : PD X Z own ρ e (.d (.list ds))) (hm : X.mg "enumerate" = none) (hg : Gl X "enumerate" := by rfl) (hs : starEach [e] X.env = [(false, eval e X.env)] := by rfl) (he : starEach (e :: []) X.env = (false, eval e X.env) :: starEach [] X.env := by rfl) :
    PIt X Z own ρ (.Tuple elts kk tpos) (.Call (.Name "enumerate" p) [e] [] pos) (enumD ds) := ⟨_, pi_enum hg hm (pa_cons pe_E pa_nil he) hs, fun σ H R Q k => h σ H R _ fun v H1 s1 q1 => by
  cases q1 with
  | @lst m vs _ hs' ha => exact ⟨m, vs, rfl, .inl (rd_same cut_full (hs')), k _ H1 s1 (itOk_enum (hs') ha)⟩⟩
end
end L3
set_option Elab.async false
set_option linter.all false
set_option autoImplicit false
set_option maxRecDepth 100000
set_option maxHeartbeats 4000000
/-! Lay6: comprehensions, slices with a step. -/
namespace L3
open PySem PySem.Spec L2

theorem cut_into {m m' : List Addr} {H H2 : Hp} (s : Same H H2) (h : ∀ a o, H a = some o → a ∈ m' → a ∈ m) : Same (cut m H) (cut m' H2) := fun b o e => by
  have hb : b ∉ m := fun z => by rw [cut_in z] at e; cases e
  rw [cut_out hb] at e
  rw [cut_out fun z => hb (h b o e z)]
  exact s b o e
/-- one address more that data is not to lean on -/
abbrev Fz.more (Z : Fz) (D : Addr) : Fz := ⟨Z.F, D :: Z.m0⟩
theorem ex_more {Z : Fz} {own : Own} {D a : Addr} : a ∈ ex (Z.more D) own ↔ a = D ∨ a ∈ ex Z own := by
  unfold ex
  simp only [List.mem_append, List.mem_cons]
  constructor
  · rintro (h | h | h)
    · exact .inr (.inl h)
    · exact .inl h
    · exact .inr (.inr h)
  · rintro (h | h | h)
    · exact .inr (.inl h)
    · exact .inl h
    · exact .inr (.inr h)
theorem Rep.more {X : Cx} {Z : Fz} {own : Own} {ρ : List Sl} {σ : L2.St} {H H2 : Hp} {D : Addr} (R : Rep X.K Z own ρ σ H) (hD : H D = none) (s : Same H H2) (hD2 : ∃ o, H2 D = some o) : Rep X.K (Z.more D) own ρ σ H2 := by
  have c : Same (cut (ex Z own) H) (cut (ex (Z.more D) own) H2) := cut_into s fun a o e h => by
    rcases ex_more.mp h with h | h
    · subst h; rw [hD] at e; cases e
    · exact h
  refine ⟨⟨R.h.fr.trans s, fun p hp => ⟨(R.h.owns p hp).1, (R.h.owns p hp).2.mono c s⟩, fun a ha => ?_, R.h.nd, fun p hp z => ?_⟩, R.s.mono c⟩
  case refine_2 =>
    rcases List.mem_cons.mp z with z | z
    · obtain ⟨o, q⟩ := (R.h.owns p hp).2.there
      rw [z, hD] at q; cases q
    · exact R.h.dj p hp z
  rcases List.mem_cons.mp ha with h | h
  · rw [h]; exact hD2
  · obtain ⟨o, q⟩ := R.h.m0 a h
    exact ⟨o, s a o q⟩
theorem Rep.setS {X : Cx} {Z : Fz} {own : Own} {ρ : List Sl} {σ : L2.St} {H : Hp} (R : Rep X.K Z own ρ σ H) {i : Nat} {r : Sl} {v : V} (h : SlOk X.K (cut (ex Z own) H) r v) : Rep X.K Z own (ρ.set i r) (σ.set i (some v)) H := ⟨R.h, R.s.set (slotOk_of h) i⟩

/-! ### a clause's tests -/
def tTs (X : Cx) (ifs : List Expr) : TT := fun σ H Q => ∃ t, PTs X ifs t ∧ t σ H Q
def PBs (X : Cx) (Z : Fz) (own : Own) (ρ : List Sl) (ifs : List Expr) (b : Bool) : Prop := ∀ σ H, Rep X.K Z own ρ σ H → ∀ Q : Bool → Hp → Prop, (∀ H', Same H H' → Q b H') → tTs X ifs σ H Q
theorem pbs_nil {X : Cx} {Z : Fz} {own : Own} {ρ : List Sl} : PBs X Z own ρ [] true := fun σ H R Q k => ⟨_, pts_nil, k H (Same.refl H)⟩
theorem pbs_one {X : Cx} {Z : Fz} {own : Own} {ρ : List Sl} {c : Expr} {b : Bool} (h : PB X Z own ρ c b) : PBs X Z own ρ [c] b := fun σ H R Q k => ⟨_, pts_one pt_T, h σ H R Q k⟩

/-- the block's context -/
abbrev blkX (X : Cx) (scope : Scope) (s : Shared) (H : Hp) (C : Addr) (cl : List (Str × Addr)) (fp : List Addr) : Cx := X.blk s H scope (compEnvC scope cl C X.env) fp
def ttB (X : Cx) (scope : Scope) (ifs : List Expr) : TT := fun σ H Q => ∀ s H0 C cl fp, tTs (blkX X scope s H0 C cl fp) ifs σ H Q
def teB (X : Cx) (scope : Scope) (e : Expr) : TE := fun σ H Q => ∀ s H0 C cl fp, tE (blkX X scope s H0 C cl fp) e σ H Q
theorem ttB_ok {X : Cx} {scope : Scope} {ifs : List Expr} : ∀ (s : Shared) (H : Hp) (C : Addr) (cl : List (Str × Addr)) (fp : List Addr), PTs (blkX X scope s H C cl fp) ifs (ttB X scope ifs) := fun s0 H0 C cl fp => ⟨fun pins s σ H Q I h => by
  obtain ⟨t, ht, q⟩ := h s0 H0 C cl fp
  exact ht.run pins s σ H Q I q⟩
theorem teB_ok {X : Cx} {scope : Scope} {e : Expr} : ∀ (s : Shared) (H : Hp) (C : Addr) (cl : List (Str × Addr)) (fp : List Addr), PE (blkX X scope s H C cl fp) e (teB X scope e) := fun s0 H0 C cl fp => ⟨fun pins s σ H Q I h => by
  obtain ⟨t, ht, q⟩ := h s0 H0 C cl fp
  exact ht.run pins s σ H Q I q⟩
section
variable {X : Cx} {Z : Fz} {own : Own} {ρ : List Sl} {pos px : Pos} {iter elt : Expr} {ifs : List Expr} {x : Str} {scope : Scope}
/-- the reading of a comprehension whose target is the name in slot j -/
theorem lc_read {β : Type} {enc : β → PyData} {l : List β} {t : β → Bool} {f : β → PyData} {j : Nat} {wi : TI} {σ : L2.St} {H : Hp} {Q : VK} (R : Rep X.K Z own ρ σ H)
    (hw : ∀ R' : It → Hp → Prop, (∀ J H1, Same H H1 → ItOk X.K (ex Z own) H1 (l.map enc) J → R' J H1) → wi σ H R')
    (ht : ∀ b ∈ l, ∀ D s H0 C cl fp, PBs (blkX X scope s H0 C cl fp) (Z.more D) own (ρ.set j (.d (enc b))) ifs (t b))
    (he : ∀ b ∈ l, t b = true → ∀ D s H0 C cl fp, PD (blkX X scope s H0 C cl fp) (Z.more D) own (ρ.set j (.d (enc b))) elt (.d (f b)))
    (hz : l.length < sizeLine) (k : ∀ p vs H', H p = none → Same H H' → H' p = some (.lst vs) → DpAll X.K (cut (p :: ex Z own) H') vs ((l.filter t).map f) → Q (.ref p) H') :
    tLc wi (gName j) (ttB X scope ifs) (teB X scope elt) [j] σ H Q := by
  refine hw _ fun J H1 s1 it => ?_
  intro D hD
  have hDH : H D = none := s1.free hD
  have eqs : ∀ H' : Hp, Same (cut (ex (Z.more D) own) H') (cut (D :: ex Z own) H') := fun H' => cut_less fun a ha => by
    rcases List.mem_cons.mp ha with h | h
    · exact ex_more.mpr (.inl h)
    · exact ex_more.mpr (.inr h)
  refine ⟨fun i m H' => m = l.length - i ∧ i ≤ l.length ∧ Same H1 H' ∧ ∃ vs, H' D = some (.lst vs) ∧ DpAll X.K (cut (D :: ex Z own) H') vs (((l.take i).filter t).map f), ⟨l.length, rfl, Nat.zero_le _, same_new hD _, [], upd_same, .nil⟩, ?_⟩
  rintro i m H' ⟨rfl, hi, s', vs, hvs, hd⟩
  have sH := s1.trans s'
  by_cases hlt : i < l.length
  · refine .inr ⟨it.go (ex Z own) H' i (cut_same s') (by rw [List.length_map]; exact hlt), fun H' => i + 1 ≤ l.length ∧ Same H1 H' ∧ ∃ vs, H' D = some (.lst vs) ∧ DpAll X.K (cut (D :: ex Z own) H') vs (((l.take (i + 1)).filter t).map f), fun H'' ⟨a, b, c⟩ => ⟨l.length - (i + 1), by omega, rfl, a, b, c⟩, fun y H2 yl => ?_⟩
    have hb : l[i]? = some l[i] := List.getElem?_eq_getElem hlt
    have hbm : l[i] ∈ l := List.getElem_mem hlt
    have hm : ∀ a ∈ ex (Z.more D) own, ∃ o, H' a = some o := fun a ha => by
      rcases ex_more.mp ha with h | h
      · subst h; exact ⟨_, hvs⟩
      · obtain ⟨o, q⟩ := R.h.there h
        exact ⟨o, sH a o q⟩
    have c1 : Same (cut (ex Z own) H1) (cut (ex (Z.more D) own) H') := cut_into s' fun a o e h => by
      rcases ex_more.mp h with h | h
      · subst h; rw [hD] at e; cases e
      · exact h
    obtain ⟨s2, hy⟩ := it.yld (ex (Z.more D) own) H' i y H2 (enc l[i]) c1 hm (by rw [List.getElem?_map, hb]; rfl) yl
    have R2 : Rep X.K (Z.more D) own (ρ.set j (.d (enc l[i]))) (σ.set j (some y)) H2 := (R.more hDH (sH.trans s2) ⟨_, s2 _ _ hvs⟩).setS hy
    have eσ : (wipe σ [j]).set j (some y) = σ.set j (some y) := by
      show (σ.set j none).set j (some y) = _
      rw [List.set_set]
    show wipe ((wipe σ [j]).set j (some y)) [j] = wipe σ [j] ∧ _
    refine ⟨?_, ?_⟩
    · show (((σ.set j none).set j (some y)).set j none) = σ.set j none
      rw [List.set_set, List.set_set]
    rw [eσ]
    refine fun s H0 C cl fp => ht l[i] hbm D s H0 C cl fp _ _ R2 _ fun H3 s3 => ?_
    have etake : l.take (i + 1) = l.take i ++ [l[i]] := (List.take_append_getElem hlt).symm
    cases htb : t l[i] with
    | false =>
      refine iteF ⟨hlt, s'.trans (s2.trans s3), vs, s3 _ _ (s2 _ _ hvs), ?_⟩
      rw [etake, List.filter_append, List.filter_cons, if_neg (by rw [htb]; exact Bool.false_ne_true), List.filter_nil, List.append_nil]
      exact dpAll_mono (cut_same (s2.trans s3)) _ _ hd
    | true =>
      refine iteT fun s H0 C cl fp => he l[i] hbm htb D s H0 C cl fp _ _ (R2.mono s3) _ fun v H4 s4 hv => ?_
      have hvs4 := s4 _ _ (s3 _ _ (s2 _ _ hvs))
      have hl : vs.length < sizeLine := by
        have e1 := dpAll_length hd
        have e2 : ((l.take i).filter t).length ≤ (l.take i).length := List.length_filter_le _ _
        rw [List.length_map] at e1
        rw [List.length_take] at e2
        omega
      refine ⟨vs, hvs4, hl, hlt, (fun b o e => by rw [upd_ne (ne_of_none e hD)]; exact (s'.trans (s2.trans (s3.trans s4))) b o e), vs ++ [v], upd_same, ?_⟩
      rw [etake, List.filter_append, List.filter_cons, if_pos htb, List.filter_nil, List.map_append, cut_upd List.mem_cons_self]
      exact dpAll_app (dpAll_mono (cut_same (s2.trans (s3.trans s4))) _ _ hd) (.cons (dp_mono (eqs H4) _ _ hv) .nil)
  · have e : i = l.length := by omega
    subst e
    refine .inl ⟨?_, k D vs H' hDH sH hvs ?_⟩
    · have := it.stop (ex Z own) H' (cut_same s')
      rwa [List.length_map] at this
    · rw [List.take_length] at hd
      exact hd
theorem pn_lc {β : Type} (enc : β → PyData) (l : List β) (t : β → Bool) (f : β → PyData) (j : Nat) (hi : PIt X Z own ρ (.Name x px) iter (l.map enc)) (hN : X.N.Nodup) (ok : blkC X.N X.env.scope scope [(x, j)] = true)
    (hg : ∀ (s : Shared) (H : Hp) (C : Addr) (cl : List (Str × Addr)) (fp : List Addr), L2.PG (blkX X scope s H C cl fp) (.Name x px) (gName j))
    (ht : ∀ b ∈ l, ∀ D s H0 C cl fp, PBs (blkX X scope s H0 C cl fp) (Z.more D) own (ρ.set j (.d (enc b))) ifs (t b))
    (he : ∀ b ∈ l, t b = true → ∀ D s H0 C cl fp, PD (blkX X scope s H0 C cl fp) (Z.more D) own (ρ.set j (.d (enc b))) elt (.d (f b)))
    (hz : l.length < sizeLine) (hc : X.calm = true := by rfl) (hs : ∀ x, foldedSetIterable iter X.env x = pure x := by intro _; rfl) :
    PN X Z own ρ (.ListComp elt [⟨.Name x px, iter, ifs, 0⟩] scope pos) ((l.filter t).map f) := fun σ H R Q k => by
  obtain ⟨wi, hi, hw⟩ := hi
  exact ⟨_, pe_lc (own := [(x, j)]) hc hN hi (blkOk_by ok) hg ttB_ok teB_ok hs, lc_read R (hw σ H R) ht he hz k⟩

/-! ### a slice with a step -/
def pickV {α : Type} (xs : List α) (lo hi st : Option Int) : List α := (sliceRange (sliceBounds lo hi st xs.length).1 (sliceBounds lo hi st xs.length).2.1 (sliceBounds lo hi st xs.length).2.2).filterMap (xs[·]?)
theorem vals_pick {vs : List V} {us : List Value} (h : Vals vs us) : ∀ is : List Nat, Vals (is.filterMap (vs[·]?)) (is.filterMap (us[·]?))
  | [] => .nil
  | i :: is => by
    have ih := vals_pick h is
    cases e : vs[i]? with
    | none =>
      rw [List.filterMap_cons_none e, List.filterMap_cons_none (h.none_of e)]
      exact ih
    | some v =>
      obtain ⟨u, hu, r⟩ := h.get e
      rw [List.filterMap_cons_some e, List.filterMap_cons_some hu]
      exact .cons r ih
theorem dpAll_pick {X : Cx} {G : Hp} {vs : List V} {ds : List PyData} (h : DpAll X.K G vs ds) : ∀ is : List Nat, DpAll X.K G (is.filterMap (vs[·]?)) (is.filterMap (ds[·]?))
  | [] => .nil
  | i :: is => by
    have ih := dpAll_pick h is
    cases e : vs[i]? with
    | none =>
      have e' : ds[i]? = none := List.getElem?_eq_none_iff.mpr (by rw [← dpAll_length h]; exact List.getElem?_eq_none_iff.mp e)
      rw [List.filterMap_cons_none e, List.filterMap_cons_none e']
      exact ih
    | some v =>
      obtain ⟨d, hd, r⟩ := dpAll_getV h e
      rw [List.filterMap_cons_some e, List.filterMap_cons_some hd]
      exact .cons r ih
def tSl3 (te : TE) (tl th ts : TO) : TE := fun σ H Q => te σ H fun x H1 => tl σ H1 fun l H2 => th σ H2 fun u H3 => ts σ H3 fun c H4 => c ≠ some 0 ∧ ∃ a xs, x = .ref a ∧ Rd H4 a (.lst xs) ∧ ∀ p, H4 p = none → Q (.ref p) (upd H4 p (.lst (pickV xs l u c)))
theorem pe_slice3 {e st : Expr} {lo hi : Option Expr} {te : TE} {tl th ts : TO} {p3 : Pos} (he : PE X e te) (hl : PO X lo tl) (hu : PO X hi th) (hst : PO X (some st) ts)
    (htl : ∀ v k, subscripted (.Slice lo hi (some st) p3) false v (.ref k) = operate [v, .ref k] (getItem v (.ref k)) := by intro _ _; with_unfolding_all rfl) : PE X (.Subscript e (.Slice lo hi (some st) p3) pos) (tSl3 te tl th ts) := by
  refine ⟨fun pins s σ H Q I h => ?_⟩
  refine PyProof.Rows.Subscript_ (thn (he.run pins s σ H _ I h) fun v s1 ⟨x, H1, I1, r1, q1⟩ => ?_)
  refine wpAny_Slice (thn (hl.run pins s1 σ H1 _ I1 q1) fun vl s2 ⟨l, H2, I2, pl, q2⟩ => thn (hu.run pins s2 σ H2 _ I2 q2) fun vu s3 ⟨u, H3, I3, pu, q3⟩ => thn (hst.run pins s3 σ H3 _ I3 q3) fun vs s4 ⟨o, H4, I4, ps, hne, a, xs, ex, hx, q⟩ => ?_)
  subst ex
  cases r1
  have I5 : Inv X pins σ H4 { s4 with heap := s4.heap.push { cls := .type "slice", data := .fields #[vl, vu, vs] } } := I4.kept (t' := s4.toks) fun b ob q => Heap.get?_push_of_some _ q
  obtain ⟨its, r, ht, hz⟩ := I5.list (show SqL X.K H4 a xs from .inl hx)
  have hlen := r.length
  show wpAny (model X.prog X.w) X.A (PyProof.Rows.subscriptTail e (.Slice lo hi (some st) p3) (.ref a) (.ref s4.heap.objs.size)) (EP X pins σ Q) X.xe { s4 with heap := s4.heap.push { cls := .type "slice", data := .fields #[vl, vu, vs] } }
  refine PyProof.Rows.tail_any (ops := [.ref a, .ref s4.heap.objs.size]) ht.isList.typeIs (PySem.slot_list_getitem.lookup) ?_ (htl _ _)
  refine wpAny_getItem_list_slice ht.isList (Heap.IsSliceOf.new _ vl vu vs) pl pu ps hne ?_ (by rw [List.size_toArray]; omega)
  have e : slicePick its.toArray l u o = (pickV its l u o).toArray := by
    unfold slicePick pickV
    simp only [List.size_toArray, List.getElem?_toArray]
  have hv : Vals (pickV xs l u o) (pickV its l u o) := by
    unfold pickV
    rw [hlen]
    exact vals_pick r _
  have hz' : (pickV xs l u o).length ≤ sizeLine := by
    have h1 := slicePick_size_le its.toArray l u o
    rw [e] at h1
    rw [hv.length]
    simp only [List.size_toArray] at h1
    omega
  rw [e]
  refine ⟨.ref _, _, I5.laid (t' := s4.toks) (o := .lst (pickV xs l u o)) (fun b ob q => Heap.get?_push_of_some _ q) (Nat.le_refl _) ?_, rfl, q _ (I5.hok.fresh (Nat.le_refl _))⟩
  exact ⟨hz', _, 0, hv, Heap.get?_push_size _ rfl⟩
theorem pn_slice3 {a st : Expr} {lo hi : Option Expr} {l u : Option Int} {c : Int} {p3 : Pos} {ds : List PyData} (ha : PL X Z own ρ a ds) (hl : PP X Z own ρ lo l) (hu : PP X Z own ρ hi u) (hs : PD X Z own ρ st (.d (.int c))) (hc : c ≠ 0)
    (htl : ∀ v k, subscripted (.Slice lo hi (some st) p3) false v (.ref k) = operate [v, .ref k] (getItem v (.ref k)) := by intro _ _; with_unfolding_all rfl) : PN X Z own ρ (.Subscript a (.Slice lo hi (some st) p3) pos) (pickV ds l u (some c)) := fun σ H R Q k =>
  ⟨_, pe_slice3 pe_E po_O po_O po_O htl, ha σ H R _ fun x H1 s1 p1 => hl.run (R.mono s1) fun H2 s2 => hu.run (R.mono (s1.trans s2)) fun H3 s3 => (PP.some hs).run (R.mono ((s1.trans s2).trans s3)) fun H4 s4 => by
    obtain ⟨m, vs, rfl, hm, dm⟩ := mono_l _ _ _ ((s2.trans s3).trans s4) p1
    have s14 := ((s1.trans s2).trans s3).trans s4
    refine ⟨fun z => hc (Option.some.inj z), m, vs, rfl, hm, fun p hp => ?_⟩
    refine pn_end (R.h.mono s14) ?_ (fun p vs H' h1 h2 h3 h4 => k p vs H' (s14.free h1) (s14.trans h2) h3 h4) p hp
    unfold pickV
    rw [dpAll_length dm]
    exact dpAll_pick dm _⟩
end
end L3
set_option Elab.async false
set_option linter.all false
set_option autoImplicit false
set_option maxRecDepth 100000
set_option maxHeartbeats 4000000
/-! Lay7: statements, blocks, defs. -/
namespace L3
open PySem PySem.Spec L2

/-- what is to hold behind a block: at its end, at a return, a break, a continue -/
structure Pst where
  nx : Own → List Sl → Prop
  rt : Own → Sl → Prop
  bk : Own → List Sl → Prop := fun _ _ => False
  ct : Own → List Sl → Prop := fun _ _ => False
structure EndsOk (K : PySem.W.Frag) (Z : Fz) (P : Pst) (D : Ends) : Prop where
  nx : ∀ own ρ σ H, P.nx own ρ → Rep K Z own ρ σ H → D.nx σ H
  rt : ∀ own r v H, P.rt own r → RepH K Z own H → SlOk K (cut (ex Z own) H) r v → D.rt v H
  bk : ∀ own ρ σ H, P.bk own ρ → Rep K Z own ρ σ H → D.bk σ H
  ct : ∀ own ρ σ H, P.ct own ρ → Rep K Z own ρ σ H → D.ct σ H
/-- the block, from such a state, comes to what P says -/
def PH (X : Cx) (Z : Fz) (own : Own) (ρ : List Sl) (sts : List Stmt) (P : Pst) : Prop := ∀ σ H, Rep X.K Z own ρ σ H → ∀ D, EndsOk X.K Z P D → tSs X sts D σ H
/-- P, what follows put behind the end -/
abbrev Pst.seq (P : Pst) (X : Cx) (Z : Fz) (rest : List Stmt) : Pst := { P with nx := fun own ρ => PH X Z own ρ rest P }

theorem rep_weakF {X : Cx} {F F' : Hp} {m0 : List Addr} {own : Own} {ρ : List Sl} {σ : L2.St} {H : Hp} (s : Same F F') (R : Rep X.K ⟨F', m0⟩ own ρ σ H) : Rep X.K ⟨F, m0⟩ own ρ σ H :=
  ⟨⟨s.trans R.h.fr, fun p hp => ⟨s.free (R.h.owns p hp).1, (R.h.owns p hp).2⟩, R.h.m0, R.h.nd, R.h.dj⟩, R.s⟩
theorem repH_weakF {X : Cx} {F F' : Hp} {m0 : List Addr} {own : Own} {H : Hp} (s : Same F F') (R : RepH X.K ⟨F', m0⟩ own H) : RepH X.K ⟨F, m0⟩ own H :=
  ⟨s.trans R.fr, fun p hp => ⟨s.free (R.owns p hp).1, (R.owns p hp).2⟩, R.m0, R.nd, R.dj⟩

section
variable {X : Cx} {Z : Fz} {own : Own} {ρ : List Sl} {pos px spos : Pos} {e c : Expr} {x : Str} {r : Sl} {d : PyData} {ds : List PyData} {rest thn els : List Stmt} {st : Stmt} {P : Pst} {i : Nat} {b : Bool}
theorem h_nil (h : P.nx own ρ) : PH X Z own ρ [] P := fun σ H R D E => ⟨_, pss_nil, E.nx own ρ σ H h R⟩
/-- a statement, then the rest: t is what the statement's rule reads -/
theorem h_cons {t : TS} (h : PS X st t) (q : ∀ σ H, Rep X.K Z own ρ σ H → ∀ D, EndsOk X.K Z (P.seq X Z rest) D → t D σ H) : PH X Z own ρ (st :: rest) P := fun σ H R D E =>
  ⟨_, pss_cons h pss_Ss, q σ H R _ ⟨fun own ρ σ H hn R => hn σ H R D E, E.rt, E.bk, E.ct⟩⟩
theorem h_set (i : Nat) (he : PD X Z own ρ e r) (k : PH X Z own (ρ.set i r) rest P) (hN : X.N.Nodup) (hi : X.N[i]? = some x := by rfl) (hx : Loc X.env.scope x := by first | exact Or.inl rfl | exact Or.inr rfl) (hs : swapsWith e (some (.Name x px)) spos.line X.env = pure false := by rfl)
    (hf : X.fn x = true ∨ X.env.scope.names.lookup x = some .local := by first | exact .inl rfl | exact .inr rfl) : PH X Z own ρ (.Assign [.Name x px] e spos :: rest) P :=
  h_cons (ps_set hN hi hx pe_E hs hf) fun σ H R D E => he σ H R _ fun v H' s hv => E.nx own _ _ H' k ((R.mono s).setS hv)
theorem h_setN (i : Nat) (he : PN X Z own ρ e ds) (k : ∀ p, PH X Z ((p, .lst ds) :: own) (ρ.set i (.v (.ref p))) rest P) (hN : X.N.Nodup) (hi : X.N[i]? = some x := by rfl) (hx : Loc X.env.scope x := by first | exact Or.inl rfl | exact Or.inr rfl) (hs : swapsWith e (some (.Name x px)) spos.line X.env = pure false := by rfl)
    (hf : X.fn x = true ∨ X.env.scope.names.lookup x = some .local := by first | exact .inl rfl | exact .inr rfl) : PH X Z own ρ (.Assign [.Name x px] e spos :: rest) P :=
  h_cons (ps_set hN hi hx pe_E hs hf) fun σ H R D E => he σ H R _ fun p vs H' hp s hq hd => E.nx _ _ _ H' (k p) (Rep.setS (R.cons (m := .lst ds) hp s ⟨vs, hq, hd⟩) rfl)
/-- name = [..] on one line -/
theorem setLc_core {β : Type} {px' : Pos} {y : Str} {py : Pos} {elt iter : Expr} {ifs : List Expr} {scope : Scope} (enc : β → PyData) (l : List β) (t : β → Bool) (f : β → PyData) (i j : Nat) (hi : PIt X Z own ρ (.Name x px) iter (l.map enc))
    (ht : ∀ b ∈ l, ∀ D s H0 C cl fp, PBs (blkX X scope s H0 C cl fp) (Z.more D) own (ρ.set j (.d (enc b))) ifs (t b))
    (he : ∀ b ∈ l, t b = true → ∀ D s H0 C cl fp, PD (blkX X scope s H0 C cl fp) (Z.more D) own (ρ.set j (.d (enc b))) elt (.d (f b)))
    (hz : l.length < sizeLine) (k : ∀ p, PH X Z ((p, .lst ((l.filter t).map f)) :: own) (ρ.set i (.v (.ref p))) rest P) (hN : X.N.Nodup) (hy : X.N[i]? = some y) (hyl : X.env.scope.names.lookup y = some .local)
    (hsw : swapsWith (.ListComp elt [⟨.Name x px, iter, ifs, 0⟩] scope pos) (some (.Name y py)) spos.line X.env = pure true) (ok : blkC X.N X.env.scope scope [(x, j)] = true)
    (hg : ∀ (s : Shared) (H : Hp) (C : Addr) (cl : List (Str × Addr)) (fp : List Addr), L2.PG (blkX X scope s H C cl fp) (.Name x px) (gName j)) (hc : X.calm = true) (hs : ∀ x, foldedSetIterable iter X.env x = pure x) :
    PH X Z own ρ (.Assign [.Name y py] (.ListComp elt [⟨.Name x px, iter, ifs, 0⟩] scope pos) spos :: rest) P := by
  obtain ⟨wi, hi, hw⟩ := hi
  exact h_cons (ps_setLc (own := [(x, j)]) hc hN hy hyl hsw hi (blkOk_by ok) hg ttB_ok teB_ok hs) fun σ H R D E => lc_read R (hw σ H R) ht he hz fun p vs H' hp s hq hd =>
    E.nx _ _ _ H' (k p) (Rep.setS (R.cons (m := .lst ((l.filter t).map f)) hp s ⟨vs, hq, hd⟩) rfl)
/-- own addresses as they stand -/
theorem ex_set {own : Own} {k : Nat} {a : Addr} {m m' : Mo} (h : own[k]? = some (a, m)) : (own.set k (a, m')).map (·.1) = own.map (·.1) := by
  rw [List.map_set]
  show (own.map (·.1)).set k a = own.map (·.1)
  have e : (own.map (·.1))[k]? = some a := by rw [List.getElem?_map, h]; rfl
  obtain ⟨h1, h2⟩ := List.getElem?_eq_some_iff.mp e
  rw [← h2, List.set_getElem_self]
theorem ex_set' {Z : Fz} {own : Own} {k : Nat} {a : Addr} {m m' : Mo} (h : own[k]? = some (a, m)) : ex Z (own.set k (a, m')) = ex Z own := by
  unfold ex
  rw [ex_set h]
/-- an own object is written -/
theorem RepH.write {H : Hp} (R : RepH X.K Z own H) {k : Nat} {a : Addr} {m m' : Mo} {o : HO} (h : own[k]? = some (a, m)) (hm : MoOk X.K (cut (ex Z own) H) (upd H a o) a m') : RepH X.K Z (own.set k (a, m')) (upd H a o) := by
  have hmem : (a, m) ∈ own := List.mem_of_getElem? h
  have ha : a ∈ ex Z own := List.mem_append_left _ (List.mem_map.mpr ⟨_, hmem, rfl⟩)
  have ec : cut (ex Z (own.set k (a, m'))) (upd H a o) = cut (ex Z own) H := by rw [ex_set' h, cut_upd ha]
  refine ⟨fun b u e => ?_, fun p hp => ?_, fun b hb => ?_, ?_, fun p hp z => ?_⟩
  · have hba : b ≠ a := fun z => by rw [z, (R.owns _ hmem).1] at e; cases e
    rw [upd_ne hba]
    exact R.fr b u e
  · rw [ec]
    obtain ⟨q, hq⟩ := List.getElem?_of_mem hp
    by_cases hk : q = k
    · subst hk
      have hlt : q < own.length := (List.getElem?_eq_some_iff.mp h).1
      rw [List.getElem?_set_self hlt] at hq
      cases hq
      exact ⟨(R.owns _ hmem).1, hm⟩
    · rw [List.getElem?_set_ne (Ne.symm hk)] at hq
      have hp' : p ∈ own := List.mem_of_getElem? hq
      have hpa : p.1 ≠ a := fun z => by
        have e1 : (own.map (·.1))[q]? = some p.1 := by rw [List.getElem?_map, hq]; rfl
        have e2 : (own.map (·.1))[k]? = some a := by rw [List.getElem?_map, h]; rfl
        rw [z] at e1
        exact hk (nd_ix R.nd e1 e2)
      obtain ⟨f1, f2⟩ := R.owns p hp'
      refine ⟨f1, ?_⟩
      cases hpm : p.2 with
      | lst ds => rw [hpm] at f2; obtain ⟨vs, x1, x2⟩ := f2; exact ⟨vs, by rw [upd_ne hpa]; exact x1, x2⟩
      | ins C f x => rw [hpm] at f2; obtain ⟨dx, v, x1, x2⟩ := f2; exact ⟨dx, v, by rw [upd_ne hpa]; exact x1, x2⟩
      | raw o' => rw [hpm] at f2; exact (upd_ne hpa).trans f2
  · obtain ⟨u, e⟩ := R.m0 b hb
    by_cases hba : b = a
    · subst hba; exact ⟨_, upd_same⟩
    · exact ⟨u, by rw [upd_ne hba]; exact e⟩
  · rw [ex_set h]; exact R.nd
  · have e : p.1 ∈ (own.set k (a, m')).map (·.1) := List.mem_map.mpr ⟨p, hp, rfl⟩
    rw [ex_set h] at e
    obtain ⟨q, hq, eq⟩ := List.mem_map.mp e
    exact R.dj q hq (by rw [eq]; exact z)
theorem Rep.write {H : Hp} {σ : L2.St} (R : Rep X.K Z own ρ σ H) {k : Nat} {a : Addr} {m m' : Mo} {o : HO} (h : own[k]? = some (a, m)) (hm : MoOk X.K (cut (ex Z own) H) (upd H a o) a m') : Rep X.K Z (own.set k (a, m')) ρ σ (upd H a o) := by
  have hmem : (a, m) ∈ own := List.mem_of_getElem? h
  have ha : a ∈ ex Z own := List.mem_append_left _ (List.mem_map.mpr ⟨_, hmem, rfl⟩)
  refine ⟨R.h.write h hm, ?_⟩
  rw [ex_set' h, cut_upd ha]
  exact R.s
/-- x.append(e) -/
theorem h_app {a : Addr} {o : Expr} {apos : Pos} (k : Nat) (ho : PD X Z own ρ o (.v (.ref a))) (hk : own[k]? = some (a, .lst ds)) (he : PD X Z own ρ e (.d d)) (hz : ds.length < sizeLine) (q : PH X Z (own.set k (a, .lst (ds ++ [d]))) ρ rest P)
    (hpe : PE X (.Call (.Attribute o "append" apos) [e] [] pos) (tBM X.K "list" rAppend (tE X o) (tCons (tE X e) tNil))) (hs : swapsWith (.Call (.Attribute o "append" apos) [e] [] pos) none spos.line X.env = pure false := by rfl) :
    PH X Z own ρ (.Expr (.Call (.Attribute o "append" apos) [e] [] pos) spos :: rest) P :=
  h_cons (ps_expr hpe hs) fun σ H R D E => ho σ H R _ fun v H1 s1 hv => by
    have hmem : (a, Mo.lst ds) ∈ own := List.mem_of_getElem? hk
    obtain ⟨_, vs, h1, h2⟩ := (R.h.mono s1).owns _ hmem
    have ev : v = .ref a := hv
    subst ev
    refine ⟨.inl ⟨rfl, _, SqL.of h1⟩, he σ H1 (R.mono s1) _ fun u H2 s2 hu => ⟨a, vs, u, rfl, rfl, s2 _ _ h1, by rw [dpAll_length h2]; exact hz, ?_⟩⟩
    refine E.nx _ _ σ _ q (((R.mono s1).mono s2).write hk ⟨vs ++ [u], upd_same, dpAll_app (dpAll_mono (cut_same s2) _ _ h2) (.cons hu .nil)⟩)
/-- y = x.pop() -/
theorem h_pop {a : Addr} {o : Expr} {apos : Pos} (k i : Nat) (ho : PD X Z own ρ o (.v (.ref a))) (hk : own[k]? = some (a, .lst (ds ++ [d]))) (q : PH X Z (own.set k (a, .lst ds)) (ρ.set i (.d d)) rest P)
    (hpe : PE X (.Call (.Attribute o "pop" apos) [] [] pos) (tBM0 X.K "list" rPop (tE X o))) (hN : X.N.Nodup) (hi : X.N[i]? = some x := by rfl) (hx : Loc X.env.scope x := by first | exact Or.inl rfl | exact Or.inr rfl)
    (hs : swapsWith (.Call (.Attribute o "pop" apos) [] [] pos) (some (.Name x px)) spos.line X.env = pure false := by rfl) (hf : X.fn x = true ∨ X.env.scope.names.lookup x = some .local := by first | exact .inl rfl | exact .inr rfl) :
    PH X Z own ρ (.Assign [.Name x px] (.Call (.Attribute o "pop" apos) [] [] pos) spos :: rest) P :=
  h_cons (ps_set hN hi hx hpe hs hf) fun σ H R D E => ho σ H R _ fun v H1 s1 hv => by
    have hmem : (a, Mo.lst (ds ++ [d])) ∈ own := List.mem_of_getElem? hk
    obtain ⟨_, vs, h1, h2⟩ := (R.h.mono s1).owns _ hmem
    have ev : v = .ref a := hv
    subst ev
    have hl := dpAll_length h2
    rw [List.length_append, List.length_singleton] at hl
    obtain ⟨u, hu, hd⟩ := dpAll_get (i := ds.length) (d := d) h2 (by rw [List.getElem?_append_right (Nat.le_refl _)]; simp)
    refine ⟨.inl ⟨rfl, _, SqL.of h1⟩, a, vs, u, rfl, rfl, h1, by rw [hl]; exact hu, ?_⟩
    have h3 : DpAll X.K (cut (ex Z own) H1) vs.dropLast ds := by
      have := dpAll_dropLast h2
      rwa [List.dropLast_concat] at this
    have R2 : Rep X.K Z (own.set k (a, .lst ds)) ρ σ (upd H1 a (.lst vs.dropLast)) := (R.mono s1).write hk ⟨_, upd_same, h3⟩
    refine E.nx _ _ _ _ q (R2.setS ?_)
    rw [ex_set' hk, cut_upd (show a ∈ ex Z own from List.mem_append_left _ (List.mem_map.mpr ⟨_, hmem, rfl⟩))]
    exact hd

/-! ### targets -/
def TgD (X : Cx) (tg : Expr) (d : PyData) (u : List Sl → List Sl) : Prop :=
  ∃ g, L2.PG X tg g ∧ ∀ Z own ρ σ H v, Rep X.K Z own ρ σ H → Dp X.K (cut (ex Z own) H) v d → ∀ Q : L2.St → Hp → Prop, (∀ σ', Rep X.K Z own (u ρ) σ' H → Q σ' H) → g v σ H Q
def TgsD (X : Cx) (es : List Expr) (ds : List PyData) (u : List Sl → List Sl) : Prop :=
  ∃ g, PGs X es g ∧ ∀ Z own ρ σ H vs, Rep X.K Z own ρ σ H → DpAll X.K (cut (ex Z own) H) vs ds → ∀ Q : L2.St → Hp → Prop, (∀ σ', Rep X.K Z own (u ρ) σ' H → Q σ' H) → g vs σ H Q
theorem tg_name (i : Nat) (hN : X.N.Nodup) (hi : X.N[i]? = some x := by rfl) (hx : Loc X.env.scope x := by first | exact Or.inl rfl | exact Or.inr rfl) (hf : X.fn x = true ∨ X.env.scope.names.lookup x = some .local := by first | exact .inl rfl | exact .inr rfl) :
    TgD X (.Name x px) d (fun ρ => ρ.set i (.d d)) := ⟨_, pg_name hN hi hx hf, fun Z own ρ σ H v R hv Q k => k _ (R.setS hv)⟩
theorem tgs_nil : TgsD X [] [] (fun ρ => ρ) := ⟨_, pgs_nil, fun Z own ρ σ H vs R hv Q k => by cases hv; exact ⟨rfl, k _ R⟩⟩
theorem tgs_cons {tg : Expr} {es : List Expr} {u u' : List Sl → List Sl} (h : TgD X tg d u) (h' : TgsD X es ds u') (hs : (assignEach (tg :: es) X.env).map (·.2) = assign tg X.env :: (assignEach es X.env).map (·.2) := by rfl) : TgsD X (tg :: es) (d :: ds) (fun ρ => u' (u ρ)) := by
  obtain ⟨g, h1, h2⟩ := h
  obtain ⟨g', h3, h4⟩ := h'
  refine ⟨_, pgs_cons h1 h3 hs, fun Z own ρ σ H vs R hv Q k => ?_⟩
  cases hv with
  | cons a b => exact ⟨_, _, rfl, h2 Z own ρ σ H _ R a _ fun σ' R' => h4 Z own _ σ' H _ R' b Q k⟩
theorem tg_tup {es : List Expr} {kk : Nat} {u : List Sl → List Sl} (h : TgsD X es ds u) (hn : (assignEach es X.env).length = ds.length := by rfl) (hc : X.calm = true := by rfl) (hst : (assignEach es X.env).findIdx? (·.1) = none := by rfl) : TgD X (.Tuple es kk pos) (.tuple ds) u := by
  obtain ⟨g, h1, h2⟩ := h
  refine ⟨_, L2.pg_tup hc h1 hn hst, fun Z own ρ σ H v R hv Q k => ?_⟩
  cases hv with
  | @tup a vs _ hs hd => exact ⟨a, vs, rfl, (.inl (rd_same cut_full hs)), dpAll_length hd, h2 Z own ρ σ H vs R hd Q k⟩
/-- a target of any form -/
theorem h_asg {tg : Expr} {u : List Sl → List Sl} (he : PD X Z own ρ e (.d d)) (ht : TgD X tg d u) (k : PH X Z own (u ρ) rest P) (hs : swapsWithSole [tg] e spos.line X.env = pure false := by rfl) (hw : swappedStores [tg] e X.env = pure none := by rfl)
    (h1 : (assignEach [tg] X.env).map (·.2) = [assign tg X.env] := by rfl) : PH X Z own ρ (.Assign [tg] e spos :: rest) P := by
  obtain ⟨g, hg, ht⟩ := ht
  exact h_cons (ps_asg pe_E hg hs hw h1) fun σ H R D E => he σ H R _ fun v H' s hv => ht Z own ρ σ H' v (R.mono s) hv _ fun σ' R' => E.nx _ _ _ _ k R'
/-- a, b = e1, e2 -/
theorem h_par {y : Str} {py pt pt2 : Pos} {kt k2 : Nat} {a b : Expr} {d1 d2 : PyData} (i j : Nat) (ha : PDD X Z own ρ [a, b] [d1, d2]) (k : PH X Z own ((ρ.set i (.d d1)).set j (.d d2)) rest P) (hN : X.N.Nodup) (hij : i ≠ j := by decide) (hi : X.N[i]? = some x := by rfl) (hj : X.N[j]? = some y := by rfl) (hc : X.calm = true := by rfl)
    (hx : X.env.scope.names.lookup x = some .local := by rfl) (hy : X.env.scope.names.lookup y = some .local := by rfl) (hw : swappedStores [.Tuple [.Name x px, .Name y py] kt pt] (.Tuple [a, b] k2 pt2) X.env = pure (some [x, y]) := by rfl)
    (hs : swapsWithSole [.Tuple [.Name x px, .Name y py] kt pt] (.Tuple [a, b] k2 pt2) pos.line X.env = pure false := by rfl) : PH X Z own ρ (.Assign [.Tuple [.Name x px, .Name y py] kt pt] (.Tuple [a, b] k2 pt2) pos :: rest) P :=
  h_cons (ps_par hc hN hi hj hij hx hy pa_A hw hs) fun σ H R D E => ha σ H R _ fun vs H' s hv => by
    cases hv with
    | cons h1 h2 =>
      cases h2 with
      | cons h2 h3 =>
        cases h3
        exact ⟨_, _, rfl, E.nx _ _ _ _ k (((R.mono s).setS (r := .d d1) h1).setS (r := .d d2) h2)⟩

/-! ### if -/
theorem h_if (hc : PB X Z own ρ c b) (h1 : b = true → PH X Z own ρ thn (P.seq X Z rest)) (h2 : b = false → PH X Z own ρ els (P.seq X Z rest)) : PH X Z own ρ (.If c thn els pos :: rest) P :=
  h_cons (ps_if pt_T pss_Ss pss_Ss) fun σ H R D E => hc σ H R _ fun H' s => by
    cases b with
    | true => exact iteT (h1 rfl σ H' (R.mono s) D E)
    | false => exact iteF (h2 rfl σ H' (R.mono s) D E)
/-- .. both ways met behind it -/
theorem h_ifM (M : Own → List Sl → Prop) (hc : PB X Z own ρ c b) (h1 : b = true → PH X Z own ρ thn { P with nx := M }) (h2 : b = false → PH X Z own ρ els { P with nx := M }) (h3 : ∀ own ρ, M own ρ → PH X Z own ρ rest P) : PH X Z own ρ (.If c thn els pos :: rest) P :=
  h_if hc (fun hb σ H R D E => h1 hb σ H R D ⟨fun own ρ σ H m R => E.nx own ρ σ H (h3 own ρ m) R, E.rt, E.bk, E.ct⟩) (fun hb σ H R D E => h2 hb σ H R D ⟨fun own ρ σ H m R => E.nx own ρ σ H (h3 own ρ m) R, E.rt, E.bk, E.ct⟩)
/-- if c: x = e -/
theorem h_ifSet (i : Nat) {d0 : PyData} (hc : PB X Z own ρ c b) (h0 : ρ[i]? = some (.d d0)) (he : b = true → PD X Z own ρ e (.d d)) (k : PH X Z own (ρ.set i (.d (if b = true then d else d0))) rest P) (hN : X.N.Nodup) (hi : X.N[i]? = some x := by rfl) (hx : Loc X.env.scope x := by first | exact Or.inl rfl | exact Or.inr rfl)
    (hs : swapsWith e (some (.Name x px)) spos.line X.env = pure false := by rfl) (hf : X.fn x = true ∨ X.env.scope.names.lookup x = some .local := by first | exact .inl rfl | exact .inr rfl) : PH X Z own ρ (.If c [.Assign [.Name x px] e spos] [] pos :: rest) P :=
  h_if hc (fun hb => h_set i (he hb) (h_nil (by subst hb; exact k)) hN hi hx hs hf) (fun hb => h_nil (by
    subst hb
    show PH X Z own ρ rest P
    have e : ρ.set i (.d (if false = true then d else d0)) = ρ := by
      rw [if_neg Bool.false_ne_true]
      obtain ⟨h1, h2⟩ := List.getElem?_eq_some_iff.mp h0
      rw [← h2, List.set_getElem_self]
    rw [e] at k
    exact k))

/-- .. of ints -/
theorem h_ifSetI (i : Nat) {n0 n : Int} (hc : PB X Z own ρ c b) (h0 : ρ[i]? = some (.d (.int n0))) (he : b = true → PD X Z own ρ e (.d (.int n))) (k : PH X Z own (ρ.set i (.d (.int (if b = true then n else n0)))) rest P) (hN : X.N.Nodup) (hi : X.N[i]? = some x := by rfl) (hx : Loc X.env.scope x := by first | exact Or.inl rfl | exact Or.inr rfl)
    (hs : swapsWith e (some (.Name x px)) spos.line X.env = pure false := by rfl) (hf : X.fn x = true ∨ X.env.scope.names.lookup x = some .local := by first | exact .inl rfl | exact .inr rfl) : PH X Z own ρ (.If c [.Assign [.Name x px] e spos] [] pos :: rest) P := by
  refine h_ifSet i hc h0 he ?_ hN hi hx hs hf
  cases b with
  | true => exact k
  | false => exact k

/-! ### return, break, continue, pass -/
theorem h_ret (he : PD X Z own ρ e r) (h : P.rt own r) : PH X Z own ρ (.Return (some e) pos :: rest) P := h_cons (ps_ret pe_E) fun σ H R D E => he σ H R _ fun v H' s hv => E.rt own r v H' h (R.h.mono s) hv
theorem h_retN (he : PN X Z own ρ e ds) (h : ∀ p, P.rt ((p, .lst ds) :: own) (.v (.ref p))) : PH X Z own ρ (.Return (some e) pos :: rest) P :=
  h_cons (ps_ret pe_E) fun σ H R D E => he σ H R _ fun p vs H' hp s hq hd => E.rt _ _ _ H' (h p) (R.h.cons (m := .lst ds) hp s ⟨vs, hq, hd⟩) rfl
theorem h_ret0 (h : P.rt own (.d .none)) : PH X Z own ρ (.Return none pos :: rest) P := h_cons ps_retN fun σ H R D E => E.rt own _ _ H h R.h Dp.non
theorem h_break (h : P.bk own ρ) : PH X Z own ρ (.Break pos :: rest) P := h_cons ps_break fun σ H R D E => E.bk own ρ σ H h R
theorem h_cont (h : P.ct own ρ) : PH X Z own ρ (.Continue pos :: rest) P := h_cons ps_continue fun σ H R D E => E.ct own ρ σ H h R
theorem h_pass (k : PH X Z own ρ rest P) : PH X Z own ρ (.Pass pos :: rest) P := h_cons ps_pass fun σ H R D E => E.nx own ρ σ H k R
theorem h_doc {z : Str} {kk} {pos' : Pos} (k : PH X Z own ρ rest P) : PH X Z own ρ (.Expr (.Constant (.str z) kk pos) pos' :: rest) P := h_cons ps_doc fun σ H R D E => E.nx own ρ σ H k R
/-- an expression whose value is dropped -/
theorem h_expr (he : PD X Z own ρ e r) (k : PH X Z own ρ rest P) (hs : swapsWith e none spos.line X.env = pure false := by rfl) : PH X Z own ρ (.Expr e spos :: rest) P :=
  h_cons (ps_expr pe_E hs) fun σ H R D E => he σ H R _ fun v H' s hv => E.nx own ρ σ H' k (R.mono s)
/-- an own list becomes data -/
theorem h_freeze {a : Addr} (k i : Nat) (hk : own[k]? = some (a, .lst ds)) (hi : ρ[i]? = some (.v (.ref a))) (h : PH X Z (own.eraseIdx k) (ρ.set i (.d (.list ds))) rest P) : PH X Z own ρ rest P := fun σ H R D E => by
  have hmem : (a, Mo.lst ds) ∈ own := List.mem_of_getElem? hk
  have sub : ∀ p, p ∈ own.eraseIdx k → p ∈ own := fun p hp => List.mem_of_mem_eraseIdx hp
  have na : a ∉ ex Z (own.eraseIdx k) := fun z => by
    rcases List.mem_append.mp z with z | z
    · have e1 : (own.map (·.1))[k]? = some a := by rw [List.getElem?_map, hk]; rfl
      obtain ⟨p, hp, hpa⟩ := List.mem_map.mp z
      obtain ⟨q, hqk, hq⟩ := List.mem_eraseIdx_iff_getElem?.mp hp
      have e2 : (own.map (·.1))[q]? = some a := by rw [List.getElem?_map, hq]; exact congrArg some hpa
      exact hqk (nd_ix R.h.nd e2 e1)
    · exact R.h.dj _ hmem z
  have hsub : ∀ b, b ∈ ex Z (own.eraseIdx k) → b ∈ ex Z own := fun b hb => by
    rcases List.mem_append.mp hb with z | z
    · obtain ⟨p, hp, hpa⟩ := List.mem_map.mp z
      exact List.mem_append_left _ (List.mem_map.mpr ⟨p, sub p hp, hpa⟩)
    · exact List.mem_append_right _ z
  have c : Same (cut (ex Z own) H) (cut (ex Z (own.eraseIdx k)) H) := cut_less hsub
  obtain ⟨_, vs, h1, h2⟩ := R.h.owns _ hmem
  refine h σ H ⟨⟨R.h.fr, fun p hp => ⟨(R.h.owns p (sub p hp)).1, (R.h.owns p (sub p hp)).2.mono c (Same.refl H)⟩, R.h.m0, ?_, fun p hp => R.h.dj p (sub p hp)⟩, ?_⟩ D E
  · exact R.h.nd.sublist ((List.eraseIdx_sublist own k).map _)
  · obtain ⟨o, ho, hs⟩ := R.s.get hi
    have ho' : o = some (.ref a) := hs
    subst ho'
    have q := (R.s.mono c).set (r := .d (.list ds)) (o := some (.ref a)) ⟨_, rfl, .lst (.inl ?_) (dpAll_mono c _ _ h2)⟩ i
    · have e : σ.set i (some (.ref a)) = σ := by
        obtain ⟨z1, z2⟩ := List.getElem?_eq_some_iff.mp ho
        rw [← z2, List.set_getElem_self]
      rw [e] at q
      exact q
    · rw [cut_out na]; exact h1
end
end L3
set_option Elab.async false
set_option linter.all false
set_option autoImplicit false
set_option maxRecDepth 100000
set_option maxHeartbeats 4000000
/-! Lay8: loops, a def by its body. -/
namespace L3
open PySem PySem.Spec L2

/-- all that stands but the own objects -/
def frameOf (own : Own) (H : Hp) : Hp := cut (own.map (·.1)) H
theorem rep_frame {X : Cx} {Z : Fz} {own : Own} {ρ : List Sl} {σ : L2.St} {H : Hp} (R : Rep X.K Z own ρ σ H) : Rep X.K ⟨frameOf own H, Z.m0⟩ own ρ σ H :=
  ⟨⟨cut_full, fun p hp => ⟨cut_in (List.mem_map.mpr ⟨p, hp, rfl⟩), (R.h.owns p hp).2⟩, R.h.m0, R.h.nd, R.h.dj⟩, R.s⟩
theorem frame_le {X : Cx} {Z : Fz} {own : Own} {H : Hp} (R : RepH X.K Z own H) : Same Z.F (frameOf own H) := fun b o e => by
  have hb : b ∉ own.map (·.1) := fun z => by
    obtain ⟨p, hp, hpe⟩ := List.mem_map.mp z
    have := (R.owns p hp).1
    rw [hpe, e] at this; cases this
  unfold frameOf
  rw [cut_out hb]
  exact R.fr b o e
/-- what data leaned on ahead of the loop stands at each turn -/
theorem frame_cut {X : Cx} {Z : Fz} {own own' : Own} {H H' : Hp} (R' : RepH X.K ⟨frameOf own H, Z.m0⟩ own' H') : Same (cut (ex Z own) H) (cut (ex Z own') H') := fun b o e => by
  have hb : b ∉ ex Z own := fun z => by rw [cut_in z] at e; cases e
  rw [cut_out hb] at e
  have hf : frameOf own H b = some o := by
    unfold frameOf
    rw [cut_out fun z => hb (List.mem_append_left _ z)]
    exact e
  have hb' : b ∉ ex Z own' := fun z => by
    rcases List.mem_append.mp z with z | z
    · obtain ⟨p, hp, hpe⟩ := List.mem_map.mp z
      have this : frameOf own H p.1 = none := (R'.owns p hp).1
      rw [hpe, hf] at this; cases this
    · exact hb (List.mem_append_right _ z)
  rw [cut_out hb']
  exact R'.fr b o hf
section
variable {X : Cx} {Z : Fz} {own : Own} {ρ : List Sl} {pos px spos : Pos} {e c iter tg : Expr} {x : Str} {r : Sl} {d : PyData} {ds l : List PyData} {rest body : List Stmt} {st : Stmt} {P : Pst} {i : Nat} {b : Bool}
/-- for tg in iter: J says how the state is at each turn -/
theorem h_for (J : Nat → Own → List Sl → Prop) (hi : PIt X Z own ρ tg iter l) (u : PyData → List Sl → List Sl) (ht : ∀ d ∈ l, TgD X tg d (u d)) (h0 : J 0 own ρ)
    (hb : ∀ F k own' ρ' d, l[k]? = some d → J k own' ρ' → PH X ⟨F, Z.m0⟩ own' (u d ρ') body { nx := J (k + 1), ct := J (k + 1), rt := P.rt, bk := fun own ρ => PH X Z own ρ rest P })
    (hd : ∀ own' ρ', J l.length own' ρ' → PH X Z own' ρ' rest P) (hp : PassesOwn (model X.prog X.w) X.A X.env X.xe := by exact PassesOwn.never) (hc : X.calm = true := by rfl) (hs : ∀ x, foldedSetIterable iter X.env x = pure x := by intro _; rfl) :
    PH X Z own ρ (.For tg iter body [] pos :: rest) P := by
  obtain ⟨wi, hwi, hw⟩ := hi
  -- the target's rule, one for all items
  have gt : L2.PG X tg (fun v σ H Q => ∃ g, L2.PG X tg g ∧ g v σ H Q) := ⟨fun pins s σ H v w Q I r ⟨g, hg, q⟩ => hg.run pins s σ H v w Q I r q⟩
  refine h_cons (ps_for hp hc hwi gt pss_Ss hs) fun σ H R D E => hw σ H R _ fun K H1 s1 it => ?_
  have R1 := R.mono s1
  have F0 := frame_le R1.h
  refine ⟨fun k m σ' H' => m = l.length - k ∧ k ≤ l.length ∧ ∃ own' ρ', J k own' ρ' ∧ Rep X.K ⟨frameOf own H1, Z.m0⟩ own' ρ' σ' H', ⟨l.length, rfl, Nat.zero_le _, own, ρ, h0, rep_frame R1⟩, ?_⟩
  rintro k m σ' H' ⟨rfl, hk, own', ρ', j, R'⟩
  have c := frame_cut R'.h
  by_cases hlt : k < l.length
  · refine .inr ⟨it.go _ H' k c hlt, fun σ' H' => k + 1 ≤ l.length ∧ ∃ own' ρ', J (k + 1) own' ρ' ∧ Rep X.K ⟨frameOf own H1, Z.m0⟩ own' ρ' σ' H', fun σ' H' ⟨a, b⟩ => ⟨l.length - (k + 1), by omega, rfl, a, b⟩, fun y H2 yl => ?_⟩
    have hd' : l[k]? = some l[k] := List.getElem?_eq_getElem hlt
    obtain ⟨s2, hy⟩ := it.yld (ex Z own') H' k y H2 l[k] c (fun a ha => R'.h.there ha) hd' yl
    obtain ⟨g, hg, hgt⟩ := ht l[k] (List.getElem_mem hlt)
    refine ⟨g, hg, hgt _ _ _ _ _ _ (R'.mono s2) hy _ fun σ3 R3 => ?_⟩
    refine hb (frameOf own H1) k own' ρ' l[k] hd' j σ3 H2 R3 _ ⟨fun own ρ σ H hn R => ⟨hlt, own, ρ, hn, R⟩, fun own r v H hr R hv => E.rt own r v H hr (repH_weakF F0 R) hv, fun own ρ σ H hb R => ?_, fun own ρ σ H hn R => ⟨hlt, own, ρ, hn, R⟩⟩
    exact E.nx own ρ σ H hb (rep_weakF F0 R)
  · have e : k = l.length := by omega
    subst e
    exact .inl ⟨it.stop _ H' c, E.nx own' ρ' σ' H' (hd own' ρ' j) (rep_weakF F0 R')⟩
/-- while: J with a measure -/
theorem h_while (J : Nat → Own → List Sl → Prop) (m0 : Nat) (h0 : J m0 own ρ)
    (hb : ∀ F m own' ρ', J m own' ρ' → ∃ b, PB X ⟨F, Z.m0⟩ own' ρ' c b ∧ (b = true → PH X ⟨F, Z.m0⟩ own' ρ' body { nx := fun own ρ => ∃ m', m' < m ∧ J m' own ρ, ct := fun own ρ => ∃ m', m' < m ∧ J m' own ρ, rt := P.rt, bk := fun own ρ => PH X Z own ρ rest P }) ∧ (b = false → PH X Z own' ρ' rest P))
    (hp : PassesOwn (model X.prog X.w) X.A X.env X.xe := by exact PassesOwn.never) : PH X Z own ρ (.While c body [] pos :: rest) P := by
  refine h_cons (ps_while hp pt_T pss_Ss) fun σ H R D E => ?_
  have F0 := frame_le R.h
  have RF := rep_frame R
  generalize frameOf own H = G at F0 RF
  refine ⟨fun m σ' H' => ∃ own' ρ', J m own' ρ' ∧ Rep X.K ⟨G, Z.m0⟩ own' ρ' σ' H', ⟨m0, own, ρ, h0, RF⟩, ?_⟩
  rintro m σ' H' ⟨own', ρ', j, R'⟩
  obtain ⟨b, hc, h1, h2⟩ := hb G m own' ρ' j
  refine hc σ' H' R' _ fun H2 s2 => ?_
  cases b with
  | true =>
    exact iteT ⟨fun σ' H' => ∃ m', m' < m ∧ ∃ own' ρ', J m' own' ρ' ∧ Rep X.K ⟨G, Z.m0⟩ own' ρ' σ' H', fun σ' H' ⟨m', hm, z⟩ => ⟨m', hm, z⟩, h1 rfl σ' H2 (R'.mono s2) _ ⟨fun own ρ σ H' ⟨m', hm, j⟩ R => ⟨m', hm, own, ρ, j, R⟩, fun own r v H hr R hv => E.rt own r v H hr (repH_weakF F0 R) hv, fun own ρ σ H hb R => E.nx own ρ σ H hb (rep_weakF F0 R), fun own ρ σ H' ⟨m', hm, j⟩ R => ⟨m', hm, own, ρ, j, R⟩⟩⟩
  | false => exact iteF (E.nx own' ρ' σ' H2 (h2 rfl) (rep_weakF F0 (R'.mono s2)))
end

/-! ### a def by its body -/
inductive RetD (own : Own) : Sl → PyData → Prop where
  | d (x : PyData) : RetD own (.d x) x
  | o {a : Addr} {ds : List PyData} : (a, Mo.lst ds) ∈ own → RetD own (.v (.ref a)) (.list ds)
abbrev retD (d : PyData) : Pst := { nx := fun own _ => RetD own (.d .none) d, rt := fun own r => RetD own r d }
abbrev retL (ds : List PyData) : Pst := { nx := fun _ _ => False, rt := fun own r => ∃ a, r = .v (.ref a) ∧ (a, Mo.lst ds) ∈ own }
theorem slots_start {K : PySem.W.Frag} {G : Hp} : ∀ {ds : List PyData} {vs : List V} (n : Nat), DpAll K G vs ds → Slots K G (ds.map Sl.d ++ List.replicate n Sl.no) (vs.map some ++ List.replicate n none)
  | [], _, 0, h => by cases h; exact .nil
  | [], _, n + 1, h => by cases h; exact .cons trivial (slots_start (ds := []) n .nil)
  | d :: ds, _, n, h => by
    cases h with
    | cons a b => exact .cons ⟨_, rfl, a⟩ (slots_start n b)
theorem rep_start {K : PySem.W.Frag} {H : Hp} {m0 : List Addr} {ds : List PyData} {vs : List V} {N : List Str} (h0 : ∀ a ∈ m0, ∃ o, H a = some o) (h : DpAll K (cut m0 H) vs ds) : Rep K ⟨H, m0⟩ [] (ds.map Sl.d ++ List.replicate (N.length - ds.length) Sl.no) (L2.start N vs) H := by
  refine ⟨⟨Same.refl H, fun p hp => absurd hp (by simp), h0, List.nodup_nil, fun p hp => absurd hp (by simp)⟩, ?_⟩
  unfold L2.start
  rw [dpAll_length h]
  exact slots_start _ h
section
variable {P : Program} {w : World} {K : PySem.W.Frag} {mg : Str → Option Value} {base : Heap}
/-- the context of a def's body -/
abbrev bodyX (P : Program) (w : World) (K : PySem.W.Frag) (mg : Str → Option Value) (base : Heap) (N : List Str) (qual : Str) (st : Stmt) (f : Addr) (cdv : Value) (A : Around) (outer : List Env) (s : Shared) (H : Hp) (E : XK) : Cx :=
  (cxOf CX0 P w K mg base N qual (defScope st) f cdv A outer s H E).nox
theorem okD {x qual : Str} {st : Stmt} {f : Addr} {fd : FuncData} {N ps : List Str} {k : Nat} {Φ : List PyData → PyData → Prop} (F : Fun K x qual st f fd) (S : FnScope N ps (defScope st)) (len : ∀ ds d, Φ ds d → ds.length = ps.length)
    (body : ∀ (cdv : Value) (A : Around) (outer : List Env) (s : Shared) (H : Hp) (E : XK) (Z : Fz) (ds : List PyData) (d : PyData), Room k (A.deeper (PyProof.Rows.envOfC qual (defScope st) s.heap.objs.size f cdv)) → Φ ds d →
      PH (bodyX P w K mg base N qual st f cdv A outer s H E) Z [] (ds.map Sl.d ++ List.replicate (N.length - ds.length) Sl.no) (defBody st) (retD d)) : FnOk P w K mg base CX0 (k + 1) f fd ps (SpD K Φ) := by
  refine F.ok S (fun vs H Q E h => ?_) (fun cdv A outer s H vs Q E hr h => ?_)
  · obtain ⟨m0, ds, d, _, h2, h3, _⟩ := h
    rw [dpAll_length h2]
    exact len ds d h3
  · obtain ⟨m0, ds, d, h1, h2, h3, q⟩ := h
    have fin : ∀ own r v H', RetD own r d → RepH K ⟨H, m0⟩ own H' → SlOk K (cut (ex ⟨H, m0⟩ own) H') r v → Q v H' := fun own r v H' hr R hv => by
      have less : Same (cut (ex ⟨H, m0⟩ own) H') (cut m0 H') := cut_less fun a ha => List.mem_append_right _ ha
      cases hr with
      | d x => exact q v H' R.fr (dp_mono less _ _ hv)
      | @o a ds ho =>
        obtain ⟨_, ws, e1, e2⟩ := R.owns _ ho
        have ev : v = .ref a := hv
        subst ev
        exact q _ H' R.fr (.lst (.inl (by rw [cut_out (R.dj _ ho)]; exact e1)) (dpAll_mono less _ _ e2))
    exact ⟨_, pss_Ss, body cdv A outer s H E ⟨H, m0⟩ ds d hr h3 _ H (rep_start h1 h2) _
      ⟨fun own ρ σ H' hn R => fin own _ .non H' hn R.h Dp.non, fun own r v H' hr R hv => fin own r v H' hr R hv, fun own ρ σ H' hb R => hb.elim, fun own ρ σ H' hb R => hb.elim⟩⟩
theorem okL {x qual : Str} {st : Stmt} {f : Addr} {fd : FuncData} {N ps : List Str} {k : Nat} {Φ : List PyData → List PyData → Prop} (F : Fun K x qual st f fd) (S : FnScope N ps (defScope st)) (len : ∀ ds d, Φ ds d → ds.length = ps.length)
    (body : ∀ (cdv : Value) (A : Around) (outer : List Env) (s : Shared) (H : Hp) (E : XK) (Z : Fz) (ds es : List PyData), Room k (A.deeper (PyProof.Rows.envOfC qual (defScope st) s.heap.objs.size f cdv)) → Φ ds es →
      PH (bodyX P w K mg base N qual st f cdv A outer s H E) Z [] (ds.map Sl.d ++ List.replicate (N.length - ds.length) Sl.no) (defBody st) (retL es)) : FnOk P w K mg base CX0 (k + 1) f fd ps (SpL K Φ) := by
  refine F.ok S (fun vs H Q E h => ?_) (fun cdv A outer s H vs Q E hr h => ?_)
  · obtain ⟨m0, ds, d, _, h2, h3, _⟩ := h
    rw [dpAll_length h2]
    exact len ds d h3
  · obtain ⟨m0, ds, es, h1, h2, h3, q⟩ := h
    refine ⟨_, pss_Ss, body cdv A outer s H E ⟨H, m0⟩ ds es hr h3 _ H (rep_start h1 h2) _
      ⟨fun own ρ σ H' hn R => hn.elim, fun own r v H' ⟨a, er, ho⟩ R hv => ?_, fun own ρ σ H' hb R => hb.elim, fun own ρ σ H' hb R => hb.elim⟩⟩
    subst er
    obtain ⟨e0, ws, e1, e2⟩ := R.owns _ ho
    have ev : v = .ref a := hv
    subst ev
    have ea : a ∈ own.map (·.1) := List.mem_map.mpr ⟨_, ho, rfl⟩
    refine q a ws H' e0 R.fr e1 (dpAll_mono (cut_less fun b hb => ?_) _ _ e2)
    rcases List.mem_cons.mp hb with z | z
    · subst z; exact List.mem_append_left _ ea
    · exact List.mem_append_right _ z
end
end L3
set_option Elab.async false
set_option linter.all false
set_option autoImplicit false
set_option maxRecDepth 100000
set_option maxHeartbeats 4000000
/-! Lay9: callees, sizes of ints, small things. -/
namespace L3
open PySem PySem.Spec L2

/-- a def of the module that keeps its promise -/
structure Cal (P : Program) (w : World) (K : PySem.W.Frag) (mg : Str → Option Value) (base : Heap) (k : Nat) (x : Str) (ps : List Str) (sp : Sp) : Prop where
  ex : ∃ f fd, FnOk P w K mg base CX0 k f fd ps sp ∧ mg x = some (.ref f) ∧ PySem.W.keepIn K (.ref f) = true ∧ Binds K fd ps []
section
variable {X : Cx} {Z : Fz} {own : Own} {ρ : List Sl} {pos p : Pos} {a b e : Expr} {es : List Expr} {r : Sl} {rs : List Sl} {ds : List PyData} {d : PyData} {i j : Int} {k : Nat} {ps : List Str} {x : Str}
theorem pd_fn {Φ : List PyData → PyData → Prop} (C : Cal X.prog X.w X.K X.mg X.base k x ps (SpD X.K Φ)) (hr : Room k X.A) (ha : PDD X Z own ρ (e :: es) ds) (hΦ : Φ ds d)
    (hg : Gl X x := by rfl) (hdb : (x == ("__debug__" : Str)) = false := by decide) (he : starEach (e :: es) X.env = (false, eval e X.env) :: starEach es X.env := by rfl) (hpl : (backTo pos (starEach es X.env)).any (·.1) = false := by rfl) :
    PD X Z own ρ (.Call (.Name x p) (e :: es) [] pos) (.d d) := by
  obtain ⟨f, fd, F, hm, hk, hb⟩ := C.ex
  exact pd_call F hr hm hk hb ha hΦ hg hdb he hpl
theorem pd_fnF {Φ : List PyData → PyData → Prop} (C : Cal X.prog X.w X.K X.mg X.base k x ps (SpD X.K Φ)) (hr : Room k X.A) (ha : PWW X Z own ρ (e :: es) (ds.map Sl.d)) (hΦ : Φ ds d) (hf : flatD d = true := by rfl)
    (hg : Gl X x := by rfl) (hdb : (x == ("__debug__" : Str)) = false := by decide) (he : starEach (e :: es) X.env = (false, eval e X.env) :: starEach es X.env := by rfl) (hpl : (backTo pos (starEach es X.env)).any (·.1) = false := by rfl) :
    PD X Z own ρ (.Call (.Name x p) (e :: es) [] pos) (.d d) := by
  obtain ⟨f, fd, F, hm, hk, hb⟩ := C.ex
  exact pd_callF F hr hm hk hb ha hΦ hf hg hdb he hpl
theorem pn_fn {Φ : List PyData → List PyData → Prop} {es' : List PyData} (C : Cal X.prog X.w X.K X.mg X.base k x ps (SpL X.K Φ)) (hr : Room k X.A) (ha : PDD X Z own ρ (e :: es) ds) (hΦ : Φ ds es')
    (hg : Gl X x := by rfl) (hdb : (x == ("__debug__" : Str)) = false := by decide) (he : starEach (e :: es) X.env = (false, eval e X.env) :: starEach es X.env := by rfl) (hpl : (backTo pos (starEach es X.env)).any (·.1) = false := by rfl) :
    PN X Z own ρ (.Call (.Name x p) (e :: es) [] pos) es' := by
  obtain ⟨f, fd, F, hm, hk, hb⟩ := C.ex
  exact pn_call F hr hm hk hb ha hΦ hg hdb he hpl
theorem pd_neg (h : PD X Z own ρ e (.d (.int i))) : PD X Z own ρ (.UnaryOp .USub e pos) (.d (.int (-i))) :=
  pd_of (pe_un un_neg pe_E) fun σ H R Q k => h σ H R _ fun v H' s hv => by cases hv; exact ⟨i, rfl, k _ H' s (Dp.int _)⟩
end

section
variable {X : Cx} {Z : Fz} {own : Own} {ra rb : Sl} {as bs : List PyData}
/-- list + list, as data -/
theorem bin_catL (ha : AsL own ra as) (hb : AsL own rb bs) (hz : as.length + bs.length ≤ sizeLine) : BinR X Z own .Add ra rb (.d (.list (as ++ bs))) :=
  BinR.mk ⟨_, op_catR, fun x y H R hx hy Q k => by
    obtain ⟨l, xs, rfl, hl, dl⟩ := ha.is R hx
    obtain ⟨m, ys, rfl, hm, dm⟩ := hb.is R hy
    refine ⟨l, m, xs, ys, rfl, rfl, hl, hm, by rw [dpAll_length dl, dpAll_length dm]; exact hz, fun p hp => ?_⟩
    have s := same_new hp (HO.lst (xs ++ ys))
    exact k _ _ s (.lst (.inl (R.newAt hp)) (dpAll_app (dpAll_mono (cut_same s) _ _ dl) (dpAll_mono (cut_same s) _ _ dm)))⟩
end

/-! ### sizes -/
/-- at most k + 1 bits -/
def Sz (k : Nat) (n : Int) : Prop := n.natAbs < 2 ^ (k + 1)
theorem sz_le {k m : Nat} {n : Int} (h : Sz k n) (hk : k ≤ m) : Sz m n := Nat.lt_of_lt_of_le h (Nat.pow_le_pow_right (by decide) (Nat.succ_le_succ hk))
theorem sz_mul {a b : Nat} {m n : Int} (h : Sz a m) (h' : Sz b n) : Sz (a + b + 1) (m * n) := by
  unfold Sz at *
  rw [Int.natAbs_mul, show a + b + 1 + 1 = (a + 1) + (b + 1) by omega, Nat.pow_add]
  exact Nat.mul_lt_mul'' h h'
theorem sz_add {a : Nat} {m n : Int} (h : Sz a m) (h' : Sz a n) : Sz (a + 1) (m + n) := by
  unfold Sz at *
  rw [Nat.pow_succ]
  have := Int.natAbs_add_le m n
  omega
theorem sz_sub {a : Nat} {m n : Int} (h : Sz a m) (h' : Sz a n) : Sz (a + 1) (m - n) := by
  unfold Sz at *
  rw [Nat.pow_succ]
  have := Int.natAbs_sub_le m n
  omega
theorem sz_div {a : Nat} {m j : Int} (h : Sz a m) (hj : 0 < j) : Sz a (m / j) := by
  unfold Sz at *
  refine Nat.lt_of_le_of_lt ?_ h
  have h1 := Int.natAbs_ediv_le_natAbs m j
  exact h1
theorem sz_of_bits {k : Nat} {n : Int} (h : Builtin.Int.intBits n ≤ k) : Sz k n := by
  unfold Sz
  unfold Builtin.Int.intBits at h
  by_cases h0 : n = 0
  · subst h0; exact Nat.pow_pos (by decide)
  · rw [if_neg (by simpa using h0)] at h
    refine Nat.lt_of_lt_of_le Nat.lt_log2_self (Nat.pow_le_pow_right (by decide) (by omega))
theorem bits_of_sz {k : Nat} {n : Int} (h : Sz k n) : Builtin.Int.intBits n ≤ k + 1 := by
  unfold Sz at h
  unfold Builtin.Int.intBits
  split
  · omega
  · rename_i h0
    have h0' : n.natAbs ≠ 0 := by
      intro z
      exact h0 (by simpa using Int.natAbs_eq_zero.mp z)
    have := (Nat.log2_lt h0').mpr h
    omega
theorem mul_sz {a b : Nat} {m n : Int} (h : Sz a m) (h' : Sz b n) (hk : a + b ≤ 100000000) : IntMulOk m n := by
  have h1 := bits_of_sz h
  have h2 := bits_of_sz h'
  have e : bitsLine = 134217728 := by decide
  unfold IntMulOk
  intro z
  rw [Bool.and_eq_true] at z
  have z2 := z.2
  unfold Builtin.Int.intTooBig at z2
  have z3 := of_decide_eq_true z2
  rw [e] at z3
  omega
theorem mul_small {m n : Int} (h : n.natAbs < 2 ^ 60) : IntMulOk m n := .of_right (intBits_le_64 (by omega) (by omega))
end L3
set_option Elab.async false
set_option linter.all false
set_option autoImplicit false
set_option maxRecDepth 100000
set_option maxHeartbeats 4000000
/-! Lay10: methods of lists, triples of ints, data that is plain, sorted triples. -/
namespace L3
open PySem PySem.Spec L2
section
variable {X : Cx} {o e : Expr} {apos pos : Pos}
theorem pe_app (hbase : attributeBase o "append" X.env (eval o X.env) = eval o X.env := by rfl)
    (hfew : ((backTo pos (starEach (e :: []) X.env)).all (fun x => !x.1) && (backToKw pos (keywordEach [] X.env)).all (fun x => x.1.isSome)
      && decide ((e :: ([] : List Expr)).length + ([] : List Keyword).length + (if ([] : List Keyword).isEmpty then 0 else 1) < 30)) = true := by rfl)
    (hline : (apos.endLine == pos.line) = true := by rfl) (hs : starEach (e :: []) X.env = (false, eval e X.env) :: starEach [] X.env := by rfl) (hplain : (backTo pos (starEach [] X.env)).any (·.1) = false := by rfl) :
    PE X (.Call (.Attribute o "append" apos) [e] [] pos) (tBM X.K "list" rAppend (tE X o) (tCons (tE X e) tNil)) :=
  pe_bm PySem.F.plainAttrs_list PySem.F.slot_list_append PySem.F.type_list_append mt_append pe_E (pa_cons pe_E pa_nil hs) hbase hfew hline hs hplain
theorem pe_pop (hbase : attributeBase o "pop" X.env (eval o X.env) = eval o X.env := by rfl) (hline : (apos.endLine == pos.line) = true := by rfl) :
    PE X (.Call (.Attribute o "pop" apos) [] [] pos) (tBM0 X.K "list" rPop (tE X o)) :=
  pe_bm0 PySem.F.plainAttrs_list PySem.F.slot_list_pop PySem.F.type_list_pop mt_pop pe_E hbase hline
end
/-! ### data that is plain to a depth -/
def Fl (k : Nat) (d : PyData) : Prop := d.canLay0 = true ∧ d.depth ≤ k
theorem fl_int {k : Nat} {n : Int} : Fl k (.int n) := ⟨rfl, Nat.zero_le _⟩
theorem fl_bool {k : Nat} {n : Bool} : Fl k (.bool n) := ⟨rfl, Nat.zero_le _⟩
theorem fl_none {k : Nat} : Fl k .none := ⟨rfl, Nat.zero_le _⟩
theorem fl_all {k : Nat} : ∀ {ds : List PyData}, (∀ d ∈ ds, Fl k d) → PyData.canLayAll0 ds = true ∧ PyData.depthAll ds ≤ k
  | [], _ => ⟨rfl, Nat.zero_le _⟩
  | d :: ds, h => by
    obtain ⟨h1, h2⟩ := fl_all (ds := ds) fun x hx => h x (List.mem_cons_of_mem _ hx)
    obtain ⟨h3, h4⟩ := h d List.mem_cons_self
    constructor
    · rw [PyData.canLayAll0, h3, h1]; rfl
    · rw [PyData.depthAll]; exact Nat.max_le.mpr ⟨h4, h2⟩
theorem fl_tup {k : Nat} {ds : List PyData} (h : ∀ d ∈ ds, Fl k d) : Fl (k + 1) (.tuple ds) := by
  obtain ⟨h1, h2⟩ := fl_all h
  exact ⟨by rw [PyData.canLay0]; exact h1, by rw [PyData.depth]; omega⟩
theorem fl_lst {k : Nat} {ds : List PyData} (h : ∀ d ∈ ds, Fl k d) : Fl (k + 1) (.list ds) := by
  obtain ⟨h1, h2⟩ := fl_all h
  exact ⟨by rw [PyData.canLay0]; exact h1, by rw [PyData.depth]; omega⟩
theorem fl_ints {k : Nat} (ns : List Int) : Fl (k + 1) (.tuple (ns.map PyData.int)) := fl_tup fun d hd => by
  obtain ⟨n, _, rfl⟩ := List.mem_map.mp hd
  exact fl_int
theorem fl_shaped {k : Nat} {d : PyData} (h : Fl k d) (hk : k ≤ 64) : SeqAt.shaped d = true := by
  unfold SeqAt.shaped
  rw [h.1]
  exact decide_eq_true (by have := h.2; omega)
theorem eqv_self {k : Nat} {d : PyData} (h : Fl k d) : PyData.eqv d d = true := PySem.SeqAt.eqv_refl d h.1
/-! ### triples -/
abbrev S3 := Int × Int × Int
abbrev encS (s : S3) : PyData := .tuple [.int s.1, .int s.2.1, .int s.2.2]
theorem fl_S {k : Nat} (s : S3) : Fl (k + 1) (encS s) := fl_ints [s.1, s.2.1, s.2.2]
theorem fl_Ss {k : Nat} (l : List S3) : Fl (k + 2) (.list (l.map encS)) := fl_lst fun d hd => by
  obtain ⟨n, _, rfl⟩ := List.mem_map.mp hd
  exact fl_S n
theorem encS_eqv (a b : S3) : PyData.eqv (encS a) (encS b) = decide (a = b) := by
  obtain ⟨a1, a2, a3⟩ := a
  obtain ⟨b1, b2, b3⟩ := b
  simp only [encS, PyData.eqv, PyData.eqvAll, Bool.and_true]
  rw [Bool.eq_iff_iff]
  simp
theorem encS_any (l : List S3) (s : S3) : ((l.map encS).any fun z => PyData.eqv z (encS s)) = decide (s ∈ l) := by
  rw [List.any_map, Bool.eq_iff_iff, List.any_eq_true, decide_eq_true_eq]
  constructor
  · rintro ⟨y, hy, e⟩
    have e' : PyData.eqv (encS y) (encS s) = true := e
    rw [encS_eqv, decide_eq_true_eq] at e'
    exact e' ▸ hy
  · intro hx
    refine ⟨s, hx, ?_⟩
    show PyData.eqv (encS s) (encS s) = true
    rw [encS_eqv, decide_eq_true_eq]
theorem encS_inj {a b : S3} (h : encS a = encS b) : a = b := by
  obtain ⟨a1, a2, a3⟩ := a
  obtain ⟨b1, b2, b3⟩ := b
  simp [encS] at h
  simp [h]
theorem encS_map_inj : ∀ {l m : List S3}, l.map encS = m.map encS → l = m
  | [], [], _ => rfl
  | [], _ :: _, h => by simp at h
  | _ :: _, [], h => by simp at h
  | a :: l, b :: m, h => by
    rw [List.map_cons, List.map_cons, List.cons.injEq] at h
    rw [encS_inj h.1, encS_map_inj h.2]
theorem encSs_eqv (l m : List S3) : PyData.eqv (.list (l.map encS)) (.list (m.map encS)) = decide (l = m) := by
  have key : ∀ l m : List S3, PyData.eqvAll (l.map encS) (m.map encS) = decide (l = m) := by
    intro l
    induction l with
    | nil => intro m; cases m <;> simp [PyData.eqvAll]
    | cons a l ih =>
      intro m
      cases m with
      | nil => simp [PyData.eqvAll]
      | cons b m =>
        rw [List.map_cons, List.map_cons, PyData.eqvAll, encS_eqv, ih, ← Bool.decide_and]
        exact decide_eq_decide.mpr (by rw [List.cons.injEq])
  rw [PyData.eqv]
  exact key l m
/-! ### the order of triples -/
def sLtP (a b : S3) : Prop := a.1 < b.1 ∨ (a.1 = b.1 ∧ (a.2.1 < b.2.1 ∨ (a.2.1 = b.2.1 ∧ a.2.2 < b.2.2)))
instance (a b : S3) : Decidable (sLtP a b) := by unfold sLtP; infer_instance
def sLe (a b : S3) : Bool := !decide (sLtP b a)
open PySem.W in
theorem dataLt_S (a b : S3) : dataLt (encS a) (encS b) = decide (sLtP a b) := by
  rw [dataLt_tuple]
  have e := dataLt_ints [a.1, a.2.1, a.2.2] [b.1, b.2.1, b.2.2]
  refine (show _ = _ from e).trans ?_
  refine decide_eq_decide.mpr ?_
  unfold sLtP
  simp [List.cons_lt_cons_iff]
open PySem.W in
theorem dataLe_S : dataLe false encS = sLe := by
  funext a b
  show (!dataLt (encS b) (encS a)) = _
  rw [dataLt_S]
  rfl
theorem sLe_iff (a b : S3) : sLe a b = true ↔ a.1 < b.1 ∨ (a.1 = b.1 ∧ (a.2.1 < b.2.1 ∨ (a.2.1 = b.2.1 ∧ a.2.2 ≤ b.2.2))) := by
  unfold sLe
  rw [Bool.not_eq_true', decide_eq_false_iff_not]
  unfold sLtP
  omega
theorem sort_sorted (l : List S3) : (l.mergeSort sLe).Pairwise fun a b => sLe a b = true :=
  List.pairwise_mergeSort (fun a b c h1 h2 => by rw [sLe_iff] at *; omega) (fun a b => by
    rw [Bool.or_eq_true, sLe_iff, sLe_iff]; omega) l
open PySem.W in
theorem alike_S (l : List S3) : AllAlike (l.map encS) := AllAlike.of fun b b' => by simp [encS, alike, alikeAll]
open PySem.W in
theorem sortable_S (l : List S3) : Sortable (l.map encS) := .inl fun d hd => by
  obtain ⟨n, _, rfl⟩ := List.mem_map.mp hd
  exact ⟨_, _, rfl⟩
/-! ### comprehensions without a test; name = [comp] as data -/
section
variable {X : Cx} {Z : Fz} {own : Own} {ρ : List Sl} {pos spos px py : Pos} {x y : Str} {elt iter : Expr} {ifs : List Expr} {scope : Scope} {rest : List Stmt} {P : Pst}
theorem filt_all {β : Type} (l : List β) : l.filter (fun _ => true) = l := List.filter_eq_self.mpr fun _ _ => rfl
theorem pn_lc0 {β : Type} (enc : β → PyData) (l : List β) (f : β → PyData) (j : Nat) (hi : PIt X Z own ρ (.Name x px) iter (l.map enc)) (hN : X.N.Nodup)
    (he : ∀ b ∈ l, ∀ D s H0 C cl fp, PD (blkX X scope s H0 C cl fp) (Z.more D) own (ρ.set j (.d (enc b))) elt (.d (f b)))
    (hz : l.length < sizeLine)
    (hg : ∀ (s : Shared) (H : Hp) (C : Addr) (cl : List (Str × Addr)) (fp : List Addr), L2.PG (blkX X scope s H C cl fp) (.Name x px) (gName j))
    (ok : blkC X.N X.env.scope scope [(x, j)] = true := by rfl) (hc : X.calm = true := by rfl) (hs : ∀ x, foldedSetIterable iter X.env x = pure x := by intro _; rfl) :
    PN X Z own ρ (.ListComp elt [⟨.Name x px, iter, [], 0⟩] scope pos) (l.map f) := by
  have := pn_lc (ifs := []) (pos := pos) enc l (fun _ => true) f j hi hN ok hg (fun _ _ _ _ _ _ _ _ => pbs_nil) (fun b hb _ => he b hb) hz hc hs
  rwa [filt_all] at this
/-- .. of ints -/
theorem pn_lcI {β : Type} (enc : β → PyData) (l : List β) (g : β → Int) (j : Nat) (hi : PIt X Z own ρ (.Name x px) iter (l.map enc)) (hN : X.N.Nodup)
    (he : ∀ b ∈ l, ∀ D s H0 C cl fp, PD (blkX X scope s H0 C cl fp) (Z.more D) own (ρ.set j (.d (enc b))) elt (.d (.int (g b))))
    (hz : l.length < sizeLine)
    (hg : ∀ (s : Shared) (H : Hp) (C : Addr) (cl : List (Str × Addr)) (fp : List Addr), L2.PG (blkX X scope s H C cl fp) (.Name x px) (gName j))
    (ok : blkC X.N X.env.scope scope [(x, j)] = true := by rfl) (hc : X.calm = true := by rfl) (hs : ∀ x, foldedSetIterable iter X.env x = pure x := by intro _; rfl) :
    PN X Z own ρ (.ListComp elt [⟨.Name x px, iter, [], 0⟩] scope pos) ((l.map g).map PyData.int) := by
  rw [List.map_map]
  exact pn_lc0 enc l (PyData.int ∘ g) j hi hN he hz hg ok hc hs
theorem h_setLc {β : Type} (enc : β → PyData) (l : List β) (t : β → Bool) (f : β → PyData) (i j : Nat) (hi : PIt X Z own ρ (.Name x px) iter (l.map enc))
    (ht : ∀ b ∈ l, ∀ D s H0 C cl fp, PBs (blkX X scope s H0 C cl fp) (Z.more D) own (ρ.set j (.d (enc b))) ifs (t b))
    (he : ∀ b ∈ l, t b = true → ∀ D s H0 C cl fp, PD (blkX X scope s H0 C cl fp) (Z.more D) own (ρ.set j (.d (enc b))) elt (.d (f b)))
    (hz : l.length < sizeLine) (k : PH X Z own (ρ.set i (.d (.list ((l.filter t).map f)))) rest P) (hN : X.N.Nodup)
    (hg : ∀ (s : Shared) (H : Hp) (C : Addr) (cl : List (Str × Addr)) (fp : List Addr), L2.PG (blkX X scope s H C cl fp) (.Name x px) (gName j)) (hlt : Nat.ble (i + 1) ρ.length = true := by rfl) (hy : X.N[i]? = some y := by rfl) (hyl : X.env.scope.names.lookup y = some .local := by rfl)
    (hsw : swapsWith (.ListComp elt [⟨.Name x px, iter, ifs, 0⟩] scope pos) (some (.Name y py)) spos.line X.env = pure true := by rfl) (ok : blkC X.N X.env.scope scope [(x, j)] = true := by rfl)
    (hc : X.calm = true := by rfl) (hs : ∀ x, foldedSetIterable iter X.env x = pure x := by intro _; rfl) :
    PH X Z own ρ (.Assign [.Name y py] (.ListComp elt [⟨.Name x px, iter, ifs, 0⟩] scope pos) spos :: rest) P := by
  refine setLc_core (px' := px) enc l t f i j hi ht he hz (fun p => ?_) hN hy hyl hsw ok hg hc hs
  refine h_freeze 0 i rfl (a := p) (ds := (l.filter t).map f) ?_ ?_
  · rw [List.getElem?_set_self (Nat.le_of_ble_eq_true hlt)]
  · rw [List.set_set]
    exact k
theorem h_setLc0 {β : Type} (enc : β → PyData) (l : List β) (f : β → PyData) (i j : Nat) (hi : PIt X Z own ρ (.Name x px) iter (l.map enc))
    (he : ∀ b ∈ l, ∀ D s H0 C cl fp, PD (blkX X scope s H0 C cl fp) (Z.more D) own (ρ.set j (.d (enc b))) elt (.d (f b)))
    (hz : l.length < sizeLine) (k : PH X Z own (ρ.set i (.d (.list (l.map f)))) rest P) (hN : X.N.Nodup)
    (hg : ∀ (s : Shared) (H : Hp) (C : Addr) (cl : List (Str × Addr)) (fp : List Addr), L2.PG (blkX X scope s H C cl fp) (.Name x px) (gName j)) (hlt : Nat.ble (i + 1) ρ.length = true := by rfl) (hy : X.N[i]? = some y := by rfl) (hyl : X.env.scope.names.lookup y = some .local := by rfl)
    (hsw : swapsWith (.ListComp elt [⟨.Name x px, iter, [], 0⟩] scope pos) (some (.Name y py)) spos.line X.env = pure true := by rfl) (ok : blkC X.N X.env.scope scope [(x, j)] = true := by rfl)
    (hc : X.calm = true := by rfl) (hs : ∀ x, foldedSetIterable iter X.env x = pure x := by intro _; rfl) :
    PH X Z own ρ (.Assign [.Name y py] (.ListComp elt [⟨.Name x px, iter, [], 0⟩] scope pos) spos :: rest) P :=
  h_setLc enc l (fun _ => true) f i j hi (fun _ _ _ _ _ _ _ _ => pbs_nil) (fun b hb _ => he b hb) hz (by rw [filt_all]; exact k) hN hg hlt hy hyl hsw ok hc hs
end
theorem mul_smallL {m n : Int} (h : m.natAbs < 2 ^ 60) : IntMulOk m n := .of_left (intBits_le_64 (by omega) (by omega))
theorem small_mul {m n : Int} (h : n.natAbs < 2 ^ 60) : IntMulOk m n := mul_small h
/-! ### loops with a break, and what holds behind them -/
section
variable {X : Cx} {Z : Fz} {own : Own} {ρ : List Sl} {pos : Pos} {tg iter c : Expr} {rest body : List Stmt} {P : Pst} {l : List PyData}
theorem h_forM (M : Own → List Sl → Prop) (J : Nat → Own → List Sl → Prop) (hi : PIt X Z own ρ tg iter l) (u : PyData → List Sl → List Sl) (ht : ∀ d ∈ l, TgD X tg d (u d)) (h0 : J 0 own ρ)
    (hb : ∀ F k own' ρ' d, l[k]? = some d → J k own' ρ' → PH X ⟨F, Z.m0⟩ own' (u d ρ') body { nx := J (k + 1), ct := J (k + 1), rt := P.rt, bk := M })
    (hd : ∀ own' ρ', J l.length own' ρ' → M own' ρ') (hr : ∀ own' ρ', M own' ρ' → PH X Z own' ρ' rest P) (hp : PassesOwn (model X.prog X.w) X.A X.env X.xe := by exact PassesOwn.never) (hc : X.calm = true := by rfl) (hs : ∀ x, foldedSetIterable iter X.env x = pure x := by intro _; rfl) :
    PH X Z own ρ (.For tg iter body [] pos :: rest) P :=
  h_for J hi u ht h0 (fun F k own' ρ' d hk j σ H R D E => hb F k own' ρ' d hk j σ H R D ⟨E.nx, E.rt, fun own ρ σ H m R => E.bk own ρ σ H (hr own ρ m) R, E.ct⟩) (fun own' ρ' j => hr own' ρ' (hd own' ρ' j)) hp hc hs
theorem h_whileM (M : Own → List Sl → Prop) (J : Nat → Own → List Sl → Prop) (m0 : Nat) (h0 : J m0 own ρ)
    (hb : ∀ F m own' ρ', J m own' ρ' → ∃ b, PB X ⟨F, Z.m0⟩ own' ρ' c b ∧ (b = true → PH X ⟨F, Z.m0⟩ own' ρ' body { nx := fun own ρ => ∃ m', m' < m ∧ J m' own ρ, ct := fun own ρ => ∃ m', m' < m ∧ J m' own ρ, rt := P.rt, bk := M }) ∧ (b = false → M own' ρ'))
    (hr : ∀ own' ρ', M own' ρ' → PH X Z own' ρ' rest P) (hp : PassesOwn (model X.prog X.w) X.A X.env X.xe := by exact PassesOwn.never) : PH X Z own ρ (.While c body [] pos :: rest) P :=
  h_while J m0 h0 (fun F m own' ρ' j => by
    obtain ⟨b, h1, h2, h3⟩ := hb F m own' ρ' j
    exact ⟨b, h1, fun e σ H R D E => h2 e σ H R D ⟨E.nx, E.rt, fun own ρ σ H m R => E.bk own ρ σ H (hr own ρ m) R, E.ct⟩, fun e => hr _ _ (h3 e)⟩) hp
end
end L3
set_option Elab.async false
set_option linter.all false
set_option autoImplicit false
set_option maxRecDepth 100000
set_option maxHeartbeats 4000000
namespace L3
open PySem PySem.Spec L2
local macro_rules | `(tactic| walk_at "bin") => `(tactic| first | exact bin_add | exact bin_sub | exact bin_fdiv ⟨by decide, by decide⟩ | exact bin_mod (by decide) | exact bin_pow ⟨by decide, by decide, by decide⟩ | exact bin_mul (mul_small (by decide)) | exact bin_mul (by with_reducible assumption) | exact bin_catL (.d _) (.d _) (by assumption))
local macro_rules | `(tactic| walk_at "mem") => `(tactic| first | exact List.mem_cons_self | exact List.mem_cons_of_mem _ List.mem_cons_self | exact List.mem_cons_of_mem _ (List.mem_cons_of_mem _ List.mem_cons_self) | assumption)
local macro_rules | `(tactic| walk_at "asw") => `(tactic| first | exact .d _ | exact .o (by walk_at "mem") | exact .v _)
local macro_rules | `(tactic| walk_at "asl") => `(tactic| first | exact .d _ | exact .o (by walk_at "mem"))
local macro_rules | `(tactic| walk_at "len") => `(tactic| first | exact .l _ | exact .t _ | exact .o (by walk_at "mem") | exact .s _)
local macro_rules | `(tactic| walk_at "ix") => `(tactic| first | exact .t rfl | exact .l rfl | exact .l (by assumption) | exact .o (by walk_at "mem") rfl | exact .o (by walk_at "mem") (by assumption))
local macro_rules | `(tactic| walk_at "cmp") => `(tactic| first | exact cmp_eqI | exact cmp_neI | exact cmp_le | exact cmp_lt | exact cmp_ge | exact cmp_gt | exact cmp_eqB | exact cmp_neB | exact cmp_eqS | exact cmp_neS | exact cmp_isN | exact cmp_notN | exact cmp_isnotB)
local macro_rules | `(tactic| walk_at "kit") => `(tactic| first | exact kit_ii | exact kit_bb | exact kit_tt | exact kit_ll | exact kit_ib | exact kit_bi | exact kit_it | exact kit_ni | exact kit_si | exact kit_ti | exact kit_li)
def top (i : Nat) : Stmt := PySem.Challenge.pw_spanforest_k05_deepest_of_a_row.main.body.getD i (.Pass ⟨0, 0, 0, 0⟩)
abbrev sIsNumber : Stmt := top 5
abbrev sNeedPair : Stmt := top 6
abbrev sManyAt : Stmt := top 8
abbrev sDeepestOf : Stmt := top 9
abbrev sAt : Stmt := top 11
abbrev sIsInt : Stmt := top 12
abbrev sMade : Stmt := top 13
abbrev sTupleIs : Stmt := top 14
abbrev sListIs : Stmt := top 15
abbrev sRow : Stmt := top 16
abbrev sAsk : Stmt := top 17
abbrev sOver : Stmt := top 18
abbrev sLaw : Stmt := top 19
section
variable {P : Program} {w : World} {K : PySem.W.Frag} {mg : Str → Option Value} {base : Heap}
/-! ### a cell of the script -/
def cell (ns : List Int) (k : Nat) : Int := ns.getD k 0
def ΦAt (ds : List PyData) (d : PyData) : Prop := ∃ (ns : List Int) (k : Nat), ds = [scrD ns, .int (k : Nat)] ∧ ns.length ≤ 1000 ∧ d = .int (cell ns k)
theorem cutZ_len (ns : List Int) (l u : Option Int) : (cutZ ns l u).length ≤ ns.length := by
  unfold cutZ
  rw [List.length_take, List.length_drop]
  omega
theorem at_cell (ns : List Int) (k : Nat) : atI ((cutZ ns (some (k : Int)) (some ((k : Int) + 1))).map PyData.int ++ [.int 0]) 0 = some (.int (cell ns k)) := by
  have e1 : ((k : Int) + 1) = ((k + 1 : Nat) : Int) := by omega
  unfold cutZ cell
  rw [e1, HT.sIx_nat, HT.sIx_nat]
  show atI _ ((0 : Nat) : Int) = _
  refine atI_nat ?_
  by_cases h : k < ns.length
  · have e2 : min k ns.length = k := by omega
    have e3 : min (k + 1) ns.length - k = 1 := by omega
    have e4 : (ns.drop k).take 1 = [ns[k]] := by
      rw [List.drop_eq_getElem_cons h]
      rfl
    rw [e2, e3, e4]
    simp [List.getD, h]
  · have e2 : min k ns.length = ns.length := by omega
    rw [e2, List.drop_eq_nil_of_le (Nat.le_refl _)]
    simp [List.getD, h]
theorem scAt : FnScope ["_law_script", "_law_place"] ["_law_script", "_law_place"] (defScope sAt) := ⟨rfl, rfl, rfl, by decide +kernel, rfl, by decide +kernel, by decide +kernel⟩
theorem ok_at {f : Addr} {fd : FuncData} (F : Fun K "_law_at" "_law_at" sAt f fd) : FnOk P w K mg base CX0 1 f fd ["_law_script", "_law_place"] (SpD K ΦAt) := by
  refine okD F scAt (fun ds d h => ?_) (fun cdv A outer s H E Z ds d hr h => ?_)
  · obtain ⟨_, _, rfl, _⟩ := h; rfl
  · obtain ⟨ns, k, rfl, hl, rfl⟩ := h
    have hz : ((cutZ ns (some (k : Int)) (some ((k : Int) + 1))).map PyData.int).length + [PyData.int 0].length ≤ sizeLine := by
      have h1 := cutZ_len ns (some (k : Int)) (some ((k : Int) + 1))
      rw [List.length_map]
      have h2 : sizeLine = 16777216 := sizeLine_eq
      show _ + 1 ≤ sizeLine
      omega
    have ha := at_cell ns k
    refine h_ret (pd_ix (pd_bin (pd_of_n (pn_sliceS (pd_name 0 rfl) (.some (pd_name 1 rfl)) (.some (pd_bin (pd_name 1 rfl) pd_int (by walk_at "bin"))))) (pd_of_n (pn_lst (pdd_cons pd_int pdd_nil))) (by walk_at "bin")) pd_int (by walk_at "ix")) ?_
    exact .d _
/-! ### a stretch made of a number -/
def p60 : Int := 10 ^ (60 : Int).toNat
def lowOf (s : Int) : Int := if decide (s % 4 = 3) = true then s / 4 * 48271 ^ (12 : Int).toNat % (2 * 10 ^ (60 : Int).toNat - 1) - (10 ^ (60 : Int).toNat - 1) else s / 4 % 61 - 30
def widthOf (s : Int) : Int := if decide (s / 3904 % 8 = 1) = true then s / 4 * 69621 ^ (12 : Int).toNat % 10 ^ (60 : Int).toNat else s / 244 % 16
def markOf (s : Int) : Int := if decide (s / 218624 % 8 = 1) = true then s / 4 * 16807 ^ (14 : Int).toNat % (2 * 10 ^ (60 : Int).toNat - 1) - (10 ^ (60 : Int).toNat - 1) else s / 31232 % 7 - 3
def made (s : Int) : Int × Int × Int := (lowOf s, min (lowOf s + widthOf s) (10 ^ (60 : Int).toNat - 1), markOf s)
def ΦMade (ds : List PyData) (d : PyData) : Prop := ∃ s : Int, ds = [.int s] ∧ Sz 3000000 s ∧ d = encS (made s)
theorem mul_made {s c : Int} (h : Sz 3000000 s) (hc : Sz 250 c) : IntMulOk (s / 4) c := mul_sz (sz_div h (by decide)) hc (by decide)
theorem scMade : FnScope ["_law_seed", "_law_low", "_law_width", "_law_mark"] ["_law_seed"] (defScope sMade) := ⟨rfl, rfl, rfl, by decide +kernel, rfl, by decide +kernel, by decide +kernel⟩
theorem ok_made {f : Addr} {fd : FuncData} (F : Fun K "_law_made" "_law_made" sMade f fd) (mmin : mg "min" = none) : FnOk P w K mg base CX0 1 f fd ["_law_seed"] (SpD K ΦMade) := by
  refine okD F scMade (fun ds d h => ?_) (fun cdv A outer s H E Z ds d hr h => ?_)
  · obtain ⟨_, rfl, _⟩ := h; rfl
  · obtain ⟨s, rfl, hs, rfl⟩ := h
    have m1 : IntMulOk (s / 4) (48271 ^ (12 : Int).toNat) := mul_made hs (by unfold Sz; decide)
    have m2 : IntMulOk (s / 4) (69621 ^ (12 : Int).toNat) := mul_made hs (by unfold Sz; decide)
    have m3 : IntMulOk (s / 4) (16807 ^ (14 : Int).toNat) := mul_made hs (by unfold Sz; decide)
    have m4 : IntMulOk 2 (10 ^ (60 : Int).toNat) := .of_left (by decide)
    refine h_set 1 (pd_bin (pd_bin (pd_bin (pd_name 0 rfl) pd_int (by walk_at "bin")) pd_int (by walk_at "bin")) pd_int (by walk_at "bin")) ?_ scMade.nd
    refine h_ifSetI 1 (pb_cmp (pw_of (pd_bin (pd_name 0 rfl) pd_int (by walk_at "bin")) (by walk_at "asw")) (pw_of pd_int (by walk_at "asw")) (by walk_at "cmp") (nomark _)) rfl (fun _ => (pd_bin (pd_bin (pd_bin (pd_bin (pd_name 0 rfl) pd_int (by walk_at "bin")) (pd_bin pd_int pd_int (by walk_at "bin")) (by walk_at "bin")) (pd_bin (pd_bin pd_int (pd_bin pd_int pd_int (by walk_at "bin")) (by walk_at "bin")) pd_int (by walk_at "bin")) (by walk_at "bin")) (pd_bin (pd_bin pd_int pd_int (by walk_at "bin")) pd_int (by walk_at "bin")) (by walk_at "bin"))) ?_ scMade.nd
    refine h_set 2 (pd_bin (pd_bin (pd_name 0 rfl) pd_int (by walk_at "bin")) pd_int (by walk_at "bin")) ?_ scMade.nd
    refine h_ifSetI 2 (pb_cmp (pw_of (pd_bin (pd_bin (pd_name 0 rfl) pd_int (by walk_at "bin")) pd_int (by walk_at "bin")) (by walk_at "asw")) (pw_of pd_int (by walk_at "asw")) (by walk_at "cmp") (nomark _)) rfl (fun _ => (pd_bin (pd_bin (pd_bin (pd_name 0 rfl) pd_int (by walk_at "bin")) (pd_bin pd_int pd_int (by walk_at "bin")) (by walk_at "bin")) (pd_bin pd_int pd_int (by walk_at "bin")) (by walk_at "bin"))) ?_ scMade.nd
    refine h_set 3 (pd_bin (pd_bin (pd_bin (pd_name 0 rfl) pd_int (by walk_at "bin")) pd_int (by walk_at "bin")) pd_int (by walk_at "bin")) ?_ scMade.nd
    refine h_ifSetI 3 (pb_cmp (pw_of (pd_bin (pd_bin (pd_name 0 rfl) pd_int (by walk_at "bin")) pd_int (by walk_at "bin")) (by walk_at "asw")) (pw_of pd_int (by walk_at "asw")) (by walk_at "cmp") (nomark _)) rfl (fun _ => (pd_bin (pd_bin (pd_bin (pd_bin (pd_name 0 rfl) pd_int (by walk_at "bin")) (pd_bin pd_int pd_int (by walk_at "bin")) (by walk_at "bin")) (pd_bin (pd_bin pd_int (pd_bin pd_int pd_int (by walk_at "bin")) (by walk_at "bin")) pd_int (by walk_at "bin")) (by walk_at "bin")) (pd_bin (pd_bin pd_int pd_int (by walk_at "bin")) pd_int (by walk_at "bin")) (by walk_at "bin"))) ?_ scMade.nd
    refine h_ret (pd_tup (pdd_cons (pd_name 1 rfl) (pdd_cons (pd_min2 (pd_bin (pd_name 1 rfl) (pd_name 2 rfl) (by walk_at "bin")) (pd_bin (pd_bin pd_int pd_int (by walk_at "bin")) pd_int (by walk_at "bin")) (by assumption)) (pdd_cons (pd_name 3 rfl) pdd_nil)))) ?_
    exact .d _
end
end L3
set_option Elab.async false
set_option linter.all false
set_option autoImplicit false
set_option maxRecDepth 100000
set_option maxHeartbeats 4000000
namespace L3
open PySem PySem.Spec L2
local macro_rules | `(tactic| walk_at "bin") => `(tactic| first | exact bin_add | exact bin_sub | exact bin_fdiv ⟨by decide, by decide⟩ | exact bin_mod (by decide) | exact bin_pow ⟨by decide, by decide, by decide⟩ | exact bin_mul (mul_small (by decide)) | exact bin_mul (by with_reducible assumption) | exact bin_catL (.d _) (.d _) (by assumption))
local macro_rules | `(tactic| walk_at "mem") => `(tactic| first | exact List.mem_cons_self | exact List.mem_cons_of_mem _ List.mem_cons_self | exact List.mem_cons_of_mem _ (List.mem_cons_of_mem _ List.mem_cons_self) | assumption)
local macro_rules | `(tactic| walk_at "asw") => `(tactic| first | exact .d _ | exact .o (by walk_at "mem") | exact .v _)
local macro_rules | `(tactic| walk_at "asl") => `(tactic| first | exact .d _ | exact .o (by walk_at "mem"))
local macro_rules | `(tactic| walk_at "len") => `(tactic| first | exact .l _ | exact .t _ | exact .o (by walk_at "mem") | exact .s _)
local macro_rules | `(tactic| walk_at "ix") => `(tactic| first | exact .t rfl | exact .l rfl | exact .l (by assumption) | exact .o (by walk_at "mem") rfl | exact .o (by walk_at "mem") (by assumption))
local macro_rules | `(tactic| walk_at "cmp") => `(tactic| first | exact cmp_eqI | exact cmp_neI | exact cmp_le | exact cmp_lt | exact cmp_ge | exact cmp_gt | exact cmp_eqB | exact cmp_neB | exact cmp_eqS | exact cmp_neS | exact cmp_isN | exact cmp_notN | exact cmp_isnotB)
local macro_rules | `(tactic| walk_at "kit") => `(tactic| first | exact kit_ii | exact kit_bb | exact kit_tt | exact kit_ll | exact kit_ib | exact kit_bi | exact kit_it | exact kit_ni | exact kit_si | exact kit_ti | exact kit_li)
theorem e60 : (10 : Int) ^ (60 : Int).toNat = 1000000000000000000000000000000000000000000000000000000000000 := by decide +kernel
theorem e59 : (10 : Int) ^ (59 : Int).toNat = 100000000000000000000000000000000000000000000000000000000000 := by decide +kernel
theorem made_le (s : Int) : (made s).1 ≤ (made s).2.1 := by
  show lowOf s ≤ min (lowOf s + widthOf s) (10 ^ (60 : Int).toNat - 1)
  have h1 : lowOf s ≤ 10 ^ (60 : Int).toNat - 1 := by
    unfold lowOf
    rw [e60]
    split <;> omega
  have h2 : 0 ≤ widthOf s := by
    unfold widthOf
    rw [e60]
    split <;> omega
  omega
theorem cell_bits {ns : List Int} (h : ∀ n ∈ ns, Builtin.Int.intBits n ≤ 1048576) (k : Nat) : Sz 1048576 (cell ns k) := by
  unfold cell
  by_cases hk : k < ns.length
  · have e : ns.getD k 0 = ns[k] := by simp [List.getD, hk]
    rw [e]
    exact sz_of_bits (h _ (List.getElem_mem hk))
  · have e : ns.getD k 0 = 0 := by simp [List.getD, hk]
    rw [e]
    exact sz_of_bits (by decide)
theorem sz_small {n : Int} (k : Nat) (h : n.natAbs < 2 ^ 60) (hk : 60 ≤ k) : Sz k n := Nat.lt_of_lt_of_le h (Nat.pow_le_pow_right (by decide) (by omega))
theorem seed_bits {n c d : Int} (h : Sz 1048576 n) (hc : c.natAbs < 2 ^ 60) (hd : d.natAbs < 2 ^ 60) : Sz 3000000 (n * c + d) :=
  sz_le (sz_add (a := 1048700) (sz_le (sz_mul h (sz_small 60 hc (by decide))) (by decide)) (sz_small _ hd (by decide))) (by decide)
end L3
set_option Elab.async false
set_option linter.all false
set_option autoImplicit false
set_option maxRecDepth 100000
set_option maxHeartbeats 4000000
namespace L3
open PySem PySem.Spec L2
local macro_rules | `(tactic| walk_at "bin") => `(tactic| first | exact bin_add | exact bin_sub | exact bin_fdiv ⟨by decide, by decide⟩ | exact bin_mod (by decide) | exact bin_pow ⟨by decide, by decide, by decide⟩ | exact bin_mul (mul_small (by decide)) | exact bin_mul (by with_reducible assumption) | exact bin_catL (.d _) (.d _) (by assumption))
local macro_rules | `(tactic| walk_at "mem") => `(tactic| first | exact List.mem_cons_self | exact List.mem_cons_of_mem _ List.mem_cons_self | exact List.mem_cons_of_mem _ (List.mem_cons_of_mem _ List.mem_cons_self) | assumption)
local macro_rules | `(tactic| walk_at "asw") => `(tactic| first | exact .d _ | exact .o (by walk_at "mem") | exact .v _)
local macro_rules | `(tactic| walk_at "asl") => `(tactic| first | exact .d _ | exact .o (by walk_at "mem"))
local macro_rules | `(tactic| walk_at "len") => `(tactic| first | exact .l _ | exact .t _ | exact .o (by walk_at "mem") | exact .s _)
local macro_rules | `(tactic| walk_at "ix") => `(tactic| first | exact .t rfl | exact .l rfl | exact .l (by assumption) | exact .o (by walk_at "mem") rfl | exact .o (by walk_at "mem") (by assumption))
local macro_rules | `(tactic| walk_at "cmp") => `(tactic| first | exact cmp_eqI | exact cmp_neI | exact cmp_le | exact cmp_lt | exact cmp_ge | exact cmp_gt | exact cmp_eqB | exact cmp_neB | exact cmp_eqS | exact cmp_neS | exact cmp_isN | exact cmp_notN | exact cmp_isnotB)
local macro_rules | `(tactic| walk_at "kit") => `(tactic| first | exact kit_ii | exact kit_bb | exact kit_tt | exact kit_ll | exact kit_ib | exact kit_bi | exact kit_it | exact kit_ni | exact kit_si | exact kit_ti | exact kit_li)
local macro_rules | `(tactic| walk_at "phi is_number") => `(tactic| exact ⟨_, rfl, rfl⟩)
section
variable {P : Program} {w : World} {K : PySem.W.Frag} {mg : Str → Option Value} {base : Heap}
/-! ### what is a number -/
def MOSTI : Int := 999999999999999999999999999999999999999999999999999999999999
def InR (n : Int) : Prop := -MOSTI ≤ n ∧ n ≤ MOSTI
def isNum : PyData → Bool
  | .int n => decide (-MOSTI ≤ n) && decide (n ≤ MOSTI)
  | _ => false
def ΦNum (ds : List PyData) (d : PyData) : Prop := ∃ n : Int, ds = [.int n] ∧ d = .bool (isNum (.int n))
theorem scIsNumber : FnScope ["value"] ["value"] (defScope sIsNumber) := ⟨rfl, rfl, rfl, by decide +kernel, rfl, by decide +kernel, by decide +kernel⟩
theorem ok_isNumber {f : Addr} {fd : FuncData} {t : Tok} (F : Fun K "is_number" "is_number" sIsNumber f fd) (misi : mg "isinstance" = none) (mint : mg "int" = none) (mbool : mg "bool" = none) (mMOST : mg "MOST" = some (.int MOSTI t)) :
    FnOk P w K mg base CX0 1 f fd ["value"] (SpD K ΦNum) := by
  refine okD F scIsNumber (fun ds d h => ?_) (fun cdv A outer s H E Z ds d hr h => ?_)
  · obtain ⟨_, rfl, _⟩ := h; rfl
  · obtain ⟨n, rfl, rfl⟩ := h
    refine h_ret (pda_and (pd_isi (pw_of (pd_name 0 rfl) (by walk_at "asw")) (by walk_at "kit") (by assumption) (by assumption) boot_int) fun _ => (pda_and (pd_not (pd_isi (pw_of (pd_name 0 rfl) (by walk_at "asw")) (by walk_at "kit") (by assumption) (by assumption) boot_bool)) fun _ => (pda_one (pd_chain (pw_of (pd_neg (pd_globI (by rfl) mMOST)) (by walk_at "asw")) (pw_of (pd_name 0 rfl) (by walk_at "asw")) (fun _ => (pw_of (pd_globI (by rfl) mMOST) (by walk_at "asw"))) (by walk_at "cmp") (by walk_at "cmp"))))) ?_
    exact .d _
theorem isNum_in {n : Int} (h : InR n) : isNum (.int n) = true := by
  show (decide (-MOSTI ≤ n) && decide (n ≤ MOSTI)) = true
  rw [decide_eq_true h.1, decide_eq_true h.2]
  rfl
def ΦPair (ds : List PyData) (d : PyData) : Prop := ∃ l h : Int, ds = [.int l, .int h] ∧ InR l ∧ InR h ∧ l ≤ h ∧ d = .none
theorem scNeedPair : FnScope ["low", "high"] ["low", "high"] (defScope sNeedPair) := ⟨rfl, rfl, rfl, by decide +kernel, rfl, by decide +kernel, by decide +kernel⟩
theorem ok_needPair {f : Addr} {fd : FuncData} (F : Fun K "need_pair" "need_pair" sNeedPair f fd) (cIsNumber : Cal P w K mg base 1 "is_number" ["value"] (SpD K ΦNum)) : FnOk P w K mg base CX0 2 f fd ["low", "high"] (SpD K ΦPair) := by
  refine okD F scNeedPair (fun ds d h => ?_) (fun cdv A outer s H E Z ds d hr h => ?_)
  · obtain ⟨_, _, rfl, _⟩ := h; rfl
  · obtain ⟨l, h, rfl, hl, hh, hlh, rfl⟩ := h
    refine h_if (pb_bo (pbo_cons (pb_not (pb_val (pd_fn cIsNumber (hr.mono (by decide)) (pdd_cons (pd_name 0 rfl) pdd_nil) (by walk_at "phi is_number")))) fun _ => (pbo_cons (pb_not (pb_val (pd_fn cIsNumber (hr.mono (by decide)) (pdd_cons (pd_name 1 rfl) pdd_nil) (by walk_at "phi is_number")))) fun _ => (pbo_one (pb_cmp (pw_of (pd_name 0 rfl) (by walk_at "asw")) (pw_of (pd_name 1 rfl) (by walk_at "asw")) (by walk_at "cmp") (nomark _)))))) (fun hb => ?_) (fun hb => ?_)
    · rw [isNum_in hl, isNum_in hh, decide_eq_false (by omega)] at hb
      exact absurd hb (by decide)
    · exact h_nil (h_nil (.d _))
end
end L3
set_option Elab.async false
set_option linter.all false
set_option autoImplicit false
set_option maxRecDepth 100000
set_option maxHeartbeats 4000000
namespace L3
open PySem PySem.Spec L2
local macro_rules | `(tactic| walk_at "bin") => `(tactic| first | exact bin_add | exact bin_sub | exact bin_fdiv ⟨by decide, by decide⟩ | exact bin_mod (by decide) | exact bin_pow ⟨by decide, by decide, by decide⟩ | exact bin_mul (mul_small (by decide)) | exact bin_mul (by with_reducible assumption) | exact bin_catL (.d _) (.d _) (by assumption))
local macro_rules | `(tactic| walk_at "mem") => `(tactic| first | exact List.mem_cons_self | exact List.mem_cons_of_mem _ List.mem_cons_self | exact List.mem_cons_of_mem _ (List.mem_cons_of_mem _ List.mem_cons_self) | assumption)
local macro_rules | `(tactic| walk_at "asw") => `(tactic| first | exact .d _ | exact .o (by walk_at "mem") | exact .v _)
local macro_rules | `(tactic| walk_at "asl") => `(tactic| first | exact .d _ | exact .o (by walk_at "mem"))
local macro_rules | `(tactic| walk_at "len") => `(tactic| first | exact .l _ | exact .t _ | exact .o (by walk_at "mem") | exact .s _)
local macro_rules | `(tactic| walk_at "ix") => `(tactic| first | exact .t rfl | exact .l rfl | exact .l (by assumption) | exact .o (by walk_at "mem") rfl | exact .o (by walk_at "mem") (by assumption))
local macro_rules | `(tactic| walk_at "cmp") => `(tactic| first | exact cmp_eqI | exact cmp_neI | exact cmp_le | exact cmp_lt | exact cmp_ge | exact cmp_gt | exact cmp_eqB | exact cmp_neB | exact cmp_eqS | exact cmp_neS | exact cmp_isN | exact cmp_notN | exact cmp_isnotB)
local macro_rules | `(tactic| walk_at "kit") => `(tactic| first | exact kit_ii | exact kit_bb | exact kit_tt | exact kit_ll | exact kit_ib | exact kit_bi | exact kit_it | exact kit_ni | exact kit_si | exact kit_ti | exact kit_li)
local macro_rules | `(tactic| walk_at "phi _law_is_int") => `(tactic| exact ⟨_, rfl, rfl⟩)
section
variable {P : Program} {w : World} {K : PySem.W.Frag} {mg : Str → Option Value} {base : Heap}
/-! ### as they should be -/
def ΦIsInt (ds : List PyData) (d : PyData) : Prop := ∃ n : Int, ds = [.int n] ∧ d = .bool true
theorem scIsInt : FnScope ["_law_value"] ["_law_value"] (defScope sIsInt) := ⟨rfl, rfl, rfl, by decide +kernel, rfl, by decide +kernel, by decide +kernel⟩
theorem ok_isInt {f : Addr} {fd : FuncData} (F : Fun K "_law_is_int" "_law_is_int" sIsInt f fd) (misi : mg "isinstance" = none) (mint : mg "int" = none) : FnOk P w K mg base CX0 1 f fd ["_law_value"] (SpD K ΦIsInt) := by
  refine okD F scIsInt (fun ds d h => ?_) (fun cdv A outer s H E Z ds d hr h => ?_)
  · obtain ⟨_, rfl, _⟩ := h; rfl
  · obtain ⟨n, rfl, rfl⟩ := h
    refine h_ret (pda_and (pd_isi (pw_of (pd_name 0 rfl) (by walk_at "asw")) (by walk_at "kit") (by assumption) (by assumption) boot_int) fun _ => (pda_and (pd_cmp (pw_of (pd_name 0 rfl) (by walk_at "asw")) (pw_of pd_bl (by walk_at "asw")) (by walk_at "cmp") (nomark _)) fun _ => (pda_one (pd_cmp (pw_of (pd_name 0 rfl) (by walk_at "asw")) (pw_of pd_bl (by walk_at "asw")) (by walk_at "cmp") (nomark _))))) ?_
    exact .d _
def ΦTupleIs (ds : List PyData) (d : PyData) : Prop := ∃ ns : List Int, ds = [.tuple (ns.map PyData.int), .tuple (ns.map PyData.int)] ∧ ns.length ≤ 1000 ∧ d = .bool true
theorem scTupleIs : FnScope ["_law_found", "_law_due", "_law_part"] ["_law_found", "_law_due"] (defScope sTupleIs) := ⟨rfl, rfl, rfl, by decide +kernel, rfl, by decide +kernel, by decide +kernel⟩
theorem ok_tupleIs {f : Addr} {fd : FuncData} (F : Fun K "_law_tuple_is" "_law_tuple_is" sTupleIs f fd) (cIsInt : Cal P w K mg base 1 "_law_is_int" ["_law_value"] (SpD K ΦIsInt)) (misi : mg "isinstance" = none) (mtup : mg "tuple" = none) (mlen : mg "len" = none) :
    FnOk P w K mg base CX0 2 f fd ["_law_found", "_law_due"] (SpD K ΦTupleIs) := by
  refine okD F scTupleIs (fun ds d h => ?_) (fun cdv A outer s H E Z ds d hr h => ?_)
  · obtain ⟨_, rfl, _⟩ := h; rfl
  · obtain ⟨ns, rfl, hn, rfl⟩ := h
    have hs : SeqAt.shaped (.tuple (ns.map PyData.int)) = true := fl_shaped (k := 1) (fl_ints ns) (by decide)
    have hz : ns.length < sizeLine := small1000 hn
    refine h_if (pb_bo (pbo_cons (pb_not (pb_val (pd_isi (pw_of (pd_name 0 rfl) (by walk_at "asw")) (by walk_at "kit") (by assumption) (by assumption) boot_tuple))) fun _ => (pbo_one (pb_cmp (pw_of (pd_name 0 rfl) (by walk_at "asw")) (pw_of (pd_name 1 rfl) (by walk_at "asw")) (cmp_neD hr hs hs) (nomark _))))) (fun hb => ?_) (fun hb => ?_)
    · rw [eqv_self (k := 1) (fl_ints ns)] at hb
      exact absurd hb (by decide)
    · refine h_nil (h_ret (pd_cmp (pw_of (pd_len (pd_of_n (pn_lc PyData.int ns (fun _ => true) PyData.int 2 (pit_tup (pd_name 0 rfl)) scTupleIs.nd (by rfl) (fun _ _ _ _ _ => pg_name (i := 2) scTupleIs.nd rfl (Or.inl rfl)) (fun b hb _ _ _ _ _ _ => (pbs_one (pb_val (pd_fn cIsInt (hr.mono (by decide)) (pdd_cons (pd_name 2 rfl) pdd_nil) (by walk_at "phi _law_is_int"))))) (fun b hb ht _ _ _ _ _ _ => (pd_name 2 rfl)) hz)) (by walk_at "len") (by assumption)) (by walk_at "asw")) (pw_of (pd_len (pd_name 1 rfl) (by walk_at "len") (by assumption)) (by walk_at "asw")) (by walk_at "cmp") (nomark _)) ?_)
      rw [decide_eq_true (by rw [List.length_map, List.length_map, List.filter_eq_self.mpr fun _ _ => rfl])]
      exact .d _
/-- rows of whole numbers, told the very same -/
def Rows (xs : List PyData) : Prop := ∀ x ∈ xs, ∃ ns : List Int, x = .tuple (ns.map PyData.int) ∧ ns.length ≤ 1000
def ΦListIs (ds : List PyData) (d : PyData) : Prop := ∃ xs : List PyData, ds = [.list xs, .list xs] ∧ Rows xs ∧ xs.length ≤ 1000 ∧ d = .bool true
theorem scListIs : FnScope ["_law_found", "_law_due", "_law_k"] ["_law_found", "_law_due"] (defScope sListIs) := ⟨rfl, rfl, rfl, by decide +kernel, rfl, by decide +kernel, by decide +kernel⟩
theorem atI_range {xs : List PyData} {k : Nat} (h : k < xs.length) : atI xs ((0 : Int) + (k : Nat)) = some xs[k] := by
  rw [Int.zero_add]
  exact atI_nat (List.getElem?_eq_getElem h)
theorem ok_listIs {f : Addr} {fd : FuncData} (F : Fun K "_law_list_is" "_law_list_is" sListIs f fd) (cTupleIs : Cal P w K mg base 2 "_law_tuple_is" ["_law_found", "_law_due"] (SpD K ΦTupleIs)) (misi : mg "isinstance" = none) (mlist : mg "list" = none) (mlen : mg "len" = none) (mrange : mg "range" = none) :
    FnOk P w K mg base CX0 3 f fd ["_law_found", "_law_due"] (SpD K ΦListIs) := by
  refine okD F scListIs (fun ds d h => ?_) (fun cdv A outer s H E Z ds d hr h => ?_)
  · obtain ⟨_, rfl, _⟩ := h; rfl
  · obtain ⟨xs, rfl, hx, hn, rfl⟩ := h
    have hz : xs.length < sizeLine := small1000 hn
    refine h_if (pb_bo (pbo_cons (pb_not (pb_val (pd_isi (pw_of (pd_name 0 rfl) (by walk_at "asw")) (by walk_at "kit") (by assumption) (by assumption) boot_list))) fun _ => (pbo_one (pb_cmp (pw_of (pd_len (pd_name 0 rfl) (by walk_at "len") (by assumption)) (by walk_at "asw")) (pw_of (pd_len (pd_name 1 rfl) (by walk_at "len") (by assumption)) (by walk_at "asw")) (by walk_at "cmp") (nomark _))))) (fun hb => ?_) (fun hb => ?_)
    · simp at hb
    · refine h_nil (h_ret (pd_cmp (pw_of (pd_len (pd_of_n (pn_lc (fun k : Nat => PyData.int ((0 : Int) + (k : Nat))) (List.range xs.length) (fun _ => !true) (fun _ => PyData.none) 2 (pit_range1 (pd_len (pd_name 1 rfl) (by walk_at "len") (by assumption)) (by omega) (by omega) (by assumption)) scListIs.nd (by rfl) (fun _ _ _ _ _ => pg_name (i := 2) scListIs.nd rfl (Or.inl rfl)) (fun b hb _ _ _ _ _ _ => ?_) (fun b hb ht _ _ _ _ _ _ => absurd ht (by decide)) (by rw [List.length_range]; exact hz))) (by walk_at "len") (by assumption)) (by walk_at "asw")) (pw_of pd_int (by walk_at "asw")) (by walk_at "cmp") (nomark _)) ?_)
      · have hk := List.mem_range.mp hb
        obtain ⟨ns, e, hns⟩ := hx xs[b] (List.getElem_mem hk)
        have ha := atI_range hk
        rw [e] at ha
        exact (pbs_one (pb_not (pb_val (pd_fn cTupleIs (hr.mono (by decide)) (pdd_cons (pd_ix (pd_name 0 rfl) (pd_name 2 rfl) (.l ha)) (pdd_cons (pd_ix (pd_name 1 rfl) (pd_name 2 rfl) (.l ha)) pdd_nil)) ⟨_, rfl, hns, rfl⟩))))
      · rw [decide_eq_true (by simp)]
        exact .d _
theorem rows_S (l : List S3) : Rows (l.map encS) := fun x hx => by
  obtain ⟨p, _, rfl⟩ := List.mem_map.mp hx
  exact ⟨[p.1, p.2.1, p.2.2], rfl, by simp⟩
theorem drop_at {row : List S3} {k : Nat} {d : PyData} (h : (row.map encS)[k]? = some d) : ∃ (hk : k < row.length), d = encS row[k] ∧ row.drop k = row[k] :: row.drop (k + 1) := by
  have hk : k < row.length := by
    have := (List.getElem?_eq_some_iff.mp h).1
    rwa [List.length_map] at this
  refine ⟨hk, ?_, List.drop_eq_getElem_cons hk⟩
  rw [List.getElem?_map, List.getElem?_eq_getElem hk] at h
  exact (Option.some.inj h).symm
end
end L3
set_option Elab.async false
set_option linter.all false
set_option autoImplicit false
set_option maxRecDepth 100000
set_option maxHeartbeats 4000000
namespace L3
open PySem PySem.Spec L2
local macro_rules | `(tactic| walk_at "bin") => `(tactic| first | exact bin_add | exact bin_sub | exact bin_fdiv ⟨by decide, by decide⟩ | exact bin_mod (by decide) | exact bin_pow ⟨by decide, by decide, by decide⟩ | exact bin_mul (mul_small (by decide)) | exact bin_mul (by with_reducible assumption) | exact bin_catL (.d _) (.d _) (by assumption))
local macro_rules | `(tactic| walk_at "mem") => `(tactic| first | exact List.mem_cons_self | exact List.mem_cons_of_mem _ List.mem_cons_self | exact List.mem_cons_of_mem _ (List.mem_cons_of_mem _ List.mem_cons_self) | assumption)
local macro_rules | `(tactic| walk_at "asw") => `(tactic| first | exact .d _ | exact .o (by walk_at "mem") | exact .v _)
local macro_rules | `(tactic| walk_at "asl") => `(tactic| first | exact .d _ | exact .o (by walk_at "mem"))
local macro_rules | `(tactic| walk_at "len") => `(tactic| first | exact .l _ | exact .t _ | exact .o (by walk_at "mem") | exact .s _)
local macro_rules | `(tactic| walk_at "ix") => `(tactic| first | exact .t rfl | exact .l rfl | exact .l (by assumption) | exact .o (by walk_at "mem") rfl | exact .o (by walk_at "mem") (by assumption))
local macro_rules | `(tactic| walk_at "cmp") => `(tactic| first | exact cmp_eqI | exact cmp_neI | exact cmp_le | exact cmp_lt | exact cmp_ge | exact cmp_gt | exact cmp_eqB | exact cmp_neB | exact cmp_eqS | exact cmp_neS | exact cmp_isN | exact cmp_notN | exact cmp_isnotB)
local macro_rules | `(tactic| walk_at "kit") => `(tactic| first | exact kit_ii | exact kit_bb | exact kit_tt | exact kit_ll | exact kit_ib | exact kit_bi | exact kit_it | exact kit_ni | exact kit_si | exact kit_ti | exact kit_li)
section
variable {P : Program} {w : World} {K : PySem.W.Frag} {mg : Str → Option Value} {base : Heap}
/-! ### a row of the script -/
def rowHead (ns : List Int) (k : Nat) : List S3 := (List.range (cell ns k % 7).toNat).map fun j => made (cell ns (k + 1 + j) * 48271 + 13 * ((0 : Int) + (j : Nat)))
def runMany (s : Int) : Int := s / 492 % 25 + 6 + 60 * (if decide (s / 12300 % 16 = 1) = true then 1 else 0)
def runOne (s : Int) (j : Nat) : S3 := (s % 41 - 20 + s / 41 % 4 * ((0 : Int) + (j : Nat)), s % 41 - 20 + s / 41 % 4 * ((0 : Int) + (j : Nat)) + ((0 : Int) + (j : Nat)) % (1 + s / 164 % 3), ((0 : Int) + (j : Nat)) % 2)
def rowRun (s : Int) : List S3 := (List.range (runMany s).toNat).map (runOne s)
def rowMade (ns : List Int) (k : Nat) : List S3 := if decide (cell ns k / 7 % 3 = 0) = true then rowHead ns k ++ rowRun (cell ns k * 48271 + 17) else rowHead ns k
def rowOf (ns : List Int) (k : Nat) : List S3 := (rowMade ns k).mergeSort sLe
theorem rowMade_len (ns : List Int) (k : Nat) : (rowMade ns k).length ≤ 100 := by
  have h1 : (rowHead ns k).length ≤ 6 := by
    unfold rowHead
    rw [List.length_map, List.length_range]
    omega
  have h2 : ∀ s, (rowRun s).length ≤ 90 := fun s => by
    unfold rowRun runMany
    rw [List.length_map, List.length_range]
    split <;> omega
  unfold rowMade
  split
  · rw [List.length_append]
    have := h2 (cell ns k * 48271 + 17)
    omega
  · omega
theorem rowOf_len (ns : List Int) (k : Nat) : (rowOf ns k).length ≤ 100 := by
  unfold rowOf
  rw [List.length_mergeSort]
  exact rowMade_len ns k
theorem rowOf_sorted (ns : List Int) (k : Nat) : (rowOf ns k).Pairwise fun a b => sLe a b = true := sort_sorted _
theorem rowMade_le (ns : List Int) (k : Nat) : ∀ x ∈ rowMade ns k, x.1 ≤ x.2.1 := by
  have h1 : ∀ x ∈ rowHead ns k, x.1 ≤ x.2.1 := fun x hx => by
    obtain ⟨j, _, rfl⟩ := List.mem_map.mp hx
    exact made_le _
  have h2 : ∀ s, ∀ x ∈ rowRun s, x.1 ≤ x.2.1 := fun s x hx => by
    obtain ⟨j, _, rfl⟩ := List.mem_map.mp hx
    show s % 41 - 20 + s / 41 % 4 * ((0 : Int) + (j : Nat)) ≤ s % 41 - 20 + s / 41 % 4 * ((0 : Int) + (j : Nat)) + ((0 : Int) + (j : Nat)) % (1 + s / 164 % 3)
    have : 0 ≤ ((0 : Int) + (j : Nat)) % (1 + s / 164 % 3) := Int.emod_nonneg _ (by omega)
    omega
  intro x hx
  unfold rowMade at hx
  split at hx
  · rcases List.mem_append.mp hx with z | z
    · exact h1 x z
    · exact h2 _ x z
  · exact h1 x hx
theorem rowOf_le (ns : List Int) (k : Nat) : ∀ x ∈ rowOf ns k, x.1 ≤ x.2.1 := fun x hx => rowMade_le ns k x (List.mem_mergeSort.mp hx)
def ΦRow (ds : List PyData) (d : PyData) : Prop := ∃ (ns : List Int) (k : Nat), ds = [scrD ns, .int (k : Nat)] ∧ ns.length ≤ 1000 ∧ (∀ n ∈ ns, Builtin.Int.intBits n ≤ 1048576) ∧ d = .list ((rowOf ns k).map encS)
theorem scRow : FnScope ["_law_script", "_law_at_here", "_law_head", "_law_made_here", "_law_k", "_law_seed", "_law_base", "_law_step", "_law_size", "_law_many"] ["_law_script", "_law_at_here"] (defScope sRow) := ⟨rfl, rfl, rfl, by decide +kernel, rfl, by decide +kernel, by decide +kernel⟩
theorem ok_row {f : Addr} {fd : FuncData} (F : Fun K "_law_row" "_law_row" sRow f fd) (cAt : Cal P w K mg base 1 "_law_at" ["_law_script", "_law_place"] (SpD K ΦAt)) (cMade : Cal P w K mg base 1 "_law_made" ["_law_seed"] (SpD K ΦMade))
    (mrange : mg "range" = none) (mint : mg "int" = none) (msorted : mg "sorted" = none) : FnOk P w K mg base CX0 2 f fd ["_law_script", "_law_at_here"] (SpD K ΦRow) := by
  refine okD F scRow (fun ds d h => ?_) (fun cdv A outer s H E Z ds d hr h => ?_)
  · obtain ⟨_, _, rfl, _⟩ := h; rfl
  · obtain ⟨ns, k, rfl, hl, hb, rfl⟩ := h
    refine h_set 2 (pd_fn cAt (hr.mono (by decide)) (pdd_cons (pd_name 0 rfl) (pdd_cons (pd_name 1 rfl) pdd_nil)) ⟨_, k, rfl, hl, rfl⟩) ?_ scRow.nd
    have hz1 : (List.range (cell ns k % 7).toNat).length < sizeLine := small1000 (by rw [List.length_range]; omega)
    refine h_setLc0 (fun j : Nat => PyData.int ((0 : Int) + (j : Nat))) (List.range (cell ns k % 7).toNat) (fun j => encS (made (cell ns (k + 1 + j) * 48271 + 13 * ((0 : Int) + (j : Nat))))) 3 4 (pit_range1 (pd_bin (pd_name 2 rfl) pd_int (by walk_at "bin")) (by omega) (by omega) (by assumption)) (fun b hb' _ _ _ _ _ _ => ?_) hz1 ?_ scRow.nd (fun _ _ _ _ _ => pg_name (i := 4) scRow.nd rfl (Or.inl rfl))
    · have hj := List.mem_range.mp hb'
      exact (pd_fn cMade (hr.mono (by decide)) (pdd_cons (pd_bin (pd_bin (pd_fn cAt (hr.mono (by decide)) (pdd_cons (pd_name 0 rfl) (pdd_cons (pd_bin (pd_bin (pd_name 1 rfl) pd_int (by walk_at "bin")) (pd_name 4 rfl) (by walk_at "bin")) pdd_nil)) ⟨_, k + 1 + b, by rw [show ((k : Nat) : Int) + 1 + ((0 : Int) + (b : Nat)) = ((k + 1 + b : Nat) : Int) from by omega], hl, rfl⟩) pd_int (by walk_at "bin")) (pd_bin pd_int (pd_name 4 rfl) (bin_mul (mul_smallL (by decide)))) (by walk_at "bin")) pdd_nil) ⟨_, rfl, seed_bits (cell_bits (by assumption) _) (by decide) (by omega), rfl⟩)
    have e1 : (List.range (cell ns k % 7).toNat).map (fun j => encS (made (cell ns (k + 1 + j) * 48271 + 13 * ((0 : Int) + (j : Nat))))) = (rowHead ns k).map encS := by
      unfold rowHead
      rw [List.map_map]
      rfl
    rw [e1]
    refine h_ifM (fun own ρ => own = [] ∧ ∃ (x4 x5 x6 x7 x8 x9 : Sl), ρ = [.d (scrD ns), .d (.int (k : Nat)), .d (.int (cell ns k)), .d (.list ((rowMade ns k).map encS)), x4, x5, x6, x7, x8, x9]) (pb_cmp (pw_of (pd_bin (pd_bin (pd_name 2 rfl) pd_int (by walk_at "bin")) pd_int (by walk_at "bin")) (by walk_at "asw")) (pw_of pd_int (by walk_at "asw")) (by walk_at "cmp") (nomark _)) (fun hc => ?_) (fun hc => ?_) ?_
    · -- _law_head // 7 % 3 == 0
      refine h_set 5 (pd_bin (pd_bin (pd_name 2 rfl) pd_int (by walk_at "bin")) pd_int (by walk_at "bin")) ?_ scRow.nd
      refine h_set 6 (pd_bin (pd_bin (pd_name 5 rfl) pd_int (by walk_at "bin")) pd_int (by walk_at "bin")) ?_ scRow.nd
      refine h_set 7 (pd_bin (pd_bin (pd_name 5 rfl) pd_int (by walk_at "bin")) pd_int (by walk_at "bin")) ?_ scRow.nd
      refine h_set 8 (pd_bin pd_int (pd_bin (pd_bin (pd_name 5 rfl) pd_int (by walk_at "bin")) pd_int (by walk_at "bin")) (by walk_at "bin")) ?_ scRow.nd
      refine h_set 9 (pd_bin (pd_bin (pd_bin (pd_bin (pd_name 5 rfl) pd_int (by walk_at "bin")) pd_int (by walk_at "bin")) pd_int (by walk_at "bin")) (pd_bin pd_int (pd_intB (pd_cmp (pw_of (pd_bin (pd_bin (pd_name 5 rfl) pd_int (by walk_at "bin")) pd_int (by walk_at "bin")) (by walk_at "asw")) (pw_of pd_int (by walk_at "asw")) (by walk_at "cmp") (nomark _)) (by assumption)) (bin_mul (mul_smallL (by decide)))) (by walk_at "bin")) ?_ scRow.nd
      have em : rowMade ns k = rowHead ns k ++ rowRun (cell ns k * 48271 + 17) := by
        unfold rowMade
        rw [if_pos hc]
      have hlen := rowMade_len ns k
      have e2 : (rowRun (cell ns k * 48271 + 17)).map encS = (List.range (runMany (cell ns k * 48271 + 17)).toNat).map (fun j => encS (runOne (cell ns k * 48271 + 17) j)) := by
        unfold rowRun
        rw [List.map_map]
        rfl
      rw [em, List.length_append] at hlen
      have hl2 : (List.range (runMany (cell ns k * 48271 + 17)).toNat).length ≤ 100 := by
        have : (rowRun (cell ns k * 48271 + 17)).length = (List.range (runMany (cell ns k * 48271 + 17)).toNat).length := by
          unfold rowRun
          rw [List.length_map]
        omega
      have hl3 : (runMany (cell ns k * 48271 + 17)) ≤ 100 := by rw [List.length_range] at hl2; omega
      have hl4 : 0 ≤ (runMany (cell ns k * 48271 + 17)) := by unfold runMany; split <;> omega
      refine h_set 3 (pd_bin (pd_name 3 rfl) (pd_of_n (pn_lc0 (fun j : Nat => PyData.int ((0 : Int) + (j : Nat))) (List.range (runMany (cell ns k * 48271 + 17)).toNat) (fun j => encS (runOne (cell ns k * 48271 + 17) j)) 4 (pit_range1 (i := runMany (cell ns k * 48271 + 17)) (pd_name 9 rfl) (by omega) (by omega) (by assumption)) scRow.nd (fun b hb' _ _ _ _ _ _ => ?_) (small1000 (by omega)) (fun _ _ _ _ _ => pg_name (i := 4) scRow.nd rfl (Or.inl rfl)))) (bin_catL (.d _) (.d _) ?_)) ?_ scRow.nd
      · exact (pd_tup (pdd_cons (pd_bin (pd_name 6 rfl) (pd_bin (pd_name 7 rfl) (pd_name 4 rfl) (bin_mul (mul_smallL (by omega)))) (by walk_at "bin")) (pdd_cons (pd_bin (pd_bin (pd_name 6 rfl) (pd_bin (pd_name 7 rfl) (pd_name 4 rfl) (bin_mul (mul_smallL (by omega)))) (by walk_at "bin")) (pd_bin (pd_name 4 rfl) (pd_name 8 rfl) (bin_mod (by omega))) (by walk_at "bin")) (pdd_cons (pd_bin (pd_name 4 rfl) pd_int (by walk_at "bin")) pdd_nil))))
      · rw [List.length_map, List.length_map]
        exact Nat.le_of_lt (small1000 (by omega))
      · rw [← e2, ← List.map_append, ← em]
        exact h_nil ⟨rfl, _, _, _, _, _, _, rfl⟩
    · have em : rowMade ns k = rowHead ns k := by
        unfold rowMade
        rw [if_neg (by rw [hc]; exact Bool.false_ne_true)]
      rw [← em]
      exact h_nil ⟨rfl, _, _, _, _, _, _, rfl⟩
    rintro _ _ ⟨rfl, x4, x5, x6, x7, x8, x9, rfl⟩
    refine h_retN (pn_sorted (pl_of (pd_name 3 rfl) (by walk_at "asl")) hr (alike_S _) (sortable_S _) (fun b _ => fl_shaped (k := 1) (fl_S b) (by decide)) (by assumption)) (fun p => ?_)
    rw [dataLe_S]
    exact .o List.mem_cons_self
end
end L3
set_option Elab.async false
set_option linter.all false
set_option autoImplicit false
set_option maxRecDepth 100000
set_option maxHeartbeats 4000000
namespace L3
open PySem PySem.Spec L2
local macro_rules | `(tactic| walk_at "bin") => `(tactic| first | exact bin_add | exact bin_sub | exact bin_fdiv ⟨by decide, by decide⟩ | exact bin_mod (by decide) | exact bin_pow ⟨by decide, by decide, by decide⟩ | exact bin_mul (mul_small (by decide)) | exact bin_mul (by with_reducible assumption) | exact bin_catL (.d _) (.d _) (by assumption))
local macro_rules | `(tactic| walk_at "mem") => `(tactic| first | exact List.mem_cons_self | exact List.mem_cons_of_mem _ List.mem_cons_self | exact List.mem_cons_of_mem _ (List.mem_cons_of_mem _ List.mem_cons_self) | assumption)
local macro_rules | `(tactic| walk_at "asw") => `(tactic| first | exact .d _ | exact .o (by walk_at "mem") | exact .v _)
local macro_rules | `(tactic| walk_at "asl") => `(tactic| first | exact .d _ | exact .o (by walk_at "mem"))
local macro_rules | `(tactic| walk_at "len") => `(tactic| first | exact .l _ | exact .t _ | exact .o (by walk_at "mem") | exact .s _)
local macro_rules | `(tactic| walk_at "ix") => `(tactic| first | exact .t rfl | exact .l rfl | exact .l (by assumption) | exact .o (by walk_at "mem") rfl | exact .o (by walk_at "mem") (by assumption))
local macro_rules | `(tactic| walk_at "cmp") => `(tactic| first | exact cmp_eqI | exact cmp_neI | exact cmp_le | exact cmp_lt | exact cmp_ge | exact cmp_gt | exact cmp_eqB | exact cmp_neB | exact cmp_eqS | exact cmp_neS | exact cmp_isN | exact cmp_notN | exact cmp_isnotB)
local macro_rules | `(tactic| walk_at "kit") => `(tactic| first | exact kit_ii | exact kit_bb | exact kit_tt | exact kit_ll | exact kit_ib | exact kit_bi | exact kit_it | exact kit_ni | exact kit_si | exact kit_ti | exact kit_li)
local macro_rules | `(tactic| walk_at "phi _law_made") => `(tactic| exact ⟨_, rfl, seed_bits (cell_bits (by assumption) _) (by decide) (by decide), rfl⟩)
section
variable {P : Program} {w : World} {K : PySem.W.Frag} {mg : Str → Option Value} {base : Heap}
/-! ### a question of the script -/
def nearOf (ns : List Int) (k : Nat) (row : List S3) : S3 := row.getD (cell ns (k + 1) / 3 % (row.length : Nat)).toNat (0, 0, 0)
def askHas (ns : List Int) (k : Nat) (row : List S3) : Bool := decide ((0 : Int) < (row.length : Nat)) && decide (0 < cell ns (k + 1) % 3)
def askLow (ns : List Int) (k : Nat) (row : List S3) : Int := if askHas ns k row = true then (if cell ns (k + 2) % 2 = 0 then (nearOf ns k row).1 else (nearOf ns k row).2.1) + cell ns (k + 2) / 2 % 5 - 2 else (made (cell ns k * 48271 + 5)).1
def askHigh (ns : List Int) (k : Nat) (row : List S3) : Int := if askHas ns k row = true then askLow ns k row + cell ns (k + 2) / 10 % 40 else (made (cell ns k * 48271 + 5)).2.1
def askL (ns : List Int) (k : Nat) (row : List S3) : Int := max (1 - 10 ^ (60 : Int).toNat) (min (askLow ns k row) (10 ^ (60 : Int).toNat - 1))
def askH (ns : List Int) (k : Nat) (row : List S3) : Int := max (askL ns k row) (min (askHigh ns k row) (10 ^ (60 : Int).toNat - 1))
def ΦAsk (ds : List PyData) (d : PyData) : Prop := ∃ (ns : List Int) (k : Nat) (row : List S3), ds = [scrD ns, .int (k : Nat), .list (row.map encS)] ∧ ns.length ≤ 1000 ∧ (∀ n ∈ ns, Builtin.Int.intBits n ≤ 1048576) ∧ row.length ≤ 1000 ∧ d = .tuple [.int (askL ns k row), .int (askH ns k row)]
theorem nth2 (s : S3) (c : Int) : atI [PyData.int s.1, .int s.2.1, .int s.2.2] (c % 2) = some (.int (if c % 2 = 0 then s.1 else s.2.1)) := by
  by_cases h : c % 2 = 0
  · rw [h, if_pos rfl]; rfl
  · have e : c % 2 = 1 := by omega
    rw [if_neg h, e]; rfl
theorem row_at (row : List S3) (c : Int) (h : 0 < row.length) : atI (row.map encS) (c % (row.length : Nat)) = some (encS (row.getD (c % (row.length : Nat)).toNat (0, 0, 0))) := by
  have h1 : 0 ≤ c % (row.length : Nat) := Int.emod_nonneg _ (by omega)
  have h2 : c % (row.length : Nat) < (row.length : Nat) := Int.emod_lt_of_pos _ (by omega)
  have e : c % (row.length : Nat) = (((c % (row.length : Nat)).toNat : Nat) : Int) := (Int.toNat_of_nonneg h1).symm
  generalize (c % (row.length : Nat)).toNat = i at e ⊢
  rw [e] at h2 ⊢
  have hi : i < row.length := by omega
  refine atI_nat ?_
  rw [List.getElem?_map, List.getElem?_eq_getElem hi]
  simp [List.getD, hi]
theorem scAsk : FnScope ["_law_script", "_law_at_here", "_law_row_here", "_law_one", "_law_low", "_law_high", "_law_near"] ["_law_script", "_law_at_here", "_law_row_here"] (defScope sAsk) := ⟨rfl, rfl, rfl, by decide +kernel, rfl, by decide +kernel, by decide +kernel⟩
theorem ok_ask {f : Addr} {fd : FuncData} (F : Fun K "_law_ask" "_law_ask" sAsk f fd) (cAt : Cal P w K mg base 1 "_law_at" ["_law_script", "_law_place"] (SpD K ΦAt)) (cMade : Cal P w K mg base 1 "_law_made" ["_law_seed"] (SpD K ΦMade))
    (mlen : mg "len" = none) (mmin : mg "min" = none) (mmax : mg "max" = none) : FnOk P w K mg base CX0 2 f fd ["_law_script", "_law_at_here", "_law_row_here"] (SpD K ΦAsk) := by
  refine okD F scAsk (fun ds d h => ?_) (fun cdv A outer s H E Z ds d hr h => ?_)
  · obtain ⟨_, _, _, rfl, _⟩ := h; rfl
  · obtain ⟨ns, k, row, rfl, hl, hb, hrow, rfl⟩ := h
    have p1 : ΦAt [scrD ns, .int ((k : Nat) + 1)] (.int (cell ns (k + 1))) := ⟨_, k + 1, rfl, hl, rfl⟩
    have p2 : ΦAt [scrD ns, .int ((k : Nat) + 2)] (.int (cell ns (k + 2))) := ⟨_, k + 2, rfl, hl, rfl⟩
    refine h_set 3 (pd_fn cMade (hr.mono (by decide)) (pdd_cons (pd_bin (pd_bin (pd_fn cAt (hr.mono (by decide)) (pdd_cons (pd_name 0 rfl) (pdd_cons (pd_name 1 rfl) pdd_nil)) ⟨_, k, rfl, hl, rfl⟩) pd_int (by walk_at "bin")) pd_int (by walk_at "bin")) pdd_nil) (by walk_at "phi _law_made")) ?_ scAsk.nd
    refine h_set 4 (pd_ix (pd_name 3 rfl) pd_int (by walk_at "ix")) ?_ scAsk.nd
    refine h_set 5 (pd_ix (pd_name 3 rfl) pd_int (by walk_at "ix")) ?_ scAsk.nd
    refine h_ifM (fun own ρ => own = [] ∧ ∃ (x3 x6 : Sl), ρ = [.d (scrD ns), .d (.int (k : Nat)), .d (.list (row.map encS)), x3, .d (.int (askLow ns k row)), .d (.int (askHigh ns k row)), x6]) (pb_bo (pba_cons (pb_cmp (pw_of (pd_len (pd_name 2 rfl) (.l _) (by assumption)) (by walk_at "asw")) (pw_of pd_int (by walk_at "asw")) (by walk_at "cmp") (nomark _)) fun _ => (pba_one (pb_cmp (pw_of (pd_bin (pd_fn cAt (hr.mono (by decide)) (pdd_cons (pd_name 0 rfl) (pdd_cons (pd_bin (pd_name 1 rfl) pd_int (by walk_at "bin")) pdd_nil)) p1) pd_int (by walk_at "bin")) (by walk_at "asw")) (pw_of pd_int (by walk_at "asw")) (by walk_at "cmp") (nomark _))))) (fun hc => ?_) (fun hc => ?_) ?_
    · -- len(_law_row_here) > 0 and _law_at(_law_script, _law_at_here + 1) % 3 > 0
      rw [List.length_map] at hc
      have hc' : askHas ns k row = true := hc
      have hpos : 0 < row.length := by
        have := (Bool.and_eq_true _ _ ▸ hc).1
        have := of_decide_eq_true this
        omega
      have ha := row_at row (cell ns (k + 1) / 3) hpos
      have hlen : (((row.map encS).length : Nat) : Int) = (row.length : Nat) := by rw [List.length_map]
      refine h_set 6 (pd_ix (pd_name 2 rfl) (pd_bin (pd_bin (pd_fn cAt (hr.mono (by decide)) (pdd_cons (pd_name 0 rfl) (pdd_cons (pd_bin (pd_name 1 rfl) pd_int (by walk_at "bin")) pdd_nil)) p1) pd_int (by walk_at "bin")) (pd_len (pd_name 2 rfl) (.l _) (by assumption)) (bin_mod (by omega))) (.l (d := encS (nearOf ns k row)) (by rw [hlen]; exact ha))) ?_ scAsk.nd
      refine h_set 4 (pd_bin (pd_bin (pd_ix (pd_name 6 rfl) (pd_bin (pd_fn cAt (hr.mono (by decide)) (pdd_cons (pd_name 0 rfl) (pdd_cons (pd_bin (pd_name 1 rfl) pd_int (by walk_at "bin")) pdd_nil)) p2) pd_int (by walk_at "bin")) (.t (nth2 _ _))) (pd_bin (pd_bin (pd_fn cAt (hr.mono (by decide)) (pdd_cons (pd_name 0 rfl) (pdd_cons (pd_bin (pd_name 1 rfl) pd_int (by walk_at "bin")) pdd_nil)) p2) pd_int (by walk_at "bin")) pd_int (by walk_at "bin")) (by walk_at "bin")) pd_int (by walk_at "bin")) ?_ scAsk.nd
      refine h_set 5 (pd_bin (pd_name 4 rfl) (pd_bin (pd_bin (pd_fn cAt (hr.mono (by decide)) (pdd_cons (pd_name 0 rfl) (pdd_cons (pd_bin (pd_name 1 rfl) pd_int (by walk_at "bin")) pdd_nil)) p2) pd_int (by walk_at "bin")) pd_int (by walk_at "bin")) (by walk_at "bin")) ?_ scAsk.nd
      have e1 : askLow ns k row = (if cell ns (k + 2) % 2 = 0 then (nearOf ns k row).1 else (nearOf ns k row).2.1) + cell ns (k + 2) / 2 % 5 - 2 := by unfold askLow; rw [if_pos hc']
      have e2 : askHigh ns k row = askLow ns k row + cell ns (k + 2) / 10 % 40 := by unfold askHigh; rw [if_pos hc']
      rw [← e1, ← e2]
      exact h_nil ⟨rfl, _, _, rfl⟩
    · rw [List.length_map] at hc
      have hc' : askHas ns k row = false := hc
      have e1 : askLow ns k row = (made (cell ns k * 48271 + 5)).1 := by unfold askLow; rw [if_neg (by rw [hc']; exact Bool.false_ne_true)]
      have e2 : askHigh ns k row = (made (cell ns k * 48271 + 5)).2.1 := by unfold askHigh; rw [if_neg (by rw [hc']; exact Bool.false_ne_true)]
      refine h_nil ⟨rfl, .d (encS (made (cell ns k * 48271 + 5))), .no, ?_⟩
      rw [e1, e2]
      rfl
    rintro _ _ ⟨rfl, x3, x6, rfl⟩
    refine h_set 4 (pd_max2 (pd_bin pd_int (pd_bin pd_int pd_int (by walk_at "bin")) (by walk_at "bin")) (pd_min2 (pd_name 4 rfl) (pd_bin (pd_bin pd_int pd_int (by walk_at "bin")) pd_int (by walk_at "bin")) (by assumption)) (by assumption)) ?_ scAsk.nd
    refine h_ret (pd_tup (pdd_cons (pd_name 4 rfl) (pdd_cons (pd_max2 (pd_name 4 rfl) (pd_min2 (pd_name 5 rfl) (pd_bin (pd_bin pd_int pd_int (by walk_at "bin")) pd_int (by walk_at "bin")) (by assumption)) (by assumption)) pdd_nil))) ?_
    exact .d _
theorem ask_in (ns : List Int) (k : Nat) (row : List S3) : InR (askL ns k row) ∧ InR (askH ns k row) ∧ askL ns k row ≤ askH ns k row := by
  unfold askH
  generalize hA : askL ns k row = a
  unfold askL at hA
  rw [e60] at *
  unfold InR MOSTI
  omega
end
end L3
set_option Elab.async false
set_option linter.all false
set_option autoImplicit false
set_option maxRecDepth 100000
set_option maxHeartbeats 4000000
namespace L3
open PySem PySem.Spec L2
local macro_rules | `(tactic| walk_at "bin") => `(tactic| first | exact bin_add | exact bin_sub | exact bin_fdiv ⟨by decide, by decide⟩ | exact bin_mod (by decide) | exact bin_pow ⟨by decide, by decide, by decide⟩ | exact bin_mul (mul_small (by decide)) | exact bin_mul (by with_reducible assumption) | exact bin_catL (.d _) (.d _) (by assumption))
local macro_rules | `(tactic| walk_at "mem") => `(tactic| first | exact List.mem_cons_self | exact List.mem_cons_of_mem _ List.mem_cons_self | exact List.mem_cons_of_mem _ (List.mem_cons_of_mem _ List.mem_cons_self) | assumption)
local macro_rules | `(tactic| walk_at "asw") => `(tactic| first | exact .d _ | exact .o (by walk_at "mem") | exact .v _)
local macro_rules | `(tactic| walk_at "asl") => `(tactic| first | exact .d _ | exact .o (by walk_at "mem"))
local macro_rules | `(tactic| walk_at "len") => `(tactic| first | exact .l _ | exact .t _ | exact .o (by walk_at "mem") | exact .s _)
local macro_rules | `(tactic| walk_at "ix") => `(tactic| first | exact .t rfl | exact .l rfl | exact .l (by assumption) | exact .o (by walk_at "mem") rfl | exact .o (by walk_at "mem") (by assumption))
local macro_rules | `(tactic| walk_at "cmp") => `(tactic| first | exact cmp_eqI | exact cmp_neI | exact cmp_le | exact cmp_lt | exact cmp_ge | exact cmp_gt | exact cmp_eqB | exact cmp_neB | exact cmp_eqS | exact cmp_neS | exact cmp_isN | exact cmp_notN | exact cmp_isnotB)
local macro_rules | `(tactic| walk_at "kit") => `(tactic| first | exact kit_ii | exact kit_bb | exact kit_tt | exact kit_ll | exact kit_ib | exact kit_bi | exact kit_it | exact kit_ni | exact kit_si | exact kit_ti | exact kit_li)
local macro_rules | `(tactic| walk_at "phi need_pair") => `(tactic| exact ⟨_, _, rfl, by assumption, by assumption, by assumption, rfl⟩)
section
variable {P : Program} {w : World} {K : PySem.W.Frag} {mg : Str → Option Value} {base : Heap}
/-! ### the deepest place of a row -/
def holdsP (p : Int) (x : S3) : Bool := decide (x.1 ≤ p) && decide (p ≤ x.2.1)
def cnt (row : List S3) (p : Int) : Int := ((row.filter (holdsP p)).length : Nat)
def inQ (lo hi : Int) (x : S3) : Bool := decide (lo < x.1) && decide (x.1 ≤ hi)
def deepStep (row : List S3) (lo hi : Int) (b : Int × Int) (x : S3) : Int × Int := if inQ lo hi x = true then (if decide (b.1 < cnt row x.1) = true then (cnt row x.1, x.1) else b) else b
def deepest (row : List S3) (lo hi : Int) : Int × Int := row.foldl (deepStep row lo hi) (cnt row lo, lo)
structure Deep (row : List S3) (lo hi : Int) (pre : List S3) (b : Int × Int) : Prop where
  is : b.1 = cnt row b.2
  dlo : lo ≤ b.2
  dhi : b.2 ≤ hi
  at' : b.2 = lo ∨ ∃ x ∈ pre, x.1 = b.2
  best : ∀ p, (p = lo ∨ ∃ x ∈ pre, x.1 = p ∧ lo < p ∧ p ≤ hi) → cnt row p < b.1 ∨ (cnt row p = b.1 ∧ b.2 ≤ p)
theorem deep_step {row pre : List S3} {lo hi : Int} {b : Int × Int} (h : Deep row lo hi pre b) (x : S3) (hs : ∀ y ∈ pre, y.1 ≤ x.1) : Deep row lo hi (pre ++ [x]) (deepStep row lo hi b x) := by
  have old : ∀ p, (p = lo ∨ ∃ y ∈ pre ++ [x], y.1 = p ∧ lo < p ∧ p ≤ hi) → (p = lo ∨ ∃ y ∈ pre, y.1 = p ∧ lo < p ∧ p ≤ hi) ∨ (p = x.1 ∧ lo < p ∧ p ≤ hi) := fun p hp => by
    rcases hp with z | ⟨y, hy, e⟩
    · exact .inl (.inl z)
    · rcases List.mem_append.mp hy with q | q
      · exact .inl (.inr ⟨y, q, e⟩)
      · rw [List.mem_singleton] at q
        subst q
        exact .inr ⟨e.1.symm, e.2⟩
  have keep : b.2 = lo ∨ ∃ y ∈ pre ++ [x], y.1 = b.2 := by
    rcases h.at' with z | ⟨y, hy, e⟩
    · exact .inl z
    · exact .inr ⟨y, List.mem_append_left _ hy, e⟩
  unfold deepStep
  split
  · rename_i hq
    have hq1 := (Bool.and_eq_true _ _ ▸ hq : _ ∧ _)
    have q1 := of_decide_eq_true hq1.1
    have q2 := of_decide_eq_true hq1.2
    split
    · rename_i hm
      have hm := of_decide_eq_true hm
      refine ⟨rfl, by show lo ≤ x.1; omega, q2, .inr ⟨x, List.mem_append_right _ List.mem_cons_self, rfl⟩, fun p hp => ?_⟩
      rcases old p hp with z | ⟨rfl, _⟩
      · have := h.best p z
        exact .inl (by show cnt row p < cnt row x.1; omega)
      · exact .inr ⟨rfl, Int.le_refl _⟩
    · rename_i hm
      have hm : ¬ b.1 < cnt row x.1 := fun z => hm (decide_eq_true z)
      refine ⟨h.is, h.dlo, h.dhi, keep, fun p hp => ?_⟩
      rcases old p hp with z | ⟨rfl, _⟩
      · exact h.best p z
      · have hb : b.2 ≤ x.1 := by
          rcases h.at' with z | ⟨y, hy, e⟩
          · omega
          · rw [← e]; exact hs y hy
        omega
  · rename_i hq
    refine ⟨h.is, h.dlo, h.dhi, keep, fun p hp => ?_⟩
    rcases old p hp with z | ⟨rfl, e1, e2⟩
    · exact h.best p z
    · exact absurd (show inQ lo hi x = true by unfold inQ; rw [decide_eq_true e1, decide_eq_true e2]; rfl) hq
theorem deep_all {row : List S3} {lo hi : Int} : ∀ (rest pre : List S3) (b : Int × Int), Deep row lo hi pre b → (∀ y ∈ pre, ∀ x ∈ rest, y.1 ≤ x.1) → rest.Pairwise (fun a b => sLe a b = true) → Deep row lo hi (pre ++ rest) (rest.foldl (deepStep row lo hi) b)
  | [], pre, b, h, _, _ => by rw [List.append_nil]; exact h
  | x :: rest, pre, b, h, h2, h3 => by
    rw [List.pairwise_cons] at h3
    have := deep_all rest (pre ++ [x]) _ (deep_step h x fun y hy => h2 y hy x List.mem_cons_self) (fun y hy z hz => by
      rcases List.mem_append.mp hy with q | q
      · exact h2 y q z (List.mem_cons_of_mem _ hz)
      · rw [List.mem_singleton] at q
        subst q
        have := (sLe_iff _ _).mp (h3.1 z hz)
        omega) h3.2
    rw [List.append_assoc] at this
    exact this
theorem deepest_deep {row : List S3} {lo hi : Int} (h : lo ≤ hi) (hs : row.Pairwise fun a b => sLe a b = true) : Deep row lo hi row (deepest row lo hi) :=
  deep_all row [] (cnt row lo, lo) ⟨rfl, Int.le_refl _, h, .inl rfl, fun p hp => by
    rcases hp with rfl | ⟨x, hx, _⟩
    · exact .inr ⟨rfl, Int.le_refl _⟩
    · exact absurd hx (by simp)⟩ (fun y hy => absurd hy (by simp)) hs
def ΦMany (ds : List PyData) (d : PyData) : Prop := ∃ (row : List S3) (p : Int), ds = [.list (row.map encS), .int p] ∧ row.length ≤ 1000 ∧ d = .int (cnt row p)
theorem scManyAt : FnScope ["row", "place", "one"] ["row", "place"] (defScope sManyAt) := ⟨rfl, rfl, rfl, by decide +kernel, rfl, by decide +kernel, by decide +kernel⟩
theorem ok_manyAt {f : Addr} {fd : FuncData} (F : Fun K "many_at" "many_at" sManyAt f fd) (mlen : mg "len" = none) : FnOk P w K mg base CX0 1 f fd ["row", "place"] (SpD K ΦMany) := by
  refine okD F scManyAt (fun ds d h => ?_) (fun cdv A outer s H E Z ds d hr h => ?_)
  · obtain ⟨_, _, rfl, _⟩ := h; rfl
  · obtain ⟨row, p, rfl, hrow, rfl⟩ := h
    refine h_ret (pd_len (pd_of_n (pn_lc encS row (holdsP p) encS 2 (pit_list (pd_name 0 rfl)) scManyAt.nd (by rfl) (fun _ _ _ _ _ => pg_name (i := 2) scManyAt.nd rfl (Or.inl rfl)) (fun b hb _ _ _ _ _ _ => (pbs_one (pb_chain (pw_of (pd_ix (pd_name 2 rfl) pd_int (by walk_at "ix")) (by walk_at "asw")) (pw_of (pd_name 1 rfl) (by walk_at "asw")) (fun _ => (pw_of (pd_ix (pd_name 2 rfl) pd_int (by walk_at "ix")) (by walk_at "asw"))) (by walk_at "cmp") (by walk_at "cmp")))) (fun b hb ht _ _ _ _ _ _ => (pd_name 2 rfl)) (small1000 hrow))) (by walk_at "len") (by assumption)) ?_
    rw [List.length_map]
    exact .d _
def ΦDeep (ds : List PyData) (d : PyData) : Prop := ∃ (row : List S3) (lo hi : Int), ds = [.list (row.map encS), .int lo, .int hi] ∧ row.length ≤ 1000 ∧ InR lo ∧ InR hi ∧ lo ≤ hi ∧ d = .tuple [.int (deepest row lo hi).1, .int (deepest row lo hi).2]
theorem scDeepestOf : FnScope ["row", "low", "high", "best", "one", "many"] ["row", "low", "high"] (defScope sDeepestOf) := ⟨rfl, rfl, rfl, by decide +kernel, rfl, by decide +kernel, by decide +kernel⟩
theorem ok_deepestOf {f : Addr} {fd : FuncData} (F : Fun K "deepest_of" "deepest_of" sDeepestOf f fd) (cNeedPair : Cal P w K mg base 2 "need_pair" ["low", "high"] (SpD K ΦPair)) (cManyAt : Cal P w K mg base 1 "many_at" ["row", "place"] (SpD K ΦMany)) : FnOk P w K mg base CX0 3 f fd ["row", "low", "high"] (SpD K ΦDeep) := by
  refine okD F scDeepestOf (fun ds d h => ?_) (fun cdv A outer s H E Z ds d hr h => ?_)
  · obtain ⟨_, _, _, rfl, _⟩ := h; rfl
  · obtain ⟨row, lo, hi, rfl, hrow, hlo, hhi, hle, rfl⟩ := h
    refine h_expr (pd_fn cNeedPair (hr.mono (by decide)) (pdd_cons (pd_name 1 rfl) (pdd_cons (pd_name 2 rfl) pdd_nil)) (by walk_at "phi need_pair")) ?_
    refine h_set 3 (pd_tup (pdd_cons (pd_fn cManyAt (hr.mono (by decide)) (pdd_cons (pd_name 0 rfl) (pdd_cons (pd_name 1 rfl) pdd_nil)) ⟨_, _, rfl, hrow, rfl⟩) (pdd_cons (pd_name 1 rfl) pdd_nil))) ?_ scDeepestOf.nd
    refine h_for (fun k own ρ => own = [] ∧ ∃ (b : Int × Int) (x4 x5 : Sl), ρ = [.d (.list (row.map encS)), .d (.int lo), .d (.int hi), .d (.tuple [.int b.1, .int b.2]), x4, x5] ∧ (row.drop k).foldl (deepStep row lo hi) b = deepest row lo hi)
      (pit_list (pd_name 0 rfl)) _ (fun d _ => (tg_name 4 scDeepestOf.nd)) ⟨rfl, (cnt row lo, lo), _, _, rfl, rfl⟩ (fun F k own' ρ' d hk j => ?_) (fun own' ρ' j => ?_)
    · obtain ⟨hk', rfl, hd⟩ := drop_at hk
      obtain ⟨rfl, b, x4, x5, rfl, he⟩ := j
      rw [hd, List.foldl_cons] at he
      generalize row[k] = one at he
      refine h_if (pb_chain (pw_of (pd_name 1 rfl) (by walk_at "asw")) (pw_of (pd_ix (pd_name 4 rfl) pd_int (by walk_at "ix")) (by walk_at "asw")) (fun _ => (pw_of (pd_name 2 rfl) (by walk_at "asw"))) (by walk_at "cmp") (by walk_at "cmp")) (fun hb => ?_) (fun hb => ?_)
      · refine h_set 5 (pd_fn cManyAt (hr.mono (by decide)) (pdd_cons (pd_name 0 rfl) (pdd_cons (pd_ix (pd_name 4 rfl) pd_int (by walk_at "ix")) pdd_nil)) ⟨_, _, rfl, hrow, rfl⟩) ?_ scDeepestOf.nd
        have hq : inQ lo hi one = true := hb
        refine h_if (pb_cmp (pw_of (pd_name 5 rfl) (by walk_at "asw")) (pw_of (pd_ix (pd_name 3 rfl) pd_int (by walk_at "ix")) (by walk_at "asw")) (by walk_at "cmp") (nomark _)) (fun hb2 => ?_) (fun hb2 => ?_)
        · refine h_set 3 (pd_tup (pdd_cons (pd_name 5 rfl) (pdd_cons (pd_ix (pd_name 4 rfl) pd_int (by walk_at "ix")) pdd_nil))) ?_ scDeepestOf.nd
          have e : deepStep row lo hi b one = (cnt row one.1, one.1) := by unfold deepStep; rw [if_pos hq, if_pos hb2]
          rw [e] at he
          exact h_nil (h_nil (h_nil ⟨rfl, _, _, _, rfl, he⟩))
        · have e : deepStep row lo hi b one = b := by unfold deepStep; rw [if_pos hq, if_neg (by rw [hb2]; exact Bool.false_ne_true)]
          rw [e] at he
          exact h_nil (h_nil (h_nil ⟨rfl, _, _, _, rfl, he⟩))
      · have hq : inQ lo hi one = false := hb
        have e : deepStep row lo hi b one = b := by unfold deepStep; rw [if_neg (by rw [hq]; exact Bool.false_ne_true)]
        rw [e] at he
        exact h_nil (h_nil ⟨rfl, _, _, _, rfl, he⟩)
    · obtain ⟨rfl, b, x4, x5, rfl, he⟩ := j
      rw [List.length_map, List.drop_length] at he
      rw [← he]
      exact h_ret (pd_name 3 rfl) (.d _)
end
end L3
set_option Elab.async false
set_option linter.all false
set_option autoImplicit false
set_option maxRecDepth 100000
set_option maxHeartbeats 4000000
namespace L3
open PySem PySem.Spec L2
local macro_rules | `(tactic| walk_at "bin") => `(tactic| first | exact bin_add | exact bin_sub | exact bin_fdiv ⟨by decide, by decide⟩ | exact bin_mod (by decide) | exact bin_pow ⟨by decide, by decide, by decide⟩ | exact bin_mul (mul_small (by decide)) | exact bin_mul (by with_reducible assumption) | exact bin_catL (.d _) (.d _) (by assumption))
local macro_rules | `(tactic| walk_at "mem") => `(tactic| first | exact List.mem_cons_self | exact List.mem_cons_of_mem _ List.mem_cons_self | exact List.mem_cons_of_mem _ (List.mem_cons_of_mem _ List.mem_cons_self) | assumption)
local macro_rules | `(tactic| walk_at "asw") => `(tactic| first | exact .d _ | exact .o (by walk_at "mem") | exact .v _)
local macro_rules | `(tactic| walk_at "asl") => `(tactic| first | exact .d _ | exact .o (by walk_at "mem"))
local macro_rules | `(tactic| walk_at "len") => `(tactic| first | exact .l _ | exact .t _ | exact .o (by walk_at "mem") | exact .s _)
local macro_rules | `(tactic| walk_at "ix") => `(tactic| first | exact .t rfl | exact .l rfl | exact .l (by assumption) | exact .o (by walk_at "mem") rfl | exact .o (by walk_at "mem") (by assumption))
local macro_rules | `(tactic| walk_at "cmp") => `(tactic| first | exact cmp_eqI | exact cmp_neI | exact cmp_le | exact cmp_lt | exact cmp_ge | exact cmp_gt | exact cmp_eqB | exact cmp_neB | exact cmp_eqS | exact cmp_neS | exact cmp_isN | exact cmp_notN | exact cmp_isnotB)
local macro_rules | `(tactic| walk_at "kit") => `(tactic| first | exact kit_ii | exact kit_bb | exact kit_tt | exact kit_ll | exact kit_ib | exact kit_bi | exact kit_it | exact kit_ni | exact kit_si | exact kit_ti | exact kit_li)
local macro_rules | `(tactic| walk_at "phi _law_is_int") => `(tactic| exact ⟨_, rfl, rfl⟩)
section
variable {P : Program} {w : World} {K : PySem.W.Frag} {mg : Str → Option Value} {base : Heap}
theorem scOver : FnScope ["_law_row_here", "_law_place", "_law_one"] ["_law_row_here", "_law_place"] (defScope sOver) := ⟨rfl, rfl, rfl, by decide +kernel, rfl, by decide +kernel, by decide +kernel⟩
theorem ok_over {f : Addr} {fd : FuncData} (F : Fun K "_law_over" "_law_over" sOver f fd) (mlen : mg "len" = none) : FnOk P w K mg base CX0 1 f fd ["_law_row_here", "_law_place"] (SpD K ΦMany) := by
  refine okD F scOver (fun ds d h => ?_) (fun cdv A outer s H E Z ds d hr h => ?_)
  · obtain ⟨_, _, rfl, _⟩ := h; rfl
  · obtain ⟨row, p, rfl, hrow, rfl⟩ := h
    refine h_ret (pd_len (pd_of_n (pn_lc encS row (holdsP p) encS 2 (pit_list (pd_name 0 rfl)) scOver.nd (by rfl) (fun _ _ _ _ _ => pg_name (i := 2) scOver.nd rfl (Or.inl rfl)) (fun b hb _ _ _ _ _ _ => (pbs_one (pb_chain (pw_of (pd_ix (pd_name 2 rfl) pd_int (by walk_at "ix")) (by walk_at "asw")) (pw_of (pd_name 1 rfl) (by walk_at "asw")) (fun _ => (pw_of (pd_ix (pd_name 2 rfl) pd_int (by walk_at "ix")) (by walk_at "asw"))) (by walk_at "cmp") (by walk_at "cmp")))) (fun b hb ht _ _ _ _ _ _ => (pd_name 2 rfl)) (small1000 hrow))) (by walk_at "len") (by assumption)) ?_
    rw [List.length_map]
    exact .d _
/-! ### the law -/
def ΦLaw (ds : List PyData) (d : PyData) : Prop := ∃ ns : List Int, ds = [scrD ns] ∧ ns.length ≤ 63 ∧ (∀ n ∈ ns, Builtin.Int.intBits n ≤ 1048576) ∧ d = .bool true
theorem scLaw : FnScope ["_law_script", "_law_row_here", "_law_ask_here", "_law_handed", "_law_found", "_law_place", "_law_one", "_law_many"] ["_law_script"] (defScope sLaw) := ⟨rfl, rfl, rfl, by decide +kernel, rfl, by decide +kernel, by decide +kernel⟩
theorem ok_law {f : Addr} {fd : FuncData} (F : Fun K "law" "law" sLaw f fd) (cRow : Cal P w K mg base 2 "_law_row" ["_law_script", "_law_at_here"] (SpD K ΦRow)) (cAsk : Cal P w K mg base 2 "_law_ask" ["_law_script", "_law_at_here", "_law_row_here"] (SpD K ΦAsk))
    (cDeepestOf : Cal P w K mg base 3 "deepest_of" ["row", "low", "high"] (SpD K ΦDeep)) (cOver : Cal P w K mg base 1 "_law_over" ["_law_row_here", "_law_place"] (SpD K ΦMany)) (cListIs : Cal P w K mg base 3 "_law_list_is" ["_law_found", "_law_due"] (SpD K ΦListIs))
    (cIsInt : Cal P w K mg base 1 "_law_is_int" ["_law_value"] (SpD K ΦIsInt)) (mlist : mg "list" = none) (misi : mg "isinstance" = none) (mtup : mg "tuple" = none) (mlen : mg "len" = none) : FnOk P w K mg base CX0 4 f fd ["_law_script"] (SpD K ΦLaw) := by
  refine okD F scLaw (fun ds d h => ?_) (fun cdv A outer s H E Z ds d hr h => ?_)
  · obtain ⟨_, rfl, _⟩ := h; rfl
  · obtain ⟨ns, rfl, hl, hb, rfl⟩ := h
    refine h_set 1 (pd_fn cRow (hr.mono (by decide)) (pdd_cons (pd_name 0 rfl) (pdd_cons pd_int pdd_nil)) ⟨ns, 4, rfl, by omega, hb, rfl⟩) ?_ scLaw.nd
    have hlen := rowOf_len ns 4
    have hso := rowOf_sorted ns 4
    generalize rowOf ns 4 = row at hlen hso ⊢
    refine h_set 2 (pd_fn cAsk (hr.mono (by decide)) (pdd_cons (pd_name 0 rfl) (pdd_cons pd_int (pdd_cons (pd_name 1 rfl) pdd_nil))) ⟨ns, 0, row, rfl, by omega, hb, by omega, rfl⟩) ?_ scLaw.nd
    obtain ⟨hA, hB, hAB⟩ := ask_in ns 0 row
    generalize askL ns 0 row = lo at hA hAB ⊢
    generalize askH ns 0 row = hi at hB hAB ⊢
    have hd := deepest_deep hAB hso
    refine h_set 3 (pd_of_n (pn_listOf (pl_of (pd_name 1 rfl) (by walk_at "asl")) (by assumption))) ?_ scLaw.nd
    refine h_set 4 (pd_fn cDeepestOf (hr.mono (by decide)) (pdd_cons (pd_name 3 rfl) (pdd_cons (pd_ix (pd_name 2 rfl) pd_int (by walk_at "ix")) (pdd_cons (pd_ix (pd_name 2 rfl) pd_int (by walk_at "ix")) pdd_nil))) ⟨_, _, _, rfl, by omega, hA, hB, hAB, rfl⟩) ?_ scLaw.nd
    generalize deepest row lo hi = b at hd ⊢
    obtain ⟨d1, d2, d3, _, d5⟩ := hd
    refine h_if (pb_bo (pbo_cons (pb_not (pb_val (pd_isi (pw_of (pd_name 4 rfl) (by walk_at "asw")) (by walk_at "kit") (by assumption) (by assumption) boot_tuple))) fun _ => (pbo_cons (pb_cmp (pw_of (pd_len (pd_name 4 rfl) (by walk_at "len") (by assumption)) (by walk_at "asw")) (pw_of pd_int (by walk_at "asw")) (by walk_at "cmp") (nomark _)) fun _ => (pbo_one (pb_not (pb_val (pd_fn cListIs (hr.mono (by decide)) (pdd_cons (pd_name 3 rfl) (pdd_cons (pd_name 1 rfl) pdd_nil)) ⟨_, rfl, rows_S _, by rw [List.length_map]; omega, rfl⟩))))))) (fun hb => ?_) (fun hb => ?_)
    · exact absurd hb (by show ¬ (false = true); decide)
    refine h_nil (h_if (pb_bo (pbo_cons (pb_not (pb_val (pd_fn cIsInt (hr.mono (by decide)) (pdd_cons (pd_ix (pd_name 4 rfl) pd_int (by walk_at "ix")) pdd_nil) (by walk_at "phi _law_is_int")))) fun _ => (pbo_cons (pb_not (pb_val (pd_fn cIsInt (hr.mono (by decide)) (pdd_cons (pd_ix (pd_name 4 rfl) pd_int (by walk_at "ix")) pdd_nil) (by walk_at "phi _law_is_int")))) fun _ => (pbo_one (pb_not (pb_chain (pw_of (pd_ix (pd_name 2 rfl) pd_int (by walk_at "ix")) (by walk_at "asw")) (pw_of (pd_ix (pd_name 4 rfl) pd_int (by walk_at "ix")) (by walk_at "asw")) (fun _ => (pw_of (pd_ix (pd_name 2 rfl) pd_int (by walk_at "ix")) (by walk_at "asw"))) (by walk_at "cmp") (by walk_at "cmp"))))))) (fun hb => ?_) (fun hb => ?_))
    · rw [decide_eq_true d2, decide_eq_true d3] at hb
      exact absurd hb (by decide)
    refine h_nil (h_if (pb_cmp (pw_of (pd_fn cOver (hr.mono (by decide)) (pdd_cons (pd_name 1 rfl) (pdd_cons (pd_ix (pd_name 4 rfl) pd_int (by walk_at "ix")) pdd_nil)) ⟨_, _, rfl, by omega, rfl⟩) (by walk_at "asw")) (pw_of (pd_ix (pd_name 4 rfl) pd_int (by walk_at "ix")) (by walk_at "asw")) (by walk_at "cmp") (nomark _)) (fun hb => ?_) (fun hb => ?_))
    · rw [decide_eq_true d1.symm] at hb
      exact absurd hb (by decide)
    have hz : [PyData.int lo].length + ((row.filter fun x => decide (lo ≤ x.1) && decide (x.1 ≤ hi)).map fun x => PyData.int x.1).length ≤ sizeLine := by
      rw [List.length_map]
      have := List.length_filter_le (fun x : S3 => decide (lo ≤ x.1) && decide (x.1 ≤ hi)) row
      exact Nat.le_of_lt (small1000 (by simp; omega))
    refine h_nil (h_for (fun _ own ρ => own = [] ∧ ∃ (x5 x6 x7 : Sl), ρ = [.d (scrD ns), .d (.list (row.map encS)), .d (.tuple [.int lo, .int hi]), .d (.list (row.map encS)), .d (.tuple [.int b.1, .int b.2]), x5, x6, x7])
      (pit_list (pd_bin (pd_of_n (pn_lst (pdd_cons (pd_ix (pd_name 2 rfl) pd_int (by walk_at "ix")) pdd_nil))) (pd_of_n (pn_lc encS row (fun x => decide (lo ≤ x.1) && decide (x.1 ≤ hi)) (fun x => PyData.int x.1) 6 (pit_list (pd_name 1 rfl)) scLaw.nd (by rfl) (fun _ _ _ _ _ => pg_name (i := 6) scLaw.nd rfl (Or.inl rfl)) (fun b hb _ _ _ _ _ _ => (pbs_one (pb_chain (pw_of (pd_ix (pd_name 2 rfl) pd_int (by walk_at "ix")) (by walk_at "asw")) (pw_of (pd_ix (pd_name 6 rfl) pd_int (by walk_at "ix")) (by walk_at "asw")) (fun _ => (pw_of (pd_ix (pd_name 2 rfl) pd_int (by walk_at "ix")) (by walk_at "asw"))) (by walk_at "cmp") (by walk_at "cmp")))) (fun b hb ht _ _ _ _ _ _ => (pd_ix (pd_name 6 rfl) pd_int (by walk_at "ix"))) (small1000 (by omega)))) (bin_catL (.d _) (.d _) hz))) _ (fun d _ => (tg_name 5 scLaw.nd)) ⟨rfl, _, _, _, rfl⟩ (fun F k own' ρ' d hk j => ?_) (fun own' ρ' j => ?_))
    · obtain ⟨rfl, x5, x6, x7, rfl⟩ := j
      have hp : ∃ p, d = .int p ∧ (p = lo ∨ ∃ x ∈ row, x.1 = p ∧ lo < p ∧ p ≤ hi) := by
        rcases List.mem_append.mp (List.mem_of_getElem? hk) with z | z
        · rw [List.mem_singleton] at z
          exact ⟨lo, z, .inl rfl⟩
        · obtain ⟨x, hx, rfl⟩ := List.mem_map.mp z
          obtain ⟨hx1, hx2⟩ := List.mem_filter.mp hx
          rw [Bool.and_eq_true] at hx2
          have e1 := of_decide_eq_true hx2.1
          have e2 := of_decide_eq_true hx2.2
          refine ⟨x.1, rfl, ?_⟩
          by_cases e : x.1 = lo
          · exact .inl e
          · exact .inr ⟨x, hx1, rfl, by omega, e2⟩
      obtain ⟨p, rfl, hp⟩ := hp
      have hbest := d5 p hp
      refine h_set 7 (pd_fn cOver (hr.mono (by decide)) (pdd_cons (pd_name 1 rfl) (pdd_cons (pd_name 5 rfl) pdd_nil)) ⟨_, _, rfl, by omega, rfl⟩) ?_ scLaw.nd
      refine h_if (pb_bo (pbo_cons (pb_cmp (pw_of (pd_name 7 rfl) (by walk_at "asw")) (pw_of (pd_ix (pd_name 4 rfl) pd_int (by walk_at "ix")) (by walk_at "asw")) (by walk_at "cmp") (nomark _)) fun _ => (pbo_one (pb_bo (pba_cons (pb_cmp (pw_of (pd_name 7 rfl) (by walk_at "asw")) (pw_of (pd_ix (pd_name 4 rfl) pd_int (by walk_at "ix")) (by walk_at "asw")) (by walk_at "cmp") (nomark _)) fun _ => (pba_one (pb_cmp (pw_of (pd_name 5 rfl) (by walk_at "asw")) (pw_of (pd_ix (pd_name 4 rfl) pd_int (by walk_at "ix")) (by walk_at "asw")) (by walk_at "cmp") (nomark _)))))))) (fun hb => ?_) (fun hb => ?_)
      · simp at hb
        omega
      · exact h_nil (h_nil ⟨rfl, _, _, _, rfl⟩)
    · exact h_ret pd_bl (.d _)
end
end L3
set_option Elab.async false
set_option linter.all false
set_option maxRecDepth 100000
set_option maxHeartbeats 4000000
namespace L3
open PySem PySem.Spec L2
/-! ### what the top has written, the head -/
theorem all_mk {l : PySem.W.OpenLaw} {w : World} {K : PySem.W.Frag} {h : Heap} {mg : Str → Option Value} {fa fIsNumber fNeedPair fManyAt fDeepestOf fAt fIsInt fMade fTupleIs fListIs fRow fAsk fOver fLaw  : Addr} (X : K.In h) (G : h.Ns mainGlobals mg) (hfa : mg "law" = some (.ref fa))
    {odIsNumber anIsNumber : Option Addr} {slIsNumber : Array (Option Value)} {ocIsNumber kVIsNumber dcIsNumber pmIsNumber cdIsNumber ctIsNumber : Value} {odNeedPair anNeedPair : Option Addr} {slNeedPair : Array (Option Value)} {ocNeedPair kVNeedPair dcNeedPair pmNeedPair cdNeedPair ctNeedPair : Value} {odManyAt anManyAt : Option Addr} {slManyAt : Array (Option Value)} {ocManyAt kVManyAt dcManyAt pmManyAt cdManyAt ctManyAt : Value} {odDeepestOf anDeepestOf : Option Addr} {slDeepestOf : Array (Option Value)} {ocDeepestOf kVDeepestOf dcDeepestOf pmDeepestOf cdDeepestOf ctDeepestOf : Value} {odAt anAt : Option Addr} {slAt : Array (Option Value)} {ocAt kVAt dcAt pmAt cdAt ctAt : Value} {odIsInt anIsInt : Option Addr} {slIsInt : Array (Option Value)} {ocIsInt kVIsInt dcIsInt pmIsInt cdIsInt ctIsInt : Value} {odMade anMade : Option Addr} {slMade : Array (Option Value)} {ocMade kVMade dcMade pmMade cdMade ctMade : Value} {odTupleIs anTupleIs : Option Addr} {slTupleIs : Array (Option Value)} {ocTupleIs kVTupleIs dcTupleIs pmTupleIs cdTupleIs ctTupleIs : Value} {odListIs anListIs : Option Addr} {slListIs : Array (Option Value)} {ocListIs kVListIs dcListIs pmListIs cdListIs ctListIs : Value} {odRow anRow : Option Addr} {slRow : Array (Option Value)} {ocRow kVRow dcRow pmRow cdRow ctRow : Value} {odAsk anAsk : Option Addr} {slAsk : Array (Option Value)} {ocAsk kVAsk dcAsk pmAsk cdAsk ctAsk : Value} {odOver anOver : Option Addr} {slOver : Array (Option Value)} {ocOver kVOver dcOver pmOver cdOver ctOver : Value} {odLaw anLaw : Option Addr} {slLaw : Array (Option Value)} {ocLaw kVLaw dcLaw pmLaw cdLaw ctLaw : Value} {tMOST : Tok}
    (aIsNumber : PySem.W.nsIn K mainGlobals "is_number" = some (some (.ref fIsNumber)))
    (lIsNumber : K.lookup fIsNumber = some ⟨ocIsNumber, odIsNumber, .func (PySem.W.fnOf "is_number" "is_number" (defArgs sIsNumber) (defBody sIsNumber) (defScope sIsNumber) .none kVIsNumber dcIsNumber pmIsNumber anIsNumber cdIsNumber ctIsNumber), slIsNumber⟩)
    (cIsNumber : PySem.W.codeIn K cdIsNumber "is_number" = true)
    (kIsNumber : PySem.W.keepIn K (.ref fIsNumber) = true)
    (aNeedPair : PySem.W.nsIn K mainGlobals "need_pair" = some (some (.ref fNeedPair)))
    (lNeedPair : K.lookup fNeedPair = some ⟨ocNeedPair, odNeedPair, .func (PySem.W.fnOf "need_pair" "need_pair" (defArgs sNeedPair) (defBody sNeedPair) (defScope sNeedPair) .none kVNeedPair dcNeedPair pmNeedPair anNeedPair cdNeedPair ctNeedPair), slNeedPair⟩)
    (cNeedPair : PySem.W.codeIn K cdNeedPair "need_pair" = true)
    (kNeedPair : PySem.W.keepIn K (.ref fNeedPair) = true)
    (aManyAt : PySem.W.nsIn K mainGlobals "many_at" = some (some (.ref fManyAt)))
    (lManyAt : K.lookup fManyAt = some ⟨ocManyAt, odManyAt, .func (PySem.W.fnOf "many_at" "many_at" (defArgs sManyAt) (defBody sManyAt) (defScope sManyAt) .none kVManyAt dcManyAt pmManyAt anManyAt cdManyAt ctManyAt), slManyAt⟩)
    (cManyAt : PySem.W.codeIn K cdManyAt "many_at" = true)
    (kManyAt : PySem.W.keepIn K (.ref fManyAt) = true)
    (aDeepestOf : PySem.W.nsIn K mainGlobals "deepest_of" = some (some (.ref fDeepestOf)))
    (lDeepestOf : K.lookup fDeepestOf = some ⟨ocDeepestOf, odDeepestOf, .func (PySem.W.fnOf "deepest_of" "deepest_of" (defArgs sDeepestOf) (defBody sDeepestOf) (defScope sDeepestOf) .none kVDeepestOf dcDeepestOf pmDeepestOf anDeepestOf cdDeepestOf ctDeepestOf), slDeepestOf⟩)
    (cDeepestOf : PySem.W.codeIn K cdDeepestOf "deepest_of" = true)
    (kDeepestOf : PySem.W.keepIn K (.ref fDeepestOf) = true)
    (aAt : PySem.W.nsIn K mainGlobals "_law_at" = some (some (.ref fAt)))
    (lAt : K.lookup fAt = some ⟨ocAt, odAt, .func (PySem.W.fnOf "_law_at" "_law_at" (defArgs sAt) (defBody sAt) (defScope sAt) .none kVAt dcAt pmAt anAt cdAt ctAt), slAt⟩)
    (cAt : PySem.W.codeIn K cdAt "_law_at" = true)
    (kAt : PySem.W.keepIn K (.ref fAt) = true)
    (aIsInt : PySem.W.nsIn K mainGlobals "_law_is_int" = some (some (.ref fIsInt)))
    (lIsInt : K.lookup fIsInt = some ⟨ocIsInt, odIsInt, .func (PySem.W.fnOf "_law_is_int" "_law_is_int" (defArgs sIsInt) (defBody sIsInt) (defScope sIsInt) .none kVIsInt dcIsInt pmIsInt anIsInt cdIsInt ctIsInt), slIsInt⟩)
    (cIsInt : PySem.W.codeIn K cdIsInt "_law_is_int" = true)
    (kIsInt : PySem.W.keepIn K (.ref fIsInt) = true)
    (aMade : PySem.W.nsIn K mainGlobals "_law_made" = some (some (.ref fMade)))
    (lMade : K.lookup fMade = some ⟨ocMade, odMade, .func (PySem.W.fnOf "_law_made" "_law_made" (defArgs sMade) (defBody sMade) (defScope sMade) .none kVMade dcMade pmMade anMade cdMade ctMade), slMade⟩)
    (cMade : PySem.W.codeIn K cdMade "_law_made" = true)
    (kMade : PySem.W.keepIn K (.ref fMade) = true)
    (aTupleIs : PySem.W.nsIn K mainGlobals "_law_tuple_is" = some (some (.ref fTupleIs)))
    (lTupleIs : K.lookup fTupleIs = some ⟨ocTupleIs, odTupleIs, .func (PySem.W.fnOf "_law_tuple_is" "_law_tuple_is" (defArgs sTupleIs) (defBody sTupleIs) (defScope sTupleIs) .none kVTupleIs dcTupleIs pmTupleIs anTupleIs cdTupleIs ctTupleIs), slTupleIs⟩)
    (cTupleIs : PySem.W.codeIn K cdTupleIs "_law_tuple_is" = true)
    (kTupleIs : PySem.W.keepIn K (.ref fTupleIs) = true)
    (aListIs : PySem.W.nsIn K mainGlobals "_law_list_is" = some (some (.ref fListIs)))
    (lListIs : K.lookup fListIs = some ⟨ocListIs, odListIs, .func (PySem.W.fnOf "_law_list_is" "_law_list_is" (defArgs sListIs) (defBody sListIs) (defScope sListIs) .none kVListIs dcListIs pmListIs anListIs cdListIs ctListIs), slListIs⟩)
    (cListIs : PySem.W.codeIn K cdListIs "_law_list_is" = true)
    (kListIs : PySem.W.keepIn K (.ref fListIs) = true)
    (aRow : PySem.W.nsIn K mainGlobals "_law_row" = some (some (.ref fRow)))
    (lRow : K.lookup fRow = some ⟨ocRow, odRow, .func (PySem.W.fnOf "_law_row" "_law_row" (defArgs sRow) (defBody sRow) (defScope sRow) .none kVRow dcRow pmRow anRow cdRow ctRow), slRow⟩)
    (cRow : PySem.W.codeIn K cdRow "_law_row" = true)
    (kRow : PySem.W.keepIn K (.ref fRow) = true)
    (aAsk : PySem.W.nsIn K mainGlobals "_law_ask" = some (some (.ref fAsk)))
    (lAsk : K.lookup fAsk = some ⟨ocAsk, odAsk, .func (PySem.W.fnOf "_law_ask" "_law_ask" (defArgs sAsk) (defBody sAsk) (defScope sAsk) .none kVAsk dcAsk pmAsk anAsk cdAsk ctAsk), slAsk⟩)
    (cAsk : PySem.W.codeIn K cdAsk "_law_ask" = true)
    (kAsk : PySem.W.keepIn K (.ref fAsk) = true)
    (aOver : PySem.W.nsIn K mainGlobals "_law_over" = some (some (.ref fOver)))
    (lOver : K.lookup fOver = some ⟨ocOver, odOver, .func (PySem.W.fnOf "_law_over" "_law_over" (defArgs sOver) (defBody sOver) (defScope sOver) .none kVOver dcOver pmOver anOver cdOver ctOver), slOver⟩)
    (cOver : PySem.W.codeIn K cdOver "_law_over" = true)
    (kOver : PySem.W.keepIn K (.ref fOver) = true)
    (aLaw : PySem.W.nsIn K mainGlobals "law" = some (some (.ref fLaw)))
    (lLaw : K.lookup fLaw = some ⟨ocLaw, odLaw, .func (PySem.W.fnOf "law" "law" (defArgs sLaw) (defBody sLaw) (defScope sLaw) .none kVLaw dcLaw pmLaw anLaw cdLaw ctLaw), slLaw⟩)
    (cLaw : PySem.W.codeIn K cdLaw "law" = true)
    (kLaw : PySem.W.keepIn K (.ref fLaw) = true)
    (zisinstance : PySem.W.nsIn K mainGlobals "isinstance" = some none)
    (zint : PySem.W.nsIn K mainGlobals "int" = some none)
    (zbool : PySem.W.nsIn K mainGlobals "bool" = some none)
    (ztuple : PySem.W.nsIn K mainGlobals "tuple" = some none)
    (zlist : PySem.W.nsIn K mainGlobals "list" = some none)
    (zlen : PySem.W.nsIn K mainGlobals "len" = some none)
    (zrange : PySem.W.nsIn K mainGlobals "range" = some none)
    (zsorted : PySem.W.nsIn K mainGlobals "sorted" = some none)
    (zmin : PySem.W.nsIn K mainGlobals "min" = some none)
    (zmax : PySem.W.nsIn K mainGlobals "max" = some none)
    (qMOST : PySem.W.nsIn K mainGlobals "MOST" = some (some (.int MOSTI tMOST)))
    : ∃ fd : FuncData, (∀ (s : Shared) (v : Value), BindsTo s fd ⟨[v], []⟩ [("_law_script", v)]) ∧ ∀ base : Heap, K.In base → base.Ns mainGlobals mg → FnOk l.prog w K mg base CX0 4 fa fd ["_law_script"] (SpD K ΦLaw) := by
  have e := hfa.symm.trans (PySem.W.mg_of X G aLaw)
  cases e
  have FIsNumber := fun_mk (st := sIsNumber) lIsNumber cIsNumber kIsNumber
  have bIsNumber := FIsNumber.binds (ps := ["value"]) fun _ _ _ _ _ _ us hl => match us, hl with | [_], _ => rfl
  have gIsNumber := PySem.W.mg_of X G aIsNumber
  have FNeedPair := fun_mk (st := sNeedPair) lNeedPair cNeedPair kNeedPair
  have bNeedPair := FNeedPair.binds (ps := ["low", "high"]) fun _ _ _ _ _ _ us hl => match us, hl with | [_, _], _ => rfl
  have gNeedPair := PySem.W.mg_of X G aNeedPair
  have FManyAt := fun_mk (st := sManyAt) lManyAt cManyAt kManyAt
  have bManyAt := FManyAt.binds (ps := ["row", "place"]) fun _ _ _ _ _ _ us hl => match us, hl with | [_, _], _ => rfl
  have gManyAt := PySem.W.mg_of X G aManyAt
  have FDeepestOf := fun_mk (st := sDeepestOf) lDeepestOf cDeepestOf kDeepestOf
  have bDeepestOf := FDeepestOf.binds (ps := ["row", "low", "high"]) fun _ _ _ _ _ _ us hl => match us, hl with | [_, _, _], _ => rfl
  have gDeepestOf := PySem.W.mg_of X G aDeepestOf
  have FAt := fun_mk (st := sAt) lAt cAt kAt
  have bAt := FAt.binds (ps := ["_law_script", "_law_place"]) fun _ _ _ _ _ _ us hl => match us, hl with | [_, _], _ => rfl
  have gAt := PySem.W.mg_of X G aAt
  have FIsInt := fun_mk (st := sIsInt) lIsInt cIsInt kIsInt
  have bIsInt := FIsInt.binds (ps := ["_law_value"]) fun _ _ _ _ _ _ us hl => match us, hl with | [_], _ => rfl
  have gIsInt := PySem.W.mg_of X G aIsInt
  have FMade := fun_mk (st := sMade) lMade cMade kMade
  have bMade := FMade.binds (ps := ["_law_seed"]) fun _ _ _ _ _ _ us hl => match us, hl with | [_], _ => rfl
  have gMade := PySem.W.mg_of X G aMade
  have FTupleIs := fun_mk (st := sTupleIs) lTupleIs cTupleIs kTupleIs
  have bTupleIs := FTupleIs.binds (ps := ["_law_found", "_law_due"]) fun _ _ _ _ _ _ us hl => match us, hl with | [_, _], _ => rfl
  have gTupleIs := PySem.W.mg_of X G aTupleIs
  have FListIs := fun_mk (st := sListIs) lListIs cListIs kListIs
  have bListIs := FListIs.binds (ps := ["_law_found", "_law_due"]) fun _ _ _ _ _ _ us hl => match us, hl with | [_, _], _ => rfl
  have gListIs := PySem.W.mg_of X G aListIs
  have FRow := fun_mk (st := sRow) lRow cRow kRow
  have bRow := FRow.binds (ps := ["_law_script", "_law_at_here"]) fun _ _ _ _ _ _ us hl => match us, hl with | [_, _], _ => rfl
  have gRow := PySem.W.mg_of X G aRow
  have FAsk := fun_mk (st := sAsk) lAsk cAsk kAsk
  have bAsk := FAsk.binds (ps := ["_law_script", "_law_at_here", "_law_row_here"]) fun _ _ _ _ _ _ us hl => match us, hl with | [_, _, _], _ => rfl
  have gAsk := PySem.W.mg_of X G aAsk
  have FOver := fun_mk (st := sOver) lOver cOver kOver
  have bOver := FOver.binds (ps := ["_law_row_here", "_law_place"]) fun _ _ _ _ _ _ us hl => match us, hl with | [_, _], _ => rfl
  have gOver := PySem.W.mg_of X G aOver
  have FLaw := fun_mk (st := sLaw) lLaw cLaw kLaw
  have bLaw := FLaw.binds (ps := ["_law_script"]) fun _ _ _ _ _ _ us hl => match us, hl with | [_], _ => rfl
  have gLaw := PySem.W.mg_of X G aLaw
  have misinstance := PySem.W.mg_none_of X G zisinstance
  have mint := PySem.W.mg_none_of X G zint
  have mbool := PySem.W.mg_none_of X G zbool
  have mtuple := PySem.W.mg_none_of X G ztuple
  have mlist := PySem.W.mg_none_of X G zlist
  have mlen := PySem.W.mg_none_of X G zlen
  have mrange := PySem.W.mg_none_of X G zrange
  have msorted := PySem.W.mg_none_of X G zsorted
  have mmin := PySem.W.mg_none_of X G zmin
  have mmax := PySem.W.mg_none_of X G zmax
  have mMOST := PySem.W.mg_of X G qMOST
  refine ⟨PySem.W.fnOf "law" "law" (defArgs sLaw) (defBody sLaw) (defScope sLaw) .none kVLaw dcLaw pmLaw anLaw cdLaw ctLaw, fun s v => .of_eq rfl, fun base _ _ => ?_⟩
  have yIsNumber : Cal l.prog w K mg base 1 "is_number" ["value"] (SpD K ΦNum) := ⟨_, _, ok_isNumber FIsNumber misinstance mint mbool mMOST, gIsNumber, kIsNumber, bIsNumber⟩
  have yNeedPair : Cal l.prog w K mg base 2 "need_pair" ["low", "high"] (SpD K ΦPair) := ⟨_, _, ok_needPair FNeedPair yIsNumber, gNeedPair, kNeedPair, bNeedPair⟩
  have yManyAt : Cal l.prog w K mg base 1 "many_at" ["row", "place"] (SpD K ΦMany) := ⟨_, _, ok_manyAt FManyAt mlen, gManyAt, kManyAt, bManyAt⟩
  have yDeepestOf : Cal l.prog w K mg base 3 "deepest_of" ["row", "low", "high"] (SpD K ΦDeep) := ⟨_, _, ok_deepestOf FDeepestOf yNeedPair yManyAt, gDeepestOf, kDeepestOf, bDeepestOf⟩
  have yAt : Cal l.prog w K mg base 1 "_law_at" ["_law_script", "_law_place"] (SpD K ΦAt) := ⟨_, _, ok_at FAt, gAt, kAt, bAt⟩
  have yIsInt : Cal l.prog w K mg base 1 "_law_is_int" ["_law_value"] (SpD K ΦIsInt) := ⟨_, _, ok_isInt FIsInt misinstance mint, gIsInt, kIsInt, bIsInt⟩
  have yMade : Cal l.prog w K mg base 1 "_law_made" ["_law_seed"] (SpD K ΦMade) := ⟨_, _, ok_made FMade mmin, gMade, kMade, bMade⟩
  have yTupleIs : Cal l.prog w K mg base 2 "_law_tuple_is" ["_law_found", "_law_due"] (SpD K ΦTupleIs) := ⟨_, _, ok_tupleIs FTupleIs yIsInt misinstance mtuple mlen, gTupleIs, kTupleIs, bTupleIs⟩
  have yListIs : Cal l.prog w K mg base 3 "_law_list_is" ["_law_found", "_law_due"] (SpD K ΦListIs) := ⟨_, _, ok_listIs FListIs yTupleIs misinstance mlist mlen mrange, gListIs, kListIs, bListIs⟩
  have yRow : Cal l.prog w K mg base 2 "_law_row" ["_law_script", "_law_at_here"] (SpD K ΦRow) := ⟨_, _, ok_row FRow yAt yMade mrange mint msorted, gRow, kRow, bRow⟩
  have yAsk : Cal l.prog w K mg base 2 "_law_ask" ["_law_script", "_law_at_here", "_law_row_here"] (SpD K ΦAsk) := ⟨_, _, ok_ask FAsk yAt yMade mlen mmin mmax, gAsk, kAsk, bAsk⟩
  have yOver : Cal l.prog w K mg base 1 "_law_over" ["_law_row_here", "_law_place"] (SpD K ΦMany) := ⟨_, _, ok_over FOver mlen, gOver, kOver, bOver⟩
  exact ok_law FLaw yRow yAsk yDeepestOf yOver yListIs yIsInt mlist misinstance mtuple mlen
theorem walk {l : PySem.W.OpenLaw} {q : Program} {loose : List Str} {XP : (Str → Option Value) → Heap → Prop} {YP : World → Heap → Prop} {d : DefRec} {K : Params → PySem.W.Frag} (hn : l.most = some 63) (hdf : d.params.defaults = [])
    (hY : ∀ (w : World) (h : Heap), YP w h → (K w.params).In h)
    (F : ∀ (w : World) (mg : Str → Option Value) (fa : Addr) (h : Heap), (K w.params).In h → h.Ns mainGlobals mg → mg d.name = some (.ref fa) →
      ∃ fd : FuncData, (∀ (s : Shared) (u : Value), BindsTo s fd ⟨[u], []⟩ [("_law_script", u)]) ∧ ∀ base : Heap, (K w.params).In base → base.Ns mainGlobals mg → FnOk l.prog w (K w.params) mg base CX0 4 fa fd ["_law_script"] (SpD (K w.params) ΦLaw)) :
    PySem.W.WalkO q loose XP YP l.row.toRowW d [] (fun f vs => PySem.call f vs) :=
  L2.walk_ofB (n := 63) (k := 4) (x := "_law_script") (CX := fun _ => CX0) (sp := fun w => SpD (K w.params) ΦLaw) hn (by decide) hdf ⟨rfl, by decide, by decide⟩ hY F
    (fun w H a ns hl hb _ hS => ⟨[], [scrD ns], .bool true, (fun a ha => absurd ha (by simp)), by rw [cut_nil]; exact .cons (.scr hS rfl) .nil, ⟨ns, rfl, hl, hb, rfl⟩, fun v H' s hv => by cases hv; rfl⟩) fun _ _ _ _ _ z => z
end L3

open PySem PySem.W PyProof.Rows
set_option maxRecDepth 100000 in
set_option maxHeartbeats 0 in
theorem PySem.Challenge.cw_spanforest_k05_deepest_of_a_row_holds : PySem.Challenge.rw_spanforest_k05_deepest_of_a_row.Holds := by
  w_on; o_law; k_head; (case hw => w_witness2)
  k_fill
  refine L3.walk (l := PySem.Challenge.rw_spanforest_k05_deepest_of_a_row) rfl rfl (fun w h Y => PySem.W.kIn_of Y) ?F
  case F =>
    intro w mg fa h KX G hmg
    refine' L3.all_mk KX G hmg ?aIsNumber ?lIsNumber ?cIsNumber ?kIsNumber ?aNeedPair ?lNeedPair ?cNeedPair ?kNeedPair ?aManyAt ?lManyAt ?cManyAt ?kManyAt ?aDeepestOf ?lDeepestOf ?cDeepestOf ?kDeepestOf ?aAt ?lAt ?cAt ?kAt ?aIsInt ?lIsInt ?cIsInt ?kIsInt ?aMade ?lMade ?cMade ?kMade ?aTupleIs ?lTupleIs ?cTupleIs ?kTupleIs ?aListIs ?lListIs ?cListIs ?kListIs ?aRow ?lRow ?cRow ?kRow ?aAsk ?lAsk ?cAsk ?kAsk ?aOver ?lOver ?cOver ?kOver ?aLaw ?lLaw ?cLaw ?kLaw ?zisinstance ?zint ?zbool ?ztuple ?zlist ?zlen ?zrange ?zsorted ?zmin ?zmax ?qMOST
    (case aIsNumber => k_is)
    (case lIsNumber => k_is)
    (case cIsNumber => k_is)
    (case kIsNumber => k_is)
    (case aNeedPair => k_is)
    (case lNeedPair => k_is)
    (case cNeedPair => k_is)
    (case kNeedPair => k_is)
    (case aManyAt => k_is)
    (case lManyAt => k_is)
    (case cManyAt => k_is)
    (case kManyAt => k_is)
    (case aDeepestOf => k_is)
    (case lDeepestOf => k_is)
    (case cDeepestOf => k_is)
    (case kDeepestOf => k_is)
    (case aAt => k_is)
    (case lAt => k_is)
    (case cAt => k_is)
    (case kAt => k_is)
    (case aIsInt => k_is)
    (case lIsInt => k_is)
    (case cIsInt => k_is)
    (case kIsInt => k_is)
    (case aMade => k_is)
    (case lMade => k_is)
    (case cMade => k_is)
    (case kMade => k_is)
    (case aTupleIs => k_is)
    (case lTupleIs => k_is)
    (case cTupleIs => k_is)
    (case kTupleIs => k_is)
    (case aListIs => k_is)
    (case lListIs => k_is)
    (case cListIs => k_is)
    (case kListIs => k_is)
    (case aRow => k_is)
    (case lRow => k_is)
    (case cRow => k_is)
    (case kRow => k_is)
    (case aAsk => k_is)
    (case lAsk => k_is)
    (case cAsk => k_is)
    (case kAsk => k_is)
    (case aOver => k_is)
    (case lOver => k_is)
    (case cOver => k_is)
    (case kOver => k_is)
    (case aLaw => k_is)
    (case lLaw => k_is)
    (case cLaw => k_is)
    (case kLaw => k_is)
    (case zisinstance => k_is)
    (case zint => k_is)
    (case zbool => k_is)
    (case ztuple => k_is)
    (case zlist => k_is)
    (case zlen => k_is)
    (case zrange => k_is)
    (case zsorted => k_is)
    (case zmin => k_is)
    (case zmax => k_is)
    (case qMOST => k_is)
#print axioms PySem.Challenge.cw_spanforest_k05_deepest_of_a_row_holds
