import PyProof.Rows.All
import Wide.All
import OpenK.AllK
import Wide.FinOn
import HandS.ForMost
import HandS.ForExc
import HandS.Deep
import HandS.IsInst
import HandS.Wide
import KE.SortData
import HandS.TupLe
import HandS.ExcOwn
import HandS.TryOnly
import HandS.ExcIs
import HandS.WordsExc
import HandS.ExcCtx
import HandS.HotCalls
import HandS.EndBits
import PySem.Challenge.RW_spanforest_k02_what_is_no_stretch
set_option Elab.async false
set_option linter.all false
set_option autoImplicit false
set_option maxRecDepth 100000
set_option maxHeartbeats 4000000
/-! Lay1: data over a part of the heap, slots, own mutable objects, the state, what an expression gives. -/
namespace L3
open PySem PySem.Spec L2

/-! ### the heap without some addresses -/
def cut (m : List Addr) (H : Hp) : Hp := fun b => if b ∈ m then none else H b
theorem cut_in {m : List Addr} {H : Hp} {b : Addr} (h : b ∈ m) : cut m H b = none := by unfold cut; rw [if_pos h]
theorem cut_out {m : List Addr} {H : Hp} {b : Addr} (h : b ∉ m) : cut m H b = H b := by unfold cut; rw [if_neg h]
theorem cut_same {m : List Addr} {H H' : Hp} (e : Same H H') : Same (cut m H) (cut m H') := fun b o h => by
  by_cases hb : b ∈ m
  · rw [cut_in hb] at h; cases h
  · rw [cut_out hb] at h ⊢; exact e b o h
theorem cut_less {m m' : List Addr} {H : Hp} (s : ∀ a, a ∈ m' → a ∈ m) : Same (cut m H) (cut m' H) := fun b o h => by
  by_cases hb : b ∈ m
  · rw [cut_in hb] at h; cases h
  · rw [cut_out hb] at h; rw [cut_out fun z => hb (s b z)]; exact h
theorem cut_full {m : List Addr} {H : Hp} : Same (cut m H) H := fun b o h => by
  by_cases hb : b ∈ m
  · rw [cut_in hb] at h; cases h
  · rw [cut_out hb] at h; exact h
theorem cut_nil {H : Hp} : cut [] H = H := by funext b; unfold cut; rw [if_neg (by simp)]
theorem cut_upd {m : List Addr} {H : Hp} {a : Addr} {o : HO} (h : a ∈ m) : cut m (upd H a o) = cut m H := by
  funext b
  by_cases hb : b ∈ m
  · rw [cut_in hb, cut_in hb]
  · rw [cut_out hb, cut_out hb, upd_ne (fun e => hb (by rw [e]; exact h))]
/-- an address that H does not know may be excluded -/
theorem cut_more {m : List Addr} {H : Hp} {a : Addr} (h : H a = none) : cut (a :: m) H = cut m H := by
  funext b
  by_cases hb : b = a
  · subst hb
    rw [cut_in List.mem_cons_self]
    by_cases hm : b ∈ m
    · rw [cut_in hm]
    · rw [cut_out hm, h]
  · by_cases hm : b ∈ m
    · rw [cut_in hm, cut_in (List.mem_cons_of_mem _ hm)]
    · rw [cut_out hm, cut_out]
      intro z
      rcases List.mem_cons.mp z with z | z
      · exact hb z
      · exact hm z
theorem cut_cons_upd {m : List Addr} {H : Hp} {a : Addr} {o : HO} (h : H a = none) : cut (a :: m) (upd H a o) = cut m H := by
  rw [cut_upd List.mem_cons_self, cut_more h]

theorem same_new {H : Hp} {p : Addr} (h : H p = none) (o : HO) : Same H (upd H p o) := fun b u q => by rw [upd_ne (ne_of_none q h)]; exact q
theorem same_seqT {K : PySem.W.Frag} {H H' : Hp} {a : Addr} {xs : List V} (e : Same H H') (h : SqT K H a xs) : SqT K H' a xs := by
  rcases h with (h | ⟨o, h⟩) | h
  · exact .inl (.inl (e _ _ h))
  · exact .inl (.inr ⟨o, e _ _ h⟩)
  · exact .inr h

theorem rd_same {H H' : Hp} {a : Addr} {o : HO} (s : Same H H') (h : Rd H a o) : Rd H' a o := by
  rcases h with h | ⟨ob, h⟩
  · exact .inl (s _ _ h)
  · exact .inr ⟨ob, s _ _ h⟩

/-! ### data: lists and tuples that stand in the heap (tracked or locked); the law's script, wherever it stands -/
def scrD (ns : List Int) : PyData := .dict (ns.map fun n => (PyData.int n, PyData.none))
mutual
inductive Dp (K : PySem.W.Frag) (H : Hp) : V → PyData → Prop
  | non : Dp K H .non .none
  | bl (b : Bool) : Dp K H (.bl b) (.bool b)
  | int (i : Int) : Dp K H (.int i) (.int i)
  | str (x : Str) : Dp K H (.str x) (.str x)
  | lst {a : Addr} {xs : List V} {ds : List PyData} : Rd H a (.lst xs) → DpAll K H xs ds → Dp K H (.ref a) (.list ds)
  | tup {a : Addr} {xs : List V} {ds : List PyData} : Rd H a (.tup xs) → DpAll K H xs ds → Dp K H (.ref a) (.tuple ds)
  | scr {a : Addr} {ns : List Int} {kvs : List (PyData × PyData)} : SqL K H a (ns.map V.int) → kvs = (ns.map fun n => (PyData.int n, PyData.none)) → Dp K H (.ref a) (.dict kvs)
inductive DpAll (K : PySem.W.Frag) (H : Hp) : List V → List PyData → Prop
  | nil : DpAll K H [] []
  | cons {v : V} {vs : List V} {d : PyData} {ds : List PyData} : Dp K H v d → DpAll K H vs ds → DpAll K H (v :: vs) (d :: ds)
end
mutual
theorem dp_K {K : PySem.W.Frag} {G : Hp} : ∀ (d : PyData) (v : V), d.canLay0 = true → Dp K G v d → L2.Dp K G v d
  | .none, _, _, h => by cases h; exact .non
  | .bool _, _, _, h => by cases h; exact .bl _
  | .int _, _, _, h => by cases h; exact .int _
  | .str _, _, _, h => by cases h; exact .str _
  | .list ds, _, c, h => by
    cases h with
    | lst hs ha => exact .lst (.inl hs) (dpAll_K ds _ (by simpa [PyData.canLay0] using c) ha)
  | .tuple ds, _, c, h => by
    cases h with
    | tup hs ha => exact .tup (.inl hs) (dpAll_K ds _ (by simpa [PyData.canLay0] using c) ha)
  | .dict _, _, c, _ => by simp [PyData.canLay0] at c
theorem dpAll_K {K : PySem.W.Frag} {G : Hp} : ∀ (ds : List PyData) (vs : List V), PyData.canLayAll0 ds = true → DpAll K G vs ds → L2.DpAll K G vs ds
  | [], _, _, h => by cases h; exact .nil
  | d :: ds, _, c, h => by
    have c' : d.canLay0 = true ∧ PyData.canLayAll0 ds = true := by simpa [PyData.canLayAll0] using c
    cases h with
    | cons h1 h2 => exact .cons (dp_K d _ c'.1 h1) (dpAll_K ds _ c'.2 h2)
end
mutual
theorem dp_mono {K : PySem.W.Frag} {G G' : Hp} (e : Same G G') : ∀ (d : PyData) (v : V), Dp K G v d → Dp K G' v d
  | .none, _, h => by cases h; exact .non
  | .bool _, _, h => by cases h; exact .bl _
  | .int _, _, h => by cases h; exact .int _
  | .str _, _, h => by cases h; exact .str _
  | .list ds, _, h => by
    cases h with
    | lst hs ha => exact .lst (rd_same e hs) (dpAll_mono e ds _ ha)
  | .tuple ds, _, h => by
    cases h with
    | tup hs ha => exact .tup (rd_same e hs) (dpAll_mono e ds _ ha)
  | .dict _, _, h => by
    cases h with
    | scr hs he => exact .scr (e.seq hs) he
theorem dpAll_mono {K : PySem.W.Frag} {G G' : Hp} (e : Same G G') : ∀ (ds : List PyData) (vs : List V), DpAll K G vs ds → DpAll K G' vs ds
  | [], _, h => by cases h; exact .nil
  | d :: ds, _, h => by
    cases h with
    | cons h1 h2 => exact .cons (dp_mono e d _ h1) (dpAll_mono e ds _ h2)
end
section
variable {K : PySem.W.Frag} {G G' H : Hp}
theorem dpAll_length : ∀ {vs : List V} {ds : List PyData}, DpAll K G vs ds → vs.length = ds.length
  | _, _, .nil => rfl
  | _, _, .cons _ h => congrArg (· + 1) (dpAll_length h)
theorem dpAll_app : ∀ {vs ws : List V} {ds es : List PyData}, DpAll K G vs ds → DpAll K G ws es → DpAll K G (vs ++ ws) (ds ++ es)
  | _, _, _, _, .nil, h => h
  | _, _, _, _, .cons a b, h => .cons a (dpAll_app b h)
theorem dpAll_get : ∀ {vs : List V} {ds : List PyData} {i : Nat} {d : PyData}, DpAll K G vs ds → ds[i]? = some d → ∃ v, vs[i]? = some v ∧ Dp K G v d
  | _, _, i, _, .nil, h => by simp at h
  | _, _, 0, _, .cons a b, h => by simp at h; subst h; exact ⟨_, rfl, a⟩
  | _, _, i + 1, _, .cons a b, h => by
    obtain ⟨v, e, q⟩ := dpAll_get (i := i) b (by simpa using h)
    exact ⟨v, by simpa using e, q⟩
theorem dpAll_getV : ∀ {vs : List V} {ds : List PyData} {i : Nat} {v : V}, DpAll K G vs ds → vs[i]? = some v → ∃ d, ds[i]? = some d ∧ Dp K G v d
  | _, _, i, _, .nil, h => by simp at h
  | _, _, 0, _, .cons a b, h => by simp at h; subst h; exact ⟨_, rfl, a⟩
  | _, _, i + 1, _, .cons a b, h => by
    obtain ⟨v, e, q⟩ := dpAll_getV (i := i) b (by simpa using h)
    exact ⟨v, by simpa using e, q⟩
theorem dpAll_take : ∀ {vs : List V} {ds : List PyData} (n : Nat), DpAll K G vs ds → DpAll K G (vs.take n) (ds.take n)
  | _, _, 0, _ => .nil
  | _, _, _ + 1, .nil => .nil
  | _, _, n + 1, .cons a b => .cons a (dpAll_take n b)
theorem dpAll_drop : ∀ {vs : List V} {ds : List PyData} (n : Nat), DpAll K G vs ds → DpAll K G (vs.drop n) (ds.drop n)
  | _, _, 0, h => h
  | _, _, _ + 1, .nil => .nil
  | _, _, n + 1, .cons a b => dpAll_drop n b
theorem dpAll_dropLast {vs : List V} {ds : List PyData} (h : DpAll K G vs ds) : DpAll K G vs.dropLast ds.dropLast := by
  rw [List.dropLast_eq_take, List.dropLast_eq_take, dpAll_length h]
  exact dpAll_take _ h
theorem dpAll_ints : ∀ {vs : List V} {ns : List Int}, DpAll K G vs (ns.map PyData.int) → vs = ns.map V.int
  | _, [], h => by cases h; rfl
  | _, n :: ns, h => by
    cases h with
    | cons a b => cases a; rw [dpAll_ints b]; rfl
theorem dpAll_of_ints : ∀ ns : List Int, DpAll K G (ns.map V.int) (ns.map PyData.int)
  | [] => .nil
  | n :: ns => .cons (.int n) (dpAll_of_ints ns)
/-- what needs no heap -/
def flatD : PyData → Bool
  | .list _ => false
  | .tuple _ => false
  | .dict _ => false
  | _ => true
theorem dp_flat {v : V} {d : PyData} (h : Dp K G v d) (f : flatD d = true) : Dp K G' v d := by
  cases h with
  | non => exact .non
  | bl b => exact .bl b
  | int i => exact .int i
  | str x => exact .str x
  | lst _ _ => cases f
  | tup _ _ => cases f
  | scr _ _ => cases f
end

/-! ### slots, own objects -/
/-- what is known of a slot or a value: nothing; data; the very value -/
inductive Sl where
  | no
  | d (x : PyData)
  | v (x : V)
def SlOk (K : PySem.W.Frag) (G : Hp) : Sl → V → Prop
  | .no, _ => True
  | .d x, v => Dp K G v x
  | .v x, v => v = x
def SlotOk (K : PySem.W.Frag) (G : Hp) : Sl → Option V → Prop
  | .no, _ => True
  | .d x, o => ∃ v, o = some v ∧ Dp K G v x
  | .v x, o => o = some x
/-- a mutable object: a list of data; an instance with one attribute that holds data; one without; any other thing -/
inductive Mo where
  | lst (ds : List PyData)
  | ins (C : Addr) (f : Str) (x : PyData)
  | raw (o : HO)
  | fix (C dx : Addr) (f : Str) (v : V) (x : PyData)
def MoOk (K : PySem.W.Frag) (G H : Hp) (a : Addr) : Mo → Prop
  | .lst ds => ∃ vs, H a = some (.lst vs) ∧ DpAll K G vs ds
  | .ins C f x => ∃ dx v, H a = some (.ins C dx [(f, v)]) ∧ Dp K G v x
  | .raw o => H a = some o
  | .fix C dx f v x => H a = some (.ins C dx [(f, v)]) ∧ Dp K G v x
inductive Slots (K : PySem.W.Frag) (G : Hp) : List Sl → L2.St → Prop where
  | nil : Slots K G [] []
  | cons {r : Sl} {o : Option V} {ρ : List Sl} {σ : L2.St} : SlotOk K G r o → Slots K G ρ σ → Slots K G (r :: ρ) (o :: σ)

section
variable {K : PySem.W.Frag} {G G' H H' : Hp}
theorem slOk_mono (e : Same G G') {r : Sl} {v : V} (h : SlOk K G r v) : SlOk K G' r v := by
  cases r with
  | no => trivial
  | d x => exact dp_mono e x v h
  | v x => exact h
theorem slotOk_mono (e : Same G G') {r : Sl} {o : Option V} (h : SlotOk K G r o) : SlotOk K G' r o := by
  cases r with
  | no => trivial
  | d x => obtain ⟨v, a, b⟩ := h; exact ⟨v, a, dp_mono e x v b⟩
  | v x => exact h
theorem slotOk_of {r : Sl} {v : V} (h : SlOk K G r v) : SlotOk K G r (some v) := by
  cases r with
  | no => trivial
  | d x => exact ⟨v, rfl, h⟩
  | v x => exact congrArg some (show v = x from h)
theorem Slots.mono (e : Same G G') : ∀ {ρ : List Sl} {σ : L2.St}, Slots K G ρ σ → Slots K G' ρ σ
  | _, _, .nil => .nil
  | _, _, .cons a b => .cons (slotOk_mono e a) (Slots.mono e b)
theorem Slots.length : ∀ {ρ : List Sl} {σ : L2.St}, Slots K G ρ σ → σ.length = ρ.length
  | _, _, .nil => rfl
  | _, _, .cons a b => congrArg (· + 1) (Slots.length b)
theorem Slots.get : ∀ {ρ : List Sl} {σ : L2.St} {i : Nat} {r : Sl}, Slots K G ρ σ → ρ[i]? = some r → ∃ o, σ[i]? = some o ∧ SlotOk K G r o
  | _, _, i, _, .nil, h => by simp at h
  | _, _, 0, _, .cons a b, h => by simp at h; subst h; exact ⟨_, rfl, a⟩
  | _, _, i + 1, _, .cons a b, h => by
    obtain ⟨o, e, q⟩ := Slots.get (i := i) b (by simpa using h)
    exact ⟨o, by simpa using e, q⟩
theorem Slots.set {r : Sl} {o : Option V} (h : SlotOk K G r o) : ∀ {ρ : List Sl} {σ : L2.St} (i : Nat), Slots K G ρ σ → Slots K G (ρ.set i r) (σ.set i o)
  | _, _, _, .nil => .nil
  | _, _, 0, .cons _ t => .cons h t
  | _, _, i + 1, .cons q t => .cons q (Slots.set h i t)
theorem MoOk.mono1 (e : Same G G') {a : Addr} (s : ∀ o, H a = some o → H' a = some o) {m : Mo} (h : MoOk K G H a m) : MoOk K G' H' a m := by
  cases m with
  | lst ds => obtain ⟨vs, x, y⟩ := h; exact ⟨vs, s _ x, dpAll_mono e ds vs y⟩
  | ins C f x => obtain ⟨dx, v, p, q⟩ := h; exact ⟨dx, v, s _ p, dp_mono e x v q⟩
  | raw o => exact s o h
  | fix C dx f v x => exact ⟨s _ h.1, dp_mono e x v h.2⟩
theorem MoOk.mono (e : Same G G') (s : Same H H') {a : Addr} {m : Mo} (h : MoOk K G H a m) : MoOk K G' H' a m := h.mono1 e fun o => s a o
theorem MoOk.there {a : Addr} {m : Mo} (h : MoOk K G H a m) : ∃ o, H a = some o := by
  cases m with
  | lst ds => obtain ⟨vs, x, _⟩ := h; exact ⟨_, x⟩
  | ins C f x => obtain ⟨dx, v, p, _⟩ := h; exact ⟨_, p⟩
  | raw o => exact ⟨o, h⟩
  | fix C dx f v x => exact ⟨_, h.1⟩
end

/-! ### the state -/
/-- what stays: the frame heap (all that stands ahead and is not to change), the addresses that data is not to lean on -/
structure Fz where
  F : Hp
  m0 : List Addr
abbrev Own := List (Addr × Mo)
def ex (Z : Fz) (own : Own) : List Addr := own.map (·.1) ++ Z.m0
structure RepH (K : PySem.W.Frag) (Z : Fz) (own : Own) (H : Hp) : Prop where
  fr : Same Z.F H
  owns : ∀ p ∈ own, Z.F p.1 = none ∧ MoOk K (cut (ex Z own) H) H p.1 p.2
  m0 : ∀ a ∈ Z.m0, ∃ o, H a = some o
  nd : (own.map (·.1)).Nodup
  dj : ∀ p ∈ own, p.1 ∉ Z.m0
structure Rep (K : PySem.W.Frag) (Z : Fz) (own : Own) (ρ : List Sl) (σ : L2.St) (H : Hp) : Prop where
  h : RepH K Z own H
  s : Slots K (cut (ex Z own) H) ρ σ
section
variable {K : PySem.W.Frag} {Z : Fz} {own : Own} {ρ : List Sl} {σ : L2.St} {H H' : Hp}
theorem RepH.mono (e : Same H H') (R : RepH K Z own H) : RepH K Z own H' :=
  ⟨R.fr.trans e, fun p hp => ⟨(R.owns p hp).1, (R.owns p hp).2.mono (cut_same e) e⟩, fun a ha => let ⟨o, h⟩ := R.m0 a ha; ⟨o, e a o h⟩, R.nd, R.dj⟩
theorem Rep.mono (e : Same H H') (R : Rep K Z own ρ σ H) : Rep K Z own ρ σ H' := ⟨R.h.mono e, R.s.mono (cut_same e)⟩
/-- all that is excluded stands there -/
theorem RepH.there (R : RepH K Z own H) {a : Addr} (h : a ∈ ex Z own) : ∃ o, H a = some o := by
  rcases List.mem_append.mp h with h | h
  · obtain ⟨p, hp, e⟩ := List.mem_map.mp h
    obtain ⟨o, q⟩ := (R.owns p hp).2.there
    exact ⟨o, by rw [← e]; exact q⟩
  · exact R.m0 a h
theorem RepH.new (R : RepH K Z own H) {p : Addr} (h : H p = none) : p ∉ ex Z own := fun z => by
  obtain ⟨o, e⟩ := R.there z
  rw [h] at e; cases e
/-- a new object in the part that data leans on -/
theorem RepH.newAt (R : RepH K Z own H) {p : Addr} {o : HO} (h : H p = none) : cut (ex Z own) (upd H p o) p = some o := by
  rw [cut_out (R.new h), upd_same]
theorem RepH.freshF (R : RepH K Z own H) {p : Addr} (h : H p = none) : Z.F p = none := R.fr.free h
/-- a new mutable object -/
theorem RepH.cons (R : RepH K Z own H) {p : Addr} {m : Mo} {H' : Hp} (h : H p = none) (e : Same H H') (hm : MoOk K (cut (p :: ex Z own) H') H' p m) : RepH K Z ((p, m) :: own) H' := by
  have hn : p ∉ own.map (·.1) := fun z => R.new h (List.mem_append_left _ z)
  refine ⟨R.fr.trans e, fun q hq => ?_, fun a ha => let ⟨o, h⟩ := R.m0 a ha; ⟨o, e a o h⟩, List.nodup_cons.mpr ⟨hn, R.nd⟩, fun q hq z => ?_⟩
  case refine_2 =>
    rcases List.mem_cons.mp hq with rfl | hq
    · exact R.new h (List.mem_append_right _ z)
    · exact R.dj q hq z
  rcases List.mem_cons.mp hq with rfl | hq
  · exact ⟨R.freshF h, hm⟩
  · refine ⟨(R.owns q hq).1, (R.owns q hq).2.mono (fun b o hb => ?_) e⟩
    show cut (p :: ex Z own) H' b = some o
    have hbe : b ∉ ex Z own := fun z => by rw [cut_in z] at hb; cases hb
    rw [cut_out hbe] at hb
    have hbp : b ≠ p := ne_of_none hb h
    rw [cut_out]
    · exact e b o hb
    · intro z
      rcases List.mem_cons.mp z with z | z
      · exact hbp z
      · exact hbe z
theorem Rep.cons (R : Rep K Z own ρ σ H) {p : Addr} {m : Mo} {H' : Hp} (h : H p = none) (e : Same H H') (hm : MoOk K (cut (p :: ex Z own) H') H' p m) : Rep K Z ((p, m) :: own) ρ σ H' := by
  refine ⟨R.h.cons h e hm, R.s.mono fun b o hb => ?_⟩
  show cut (p :: ex Z own) H' b = some o
  have hbe : b ∉ ex Z own := fun z => by rw [cut_in z] at hb; cases hb
  rw [cut_out hbe] at hb
  have hbp : b ≠ p := ne_of_none hb h
  rw [cut_out]
  · exact e b o hb
  · intro z
    rcases List.mem_cons.mp z with z | z
    · exact hbp z
    · exact hbe z
end

/-! ### readings that are there -/
def tE (X : Cx) (e : Expr) : TE := fun σ H Q => ∃ t, PE X e t ∧ t σ H Q
theorem pe_E {X : Cx} {e : Expr} : PE X e (tE X e) := ⟨fun pins s σ H Q I ⟨t, h, q⟩ => h.run pins s σ H Q I q⟩
def tT (X : Cx) (e : Expr) : TT := fun σ H Q => ∃ t, PT X e t ∧ t σ H Q
theorem pt_T {X : Cx} {e : Expr} : PT X e (tT X e) := ⟨fun pins s σ H Q I ⟨t, h, q⟩ => h.run pins s σ H Q I q⟩
def tA (X : Cx) (es : List Expr) : TA := fun σ H Q => ∃ t, PA X es t ∧ t σ H Q
theorem pa_A {X : Cx} {es : List Expr} : PA X es (tA X es) := ⟨fun pos pins s σ H Q I ⟨t, h, q⟩ => h.run pos pins s σ H Q I q⟩
def tS (X : Cx) (st : Stmt) : TS := fun D σ H => ∃ t, PS X st t ∧ t D σ H
theorem ps_S {X : Cx} {st : Stmt} : PS X st (tS X st) := ⟨fun pins s σ H D I ⟨t, h, q⟩ => h.run pins s σ H D I q⟩
def tSs (X : Cx) (sts : List Stmt) : TS := fun D σ H => ∃ t, PSs X sts t ∧ t D σ H
theorem pss_Ss {X : Cx} {sts : List Stmt} : PSs X sts (tSs X sts) := ⟨fun pins s σ H D I ⟨t, h, q⟩ => h.run pins s σ H D I q⟩

/-! ### the judgements -/
/-- e gives r, and leaves all as it was -/
def PD (X : Cx) (Z : Fz) (own : Own) (ρ : List Sl) (e : Expr) (r : Sl) : Prop :=
  ∀ σ H, Rep X.K Z own ρ σ H → ∀ Q : VK, (∀ v H', Same H H' → SlOk X.K (cut (ex Z own) H') r v → Q v H') → tE X e σ H Q
/-- e gives a value that reads d (own objects too) -/
def PW' (X : Cx) (Z : Fz) (own : Own) (ρ : List Sl) (e : Expr) (d : PyData) : Prop :=
  ∀ σ H, Rep X.K Z own ρ σ H → ∀ Q : VK, (∀ v H', Same H H' → Dp X.K H' v d → Q v H') → tE X e σ H Q
/-- e gives a new list of ds -/
def PN (X : Cx) (Z : Fz) (own : Own) (ρ : List Sl) (e : Expr) (ds : List PyData) : Prop :=
  ∀ σ H, Rep X.K Z own ρ σ H → ∀ Q : VK, (∀ p vs H', H p = none → Same H H' → H' p = some (.lst vs) → DpAll X.K (cut (p :: ex Z own) H') vs ds → Q (.ref p) H') → tE X e σ H Q
/-- the test e gives b -/
def PB (X : Cx) (Z : Fz) (own : Own) (ρ : List Sl) (e : Expr) (b : Bool) : Prop :=
  ∀ σ H, Rep X.K Z own ρ σ H → ∀ Q : Bool → Hp → Prop, (∀ H', Same H H' → Q b H') → tT X e σ H Q
/-- arguments -/
inductive SlsOk (K : PySem.W.Frag) (G : Hp) : List Sl → List V → Prop where
  | nil : SlsOk K G [] []
  | cons {r : Sl} {v : V} {rs : List Sl} {vs : List V} : SlOk K G r v → SlsOk K G rs vs → SlsOk K G (r :: rs) (v :: vs)
theorem SlsOk.mono {K : PySem.W.Frag} {G G' : Hp} (e : Same G G') : ∀ {rs : List Sl} {vs : List V}, SlsOk K G rs vs → SlsOk K G' rs vs
  | _, _, .nil => .nil
  | _, _, .cons a b => .cons (slOk_mono e a) (SlsOk.mono e b)
def PDs (X : Cx) (Z : Fz) (own : Own) (ρ : List Sl) (es : List Expr) (rs : List Sl) : Prop :=
  ∀ σ H, Rep X.K Z own ρ σ H → ∀ Q : List V → Hp → Prop, (∀ vs H', Same H H' → SlsOk X.K (cut (ex Z own) H') rs vs → Q vs H') → tA X es σ H Q
theorem slsOk_data {K : PySem.W.Frag} {G : Hp} : ∀ {ds : List PyData} {vs : List V}, SlsOk K G (ds.map Sl.d) vs → DpAll K G vs ds
  | [], _, h => by cases h; exact .nil
  | d :: ds, _, h => by
    cases h with
    | cons a b => exact .cons a (slsOk_data b)

section
variable {X : Cx} {Z : Fz} {own : Own} {ρ : List Sl} {e : Expr} {es : List Expr} {r : Sl} {rs : List Sl} {d : PyData} {ds : List PyData}
theorem pd_of {t : TE} (h : PE X e t) (q : ∀ σ H, Rep X.K Z own ρ σ H → ∀ Q : VK, (∀ v H', Same H H' → SlOk X.K (cut (ex Z own) H') r v → Q v H') → t σ H Q) : PD X Z own ρ e r :=
  fun σ H R Q k => ⟨t, h, q σ H R Q k⟩
theorem pw_of_d (h : PD X Z own ρ e (.d d)) : PW' X Z own ρ e d := fun σ H R Q k => h σ H R Q fun v H' s hv => k v H' s (dp_mono cut_full d v hv)
theorem pw_of_own {a : Addr} (h : PD X Z own ρ e (.v (.ref a))) (ho : (a, Mo.lst ds) ∈ own) : PW' X Z own ρ e (.list ds) := fun σ H R Q k => h σ H R Q fun v H' s hv => by
  have e : v = .ref a := hv
  subst e
  obtain ⟨_, vs, h1, h2⟩ := (R.h.mono s).owns _ ho
  exact k _ H' s (.lst (.inl h1) (dpAll_mono cut_full ds vs h2))
theorem pd_flat (h : PW' X Z own ρ e d) (f : flatD d = true) : PD X Z own ρ e (.d d) := fun σ H R Q k => h σ H R Q fun v H' s hv => k v H' s (dp_flat hv f)
theorem pd_of_n (h : PN X Z own ρ e ds) : PD X Z own ρ e (.d (.list ds)) := fun σ H R Q k => h σ H R Q fun p vs H' hp s e q => by
  refine k _ H' s (.lst (.inl ?_) (dpAll_mono (cut_less fun a ha => List.mem_cons_of_mem _ ha) ds vs q))
  rw [cut_out (R.h.new hp)]
  exact e
theorem pds_nil : PDs X Z own ρ [] [] := fun σ H R Q k => ⟨tNil, pa_nil, k [] H (Same.refl H) .nil⟩
theorem pds_cons (h1 : PD X Z own ρ e r) (h2 : PDs X Z own ρ es rs) (hs : starEach (e :: es) X.env = (false, eval e X.env) :: starEach es X.env := by rfl) : PDs X Z own ρ (e :: es) (r :: rs) := fun σ H R Q k =>
  ⟨_, pa_cons pe_E pa_A hs, h1 σ H R _ fun v H1 s1 q1 => h2 σ H1 (R.mono s1) _ fun vs H2 s2 q2 => k _ H2 (s1.trans s2) (.cons (slOk_mono (cut_same s2) q1) q2)⟩
end
end L3
set_option Elab.async false
set_option linter.all false
set_option autoImplicit false
set_option maxRecDepth 100000
set_option maxHeartbeats 4000000
/-! Lay2: the rules for expressions. -/
namespace L3
open PySem PySem.Spec L2

/-- e gives a value of which P holds -/
def PG (X : Cx) (Z : Fz) (own : Own) (ρ : List Sl) (e : Expr) (P : Hp → V → Prop) : Prop :=
  ∀ σ H, Rep X.K Z own ρ σ H → ∀ Q : VK, (∀ v H', Same H H' → P H' v → Q v H') → tE X e σ H Q
def Mono (P : Hp → V → Prop) : Prop := ∀ H H' v, Same H H' → P H v → P H' v
/-- the value as one that is looked at only -/
def PW (X : Cx) (Z : Fz) (own : Own) (ρ : List Sl) (e : Expr) (r : Sl) : Prop := PG X Z own ρ e fun H v => SlOk X.K H r v
def LstIs (K : PySem.W.Frag) (Z : Fz) (own : Own) (ds : List PyData) : Hp → V → Prop := fun H v => ∃ a vs, v = .ref a ∧ Rd H a (.lst vs) ∧ DpAll K (cut (ex Z own) H) vs ds
/-- e gives a list of ds (an own one or not) -/
def PL (X : Cx) (Z : Fz) (own : Own) (ρ : List Sl) (e : Expr) (ds : List PyData) : Prop := PG X Z own ρ e (LstIs X.K Z own ds)
theorem mono_sl {X : Cx} {Z : Fz} {own : Own} {r : Sl} : Mono fun H v => SlOk X.K (cut (ex Z own) H) r v := fun _ _ _ s h => slOk_mono (cut_same s) h
theorem mono_w {X : Cx} {r : Sl} : Mono fun H v => SlOk X.K H r v := fun _ _ _ s h => slOk_mono s h
theorem mono_l {X : Cx} {Z : Fz} {own : Own} {ds : List PyData} : Mono (LstIs X.K Z own ds) := fun _ _ _ s ⟨a, vs, e, h, d⟩ => ⟨a, vs, e, rd_same s h, dpAll_mono (cut_same s) _ _ d⟩

/-! ### a value as a list; as one that is looked at -/
inductive AsL (own : Own) : Sl → List PyData → Prop where
  | d (ds : List PyData) : AsL own (.d (.list ds)) ds
  | o {a : Addr} {ds : List PyData} : (a, Mo.lst ds) ∈ own → AsL own (.v (.ref a)) ds
inductive AsW (own : Own) : Sl → Sl → Prop where
  | d (x : PyData) : AsW own (.d x) (.d x)
  | o {a : Addr} {ds : List PyData} : (a, Mo.lst ds) ∈ own → AsW own (.v (.ref a)) (.d (.list ds))
  | v (x : V) : AsW own (.v x) (.v x)
section
variable {X : Cx} {Z : Fz} {own : Own} {ρ : List Sl} {H : Hp}
theorem AsL.is {r : Sl} {ds : List PyData} {v : V} (h : AsL own r ds) (R : RepH X.K Z own H) (hv : SlOk X.K (cut (ex Z own) H) r v) : LstIs X.K Z own ds H v := by
  cases h with
  | d _ =>
    cases hv with
    | lst hs ha => exact ⟨_, _, rfl, rd_same cut_full hs, ha⟩
  | o ho =>
    obtain ⟨_, vs, h1, h2⟩ := R.owns _ ho
    exact ⟨_, vs, hv, .inl h1, h2⟩
theorem AsW.is {r r' : Sl} {v : V} (h : AsW own r r') (R : RepH X.K Z own H) (hv : SlOk X.K (cut (ex Z own) H) r v) : SlOk X.K H r' v := by
  cases h with
  | d x => exact dp_mono cut_full x v hv
  | @o a ds ho =>
    obtain ⟨_, vs, h1, h2⟩ := R.owns _ ho
    have e : v = .ref a := hv
    subst e
    exact .lst (.inl h1) (dpAll_mono cut_full ds vs h2)
  | v x => exact hv
variable {e : Expr} {r r' : Sl} {ds : List PyData}
theorem pl_of (h : PD X Z own ρ e r) (a : AsL own r ds) : PL X Z own ρ e ds := fun σ H R Q k => h σ H R Q fun v H' s hv => k v H' s (a.is (R.h.mono s) hv)
theorem pw_of (h : PD X Z own ρ e r) (a : AsW own r r') : PW X Z own ρ e r' := fun σ H R Q k => h σ H R Q fun v H' s hv => k v H' s (a.is (R.h.mono s) hv)
theorem pd_of_pn (h : PN X Z own ρ e ds) : PD X Z own ρ e (.d (.list ds)) := pd_of_n h
end

/-! ### names, constants -/
def kn : Sl → Bool
  | .no => false
  | _ => true
section
variable {X : Cx} {Z : Fz} {own : Own} {ρ : List Sl} {pos : Pos}
theorem pd_name (i : Nat) {x : Str} {r : Sl} (hρ : ρ[i]? = some r) (hk : kn r = true := by rfl) (hN : X.N[i]? = some x := by rfl) (hv : Vis X.env.scope x := by first | exact Or.inl rfl | exact Or.inr (Or.inl rfl) | exact Or.inr (Or.inr rfl)) (hd : (x == ("__debug__" : Str)) = false := by decide)
    (hcd : (x == ("__classdict__" : Str)) = false := by decide) : PD X Z own ρ (.Name x pos) r :=
  pd_of (pe_var hN hv hd hcd) fun σ H R Q k => by
    obtain ⟨o, e, q⟩ := R.s.get hρ
    cases r with
    | no => cases hk
    | d y => obtain ⟨v, rfl, q⟩ := q; exact ⟨v, e, k v H (Same.refl H) q⟩
    | v y =>
      have q' : o = some y := q
      subst q'
      exact ⟨y, e, k y H (Same.refl H) rfl⟩
theorem pd_int {i : Int} {j} : PD X Z own ρ (.Constant (.int i) j pos) (.d (.int i)) := pd_of pe_int fun σ H R Q k => k _ H (Same.refl H) (Dp.int i)
theorem pd_bl {b : Bool} {j} : PD X Z own ρ (.Constant (.bool b) j pos) (.d (.bool b)) := pd_of pe_bl fun σ H R Q k => k _ H (Same.refl H) (Dp.bl b)
theorem pd_non {j} : PD X Z own ρ (.Constant .none j pos) (.d .none) := pd_of pe_non fun σ H R Q k => k _ H (Same.refl H) Dp.non
theorem pd_str {x : Str} {j} : PD X Z own ρ (.Constant (.str x) j pos) (.d (.str x)) := pd_of pe_str fun σ H R Q k => k _ H (Same.refl H) (Dp.str x)
/-- a module's constant -/
theorem pd_globI {x : Str} {i : Int} {t : Tok} (hg : Gl X x) (hm : X.mg x = some (.int i t)) (hd : (x == ("__debug__" : Str)) = false := by decide) : PD X Z own ρ (.Name x pos) (.d (.int i)) :=
  pd_of (pe_glob (v := .int i) hg hm ⟨t, rfl⟩ hd) fun σ H R Q k => k _ H (Same.refl H) (Dp.int i)
/-- a class, a built-in type as a value -/
theorem pd_glob {x : Str} {v : V} {u : Value} (hg : Gl X x) (hm : X.mg x = some u) (hr : RelV v u) (hd : (x == ("__debug__" : Str)) = false := by decide) : PD X Z own ρ (.Name x pos) (.v v) :=
  pd_of (pe_glob hg hm hr hd) fun σ H R Q k => k _ H (Same.refl H) rfl
theorem pd_ty {x : Str} {n : String} (hg : Gl X x) (hm : X.mg x = none) (hv : bootBuiltins x = some (.type n)) (hn : x ≠ "__name__" := by decide) (hd : (x == ("__debug__" : Str)) = false := by decide) : PD X Z own ρ (.Name x pos) (.v (.ty n)) :=
  pd_of (pe_bltn (v := .ty n) hg hm hv rfl hn hd) fun σ H R Q k => k _ H (Same.refl H) rfl
end

/-! ### two-place operators -/
structure BinR (X : Cx) (Z : Fz) (own : Own) (op : Operator) (ra rb rz : Sl) : Prop where
  ex : ∃ r, OpR X (binaryOp op) r ∧ ∀ x y H, RepH X.K Z own H → SlOk X.K (cut (ex Z own) H) ra x → SlOk X.K (cut (ex Z own) H) rb y →
    ∀ Q : VK, (∀ v H', Same H H' → SlOk X.K (cut (ex Z own) H') rz v → Q v H') → r x y H Q
section
variable {X : Cx} {Z : Fz} {own : Own} {ρ : List Sl} {pos : Pos} {a b : Expr} {ra rb rz : Sl} {op : Operator}
theorem pd_bin (ha : PD X Z own ρ a ra) (hb : PD X Z own ρ b rb) (h : BinR X Z own op ra rb rz) : PD X Z own ρ (.BinOp a op b pos) rz := by
  obtain ⟨r, ho, h⟩ := h.ex
  exact pd_of (pe_op ho pe_E pe_E) fun σ H R Q k => ha σ H R _ fun x H1 s1 p1 => hb σ H1 (R.mono s1) _ fun y H2 s2 p2 =>
    h x y H2 (R.h.mono (s1.trans s2)) (slOk_mono (cut_same s2) p1) p2 Q fun v H' s3 pz => k v H' (s1.trans (s2.trans s3)) pz
theorem binI {C : Int → Int → Prop} {g : Int → Int → Int} {i j : Int} (ho : OpR X (binaryOp op) (rI C fun i j => .int (g i j))) (hc : C i j) : BinR X Z own op (.d (.int i)) (.d (.int j)) (.d (.int (g i j))) :=
  .mk ⟨_, ho, fun x y H R hx hy Q k => by cases hx; cases hy; exact ⟨i, j, rfl, rfl, hc, k _ H (Same.refl H) (Dp.int _)⟩⟩
theorem binI0 {g : Int → Int → Int} {i j : Int} (ho : OpR X (binaryOp op) (rI0 fun i j => .int (g i j))) : BinR X Z own op (.d (.int i)) (.d (.int j)) (.d (.int (g i j))) :=
  .mk ⟨_, ho, fun x y H R hx hy Q k => by cases hx; cases hy; exact ⟨i, j, rfl, rfl, k _ H (Same.refl H) (Dp.int _)⟩⟩
variable {i j : Int}
theorem bin_add : BinR X Z own .Add (.d (.int i)) (.d (.int j)) (.d (.int (i + j))) := binI0 op_add
theorem bin_sub : BinR X Z own .Sub (.d (.int i)) (.d (.int j)) (.d (.int (i - j))) := binI0 op_sub
theorem op_mulX : OpR X (binaryOp .Mult) (rI IntMulOk fun i j => .int (i * j)) := opI fun _ _ _ _ _ _ _ hc q => PyProof.Rows.mul_int q hc
theorem bin_mul (h : IntMulOk i j) : BinR X Z own .Mult (.d (.int i)) (.d (.int j)) (.d (.int (i * j))) := binI op_mulX h
theorem bin_fdiv (h : CDiv i j) : BinR X Z own .FloorDiv (.d (.int i)) (.d (.int j)) (.d (.int (i / j))) := binI op_fdiv h
theorem bin_mod (h : 0 < j) : BinR X Z own .Mod (.d (.int i)) (.d (.int j)) (.d (.int (i % j))) := binI op_mod h
theorem bin_pow (h : CPow i j) : BinR X Z own .Pow (.d (.int i)) (.d (.int j)) (.d (.int (i ^ j.toNat))) := binI op_pow h
/-- text * 0, text * 1 -/
theorem op_mulS : OpR X (binaryOp .Mult) (fun x y H Q => ∃ s k, x = .str s ∧ y = .int (if k = true then 1 else 0) ∧ Q (.str (if k = true then s else Str.empty)) H) := by
  intro pins s σ H x y v u Q I rx ry h
  obtain ⟨z, k, rfl, rfl, q⟩ := h
  obtain ⟨t, rfl⟩ := rx
  obtain ⟨t', rfl⟩ := ry
  cases k with
  | true =>
    refine PySem.P.mul_str (by decide) (fun _ e => by simp at e) (fun _ e => by simp at e) ?_
    have e1 : ¬ (if (true : Bool) = true then (1 : Int) else 0) < 1 := by decide
    rw [if_neg e1, if_pos (by simp)]
    exact ⟨.str z, H, I, ⟨_, rfl⟩, q⟩
  | false => exact PySem.P.mul_str_none (by decide) (by decide) ⟨.str Str.empty, H, I.tok _, ⟨_, rfl⟩, q⟩
theorem bin_mulS {s : Str} {k : Bool} : BinR X Z own .Mult (.d (.str s)) (.d (.int (if k = true then 1 else 0))) (.d (.str (if k = true then s else Str.empty))) :=
  BinR.mk ⟨_, op_mulS, fun x y H R hx hy Q q => by cases hx; cases hy; exact ⟨s, k, rfl, rfl, q _ H (Same.refl H) (Dp.str _)⟩⟩
/-- tuple + tuple, none of them empty -/
theorem bin_catT {as bs : List PyData} (h1 : as ≠ []) (h2 : bs ≠ []) (hz : as.length + bs.length ≤ sizeLine) : BinR X Z own .Add (.d (.tuple as)) (.d (.tuple bs)) (.d (.tuple (as ++ bs))) :=
  BinR.mk ⟨_, op_catT, fun x y H R hx hy Q k => by
    cases hx with
    | @tup _ xs _ ha da =>
      cases hy with
      | @tup _ ys _ hb db =>
        refine ⟨_, _, _, _, rfl, rfl, (.inl (rd_same cut_full ha)), (.inl (rd_same cut_full hb)), ?_, by rw [dpAll_length da, dpAll_length db]; exact hz, ?_, ?_⟩
        · intro z; subst z; cases da; exact h1 rfl
        · intro z; subst z; cases db; exact absurd rfl h2
        · intro _ p hp
          have s := same_new hp (HO.tup (xs ++ ys))
          exact k _ _ s (.tup (.inl (R.newAt hp)) (dpAll_app (dpAll_mono (cut_same s) _ _ da) (dpAll_mono (cut_same s) _ _ db)))⟩
/-- list + list, list * 0 or 1: new lists -/
def rCatR : R2 := fun x y H Q => ∃ l b xs zs, x = .ref l ∧ y = .ref b ∧ Rd H l (.lst xs) ∧ Rd H b (.lst zs) ∧ xs.length + zs.length ≤ sizeLine ∧ ∀ p, H p = none → Q (.ref p) (upd H p (.lst (xs ++ zs)))
theorem Inv.lstR {pins : List (Addr × Obj)} {σ : L2.St} {H : Hp} {s : Shared} {l : Addr} {xs : List V} (I : L2.Inv X pins σ H s) (hH : Rd H l (.lst xs)) :
    xs.length ≤ sizeLine ∧ ∃ (its : List Value) (n : Nat), Vals xs its ∧ xs.length = its.length ∧ s.heap.get? l = some { cls := .type "list", data := .seq its.toArray n } := by
  obtain ⟨z, its, n, r, e⟩ := hH.ok I.hok
  exact ⟨z, its, n, r, r.length, e⟩
theorem op_catR : OpR X (binaryOp .Add) rCatR := by
  intro pins s σ H x y v u Q I rx ry h
  obtain ⟨l, b, xs, zs, rfl, rfl, hH, hB, hz, q⟩ := h
  cases rx
  cases ry
  obtain ⟨z, its, n, r, hl, e⟩ := Inv.lstR I hH
  obtain ⟨z2, its2, n2, r2, hl2, e2⟩ := Inv.lstR I hB
  refine PySem.P.add_list e e2 ?_ (by rw [List.size_toArray, List.size_toArray]; omega)
  have ea : its.toArray ++ its2.toArray = (its ++ its2).toArray := by simp
  rw [ea]
  exact ⟨.ref _, _, I.lnew (t' := s.toks) (r.append r2) (by rw [List.length_append]; omega), rfl, q _ I.fresh⟩
end

/-! ### new lists -/
section
variable {X : Cx} {Z : Fz} {own : Own} {ρ : List Sl} {pos : Pos} {a b e : Expr} {as bs ds : List PyData} {H : Hp}
/-- what a rule that makes a new list hands on -/
theorem pn_end {H1 : Hp} {Q : VK} {vs : List V} (R : RepH X.K Z own H1) (hd : DpAll X.K (cut (ex Z own) H1) vs ds) (k : ∀ p vs H', H1 p = none → Same H1 H' → H' p = some (.lst vs) → DpAll X.K (cut (p :: ex Z own) H') vs ds → Q (.ref p) H') :
    ∀ p, H1 p = none → Q (.ref p) (upd H1 p (.lst vs)) := fun p hp => k p vs _ hp (same_new hp _) upd_same (by rw [cut_cons_upd hp]; exact hd)
theorem pn_cat (ha : PL X Z own ρ a as) (hb : PL X Z own ρ b bs) (hz : as.length + bs.length ≤ sizeLine) : PN X Z own ρ (.BinOp a .Add b pos) (as ++ bs) := fun σ H R Q k =>
  ⟨_, pe_op op_catR pe_E pe_E, ha σ H R _ fun x H1 s1 p1 => hb σ H1 (R.mono s1) _ fun y H2 s2 p2 => by
    obtain ⟨l, xs, rfl, hl, dl⟩ := mono_l _ _ _ s2 p1
    obtain ⟨m, ys, rfl, hm, dm⟩ := p2
    refine ⟨l, m, xs, ys, rfl, rfl, hl, hm, by rw [dpAll_length dl, dpAll_length dm]; exact hz, fun p hp => ?_⟩
    exact pn_end (R.h.mono (s1.trans s2)) (dpAll_app dl dm) (fun p vs H' h1 h2 h3 h4 => k p vs H' (s1.free (s2.free h1)) (s1.trans (s2.trans h2)) h3 h4) p hp⟩

/-- arguments that are data -/
def PDD (X : Cx) (Z : Fz) (own : Own) (ρ : List Sl) (es : List Expr) (ds : List PyData) : Prop :=
  ∀ σ H, Rep X.K Z own ρ σ H → ∀ Q : List V → Hp → Prop, (∀ vs H', Same H H' → DpAll X.K (cut (ex Z own) H') vs ds → Q vs H') → tA X es σ H Q
/-- arguments that are looked at -/
def PWW (X : Cx) (Z : Fz) (own : Own) (ρ : List Sl) (es : List Expr) (rs : List Sl) : Prop :=
  ∀ σ H, Rep X.K Z own ρ σ H → ∀ Q : List V → Hp → Prop, (∀ vs H', Same H H' → SlsOk X.K H' rs vs → Q vs H') → tA X es σ H Q
end
section
variable {X : Cx} {Z : Fz} {own : Own} {ρ : List Sl} {pos : Pos} {a b e i : Expr} {es : List Expr} {as bs ds : List PyData} {d : PyData} {r : Sl} {rs : List Sl} {H : Hp}
theorem pdd_nil : PDD X Z own ρ [] [] := fun σ H R Q k => ⟨tNil, pa_nil, k [] H (Same.refl H) .nil⟩
theorem pdd_cons (h1 : PD X Z own ρ e (.d d)) (h2 : PDD X Z own ρ es ds) (hs : starEach (e :: es) X.env = (false, eval e X.env) :: starEach es X.env := by rfl) : PDD X Z own ρ (e :: es) (d :: ds) := fun σ H R Q k =>
  ⟨_, pa_cons pe_E pa_A hs, h1 σ H R _ fun v H1 s1 q1 => h2 σ H1 (R.mono s1) _ fun vs H2 s2 q2 => k _ H2 (s1.trans s2) (.cons (dp_mono (cut_same s2) _ _ q1) q2)⟩
theorem pww_nil : PWW X Z own ρ [] [] := fun σ H R Q k => ⟨tNil, pa_nil, k [] H (Same.refl H) .nil⟩
theorem pww_cons (h1 : PW X Z own ρ e r) (h2 : PWW X Z own ρ es rs) (hs : starEach (e :: es) X.env = (false, eval e X.env) :: starEach es X.env := by rfl) : PWW X Z own ρ (e :: es) (r :: rs) := fun σ H R Q k =>
  ⟨_, pa_cons pe_E pa_A hs, h1 σ H R _ fun v H1 s1 q1 => h2 σ H1 (R.mono s1) _ fun vs H2 s2 q2 => k _ H2 (s1.trans s2) (.cons (slOk_mono s2 q1) q2)⟩
theorem sz1000 {n : Nat} (h : n.ble 1000 = true) : n ≤ sizeLine := Nat.le_of_lt (small1000 (Nat.le_of_ble_eq_true h))
/-- a tuple, a list, as written -/
theorem pd_tup {k} (h : PDD X Z own ρ es ds) (hz : ds.length ≤ sizeLine := by exact sz1000 rfl) : PD X Z own ρ (.Tuple es k pos) (.d (.tuple ds)) :=
  pd_of (pe_tup pa_A) fun σ H R Q k => h σ H R _ fun vs H1 s1 q1 => ⟨by rw [dpAll_length q1]; exact hz, fun p hp => by
    have s := same_new hp (HO.tup vs)
    exact k _ _ (s1.trans s) (.tup (.inl ((R.h.mono s1).newAt hp)) (dpAll_mono (cut_same s) _ _ q1))⟩
theorem pn_lst (h : PDD X Z own ρ es ds) (hz : ds.length ≤ sizeLine := by exact sz1000 rfl) : PN X Z own ρ (.List es pos) ds := fun σ H R Q k =>
  ⟨_, pe_lst pa_A, h σ H R _ fun vs H1 s1 q1 => ⟨by rw [dpAll_length q1]; exact hz, pn_end (R.h.mono s1) q1 fun p vs H' h1 h2 h3 h4 => k p vs H' (s1.free h1) (s1.trans h2) h3 h4⟩⟩

/-! ### subscripts -/
inductive IxO (own : Own) : Sl → Int → PyData → Prop where
  | l {ds : List PyData} {k : Int} {d : PyData} : atI ds k = some d → IxO own (.d (.list ds)) k d
  | t {ds : List PyData} {k : Int} {d : PyData} : atI ds k = some d → IxO own (.d (.tuple ds)) k d
  | o {a : Addr} {ds : List PyData} {k : Int} {d : PyData} : (a, Mo.lst ds) ∈ own → atI ds k = some d → IxO own (.v (.ref a)) k d
  | s {ns : List Int} {k n : Int} : atI ns k = some n → IxO own (.d (scrD ns)) k (.int n)
theorem atI_map {α β : Type} {f : α → β} {xs : List α} {k : Int} {x : α} (h : atI xs k = some x) : atI (xs.map f) k = some (f x) := by
  unfold atI at h ⊢
  rw [List.length_map]
  cases q : ixN xs.length k with
  | none => rw [q] at h; cases h
  | some j =>
    rw [q] at h
    show (xs.map f)[j]? = _
    rw [List.getElem?_map, show xs[j]? = some x from h]
    rfl
theorem atI_dp {G : Hp} {vs : List V} {k : Int} (h : DpAll X.K G vs ds) (e : atI ds k = some d) : ∃ v, atI vs k = some v ∧ Dp X.K G v d := by
  unfold atI at e ⊢
  rw [dpAll_length h]
  cases q : ixN ds.length k with
  | none => rw [q] at e; cases e
  | some j =>
    rw [q] at e
    exact dpAll_get h (show ds[j]? = some d from e)
theorem map_scr_inj : ∀ {ns ms : List Int}, (ns.map fun n => (PyData.int n, PyData.none)) = (ms.map fun n => (PyData.int n, PyData.none)) → ns = ms
  | [], [], _ => rfl
  | [], m :: ms, h => by cases h
  | n :: ns, [], h => by cases h
  | n :: ns, m :: ms, h => by
    rw [List.map_cons, List.map_cons] at h
    injection h with h1 h2
    injection h1 with h3 _
    injection h3 with h4
    rw [h4, map_scr_inj h2]
theorem scr_is {G : Hp} {v : V} {ns : List Int} (h : Dp X.K G v (scrD ns)) : ∃ q, v = .ref q ∧ SqL X.K G q (ns.map V.int) := by
  unfold scrD at h
  cases h with
  | @scr q ms _ hs he => exact ⟨q, rfl, by rw [map_scr_inj he]; exact hs⟩
theorem pd_ix {k : Int} (ha : PD X Z own ρ a r) (hi : PD X Z own ρ i (.d (.int k))) (h : IxO own r k d) (hs : PlainIx i := by exact fun _ _ => rfl) : PD X Z own ρ (.Subscript a i pos) (.d d) :=
  pd_of (pe_ix (ix_list.or ix_tup) pe_E pe_E hs) fun σ H R Q q => ha σ H R _ fun x H1 s1 p1 => hi σ H1 (R.mono s1) _ fun y H2 s2 p2 => by
    have R2 := R.h.mono (s1.trans s2)
    have p1 := slOk_mono (cut_same s2) p1
    cases p2
    cases h with
    | l e =>
      cases p1 with
      | @lst m vs _ hs ha =>
        obtain ⟨v, ev, dv⟩ := atI_dp ha e
        exact .inl ⟨m, vs, k, v, rfl, rfl, .inl (rd_same cut_full hs), ev, q v H2 (s1.trans s2) dv⟩
    | t e =>
      cases p1 with
      | @tup m vs _ hs ha =>
        obtain ⟨v, ev, dv⟩ := atI_dp ha e
        exact .inr ⟨m, vs, k, v, rfl, rfl, (.inl (rd_same cut_full hs)), ev, q v H2 (s1.trans s2) dv⟩
    | @o m _ _ _ ho e =>
      obtain ⟨_, vs, h1, h2⟩ := R2.owns _ ho
      obtain ⟨v, ev, dv⟩ := atI_dp h2 e
      exact .inl ⟨m, vs, k, v, p1, rfl, SqL.of h1, ev, q v H2 (s1.trans s2) dv⟩
    | s e =>
      obtain ⟨m, ev, hs⟩ := scr_is p1
      exact .inl ⟨m, _, k, _, ev, rfl, cut_full.seq hs, atI_map e, q _ H2 (s1.trans s2) (Dp.int _)⟩
/-- a part of a slice -/
inductive PP (X : Cx) (Z : Fz) (own : Own) (ρ : List Sl) : Option Expr → Option Int → Prop where
  | none : PP X Z own ρ none none
  | some {e : Expr} {k : Int} : PD X Z own ρ e (.d (.int k)) → PP X Z own ρ (some e) (some k)
def tO (X : Cx) (e : Option Expr) : TO := fun σ H Q => ∃ t, PO X e t ∧ t σ H Q
theorem po_O {e : Option Expr} : PO X e (tO X e) := ⟨fun pins s σ H Q I ⟨t, h, q⟩ => h.run pins s σ H Q I q⟩
theorem PP.run {e : Option Expr} {o : Option Int} (h : PP X Z own ρ e o) {σ : L2.St} {H : Hp} (R : Rep X.K Z own ρ σ H) {Q : Option Int → Hp → Prop} (k : ∀ H', Same H H' → Q o H') : tO X e σ H Q := by
  cases h with
  | none => exact ⟨_, po_none, k H (Same.refl H)⟩
  | some he => exact ⟨_, po_some pe_E, he σ H R _ fun v H' s hv => by cases hv; exact ⟨_, rfl, k H' s⟩⟩
def cutD (xs : List PyData) (lo hi : Option Int) : List PyData := (xs.drop (HT.sIx xs.length 0 lo)).take (HT.sIx xs.length xs.length hi - HT.sIx xs.length 0 lo)
theorem dpAll_cut {G : Hp} {vs : List V} {lo hi : Option Int} (h : DpAll X.K G vs ds) : DpAll X.K G (cutV vs lo hi) (cutD ds lo hi) := by
  unfold cutV cutD
  rw [dpAll_length h]
  exact dpAll_take _ (dpAll_drop _ h)
theorem pn_slice {lo hi : Option Expr} {l u : Option Int} {p2 : Pos} (ha : PL X Z own ρ a ds) (hl : PP X Z own ρ lo l) (hu : PP X Z own ρ hi u) : PN X Z own ρ (.Subscript a (.Slice lo hi none p2) pos) (cutD ds l u) := fun σ H R Q k =>
  ⟨_, pe_slice sl_list pe_E po_O po_O, ha σ H R _ fun x H1 s1 p1 => hl.run (R.mono s1) fun H2 s2 => hu.run (R.mono (s1.trans s2)) fun H3 s3 => by
    obtain ⟨m, vs, rfl, hm, dm⟩ := mono_l _ _ _ (s2.trans s3) p1
    have s13 := (s1.trans s2).trans s3
    refine ⟨m, vs, rfl, .inl hm, fun p hp => ?_⟩
    exact pn_end (R.h.mono s13) (dpAll_cut dm) (fun p vs H' h1 h2 h3 h4 => k p vs H' (s13.free h1) (s13.trans h2) h3 h4) p hp⟩
/-- of the script -/
def cutZ (ns : List Int) (lo hi : Option Int) : List Int := (ns.drop (HT.sIx ns.length 0 lo)).take (HT.sIx ns.length ns.length hi - HT.sIx ns.length 0 lo)
theorem pn_sliceS {lo hi : Option Expr} {l u : Option Int} {p2 : Pos} {ns : List Int} (ha : PD X Z own ρ a (.d (scrD ns))) (hl : PP X Z own ρ lo l) (hu : PP X Z own ρ hi u) : PN X Z own ρ (.Subscript a (.Slice lo hi none p2) pos) ((cutZ ns l u).map PyData.int) := fun σ H R Q k =>
  ⟨_, pe_slice sl_list pe_E po_O po_O, ha σ H R _ fun x H1 s1 p1 => hl.run (R.mono s1) fun H2 s2 => hu.run (R.mono (s1.trans s2)) fun H3 s3 => by
    obtain ⟨m, rfl, hs⟩ := scr_is p1
    have s13 := (s1.trans s2).trans s3
    refine ⟨m, _, rfl, (cut_full.trans (s2.trans s3)).seq hs, fun p hp => ?_⟩
    have e : cutV (ns.map V.int) l u = (cutZ ns l u).map V.int := by
      unfold cutV cutZ
      rw [List.length_map, List.map_take, List.map_drop]
    rw [e]
    exact pn_end (R.h.mono s13) (dpAll_of_ints _) (fun p vs H' h1 h2 h3 h4 => k p vs H' (s13.free h1) (s13.trans h2) h3 h4) p hp⟩
/-- t[lo:hi], not the whole -/
theorem pd_sliceT {lo hi : Option Expr} {l u : Option Int} {p2 : Pos} (ha : PD X Z own ρ a (.d (.tuple ds))) (hl : PP X Z own ρ lo l) (hu : PP X Z own ρ hi u) (hz : ¬ (HT.sIx ds.length 0 l = 0 ∧ HT.sIx ds.length ds.length u = ds.length)) : PD X Z own ρ (.Subscript a (.Slice lo hi none p2) pos) (.d (.tuple (cutD ds l u))) := fun σ H R Q k =>
  ⟨_, pe_slice sl_tup pe_E po_O po_O, ha σ H R _ fun x H1 s1 p1 => hl.run (R.mono s1) fun H2 s2 => hu.run (R.mono (s1.trans s2)) fun H3 s3 => by
    have p1 := dp_mono (cut_same (s2.trans s3)) _ _ p1
    have s13 := (s1.trans s2).trans s3
    cases p1 with
    | @tup m vs _ hs hd =>
      refine ⟨m, vs, rfl, (.inl (rd_same cut_full hs)), ?_, fun p hp => ?_⟩
      · rw [dpAll_length hd]; exact hz
      · have s := same_new hp (HO.tup (cutV vs l u))
        exact k _ _ (s13.trans s) (.tup (.inl ((R.h.mono s13).newAt hp)) (dpAll_cut (dpAll_mono (cut_same s) _ _ hd)))⟩
end
end L3
set_option Elab.async false
set_option linter.all false
set_option autoImplicit false
set_option maxRecDepth 100000
set_option maxHeartbeats 4000000
/-! Lay3: comparisons, tests, built-in calls. -/
namespace L3
open PySem PySem.Spec L2

/-! ### comparisons -/
/-- on values that are looked at: the answer b -/
structure CmpR (X : Cx) (op : CmpOp) (ra rb : Sl) (b : Bool) : Prop where
  ex : ∃ r, OpR X (compareOp op) r ∧ ∀ x y H, SlOk X.K H ra x → SlOk X.K H rb y → ∀ Q : VK, Q (.bl b) H → r x y H Q
section
variable {X : Cx} {Z : Fz} {own : Own} {ρ : List Sl} {pos : Pos} {a b c e : Expr} {es : List Expr} {ra rb rc : Sl} {op op' : CmpOp} {p q : Bool}
theorem pd_cmp (ha : PW X Z own ρ a ra) (hb : PW X Z own ρ b rb) (h : CmpR X op ra rb p) (hm : behindInMarks op b = false) : PD X Z own ρ (.Compare a [op] [b] pos) (.d (.bool p)) := by
  obtain ⟨r, ho, h⟩ := h.ex
  exact pd_of (pe_cmpR ho pe_E pe_E hm) fun σ H R Q k => ha σ H R _ fun x H1 s1 p1 => hb σ H1 (R.mono s1) _ fun y H2 s2 p2 => h x y H2 (slOk_mono s2 p1) p2 Q (k _ H2 (s1.trans s2) (Dp.bl p))
theorem pb_cmp (ha : PW X Z own ρ a ra) (hb : PW X Z own ρ b rb) (h : CmpR X op ra rb p) (hm : behindInMarks op b = false) : PB X Z own ρ (.Compare a [op] [b] pos) p := by
  obtain ⟨r, ho, h⟩ := h.ex
  exact fun σ H R Q k => ⟨_, pt_cmpR ho pe_E pe_E hm, ha σ H R _ fun x H1 s1 p1 => hb σ H1 (R.mono s1) _ fun y H2 s2 p2 => h x y H2 (slOk_mono s2 p1) p2 _ ⟨p, rfl, k H2 (s1.trans s2)⟩⟩
theorem pd_chain (ha : PW X Z own ρ a ra) (hb : PW X Z own ρ b rb) (hc : p = true → PW X Z own ρ c rc) (h : CmpR X op ra rb p) (h' : CmpR X op' rb rc q) (hm : lastMarks [op, op'] [b, c] = false := by with_unfolding_all rfl) :
    PD X Z own ρ (.Compare a [op, op'] [b, c] pos) (.d (.bool (p && q))) := by
  obtain ⟨r, ho, h⟩ := h.ex
  obtain ⟨r', ho', h'⟩ := h'.ex
  refine pd_of (pe_chain ho ho' pe_E pe_E pe_E hm) fun σ H R Q k => ha σ H R _ fun x H1 s1 p1 => hb σ H1 (R.mono s1) _ fun y H2 s2 p2 => h x y H2 (slOk_mono s2 p1) p2 _ ⟨p, rfl, ?_⟩
  cases p with
  | false => exact iteF (k _ H2 (s1.trans s2) (Dp.bl _))
  | true => exact iteT (hc rfl σ H2 ((R.mono s1).mono s2) _ fun z H3 s3 p3 => h' y z H3 (slOk_mono s3 p2) p3 Q (k _ H3 ((s1.trans s2).trans s3) (Dp.bl _)))
theorem pb_chain (ha : PW X Z own ρ a ra) (hb : PW X Z own ρ b rb) (hc : p = true → PW X Z own ρ c rc) (h : CmpR X op ra rb p) (h' : CmpR X op' rb rc q) (hm : lastMarks [op, op'] [b, c] = false := by with_unfolding_all rfl) :
    PB X Z own ρ (.Compare a [op, op'] [b, c] pos) (p && q) := by
  obtain ⟨r, ho, h⟩ := h.ex
  obtain ⟨r', ho', h'⟩ := h'.ex
  refine fun σ H R Q k => ⟨_, pt_chain ho ho' pe_E pe_E pe_E hm, ha σ H R _ fun x H1 s1 p1 => hb σ H1 (R.mono s1) _ fun y H2 s2 p2 => h x y H2 (slOk_mono s2 p1) p2 _ ⟨p, rfl, ?_⟩⟩
  cases p with
  | false => exact iteF ⟨_, rfl, k H2 (s1.trans s2)⟩
  | true => exact iteT (hc rfl σ H2 ((R.mono s1).mono s2) _ fun z H3 s3 p3 => h' y z H3 (slOk_mono s3 p2) p3 _ ⟨_, rfl, k H3 ((s1.trans s2).trans s3)⟩)
section
variable {i j : Int} {d d' : PyData}
theorem cmpI0 {g : Int → Int → Bool} (ho : OpR X (compareOp op) (rI0 fun i j => .bl (g i j))) : CmpR X op (.d (.int i)) (.d (.int j)) (g i j) :=
  CmpR.mk ⟨_, ho, fun x y H hx hy Q k => by cases hx; cases hy; exact ⟨i, j, rfl, rfl, k⟩⟩
theorem cmp_lt : CmpR X .Lt (.d (.int i)) (.d (.int j)) (decide (i < j)) := cmpI0 op_lt
theorem cmp_le : CmpR X .LtE (.d (.int i)) (.d (.int j)) (decide (i ≤ j)) := cmpI0 op_le
theorem cmp_gt : CmpR X .Gt (.d (.int i)) (.d (.int j)) (decide (j < i)) := cmpI0 op_gt
theorem cmp_ge : CmpR X .GtE (.d (.int i)) (.d (.int j)) (decide (j ≤ i)) := cmpI0 op_ge
theorem vint_dec (i j : Int) : decide (V.int i = V.int j) = decide (i = j) := by
  by_cases h : i = j
  · subst h; simp
  · rw [decide_eq_false h, decide_eq_false fun e => h (V.int.inj e)]
theorem vbl_dec (i j : Bool) : decide (V.bl i = V.bl j) = decide (i = j) := by
  by_cases h : i = j
  · subst h; simp
  · rw [decide_eq_false h, decide_eq_false fun e => h (V.bl.inj e)]
theorem vstr_dec (i j : Str) : decide (V.str i = V.str j) = decide (i = j) := by
  by_cases h : i = j
  · subst h; simp
  · rw [decide_eq_false h, decide_eq_false fun e => h (V.str.inj e)]
theorem cmp_eqI : CmpR X .Eq (.d (.int i)) (.d (.int j)) (decide (i = j)) :=
  CmpR.mk ⟨_, op_eq, fun x y H hx hy Q k => by cases hx; cases hy; exact ⟨rfl, by rw [vint_dec]; exact k⟩⟩
theorem cmp_neI : CmpR X .NotEq (.d (.int i)) (.d (.int j)) (!decide (i = j)) :=
  CmpR.mk ⟨_, op_ne, fun x y H hx hy Q k => by cases hx; cases hy; exact ⟨rfl, by rw [vint_dec]; exact k⟩⟩
theorem cmp_eqB {s t : Bool} : CmpR X .Eq (.d (.bool s)) (.d (.bool t)) (decide (s = t)) :=
  CmpR.mk ⟨_, op_eq, fun x y H hx hy Q k => by cases hx; cases hy; exact ⟨rfl, by rw [vbl_dec]; exact k⟩⟩
theorem cmp_neB {s t : Bool} : CmpR X .NotEq (.d (.bool s)) (.d (.bool t)) (!decide (s = t)) :=
  CmpR.mk ⟨_, op_ne, fun x y H hx hy Q k => by cases hx; cases hy; exact ⟨rfl, by rw [vbl_dec]; exact k⟩⟩
theorem cmp_eqS {s t : Str} : CmpR X .Eq (.d (.str s)) (.d (.str t)) (decide (s = t)) :=
  CmpR.mk ⟨_, op_eq, fun x y H hx hy Q k => by cases hx; cases hy; exact ⟨rfl, by rw [vstr_dec]; exact k⟩⟩
theorem cmp_neS {s t : Str} : CmpR X .NotEq (.d (.str s)) (.d (.str t)) (!decide (s = t)) :=
  CmpR.mk ⟨_, op_ne, fun x y H hx hy Q k => by cases hx; cases hy; exact ⟨rfl, by rw [vstr_dec]; exact k⟩⟩
theorem cmp_eqD {k : Nat} (hr : Room k X.A) (s : SeqAt.shaped d = true) (s' : SeqAt.shaped d' = true) : CmpR X .Eq (.d d) (.d d') (PyData.eqv d d') :=
  CmpR.mk ⟨_, op_eqD hr.units, fun x y H hx hy Q k => ⟨d, d', dp_K _ _ (SeqAt.canLay_of_shaped s) hx, dp_K _ _ (SeqAt.canLay_of_shaped s') hy, s, s', k⟩⟩
theorem cmp_neD {k : Nat} (hr : Room k X.A) (s : SeqAt.shaped d = true) (s' : SeqAt.shaped d' = true) : CmpR X .NotEq (.d d) (.d d') (!PyData.eqv d d') :=
  CmpR.mk ⟨_, op_neD hr.units, fun x y H hx hy Q k => ⟨d, d', dp_K _ _ (SeqAt.canLay_of_shaped s) hx, dp_K _ _ (SeqAt.canLay_of_shaped s') hy, s, s', k⟩⟩
theorem room_in {k : Nat} (hr : Room k X.A) : X.A.units + 65 < cLine := by have := hr.un; omega
theorem cmp_inD {k : Nat} {ds : List PyData} (hr : Room k X.A) (s : SeqAt.shaped d = true) (s' : SeqAt.shaped (.list ds) = true) : CmpR X .In (.d d) (.d (.list ds)) (ds.any fun z => PyData.eqv z d) :=
  CmpR.mk ⟨_, op_inD (room_in hr), fun x y H hx hy Q k => ⟨d, ds, dp_K _ _ (SeqAt.canLay_of_shaped s) hx, dp_K _ _ (SeqAt.canLay_of_shaped s') hy, s, s', k⟩⟩
theorem cmp_notInD {k : Nat} {ds : List PyData} (hr : Room k X.A) (s : SeqAt.shaped d = true) (s' : SeqAt.shaped (.list ds) = true) : CmpR X .NotIn (.d d) (.d (.list ds)) (!ds.any fun z => PyData.eqv z d) :=
  CmpR.mk ⟨_, op_notInD (room_in hr), fun x y H hx hy Q k => ⟨d, ds, dp_K _ _ (SeqAt.canLay_of_shaped s) hx, dp_K _ _ (SeqAt.canLay_of_shaped s') hy, s, s', k⟩⟩
/-- i in (a tuple of ints) -/
theorem inV_ints (i : Int) : ∀ ns : List Int, inV (.int i) (ns.map V.int) = decide (i ∈ ns)
  | [] => by simp [inV]
  | n :: ns => by
    have ih := inV_ints i ns
    unfold inV at ih ⊢
    rw [List.map_cons, List.any_cons, ih]
    show ((n == i) || _) = _
    by_cases h : n = i
    · subst h; simp
    · have h' : ¬ i = n := fun e => h e.symm
      simp [h, h']
theorem flat_ints : ∀ ns : List Int, (ns.map V.int).all flatV = true
  | [] => rfl
  | n :: ns => by
    rw [List.map_cons, List.all_cons, flat_ints ns]
    rfl
theorem cmp_inT {ns : List Int} : CmpR X .In (.d (.int i)) (.d (.tuple (ns.map PyData.int))) (decide (i ∈ ns)) :=
  CmpR.mk ⟨_, op_in_seq, fun x y H hx hy Q k => by
    cases hx
    cases hy with
    | @tup m vs _ hs ha =>
      have e := dpAll_ints ha
      subst e
      refine ⟨m, _, rfl, .inr ((.inl hs)), rfl, flat_ints ns, ?_⟩
      show Q (.bl (inV (.int i) (ns.map V.int))) H
      rw [inV_ints]
      exact k⟩
theorem cmp_ltT {k : Nat} {ns ms : List Int} (hr : Room k X.A) : CmpR X .Lt (.d (.tuple (ns.map PyData.int))) (.d (.tuple (ms.map PyData.int))) (HT.lexLt ns ms) :=
  CmpR.mk ⟨_, op_ltT hr.units0, fun x y H hx hy Q k => by
    cases hx with
    | @tup m vs _ hs ha =>
      cases hy with
      | @tup m' vs' _ hs' ha' =>
        have e := dpAll_ints ha
        have e' := dpAll_ints ha'
        subst e e'
        exact ⟨m, m', ns, ms, rfl, rfl, (.inl hs), (.inl hs'), k⟩⟩
theorem cmp_isN : CmpR X .Is (.d d) (.d .none) (match d with | .none => true | _ => false) :=
  CmpR.mk ⟨_, op_isN, fun x y H hx hy Q k => by
    cases hy
    refine ⟨rfl, ?_⟩
    cases hx <;> exact k⟩
theorem cmp_notN : CmpR X .IsNot (.d d) (.d .none) (match d with | .none => false | _ => true) :=
  CmpR.mk ⟨_, op_notN, fun x y H hx hy Q k => by
    cases hy
    refine ⟨rfl, ?_⟩
    cases hx <;> exact k⟩
/-- is not True, is not False, of any value -/
theorem op_isnot_any : OpR X (compareOp .IsNot) (fun x y H Q => ∃ b, y = .bl b ∧ Q (.bl (!decide (x = .bl b))) H) := by
  intro pins s σ H x y v u Q I rx ry h
  obtain ⟨b, rfl, q⟩ := h
  cases (show u = Value.bool b from ry)
  have go : ∀ w : Value, PySem.plainIs w (.bool b) = true → (w == Value.bool b) = decide (x = .bl b) → wpAny (model X.prog X.w) X.A (compareOp .IsNot w (.bool b)) (EP X pins σ Q) X.xe s := fun w hp he =>
    wpAny_isNot_plain hp ⟨.bl _, H, I, by rw [he]; rfl, q⟩
  cases x with
  | non => cases (show v = Value.none from rx); exact go _ rfl (by simp <;> rfl)
  | bl c =>
    cases (show v = Value.bool c from rx)
    refine go _ rfl ?_
    by_cases h : c = b
    · subst h; simp
    · have h1 : (Value.bool c == Value.bool b) = false := beq_eq_false_iff_ne.mpr fun z => h (Value.bool.inj z)
      rw [h1, decide_eq_false fun z => h (V.bl.inj z)]
  | int i => obtain ⟨t, rfl⟩ := (show ∃ t, v = Value.int i t from rx); exact go _ rfl (by simp <;> rfl)
  | str i => obtain ⟨t, rfl⟩ := (show ∃ t, v = Value.str i t from rx); exact go _ rfl (by simp <;> rfl)
  | byt i => obtain ⟨t, rfl⟩ := (show ∃ t, v = Value.bytes i t from rx); exact go _ rfl (by simp <;> rfl)
  | flt i => obtain ⟨t, rfl⟩ := (show ∃ t, v = Value.float i t from rx); exact go _ rfl (by simp <;> rfl)
  | ref a => cases (show v = Value.ref a from rx); exact go _ rfl (by simp <;> rfl)
  | ty n => cases (show v = Value.type n from rx); exact go _ rfl (by simp <;> rfl)
def isB (b : Bool) : PyData → Bool
  | .bool c => decide (c = b)
  | _ => false
theorem cmp_isnotB {b : Bool} : CmpR X .IsNot (.d d) (.d (.bool b)) (!isB b d) :=
  CmpR.mk ⟨_, op_isnot_any, fun x y H hx hy Q k => by
    cases hy
    refine ⟨b, rfl, ?_⟩
    cases hx with
    | bl c => rw [vbl_dec]; exact k
    | non => exact k
    | int i => exact k
    | str x => exact k
    | lst _ _ => exact k
    | tup _ _ => exact k
    | scr _ _ => exact k⟩
end

/-! ### tests -/
def tWh (X : Cx) (e : Expr) : TT := fun σ H Q => ∃ t, L2.PW X e t ∧ t σ H Q
theorem pw_Wh {e : Expr} : L2.PW X e (tWh X e) := ⟨fun w pins s σ H Q I ⟨t, h, q⟩ => h.run w pins s σ H Q I q⟩
/-- a chain of and, of or -/
def PBA (X : Cx) (Z : Fz) (own : Own) (ρ : List Sl) (o : BoolOp) (es : List Expr) (pos : Pos) (b : Bool) : Prop :=
  ∀ σ H, Rep X.K Z own ρ σ H → ∀ Q : Bool → Hp → Prop, (∀ H', Same H H' → Q b H') → tWh X (.BoolOp o es pos) σ H Q
theorem pba_one (h : PB X Z own ρ a p) : PBA X Z own ρ .And [a] pos p := fun σ H R Q k => ⟨_, pw_and1 pt_T, h σ H R Q k⟩
theorem pbo_one (h : PB X Z own ρ a p) : PBA X Z own ρ .Or [a] pos p := fun σ H R Q k => ⟨_, pw_or1 pt_T, h σ H R Q k⟩
theorem pba_cons (h : PB X Z own ρ a p) (h' : p = true → PBA X Z own ρ .And (b :: es) pos q) : PBA X Z own ρ .And (a :: b :: es) pos (p && q) := fun σ H R Q k => ⟨_, pw_and pt_T pw_Wh, h σ H R _ fun H1 s1 => by
  cases p with
  | false => exact iteF (k H1 s1)
  | true => exact iteT (h' rfl σ H1 (R.mono s1) Q fun H2 s2 => k H2 (s1.trans s2))⟩
theorem pbo_cons (h : PB X Z own ρ a p) (h' : p = false → PBA X Z own ρ .Or (b :: es) pos q) : PBA X Z own ρ .Or (a :: b :: es) pos (p || q) := fun σ H R Q k => ⟨_, pw_or pt_T pw_Wh, h σ H R _ fun H1 s1 => by
  cases p with
  | true => exact iteT (k H1 s1)
  | false => exact iteF (h' rfl σ H1 (R.mono s1) Q fun H2 s2 => k H2 (s1.trans s2))⟩
theorem pb_bo {o : BoolOp} (h : PBA X Z own ρ o es pos p) : PB X Z own ρ (.BoolOp o es pos) p := fun σ H R Q k => ⟨_, pw_Wh.pt, h σ H R Q k⟩
theorem pb_not (h : PB X Z own ρ a p) : PB X Z own ρ (.UnaryOp .Not a pos) (!p) := fun σ H R Q k => ⟨_, pt_not pt_T, h σ H R _ fun H' s => k H' s⟩
theorem pb_val (h : PD X Z own ρ a (.d (.bool p))) (he : ∀ whole, isTrue a X.env whole = (do let v ← whole; standAt a.pos; holding [v] (truthy v)) := by intro _; rfl) : PB X Z own ρ a p := fun σ H R Q k =>
  ⟨_, L2.pt_val pe_E he, h σ H R _ fun v H' s hv => by cases hv; exact ⟨p, rfl, k H' s⟩⟩
theorem pb_list {ds : List PyData} (h : PL X Z own ρ a ds) (he : ∀ whole, isTrue a X.env whole = (do let v ← whole; standAt a.pos; holding [v] (truthy v)) := by intro _; rfl) : PB X Z own ρ a (!ds.isEmpty) := fun σ H R Q k =>
  ⟨_, pt_truth pe_E he, h σ H R _ fun v H' s ⟨m, vs, e, hm, hd⟩ => by
    subst e
    refine ⟨!ds.isEmpty, .inl ⟨vs, .inl hm, ?_⟩, k H' s⟩
    cases hd <;> rfl⟩
/-- as values: bools -/
def PDA (X : Cx) (Z : Fz) (own : Own) (ρ : List Sl) (o : BoolOp) (es : List Expr) (pos : Pos) (b : Bool) : Prop := PD X Z own ρ (.BoolOp o es pos) (.d (.bool b))
theorem pda_one {o : BoolOp} (h : PD X Z own ρ a (.d (.bool p))) : PDA X Z own ρ o [a] pos p := fun σ H R Q k => ⟨_, pe_one pe_E, h σ H R Q k⟩
theorem pda_and (h : PD X Z own ρ a (.d (.bool p))) (h' : p = true → PDA X Z own ρ .And (b :: es) pos q) : PDA X Z own ρ .And (a :: b :: es) pos (p && q) := fun σ H R Q k => ⟨_, pe_and pe_E pe_E, h σ H R _ fun v H1 s1 hv => by
  cases hv
  refine ⟨p, rfl, ?_⟩
  cases p with
  | false => exact iteF (k _ H1 s1 (Dp.bl _))
  | true => exact iteT (h' rfl σ H1 (R.mono s1) Q fun v H2 s2 hv => k v H2 (s1.trans s2) hv)⟩
theorem pda_or (h : PD X Z own ρ a (.d (.bool p))) (h' : p = false → PDA X Z own ρ .Or (b :: es) pos q) : PDA X Z own ρ .Or (a :: b :: es) pos (p || q) := fun σ H R Q k => ⟨_, pe_or pe_E pe_E, h σ H R _ fun v H1 s1 hv => by
  cases hv
  refine ⟨p, rfl, ?_⟩
  cases p with
  | true => exact iteT (k _ H1 s1 (Dp.bl _))
  | false => exact iteF (h' rfl σ H1 (R.mono s1) Q fun v H2 s2 hv => k v H2 (s1.trans s2) hv)⟩
theorem pd_not (h : PD X Z own ρ a (.d (.bool p))) : PD X Z own ρ (.UnaryOp .Not a pos) (.d (.bool (!p))) := fun σ H R Q k => ⟨_, pe_not pe_E, h σ H R _ fun v H1 s1 hv => by
  cases hv
  exact ⟨p, rfl, k _ H1 s1 (Dp.bl _)⟩⟩
theorem pd_ifE {d d' : PyData} (hc : PB X Z own ρ c p) (ha : p = true → PD X Z own ρ a (.d d)) (hb : p = false → PD X Z own ρ b (.d d')) : PD X Z own ρ (.IfExp c a b pos) (.d (if p = true then d else d')) := fun σ H R Q k => ⟨_, pe_ifExp pt_T pe_E pe_E, hc σ H R _ fun H1 s1 => by
  cases p with
  | true => exact iteT (ha rfl σ H1 (R.mono s1) Q fun v H2 s2 hv => k v H2 (s1.trans s2) hv)
  | false => exact iteF (hb rfl σ H1 (R.mono s1) Q fun v H2 s2 hv => k v H2 (s1.trans s2) hv)⟩
end
end L3
set_option Elab.async false
set_option linter.all false
set_option autoImplicit false
set_option maxRecDepth 100000
set_option maxHeartbeats 4000000
/-! Lay4: built-in calls, calls of defs, what is walked, comprehensions. -/
namespace L3
open PySem PySem.Spec L2

section
variable {X : Cx} {Z : Fz} {own : Own} {ρ : List Sl} {pos p : Pos} {a b e : Expr} {es : List Expr} {r : Sl} {ds : List PyData} {d : PyData} {i j : Int}
/-! ### len, max, min, sum, int, isinstance -/
inductive LenO (own : Own) : Sl → Nat → Prop where
  | l (ds : List PyData) : LenO own (.d (.list ds)) ds.length
  | t (ds : List PyData) : LenO own (.d (.tuple ds)) ds.length
  | o {a : Addr} {ds : List PyData} : (a, Mo.lst ds) ∈ own → LenO own (.v (.ref a)) ds.length
  | s (ns : List Int) : LenO own (.d (scrD ns)) ns.length
theorem pd_len {n : Nat} (h : PD X Z own ρ e r) (l : LenO own r n) (hm : X.mg "len" = none) (hg : Gl X "len" := by rfl) (he : starEach (e :: []) X.env = (false, eval e X.env) :: starEach [] X.env := by rfl) (hpl : (backTo pos (starEach [] X.env)).any (·.1) = false := by rfl) :
    PD X Z own ρ (.Call (.Name "len" p) [e] [] pos) (.d (.int n)) :=
  pd_of (pe_callB call_len_seq hg hm PySem.boot_len (pa_cons pe_E pa_nil he) (by decide) (by decide) he hpl) fun σ H R Q k => h σ H R _ fun v H1 s1 q1 => by
    cases l with
    | l ds =>
      cases q1 with
      | lst hs ha => exact ⟨_, _, rfl, .inl (.inl (rd_same cut_full hs)), by rw [dpAll_length ha]; exact k _ H1 s1 (Dp.int _)⟩
    | t ds =>
      cases q1 with
      | tup hs ha => exact ⟨_, _, rfl, .inr ((.inl (rd_same cut_full hs))), by rw [dpAll_length ha]; exact k _ H1 s1 (Dp.int _)⟩
    | @o m ds ho =>
      obtain ⟨_, vs, h1, h2⟩ := (R.h.mono s1).owns _ ho
      have e : v = .ref m := q1
      subst e
      exact ⟨_, _, rfl, .inl (SqL.of h1), by rw [dpAll_length h2]; exact k _ H1 s1 (Dp.int _)⟩
    | s ns =>
      obtain ⟨m, ev, hs⟩ := scr_is q1
      subst ev
      exact ⟨_, _, rfl, .inl (cut_full.seq hs), by rw [List.length_map]; exact k _ H1 s1 (Dp.int _)⟩
theorem boot_max : bootBuiltins "max" = some (.builtin "max") := by decide +kernel
theorem boot_min : bootBuiltins "min" = some (.builtin "min") := by decide +kernel
theorem boot_sum : bootBuiltins "sum" = some (.builtin "sum") := by decide +kernel
theorem boot_sorted : bootBuiltins "sorted" = some (.builtin "sorted") := by decide +kernel
theorem boot_isi : bootBuiltins "isinstance" = some (.builtin "isinstance") := by decide +kernel
theorem boot_int : bootBuiltins "int" = some (.type "int") := by decide +kernel
theorem boot_list : bootBuiltins "list" = some (.type "list") := by decide +kernel
theorem boot_bool : bootBuiltins "bool" = some (.type "bool") := by decide +kernel
theorem boot_tuple : bootBuiltins "tuple" = some (.type "tuple") := by decide +kernel
theorem boot_ve : bootBuiltins "ValueError" = some (.type "ValueError") := by decide +kernel
theorem max_ite (i j : Int) : (if j > i then j else i) = max i j := by split <;> omega
theorem min_ite (i j : Int) : (if j < i then j else i) = min i j := by split <;> omega
theorem pd_max2 (ha : PD X Z own ρ a (.d (.int i))) (hb : PD X Z own ρ b (.d (.int j))) (hm : X.mg "max" = none) (hc : X.calm = true := by rfl) (hg : Gl X "max" := by rfl) (he : starEach (a :: [b]) X.env = (false, eval a X.env) :: starEach [b] X.env := by rfl)
    (he2 : starEach (b :: []) X.env = (false, eval b X.env) :: starEach [] X.env := by rfl) (hpl : (backTo pos (starEach [b] X.env)).any (·.1) = false := by rfl) : PD X Z own ρ (.Call (.Name "max" p) [a, b] [] pos) (.d (.int (max i j))) :=
  pd_of (pe_callB (call_max2 hc) hg hm boot_max (pa_cons pe_E (pa_cons pe_E pa_nil he2) he) (by decide) (by decide) he hpl) fun σ H R Q k => ha σ H R _ fun x H1 s1 q1 => hb σ H1 (R.mono s1) _ fun y H2 s2 q2 => by
    cases q1; cases q2
    exact ⟨i, j, rfl, by rw [max_ite]; exact k _ H2 (s1.trans s2) (Dp.int _)⟩
theorem pd_min2 (ha : PD X Z own ρ a (.d (.int i))) (hb : PD X Z own ρ b (.d (.int j))) (hm : X.mg "min" = none) (hc : X.calm = true := by rfl) (hg : Gl X "min" := by rfl) (he : starEach (a :: [b]) X.env = (false, eval a X.env) :: starEach [b] X.env := by rfl)
    (he2 : starEach (b :: []) X.env = (false, eval b X.env) :: starEach [] X.env := by rfl) (hpl : (backTo pos (starEach [b] X.env)).any (·.1) = false := by rfl) : PD X Z own ρ (.Call (.Name "min" p) [a, b] [] pos) (.d (.int (min i j))) :=
  pd_of (pe_callB (call_min2 hc) hg hm boot_min (pa_cons pe_E (pa_cons pe_E pa_nil he2) he) (by decide) (by decide) he hpl) fun σ H R Q k => ha σ H R _ fun x H1 s1 q1 => hb σ H1 (R.mono s1) _ fun y H2 s2 q2 => by
    cases q1; cases q2
    exact ⟨i, j, rfl, by rw [min_ite]; exact k _ H2 (s1.trans s2) (Dp.int _)⟩
/-- of a list of ints: the one that is there and none is greater -/
theorem pd_maxL {ns : List Int} {m : Int} (h : PL X Z own ρ e (ns.map PyData.int)) (h1 : m ∈ ns) (h2 : ∀ y ∈ ns, y ≤ m) (hm : X.mg "max" = none) (hc : X.calm = true := by rfl) (hg : Gl X "max" := by rfl) (he : starEach (e :: []) X.env = (false, eval e X.env) :: starEach [] X.env := by rfl)
    (hpl : (backTo pos (starEach [] X.env)).any (·.1) = false := by rfl) : PD X Z own ρ (.Call (.Name "max" p) [e] [] pos) (.d (.int m)) :=
  pd_of (pe_callB (cr_max hc) hg hm boot_max (pa_cons pe_E pa_nil he) (by decide) (by decide) he hpl) fun σ H R Q k => h σ H R _ fun x H1 s1 ⟨l, vs, ex, hl, hd⟩ => by
    have ev := dpAll_ints hd
    subst ev ex
    refine ⟨l, ns, rfl, .inl hl, List.length_pos_of_mem h1, fun m' a1 a2 => ?_⟩
    have : m' = m := Int.le_antisymm (h2 m' a1) (a2 m h1)
    subst this
    exact k _ H1 s1 (Dp.int _)
theorem pd_minL {ns : List Int} {m : Int} (h : PL X Z own ρ e (ns.map PyData.int)) (h1 : m ∈ ns) (h2 : ∀ y ∈ ns, m ≤ y) (hm : X.mg "min" = none) (hc : X.calm = true := by rfl) (hg : Gl X "min" := by rfl) (he : starEach (e :: []) X.env = (false, eval e X.env) :: starEach [] X.env := by rfl)
    (hpl : (backTo pos (starEach [] X.env)).any (·.1) = false := by rfl) : PD X Z own ρ (.Call (.Name "min" p) [e] [] pos) (.d (.int m)) :=
  pd_of (pe_callB (cr_min hc) hg hm boot_min (pa_cons pe_E pa_nil he) (by decide) (by decide) he hpl) fun σ H R Q k => h σ H R _ fun x H1 s1 ⟨l, vs, ex, hl, hd⟩ => by
    have ev := dpAll_ints hd
    subst ev ex
    refine ⟨l, ns, rfl, .inl hl, List.length_pos_of_mem h1, fun m' a1 a2 => ?_⟩
    have : m' = m := Int.le_antisymm (a2 m h1) (h2 m' a1)
    subst this
    exact k _ H1 s1 (Dp.int _)
theorem pd_sum {ns : List Int} (h : PL X Z own ρ e (ns.map PyData.int)) (hm : X.mg "sum" = none) (hc : X.calm = true := by rfl) (hg : Gl X "sum" := by rfl) (he : starEach (e :: []) X.env = (false, eval e X.env) :: starEach [] X.env := by rfl)
    (hpl : (backTo pos (starEach [] X.env)).any (·.1) = false := by rfl) : PD X Z own ρ (.Call (.Name "sum" p) [e] [] pos) (.d (.int ns.sum)) :=
  pd_of (pe_callB (cr_sum hc) hg hm boot_sum (pa_cons pe_E pa_nil he) (by decide) (by decide) he hpl) fun σ H R Q k => h σ H R _ fun x H1 s1 ⟨l, vs, ex, hl, hd⟩ => by
    have ev := dpAll_ints hd
    subst ev ex
    exact ⟨l, ns, rfl, .inl hl, k _ H1 s1 (Dp.int _)⟩
theorem pd_intB {t : Bool} (h : PD X Z own ρ e (.d (.bool t))) (hm : X.mg "int" = none) (hg : Gl X "int" := by rfl) (he : starEach (e :: []) X.env = (false, eval e X.env) :: starEach [] X.env := by rfl) (hpl : (backTo pos (starEach [] X.env)).any (·.1) = false := by rfl) :
    PD X Z own ρ (.Call (.Name "int" p) [e] [] pos) (.d (.int (if t = true then 1 else 0))) :=
  pd_of (pe_callTy call_int1 hg hm boot_int (pa_cons pe_E pa_nil he) (by decide) (by decide) he hpl) fun σ H R Q k => h σ H R _ fun v H1 s1 q1 => by
    cases q1
    exact .inr ⟨t, rfl, k _ H1 s1 (Dp.int _)⟩
/-- the type's name of data -/
def tyD : PyData → String
  | .none => "NoneType"
  | .bool _ => "bool"
  | .int _ => "int"
  | .str _ => "str"
  | .list _ => "list"
  | .tuple _ => "tuple"
  | .dict _ => "dict"
def isDct : PyData → Bool
  | .dict _ => true
  | _ => false
theorem kit_ii : kitB "int" "int" = some true := by decide +kernel
theorem kit_bi : kitB "bool" "int" = some true := by decide +kernel
theorem kit_ib : kitB "int" "bool" = some false := by decide +kernel
theorem kit_bb : kitB "bool" "bool" = some true := by decide +kernel
theorem kit_tt : kitB "tuple" "tuple" = some true := by decide +kernel
theorem kit_ll : kitB "list" "list" = some true := by decide +kernel
theorem kit_it : kitB "int" "tuple" = some false := by decide +kernel
theorem kit_ni : kitB "NoneType" "int" = some false := by decide +kernel
theorem kit_si : kitB "str" "int" = some false := by decide +kernel
theorem kit_ti : kitB "tuple" "int" = some false := by decide +kernel
theorem kit_li : kitB "list" "int" = some false := by decide +kernel
theorem tyX_of {K : PySem.W.Frag} {H : Hp} {v : V} (h : Dp K H v d) (hn : ∀ kvs, d ≠ .dict kvs) : TyX K H v (.type (tyD d)) := by
  cases h with
  | non => exact .base .non
  | bl b => exact .base (.bl b)
  | int i => exact .base (.int i)
  | str x => exact .base (.str x)
  | lst hs _ =>
    rcases hs with h | ⟨o, h⟩
    · exact .base (.lst h)
    · exact .base (.frz h)
  | tup hs _ =>
    rcases hs with h | ⟨o, h⟩
    · exact .base (.tup h)
    · exact .fTuple h
  | scr _ _ => exact absurd rfl (hn _)
theorem pd_isi {n : String} {t : Bool} {x : Str} {px : Pos} (h : PW X Z own ρ e (.d d)) (hk : kitB (tyD d) n = some t) (hm : X.mg "isinstance" = none) (hmx : X.mg x = none) (hbx : bootBuiltins x = some (.type n)) (hnd : isDct d = false := by rfl) (hgx : Gl X x := by rfl) (hg : Gl X "isinstance" := by rfl)
    (hnx : x ≠ "__name__" := by decide) (hdx : (x == ("__debug__" : Str)) = false := by decide) (he : starEach (e :: [.Name x px]) X.env = (false, eval e X.env) :: starEach [.Name x px] X.env := by rfl)
    (he2 : starEach (.Name x px :: []) X.env = (false, eval (.Name x px) X.env) :: starEach [] X.env := by rfl) (hpl : (backTo pos (starEach [.Name x px] X.env)).any (·.1) = false := by rfl) : PD X Z own ρ (.Call (.Name "isinstance" p) [e, .Name x px] [] pos) (.d (.bool t)) :=
  pd_of (pe_callB call_isi hg hm boot_isi (pa_cons pe_E (pa_cons (pe_bltn (v := .ty n) hgx hmx hbx rfl hnx hdx) pa_nil he2) he) (by decide) (by decide) he hpl) fun σ H R Q k => h σ H R _ fun v H1 s1 q1 =>
    ⟨v, .ty n, _, _, t, rfl, .ty n, tyX_of q1 (fun kvs z => by rw [z] at hnd; cases hnd), kit_ty hk, k _ H1 s1 (Dp.bl t)⟩

/-! ### list(x), sorted(x) -/
theorem pn_listOf (h : PL X Z own ρ e ds) (hm : X.mg "list" = none) (hg : Gl X "list" := by rfl) (he : starEach (e :: []) X.env = (false, eval e X.env) :: starEach [] X.env := by rfl) (hpl : (backTo pos (starEach [] X.env)).any (·.1) = false := by rfl) :
    PN X Z own ρ (.Call (.Name "list" p) [e] [] pos) ds := fun σ H R Q k =>
  ⟨_, pe_callTy call_list_of hg hm boot_list (pa_cons pe_E pa_nil he) (by decide) (by decide) he hpl, h σ H R _ fun x H1 s1 ⟨l, vs, ex, hl, hd⟩ => by
    subst ex
    exact ⟨l, vs, rfl, .inl (.inl hl), pn_end (R.h.mono s1) hd fun p vs H' h1 h2 h3 h4 => k p vs H' (s1.free h1) (s1.trans h2) h3 h4⟩⟩
open PySem.W in
theorem each_of {K : PySem.W.Frag} {G : Hp} {β : Type} (enc : β → PyData) : ∀ {bs : List β} {vs : List V} {us : List Value}, DpAll K G vs (bs.map enc) → Vals vs us → EachIs (fun u b => ∃ x, RelV x u ∧ Dp K G x (enc b)) us bs
  | [], _, _, h, r => by cases h; cases r; exact .nil
  | b :: bs, _, _, h, r => by
    cases h with
    | cons h1 h2 =>
      cases r with
      | cons r1 r2 => exact .cons ⟨_, r1, h1⟩ (each_of enc h2 r2)
open PySem.W in
theorem of_each {K : PySem.W.Frag} {G : Hp} {β : Type} (enc : β → PyData) : ∀ {bs : List β} {us : List Value}, EachIs (fun u b => ∃ x, RelV x u ∧ Dp K G x (enc b)) us bs → ∃ vs, DpAll K G vs (bs.map enc) ∧ Vals vs us
  | _, _, .nil => ⟨[], .nil, .nil⟩
  | _, _, .cons ⟨x, r, h⟩ t => by
    obtain ⟨vs, h1, h2⟩ := of_each enc t
    exact ⟨x :: vs, .cons h h1, .cons r h2⟩
open PySem.W in
/-- sorted of a tracked list of like data -/
def rSortedD (K : PySem.W.Frag) {β : Type} (enc : β → PyData) (bs : List β) : List V → Hp → VK → Prop := fun xs H Q => ∃ a vs G, xs = [.ref a] ∧ Rd H a (.lst vs) ∧ Same G H ∧ DpAll K G vs (bs.map enc) ∧
  ∀ p vs', H p = none → DpAll K G vs' ((bs.mergeSort (dataLe false enc)).map enc) → Q (.ref p) (upd H p (.lst vs'))
open PySem.W in
theorem cr_sortedD {β : Type} {enc : β → PyData} {bs : List β} {k : Nat} (hr : Room k X.A) (hal : AllAlike (bs.map enc)) (hk : Sortable (bs.map enc)) (hdp : ∀ b ∈ bs, SeqAt.shaped (enc b) = true) : CallR X (.builtin "sorted") (rSortedD X.K enc bs) := by
  intro pins s σ H xs us Q I r h
  obtain ⟨a, vs, G, rfl, hl, hG, hd, q⟩ := h
  obtain ⟨its, rv, pl, hz⟩ := I.list (show SqL X.K H a vs from .inl hl)
  rw [Vals.ref1 r]
  have ee := each_of enc hd rv
  have er : EachIs (fun v b => ∃ as, Reads s.heap v (enc b) as) its bs := (each_mem ee).mono fun u b ⟨⟨x, rx, hx⟩, hb⟩ => Dp.reads I _ x u (dp_K _ _ (SeqAt.canLay_of_shaped (hdp b hb)) (dp_mono hG _ _ hx)) rx
  have hlen : bs.length ≤ sizeLine := by
    have e1 := dpAll_length hd
    rw [List.length_map] at e1
    omega
  refine sorted_data pl.isList ee er hal hk hlen (fun b hb => by
    have h1 := hr.un
    have h2 : (enc b).depth ≤ 64 := by
      have h3 := hdp b hb
      unfold SeqAt.shaped at h3
      rw [Bool.and_eq_true] at h3
      exact of_decide_eq_true h3.2
    omega) fun out ho eo => ?_
  obtain ⟨vs', h1, h2⟩ := of_each enc eo
  obtain ⟨ep, he'⟩ := PyProof.Rows.sortedAll_at s.heap its out.toArray
  have hlen' : vs'.length ≤ sizeLine := by rw [h2.length, ho]; exact hlen
  exact ⟨.ref _, upd H (s.heap.objs.size + 1) (.lst vs'), I.laid (t' := s.toks) (fun _ _ => PyProof.Rows.sortedAll_old) (Nat.le_succ _) ⟨hlen', out, ep, h2, he'⟩, rfl, q _ vs' (I.hok.fresh (Nat.le_succ _)) h1⟩
open PySem.W in
theorem pn_sorted {β : Type} {enc : β → PyData} {bs : List β} {k : Nat} (h : PL X Z own ρ e (bs.map enc)) (hr : Room k X.A) (hal : AllAlike (bs.map enc)) (hk : Sortable (bs.map enc)) (hdp : ∀ b ∈ bs, SeqAt.shaped (enc b) = true) (hm : X.mg "sorted" = none) (hg : Gl X "sorted" := by rfl)
    (he : starEach (e :: []) X.env = (false, eval e X.env) :: starEach [] X.env := by rfl) (hpl : (backTo pos (starEach [] X.env)).any (·.1) = false := by rfl) :
    PN X Z own ρ (.Call (.Name "sorted" p) [e] [] pos) ((bs.mergeSort (dataLe false enc)).map enc) := fun σ H R Q q =>
  ⟨_, pe_callB (cr_sortedD hr hal hk hdp) hg hm boot_sorted (pa_cons pe_E pa_nil he) (by decide) (by decide) he hpl, h σ H R _ fun x H1 s1 ⟨l, vs, ex', hl, hd⟩ => by
    subst ex'
    exact ⟨l, vs, cut (ex Z own) H1, rfl, hl, cut_full, hd, fun p vs' hp hd' => pn_end (R.h.mono s1) hd' (fun p vs H' h1 h2 h3 h4 => q p vs H' (s1.free h1) (s1.trans h2) h3 h4) p hp⟩⟩
end
end L3
set_option Elab.async false
set_option linter.all false
set_option autoImplicit false
set_option maxRecDepth 100000
set_option maxHeartbeats 4000000
/-! Lay5: calls of defs, what is walked, comprehensions, slices with a step. -/
namespace L3
open PySem PySem.Spec L2

/-! ### promises -/
/-- called with data ds of which Φ ds d holds, it hands back d -/
def SpD (K : PySem.W.Frag) (Φ : List PyData → PyData → Prop) : Sp := fun vs H Q _ => ∃ m0 ds d, (∀ a ∈ m0, ∃ o, H a = some o) ∧ DpAll K (cut m0 H) vs ds ∧ Φ ds d ∧ ∀ v H', Same H H' → Dp K (cut m0 H') v d → Q v H'
/-- .. a new list of es -/
def SpL (K : PySem.W.Frag) (Φ : List PyData → List PyData → Prop) : Sp := fun vs H Q _ => ∃ m0 ds es, (∀ a ∈ m0, ∃ o, H a = some o) ∧ DpAll K (cut m0 H) vs ds ∧ Φ ds es ∧
  ∀ p ws H', H p = none → Same H H' → H' p = some (.lst ws) → DpAll K (cut (p :: m0) H') ws es → Q (.ref p) H'
theorem spL_D {K : PySem.W.Frag} {Φ : List PyData → List PyData → Prop} {vs : List V} {H : Hp} {Q : VK} {E : XK} (h : SpD K (fun ds d => ∃ es, Φ ds es ∧ d = .list es) vs H Q E) : SpL K Φ vs H Q E := by
  obtain ⟨m0, ds, _, h1, h2, ⟨es, h3, rfl⟩, k⟩ := h
  refine ⟨m0, ds, es, h1, h2, h3, fun p ws H' hp s e hd => k _ H' s (.lst (.inl ?_) (dpAll_mono (cut_less fun a ha => List.mem_cons_of_mem _ ha) _ _ hd))⟩
  rw [cut_out]
  · exact e
  · intro z
    obtain ⟨o, q⟩ := h1 p z
    rw [hp] at q; cases q
theorem fnL_D {P : Program} {w : World} {K : PySem.W.Frag} {mg : Str → Option Value} {base : Heap} {CX : CXT} {k : Nat} {f : Addr} {fd : FuncData} {ps : List Str} {Φ : List PyData → List PyData → Prop} (F : FnOk P w K mg base CX k f fd ps (SpL K Φ)) :
    FnOk P w K mg base CX k f fd ps (SpD K fun ds d => ∃ es, Φ ds es ∧ d = .list es) := F.imp fun _ _ _ _ h => spL_D h
theorem ex_there {X : Cx} {Z : Fz} {own : Own} {H : Hp} (R : RepH X.K Z own H) : ∀ a ∈ ex Z own, ∃ o, H a = some o := fun a ha => R.there ha
section
variable {X : Cx} {Z : Fz} {own : Own} {ρ : List Sl} {pos p : Pos} {a b e : Expr} {es : List Expr} {r : Sl} {rs : List Sl} {ds : List PyData} {d : PyData} {i j : Int}
variable {k : Nat} {f : Addr} {fd : FuncData} {ps : List Str} {x : Str}
/-- f(e, ..), all arguments data -/
theorem pd_call {Φ : List PyData → PyData → Prop} (F : FnOk X.prog X.w X.K X.mg X.base CX0 k f fd ps (SpD X.K Φ)) (hr : Room k X.A) (hm : X.mg x = some (.ref f)) (hk : PySem.W.keepIn X.K (.ref f) = true) (hb : Binds X.K fd ps []) (ha : PDD X Z own ρ (e :: es) ds) (hΦ : Φ ds d)
    (hg : Gl X x := by rfl) (hdb : (x == ("__debug__" : Str)) = false := by decide) (he : starEach (e :: es) X.env = (false, eval e X.env) :: starEach es X.env := by rfl) (hpl : (backTo pos (starEach es X.env)).any (·.1) = false := by rfl) :
    PD X Z own ρ (.Call (.Name x p) (e :: es) [] pos) (.d d) :=
  pd_of (pe_call F hr hg hm hk hb .nil pass0 pa_A hdb he hpl) fun σ H R Q q => ha σ H R _ fun vs H1 s1 q1 => by
    rw [List.append_nil]
    exact ⟨ex Z own, ds, d, ex_there (R.h.mono s1), q1, hΦ, fun v H' s hv => q v H' (s1.trans s) hv⟩
/-- .. own lists among them, what comes is flat -/
theorem pd_callF {Φ : List PyData → PyData → Prop} (F : FnOk X.prog X.w X.K X.mg X.base CX0 k f fd ps (SpD X.K Φ)) (hr : Room k X.A) (hm : X.mg x = some (.ref f)) (hk : PySem.W.keepIn X.K (.ref f) = true) (hb : Binds X.K fd ps []) (ha : PWW X Z own ρ (e :: es) (ds.map Sl.d)) (hΦ : Φ ds d) (hf : flatD d = true := by rfl)
    (hg : Gl X x := by rfl) (hdb : (x == ("__debug__" : Str)) = false := by decide) (he : starEach (e :: es) X.env = (false, eval e X.env) :: starEach es X.env := by rfl) (hpl : (backTo pos (starEach es X.env)).any (·.1) = false := by rfl) :
    PD X Z own ρ (.Call (.Name x p) (e :: es) [] pos) (.d d) :=
  pd_of (pe_call F hr hg hm hk hb .nil pass0 pa_A hdb he hpl) fun σ H R Q q => ha σ H R _ fun vs H1 s1 q1 => by
    rw [List.append_nil]
    refine ⟨[], ds, d, (fun a ha => absurd ha (by simp)), by rw [cut_nil]; exact slsOk_data q1, hΦ, fun v H' s hv => q v H' (s1.trans s) (dp_flat hv hf)⟩
theorem pn_call {Φ : List PyData → List PyData → Prop} (F : FnOk X.prog X.w X.K X.mg X.base CX0 k f fd ps (SpL X.K Φ)) (hr : Room k X.A) (hm : X.mg x = some (.ref f)) (hk : PySem.W.keepIn X.K (.ref f) = true) (hb : Binds X.K fd ps []) {es' : List PyData} (ha : PDD X Z own ρ (e :: es) ds) (hΦ : Φ ds es')
    (hg : Gl X x := by rfl) (hdb : (x == ("__debug__" : Str)) = false := by decide) (he : starEach (e :: es) X.env = (false, eval e X.env) :: starEach es X.env := by rfl) (hpl : (backTo pos (starEach es X.env)).any (·.1) = false := by rfl) :
    PN X Z own ρ (.Call (.Name x p) (e :: es) [] pos) es' := fun σ H R Q q =>
  ⟨_, pe_call F hr hg hm hk hb .nil pass0 pa_A hdb he hpl, ha σ H R _ fun vs H1 s1 q1 => by
    rw [List.append_nil]
    exact ⟨ex Z own, ds, es', ex_there (R.h.mono s1), q1, hΦ, fun p ws H' hp s e hd => q p ws H' (s1.free hp) (s1.trans s) e hd⟩⟩

/-! ### what is walked -/
/-- J walks l: at each turn, in any heap that keeps what data leans on -/
structure ItOk (K : PySem.W.Frag) (m : List Addr) (H1 : Hp) (l : List PyData) (J : It) : Prop where
  go : ∀ m' H' k, Same (cut m H1) (cut m' H') → k < l.length → J.go k H'
  stop : ∀ m' H', Same (cut m H1) (cut m' H') → J.stop l.length H'
  yld : ∀ m' H' k x H2 d, Same (cut m H1) (cut m' H') → (∀ a ∈ m', ∃ o, H' a = some o) → l[k]? = some d → J.yld k H' x H2 → Same H' H2 ∧ Dp K (cut m' H2) x d
def PIt (X : Cx) (Z : Fz) (own : Own) (ρ : List Sl) (tg iter : Expr) (l : List PyData) : Prop :=
  ∃ wi, PI X tg iter wi ∧ ∀ σ H, Rep X.K Z own ρ σ H → ∀ R : It → Hp → Prop, (∀ J H1, Same H H1 → ItOk X.K (ex Z own) H1 l J → R J H1) → wi σ H R
theorem itOk_list {m : List Addr} {H1 : Hp} {q : Addr} {vs : List V} (h : Rd (cut m H1) q (.lst vs)) (hd : DpAll X.K (cut m H1) vs ds) : ItOk X.K m H1 ds (Itl X.K q) where
  go := fun m' H' k s hk => by
    obtain ⟨v, hv, _⟩ := dpAll_get hd (List.getElem?_eq_getElem hk)
    exact ⟨vs, v, .inl (rd_same cut_full (rd_same s h)), hv⟩
  stop := fun m' H' s => ⟨vs, .inl (rd_same cut_full (rd_same s h)), by rw [dpAll_length hd]; exact Nat.le_refl _⟩
  yld := fun m' H' k x H2 d s _ hk y => by
    obtain ⟨e, y⟩ := y
    subst e
    have hx := y vs (.inl (rd_same cut_full (rd_same s h)))
    obtain ⟨d', hd', hx'⟩ := dpAll_getV hd hx
    rw [hk] at hd'
    cases hd'
    exact ⟨Same.refl _, dp_mono s _ _ hx'⟩
theorem itOk_tup {m : List Addr} {H1 : Hp} {q : Addr} {vs : List V} (h : Rd (cut m H1) q (.tup vs)) (hd : DpAll X.K (cut m H1) vs ds) : ItOk X.K m H1 ds (Itt X.K q) where
  go := fun m' H' k s hk => by
    obtain ⟨v, hv, _⟩ := dpAll_get hd (List.getElem?_eq_getElem hk)
    exact ⟨vs, v, .inl (rd_same cut_full (rd_same s h)), hv⟩
  stop := fun m' H' s => ⟨vs, .inl (rd_same cut_full (rd_same s h)), by rw [dpAll_length hd]; exact Nat.le_refl _⟩
  yld := fun m' H' k x H2 d s _ hk y => by
    obtain ⟨e, y⟩ := y
    subst e
    have hx := y vs (.inl (rd_same cut_full (rd_same s h)))
    obtain ⟨d', hd', hx'⟩ := dpAll_getV hd hx
    rw [hk] at hd'
    cases hd'
    exact ⟨Same.refl _, dp_mono s _ _ hx'⟩
/-- lo, lo + 1, .. n of them -/
def rngD (lo : Int) (n : Nat) : List PyData := (List.range n).map fun k => PyData.int (lo + (k : Nat))
theorem rngD_length (lo : Int) (n : Nat) : (rngD lo n).length = n := by unfold rngD; rw [List.length_map, List.length_range]
theorem rngD_get {lo : Int} {n k : Nat} (h : k < n) : (rngD lo n)[k]? = some (.int (lo + (k : Nat))) := by
  unfold rngD
  rw [List.getElem?_map, List.getElem?_range h]
  rfl
theorem itOk_rng {m : List Addr} {H1 : Hp} {lo : Int} {n : Nat} : ItOk X.K m H1 (rngD lo n) (Itr lo n) where
  go := fun m' H' k s hk => by rw [rngD_length] at hk; exact hk
  stop := fun m' H' s => by rw [rngD_length]; exact Nat.le_refl n
  yld := fun m' H' k x H2 d s _ hk y => by
    obtain ⟨e, y⟩ := y
    subst e y
    have hk' : k < n := by
      have := (List.getElem?_eq_some_iff.mp hk).1
      rwa [rngD_length] at this
    rw [rngD_get hk'] at hk
    cases hk
    exact ⟨Same.refl _, Dp.int _⟩
/-- enumerate -/
def enumD (ds : List PyData) : List PyData := ds.zipIdx.map fun p => PyData.tuple [.int ((p.2 : Nat) : Int), p.1]
theorem enumD_length : (enumD ds).length = ds.length := by unfold enumD; rw [List.length_map, List.length_zipIdx]
theorem enumD_get {k : Nat} : (enumD ds)[k]? = ds[k]?.map fun d => PyData.tuple [.int (k : Nat), d] := by
  unfold enumD
  rw [List.getElem?_map, List.getElem?_zipIdx]
  cases ds[k]? <;> simp
theorem itOk_enum {m : List Addr} {H1 : Hp} {q : Addr} {vs : List V} (h : Rd (cut m H1) q (.lst vs)) (hd : DpAll X.K (cut m H1) vs ds) : ItOk X.K m H1 (enumD ds) (Ite X.K q) where
  go := fun m' H' k s hk => by
    rw [enumD_length] at hk
    obtain ⟨v, hv, _⟩ := dpAll_get hd (List.getElem?_eq_getElem hk)
    exact ⟨vs, v, .inl (rd_same cut_full (rd_same s h)), hv⟩
  stop := fun m' H' s => ⟨vs, .inl (rd_same cut_full (rd_same s h)), by rw [dpAll_length hd, enumD_length]; exact Nat.le_refl _⟩
  yld := fun m' H' k x H2 d s hm hk y => by
    obtain ⟨t, z, e1, hn, e2, y⟩ := y
    subst e1 e2
    have hx := y vs (.inl (rd_same cut_full (rd_same s h)))
    obtain ⟨d', hd', hx'⟩ := dpAll_getV hd hx
    rw [enumD_get, hd'] at hk
    cases hk
    have s2 := same_new hn (HO.tup [.int (k : Nat), z])
    refine ⟨s2, .tup (.inl ?_) (.cons (.int _) (.cons (dp_mono (cut_same s2) _ _ (dp_mono s _ _ hx')) .nil))⟩
    rw [cut_out, upd_same]
    intro hm'
    obtain ⟨o, ho⟩ := hm t hm'
    rw [hn] at ho; cases ho
theorem pit_list {tg : Expr} (h : PD X Z own ρ e (.d (.list ds))) : PIt X Z own ρ tg e ds := ⟨_, pi_list pe_E, fun σ H R Q k => h σ H R _ fun v H1 s1 q1 => by
  cases q1 with
  | @lst m vs _ hs ha => exact ⟨m, rfl, ⟨vs, .inl (rd_same cut_full hs)⟩, k _ H1 s1 (itOk_list hs ha)⟩⟩
theorem pit_tup {tg : Expr} (h : PD X Z own ρ e (.d (.tuple ds))) : PIt X Z own ρ tg e ds := ⟨_, pi_tup pe_E, fun σ H R Q k => h σ H R _ fun v H1 s1 q1 => by
  cases q1 with
  | @tup m vs _ hs ha => exact ⟨m, rfl, ⟨vs, .inl (rd_same cut_full hs)⟩, k _ H1 s1 (itOk_tup hs ha)⟩⟩
theorem pit_range1 {tg : Expr} (h : PD X Z own ρ e (.d (.int i))) (h1 : -(2 ^ 62) ≤ i) (h2 : i < 2 ^ 62) (hm : X.mg "range" = none) (hg : Gl X "range" := by rfl) (hs : starEach [e] X.env = [(false, eval e X.env)] := by rfl) (he : starEach (e :: []) X.env = (false, eval e X.env) :: starEach [] X.env := by rfl) :
    PIt X Z own ρ tg (.Call (.Name "range" p) [e] [] pos) (rngD 0 i.toNat) := ⟨_, pi_range1 hg hm (pa_cons pe_E pa_nil he) hs, fun σ H R Q k => h σ H R _ fun v H1 s1 q1 => by
  cases q1
  exact ⟨i, rfl, h1, h2, k _ H1 s1 itOk_rng⟩⟩
theorem pit_range2 {tg : Expr} (h : PD X Z own ρ a (.d (.int i))) (h' : PD X Z own ρ b (.d (.int j))) (h1 : -(2 ^ 62) ≤ i) (h2 : i < 2 ^ 62) (h3 : -(2 ^ 62) ≤ j) (h4 : j < 2 ^ 62) (hm : X.mg "range" = none) (hg : Gl X "range" := by rfl)
    (hs : starEach [a, b] X.env = [(false, eval a X.env), (false, eval b X.env)] := by rfl) (hs2 : starEach [b] X.env = [(false, eval b X.env)] := by rfl) (he : starEach (a :: [b]) X.env = (false, eval a X.env) :: starEach [b] X.env := by rfl) (he2 : starEach (b :: []) X.env = (false, eval b X.env) :: starEach [] X.env := by rfl) :
    PIt X Z own ρ tg (.Call (.Name "range" p) [a, b] [] pos) (rngD i (j - i).toNat) := ⟨_, pi_range2 hg hm (pa_cons pe_E (pa_cons pe_E pa_nil he2) he) hs hs2, fun σ H R Q k => h σ H R _ fun v H1 s1 q1 => h' σ H1 (R.mono s1) _ fun u H2 s2 q2 => by
  cases q1; cases q2
  exact ⟨i, j, rfl, ⟨h1, h2, h3, h4⟩, k _ H2 (s1.trans s2) itOk_rng⟩⟩
theorem pit_enum {elts : List Expr} {kk : Nat} {tpos : Pos} (h : PD X Z own ρ e (.d (.list ds))) (hm : X.mg "enumerate" = none) (hg : Gl X "enumerate" := by rfl) (hs : starEach [e] X.env = [(false, eval e X.env)] := by rfl) (he : starEach (e :: []) X.env = (false, eval e X.env) :: starEach [] X.env := by rfl) :
    PIt X Z own ρ (.Tuple elts kk tpos) (.Call (.Name "enumerate" p) [e] [] pos) (enumD ds) := ⟨_, pi_enum hg hm (pa_cons pe_E pa_nil he) hs, fun σ H R Q k => h σ H R _ fun v H1 s1 q1 => by
  cases q1 with
  | @lst m vs _ hs' ha => exact ⟨m, vs, rfl, .inl (rd_same cut_full (hs')), k _ H1 s1 (itOk_enum (hs') ha)⟩⟩
end
end L3
set_option Elab.async false
set_option linter.all false
set_option autoImplicit false
set_option maxRecDepth 100000
set_option maxHeartbeats 4000000
/-! Lay6: comprehensions, slices with a step. -/
namespace L3
open PySem PySem.Spec L2

theorem cut_into {m m' : List Addr} {H H2 : Hp} (s : Same H H2) (h : ∀ a o, H a = some o → a ∈ m' → a ∈ m) : Same (cut m H) (cut m' H2) := fun b o e => by
  have hb : b ∉ m := fun z => by rw [cut_in z] at e; cases e
  rw [cut_out hb] at e
  rw [cut_out fun z => hb (h b o e z)]
  exact s b o e
/-- one address more that data is not to lean on -/
abbrev Fz.more (Z : Fz) (D : Addr) : Fz := ⟨Z.F, D :: Z.m0⟩
theorem ex_more {Z : Fz} {own : Own} {D a : Addr} : a ∈ ex (Z.more D) own ↔ a = D ∨ a ∈ ex Z own := by
  unfold ex
  simp only [List.mem_append, List.mem_cons]
  constructor
  · rintro (h | h | h)
    · exact .inr (.inl h)
    · exact .inl h
    · exact .inr (.inr h)
  · rintro (h | h | h)
    · exact .inr (.inl h)
    · exact .inl h
    · exact .inr (.inr h)
theorem Rep.more {X : Cx} {Z : Fz} {own : Own} {ρ : List Sl} {σ : L2.St} {H H2 : Hp} {D : Addr} (R : Rep X.K Z own ρ σ H) (hD : H D = none) (s : Same H H2) (hD2 : ∃ o, H2 D = some o) : Rep X.K (Z.more D) own ρ σ H2 := by
  have c : Same (cut (ex Z own) H) (cut (ex (Z.more D) own) H2) := cut_into s fun a o e h => by
    rcases ex_more.mp h with h | h
    · subst h; rw [hD] at e; cases e
    · exact h
  refine ⟨⟨R.h.fr.trans s, fun p hp => ⟨(R.h.owns p hp).1, (R.h.owns p hp).2.mono c s⟩, fun a ha => ?_, R.h.nd, fun p hp z => ?_⟩, R.s.mono c⟩
  case refine_2 =>
    rcases List.mem_cons.mp z with z | z
    · obtain ⟨o, q⟩ := (R.h.owns p hp).2.there
      rw [z, hD] at q; cases q
    · exact R.h.dj p hp z
  rcases List.mem_cons.mp ha with h | h
  · rw [h]; exact hD2
  · obtain ⟨o, q⟩ := R.h.m0 a h
    exact ⟨o, s a o q⟩
theorem Rep.setS {X : Cx} {Z : Fz} {own : Own} {ρ : List Sl} {σ : L2.St} {H : Hp} (R : Rep X.K Z own ρ σ H) {i : Nat} {r : Sl} {v : V} (h : SlOk X.K (cut (ex Z own) H) r v) : Rep X.K Z own (ρ.set i r) (σ.set i (some v)) H := ⟨R.h, R.s.set (slotOk_of h) i⟩

/-! ### a clause's tests -/
def tTs (X : Cx) (ifs : List Expr) : TT := fun σ H Q => ∃ t, PTs X ifs t ∧ t σ H Q
def PBs (X : Cx) (Z : Fz) (own : Own) (ρ : List Sl) (ifs : List Expr) (b : Bool) : Prop := ∀ σ H, Rep X.K Z own ρ σ H → ∀ Q : Bool → Hp → Prop, (∀ H', Same H H' → Q b H') → tTs X ifs σ H Q
theorem pbs_nil {X : Cx} {Z : Fz} {own : Own} {ρ : List Sl} : PBs X Z own ρ [] true := fun σ H R Q k => ⟨_, pts_nil, k H (Same.refl H)⟩
theorem pbs_one {X : Cx} {Z : Fz} {own : Own} {ρ : List Sl} {c : Expr} {b : Bool} (h : PB X Z own ρ c b) : PBs X Z own ρ [c] b := fun σ H R Q k => ⟨_, pts_one pt_T, h σ H R Q k⟩

/-- the block's context -/
abbrev blkX (X : Cx) (scope : Scope) (s : Shared) (H : Hp) (C : Addr) (cl : List (Str × Addr)) (fp : List Addr) : Cx := X.blk s H scope (compEnvC scope cl C X.env) fp
def ttB (X : Cx) (scope : Scope) (ifs : List Expr) : TT := fun σ H Q => ∀ s H0 C cl fp, tTs (blkX X scope s H0 C cl fp) ifs σ H Q
def teB (X : Cx) (scope : Scope) (e : Expr) : TE := fun σ H Q => ∀ s H0 C cl fp, tE (blkX X scope s H0 C cl fp) e σ H Q
theorem ttB_ok {X : Cx} {scope : Scope} {ifs : List Expr} : ∀ (s : Shared) (H : Hp) (C : Addr) (cl : List (Str × Addr)) (fp : List Addr), PTs (blkX X scope s H C cl fp) ifs (ttB X scope ifs) := fun s0 H0 C cl fp => ⟨fun pins s σ H Q I h => by
  obtain ⟨t, ht, q⟩ := h s0 H0 C cl fp
  exact ht.run pins s σ H Q I q⟩
theorem teB_ok {X : Cx} {scope : Scope} {e : Expr} : ∀ (s : Shared) (H : Hp) (C : Addr) (cl : List (Str × Addr)) (fp : List Addr), PE (blkX X scope s H C cl fp) e (teB X scope e) := fun s0 H0 C cl fp => ⟨fun pins s σ H Q I h => by
  obtain ⟨t, ht, q⟩ := h s0 H0 C cl fp
  exact ht.run pins s σ H Q I q⟩
section
variable {X : Cx} {Z : Fz} {own : Own} {ρ : List Sl} {pos px : Pos} {iter elt : Expr} {ifs : List Expr} {x : Str} {scope : Scope}
/-- the reading of a comprehension whose target is the name in slot j -/
theorem lc_read {β : Type} {enc : β → PyData} {l : List β} {t : β → Bool} {f : β → PyData} {j : Nat} {wi : TI} {σ : L2.St} {H : Hp} {Q : VK} (R : Rep X.K Z own ρ σ H)
    (hw : ∀ R' : It → Hp → Prop, (∀ J H1, Same H H1 → ItOk X.K (ex Z own) H1 (l.map enc) J → R' J H1) → wi σ H R')
    (ht : ∀ b ∈ l, ∀ D s H0 C cl fp, PBs (blkX X scope s H0 C cl fp) (Z.more D) own (ρ.set j (.d (enc b))) ifs (t b))
    (he : ∀ b ∈ l, t b = true → ∀ D s H0 C cl fp, PD (blkX X scope s H0 C cl fp) (Z.more D) own (ρ.set j (.d (enc b))) elt (.d (f b)))
    (hz : l.length < sizeLine) (k : ∀ p vs H', H p = none → Same H H' → H' p = some (.lst vs) → DpAll X.K (cut (p :: ex Z own) H') vs ((l.filter t).map f) → Q (.ref p) H') :
    tLc wi (gName j) (ttB X scope ifs) (teB X scope elt) [j] σ H Q := by
  refine hw _ fun J H1 s1 it => ?_
  intro D hD
  have hDH : H D = none := s1.free hD
  have eqs : ∀ H' : Hp, Same (cut (ex (Z.more D) own) H') (cut (D :: ex Z own) H') := fun H' => cut_less fun a ha => by
    rcases List.mem_cons.mp ha with h | h
    · exact ex_more.mpr (.inl h)
    · exact ex_more.mpr (.inr h)
  refine ⟨fun i m H' => m = l.length - i ∧ i ≤ l.length ∧ Same H1 H' ∧ ∃ vs, H' D = some (.lst vs) ∧ DpAll X.K (cut (D :: ex Z own) H') vs (((l.take i).filter t).map f), ⟨l.length, rfl, Nat.zero_le _, same_new hD _, [], upd_same, .nil⟩, ?_⟩
  rintro i m H' ⟨rfl, hi, s', vs, hvs, hd⟩
  have sH := s1.trans s'
  by_cases hlt : i < l.length
  · refine .inr ⟨it.go (ex Z own) H' i (cut_same s') (by rw [List.length_map]; exact hlt), fun H' => i + 1 ≤ l.length ∧ Same H1 H' ∧ ∃ vs, H' D = some (.lst vs) ∧ DpAll X.K (cut (D :: ex Z own) H') vs (((l.take (i + 1)).filter t).map f), fun H'' ⟨a, b, c⟩ => ⟨l.length - (i + 1), by omega, rfl, a, b, c⟩, fun y H2 yl => ?_⟩
    have hb : l[i]? = some l[i] := List.getElem?_eq_getElem hlt
    have hbm : l[i] ∈ l := List.getElem_mem hlt
    have hm : ∀ a ∈ ex (Z.more D) own, ∃ o, H' a = some o := fun a ha => by
      rcases ex_more.mp ha with h | h
      · subst h; exact ⟨_, hvs⟩
      · obtain ⟨o, q⟩ := R.h.there h
        exact ⟨o, sH a o q⟩
    have c1 : Same (cut (ex Z own) H1) (cut (ex (Z.more D) own) H') := cut_into s' fun a o e h => by
      rcases ex_more.mp h with h | h
      · subst h; rw [hD] at e; cases e
      · exact h
    obtain ⟨s2, hy⟩ := it.yld (ex (Z.more D) own) H' i y H2 (enc l[i]) c1 hm (by rw [List.getElem?_map, hb]; rfl) yl
    have R2 : Rep X.K (Z.more D) own (ρ.set j (.d (enc l[i]))) (σ.set j (some y)) H2 := (R.more hDH (sH.trans s2) ⟨_, s2 _ _ hvs⟩).setS hy
    have eσ : (wipe σ [j]).set j (some y) = σ.set j (some y) := by
      show (σ.set j none).set j (some y) = _
      rw [List.set_set]
    show wipe ((wipe σ [j]).set j (some y)) [j] = wipe σ [j] ∧ _
    refine ⟨?_, ?_⟩
    · show (((σ.set j none).set j (some y)).set j none) = σ.set j none
      rw [List.set_set, List.set_set]
    rw [eσ]
    refine fun s H0 C cl fp => ht l[i] hbm D s H0 C cl fp _ _ R2 _ fun H3 s3 => ?_
    have etake : l.take (i + 1) = l.take i ++ [l[i]] := (List.take_append_getElem hlt).symm
    cases htb : t l[i] with
    | false =>
      refine iteF ⟨hlt, s'.trans (s2.trans s3), vs, s3 _ _ (s2 _ _ hvs), ?_⟩
      rw [etake, List.filter_append, List.filter_cons, if_neg (by rw [htb]; exact Bool.false_ne_true), List.filter_nil, List.append_nil]
      exact dpAll_mono (cut_same (s2.trans s3)) _ _ hd
    | true =>
      refine iteT fun s H0 C cl fp => he l[i] hbm htb D s H0 C cl fp _ _ (R2.mono s3) _ fun v H4 s4 hv => ?_
      have hvs4 := s4 _ _ (s3 _ _ (s2 _ _ hvs))
      have hl : vs.length < sizeLine := by
        have e1 := dpAll_length hd
        have e2 : ((l.take i).filter t).length ≤ (l.take i).length := List.length_filter_le _ _
        rw [List.length_map] at e1
        rw [List.length_take] at e2
        omega
      refine ⟨vs, hvs4, hl, hlt, (fun b o e => by rw [upd_ne (ne_of_none e hD)]; exact (s'.trans (s2.trans (s3.trans s4))) b o e), vs ++ [v], upd_same, ?_⟩
      rw [etake, List.filter_append, List.filter_cons, if_pos htb, List.filter_nil, List.map_append, cut_upd List.mem_cons_self]
      exact dpAll_app (dpAll_mono (cut_same (s2.trans (s3.trans s4))) _ _ hd) (.cons (dp_mono (eqs H4) _ _ hv) .nil)
  · have e : i = l.length := by omega
    subst e
    refine .inl ⟨?_, k D vs H' hDH sH hvs ?_⟩
    · have := it.stop (ex Z own) H' (cut_same s')
      rwa [List.length_map] at this
    · rw [List.take_length] at hd
      exact hd
theorem pn_lc {β : Type} (enc : β → PyData) (l : List β) (t : β → Bool) (f : β → PyData) (j : Nat) (hi : PIt X Z own ρ (.Name x px) iter (l.map enc)) (hN : X.N.Nodup) (ok : blkC X.N X.env.scope scope [(x, j)] = true)
    (hg : ∀ (s : Shared) (H : Hp) (C : Addr) (cl : List (Str × Addr)) (fp : List Addr), L2.PG (blkX X scope s H C cl fp) (.Name x px) (gName j))
    (ht : ∀ b ∈ l, ∀ D s H0 C cl fp, PBs (blkX X scope s H0 C cl fp) (Z.more D) own (ρ.set j (.d (enc b))) ifs (t b))
    (he : ∀ b ∈ l, t b = true → ∀ D s H0 C cl fp, PD (blkX X scope s H0 C cl fp) (Z.more D) own (ρ.set j (.d (enc b))) elt (.d (f b)))
    (hz : l.length < sizeLine) (hc : X.calm = true := by rfl) (hs : ∀ x, foldedSetIterable iter X.env x = pure x := by intro _; rfl) :
    PN X Z own ρ (.ListComp elt [⟨.Name x px, iter, ifs, 0⟩] scope pos) ((l.filter t).map f) := fun σ H R Q k => by
  obtain ⟨wi, hi, hw⟩ := hi
  exact ⟨_, pe_lc (own := [(x, j)]) hc hN hi (blkOk_by ok) hg ttB_ok teB_ok hs, lc_read R (hw σ H R) ht he hz k⟩

/-! ### a slice with a step -/
def pickV {α : Type} (xs : List α) (lo hi st : Option Int) : List α := (sliceRange (sliceBounds lo hi st xs.length).1 (sliceBounds lo hi st xs.length).2.1 (sliceBounds lo hi st xs.length).2.2).filterMap (xs[·]?)
theorem vals_pick {vs : List V} {us : List Value} (h : Vals vs us) : ∀ is : List Nat, Vals (is.filterMap (vs[·]?)) (is.filterMap (us[·]?))
  | [] => .nil
  | i :: is => by
    have ih := vals_pick h is
    cases e : vs[i]? with
    | none =>
      rw [List.filterMap_cons_none e, List.filterMap_cons_none (h.none_of e)]
      exact ih
    | some v =>
      obtain ⟨u, hu, r⟩ := h.get e
      rw [List.filterMap_cons_some e, List.filterMap_cons_some hu]
      exact .cons r ih
theorem dpAll_pick {X : Cx} {G : Hp} {vs : List V} {ds : List PyData} (h : DpAll X.K G vs ds) : ∀ is : List Nat, DpAll X.K G (is.filterMap (vs[·]?)) (is.filterMap (ds[·]?))
  | [] => .nil
  | i :: is => by
    have ih := dpAll_pick h is
    cases e : vs[i]? with
    | none =>
      have e' : ds[i]? = none := List.getElem?_eq_none_iff.mpr (by rw [← dpAll_length h]; exact List.getElem?_eq_none_iff.mp e)
      rw [List.filterMap_cons_none e, List.filterMap_cons_none e']
      exact ih
    | some v =>
      obtain ⟨d, hd, r⟩ := dpAll_getV h e
      rw [List.filterMap_cons_some e, List.filterMap_cons_some hd]
      exact .cons r ih
def tSl3 (te : TE) (tl th ts : TO) : TE := fun σ H Q => te σ H fun x H1 => tl σ H1 fun l H2 => th σ H2 fun u H3 => ts σ H3 fun c H4 => c ≠ some 0 ∧ ∃ a xs, x = .ref a ∧ Rd H4 a (.lst xs) ∧ ∀ p, H4 p = none → Q (.ref p) (upd H4 p (.lst (pickV xs l u c)))
theorem pe_slice3 {e st : Expr} {lo hi : Option Expr} {te : TE} {tl th ts : TO} {p3 : Pos} (he : PE X e te) (hl : PO X lo tl) (hu : PO X hi th) (hst : PO X (some st) ts)
    (htl : ∀ v k, subscripted (.Slice lo hi (some st) p3) false v (.ref k) = operate [v, .ref k] (getItem v (.ref k)) := by intro _ _; with_unfolding_all rfl) : PE X (.Subscript e (.Slice lo hi (some st) p3) pos) (tSl3 te tl th ts) := by
  refine ⟨fun pins s σ H Q I h => ?_⟩
  refine PyProof.Rows.Subscript_ (thn (he.run pins s σ H _ I h) fun v s1 ⟨x, H1, I1, r1, q1⟩ => ?_)
  refine wpAny_Slice (thn (hl.run pins s1 σ H1 _ I1 q1) fun vl s2 ⟨l, H2, I2, pl, q2⟩ => thn (hu.run pins s2 σ H2 _ I2 q2) fun vu s3 ⟨u, H3, I3, pu, q3⟩ => thn (hst.run pins s3 σ H3 _ I3 q3) fun vs s4 ⟨o, H4, I4, ps, hne, a, xs, ex, hx, q⟩ => ?_)
  subst ex
  cases r1
  have I5 : Inv X pins σ H4 { s4 with heap := s4.heap.push { cls := .type "slice", data := .fields #[vl, vu, vs] } } := I4.kept (t' := s4.toks) fun b ob q => Heap.get?_push_of_some _ q
  obtain ⟨its, r, ht, hz⟩ := I5.list (show SqL X.K H4 a xs from .inl hx)
  have hlen := r.length
  show wpAny (model X.prog X.w) X.A (PyProof.Rows.subscriptTail e (.Slice lo hi (some st) p3) (.ref a) (.ref s4.heap.objs.size)) (EP X pins σ Q) X.xe { s4 with heap := s4.heap.push { cls := .type "slice", data := .fields #[vl, vu, vs] } }
  refine PyProof.Rows.tail_any (ops := [.ref a, .ref s4.heap.objs.size]) ht.isList.typeIs (PySem.slot_list_getitem.lookup) ?_ (htl _ _)
  refine wpAny_getItem_list_slice ht.isList (Heap.IsSliceOf.new _ vl vu vs) pl pu ps hne ?_ (by rw [List.size_toArray]; omega)
  have e : slicePick its.toArray l u o = (pickV its l u o).toArray := by
    unfold slicePick pickV
    simp only [List.size_toArray, List.getElem?_toArray]
  have hv : Vals (pickV xs l u o) (pickV its l u o) := by
    unfold pickV
    rw [hlen]
    exact vals_pick r _
  have hz' : (pickV xs l u o).length ≤ sizeLine := by
    have h1 := slicePick_size_le its.toArray l u o
    rw [e] at h1
    rw [hv.length]
    simp only [List.size_toArray] at h1
    omega
  rw [e]
  refine ⟨.ref _, _, I5.laid (t' := s4.toks) (o := .lst (pickV xs l u o)) (fun b ob q => Heap.get?_push_of_some _ q) (Nat.le_refl _) ?_, rfl, q _ (I5.hok.fresh (Nat.le_refl _))⟩
  exact ⟨hz', _, 0, hv, Heap.get?_push_size _ rfl⟩
theorem pn_slice3 {a st : Expr} {lo hi : Option Expr} {l u : Option Int} {c : Int} {p3 : Pos} {ds : List PyData} (ha : PL X Z own ρ a ds) (hl : PP X Z own ρ lo l) (hu : PP X Z own ρ hi u) (hs : PD X Z own ρ st (.d (.int c))) (hc : c ≠ 0)
    (htl : ∀ v k, subscripted (.Slice lo hi (some st) p3) false v (.ref k) = operate [v, .ref k] (getItem v (.ref k)) := by intro _ _; with_unfolding_all rfl) : PN X Z own ρ (.Subscript a (.Slice lo hi (some st) p3) pos) (pickV ds l u (some c)) := fun σ H R Q k =>
  ⟨_, pe_slice3 pe_E po_O po_O po_O htl, ha σ H R _ fun x H1 s1 p1 => hl.run (R.mono s1) fun H2 s2 => hu.run (R.mono (s1.trans s2)) fun H3 s3 => (PP.some hs).run (R.mono ((s1.trans s2).trans s3)) fun H4 s4 => by
    obtain ⟨m, vs, rfl, hm, dm⟩ := mono_l _ _ _ ((s2.trans s3).trans s4) p1
    have s14 := ((s1.trans s2).trans s3).trans s4
    refine ⟨fun z => hc (Option.some.inj z), m, vs, rfl, hm, fun p hp => ?_⟩
    refine pn_end (R.h.mono s14) ?_ (fun p vs H' h1 h2 h3 h4 => k p vs H' (s14.free h1) (s14.trans h2) h3 h4) p hp
    unfold pickV
    rw [dpAll_length dm]
    exact dpAll_pick dm _⟩
end
end L3
set_option Elab.async false
set_option linter.all false
set_option autoImplicit false
set_option maxRecDepth 100000
set_option maxHeartbeats 4000000
/-! Lay7: statements, blocks, defs. -/
namespace L3
open PySem PySem.Spec L2

/-- what is to hold behind a block: at its end, at a return, a break, a continue -/
structure Pst where
  nx : Own → List Sl → Prop
  rt : Own → Sl → Prop
  bk : Own → List Sl → Prop := fun _ _ => False
  ct : Own → List Sl → Prop := fun _ _ => False
structure EndsOk (K : PySem.W.Frag) (Z : Fz) (P : Pst) (D : Ends) : Prop where
  nx : ∀ own ρ σ H, P.nx own ρ → Rep K Z own ρ σ H → D.nx σ H
  rt : ∀ own r v H, P.rt own r → RepH K Z own H → SlOk K (cut (ex Z own) H) r v → D.rt v H
  bk : ∀ own ρ σ H, P.bk own ρ → Rep K Z own ρ σ H → D.bk σ H
  ct : ∀ own ρ σ H, P.ct own ρ → Rep K Z own ρ σ H → D.ct σ H
/-- the block, from such a state, comes to what P says -/
def PH (X : Cx) (Z : Fz) (own : Own) (ρ : List Sl) (sts : List Stmt) (P : Pst) : Prop := ∀ σ H, Rep X.K Z own ρ σ H → ∀ D, EndsOk X.K Z P D → tSs X sts D σ H
/-- P, what follows put behind the end -/
abbrev Pst.seq (P : Pst) (X : Cx) (Z : Fz) (rest : List Stmt) : Pst := { P with nx := fun own ρ => PH X Z own ρ rest P }

theorem rep_weakF {X : Cx} {F F' : Hp} {m0 : List Addr} {own : Own} {ρ : List Sl} {σ : L2.St} {H : Hp} (s : Same F F') (R : Rep X.K ⟨F', m0⟩ own ρ σ H) : Rep X.K ⟨F, m0⟩ own ρ σ H :=
  ⟨⟨s.trans R.h.fr, fun p hp => ⟨s.free (R.h.owns p hp).1, (R.h.owns p hp).2⟩, R.h.m0, R.h.nd, R.h.dj⟩, R.s⟩
theorem repH_weakF {X : Cx} {F F' : Hp} {m0 : List Addr} {own : Own} {H : Hp} (s : Same F F') (R : RepH X.K ⟨F', m0⟩ own H) : RepH X.K ⟨F, m0⟩ own H :=
  ⟨s.trans R.fr, fun p hp => ⟨s.free (R.owns p hp).1, (R.owns p hp).2⟩, R.m0, R.nd, R.dj⟩

section
variable {X : Cx} {Z : Fz} {own : Own} {ρ : List Sl} {pos px spos : Pos} {e c : Expr} {x : Str} {r : Sl} {d : PyData} {ds : List PyData} {rest thn els : List Stmt} {st : Stmt} {P : Pst} {i : Nat} {b : Bool}
theorem h_nil (h : P.nx own ρ) : PH X Z own ρ [] P := fun σ H R D E => ⟨_, pss_nil, E.nx own ρ σ H h R⟩
/-- a statement, then the rest: t is what the statement's rule reads -/
theorem h_cons {t : TS} (h : PS X st t) (q : ∀ σ H, Rep X.K Z own ρ σ H → ∀ D, EndsOk X.K Z (P.seq X Z rest) D → t D σ H) : PH X Z own ρ (st :: rest) P := fun σ H R D E =>
  ⟨_, pss_cons h pss_Ss, q σ H R _ ⟨fun own ρ σ H hn R => hn σ H R D E, E.rt, E.bk, E.ct⟩⟩
theorem h_set (i : Nat) (he : PD X Z own ρ e r) (k : PH X Z own (ρ.set i r) rest P) (hN : X.N.Nodup) (hi : X.N[i]? = some x := by rfl) (hx : Loc X.env.scope x := by first | exact Or.inl rfl | exact Or.inr rfl) (hs : swapsWith e (some (.Name x px)) spos.line X.env = pure false := by rfl)
    (hf : X.fn x = true ∨ X.env.scope.names.lookup x = some .local := by first | exact .inl rfl | exact .inr rfl) : PH X Z own ρ (.Assign [.Name x px] e spos :: rest) P :=
  h_cons (ps_set hN hi hx pe_E hs hf) fun σ H R D E => he σ H R _ fun v H' s hv => E.nx own _ _ H' k ((R.mono s).setS hv)
theorem h_setN (i : Nat) (he : PN X Z own ρ e ds) (k : ∀ p, PH X Z ((p, .lst ds) :: own) (ρ.set i (.v (.ref p))) rest P) (hN : X.N.Nodup) (hi : X.N[i]? = some x := by rfl) (hx : Loc X.env.scope x := by first | exact Or.inl rfl | exact Or.inr rfl) (hs : swapsWith e (some (.Name x px)) spos.line X.env = pure false := by rfl)
    (hf : X.fn x = true ∨ X.env.scope.names.lookup x = some .local := by first | exact .inl rfl | exact .inr rfl) : PH X Z own ρ (.Assign [.Name x px] e spos :: rest) P :=
  h_cons (ps_set hN hi hx pe_E hs hf) fun σ H R D E => he σ H R _ fun p vs H' hp s hq hd => E.nx _ _ _ H' (k p) (Rep.setS (R.cons (m := .lst ds) hp s ⟨vs, hq, hd⟩) rfl)
/-- name = [..] on one line -/
theorem setLc_core {β : Type} {px' : Pos} {y : Str} {py : Pos} {elt iter : Expr} {ifs : List Expr} {scope : Scope} (enc : β → PyData) (l : List β) (t : β → Bool) (f : β → PyData) (i j : Nat) (hi : PIt X Z own ρ (.Name x px) iter (l.map enc))
    (ht : ∀ b ∈ l, ∀ D s H0 C cl fp, PBs (blkX X scope s H0 C cl fp) (Z.more D) own (ρ.set j (.d (enc b))) ifs (t b))
    (he : ∀ b ∈ l, t b = true → ∀ D s H0 C cl fp, PD (blkX X scope s H0 C cl fp) (Z.more D) own (ρ.set j (.d (enc b))) elt (.d (f b)))
    (hz : l.length < sizeLine) (k : ∀ p, PH X Z ((p, .lst ((l.filter t).map f)) :: own) (ρ.set i (.v (.ref p))) rest P) (hN : X.N.Nodup) (hy : X.N[i]? = some y) (hyl : X.env.scope.names.lookup y = some .local)
    (hsw : swapsWith (.ListComp elt [⟨.Name x px, iter, ifs, 0⟩] scope pos) (some (.Name y py)) spos.line X.env = pure true) (ok : blkC X.N X.env.scope scope [(x, j)] = true)
    (hg : ∀ (s : Shared) (H : Hp) (C : Addr) (cl : List (Str × Addr)) (fp : List Addr), L2.PG (blkX X scope s H C cl fp) (.Name x px) (gName j)) (hc : X.calm = true) (hs : ∀ x, foldedSetIterable iter X.env x = pure x) :
    PH X Z own ρ (.Assign [.Name y py] (.ListComp elt [⟨.Name x px, iter, ifs, 0⟩] scope pos) spos :: rest) P := by
  obtain ⟨wi, hi, hw⟩ := hi
  exact h_cons (ps_setLc (own := [(x, j)]) hc hN hy hyl hsw hi (blkOk_by ok) hg ttB_ok teB_ok hs) fun σ H R D E => lc_read R (hw σ H R) ht he hz fun p vs H' hp s hq hd =>
    E.nx _ _ _ H' (k p) (Rep.setS (R.cons (m := .lst ((l.filter t).map f)) hp s ⟨vs, hq, hd⟩) rfl)
/-- own addresses as they stand -/
theorem ex_set {own : Own} {k : Nat} {a : Addr} {m m' : Mo} (h : own[k]? = some (a, m)) : (own.set k (a, m')).map (·.1) = own.map (·.1) := by
  rw [List.map_set]
  show (own.map (·.1)).set k a = own.map (·.1)
  have e : (own.map (·.1))[k]? = some a := by rw [List.getElem?_map, h]; rfl
  obtain ⟨h1, h2⟩ := List.getElem?_eq_some_iff.mp e
  rw [← h2, List.set_getElem_self]
theorem ex_set' {Z : Fz} {own : Own} {k : Nat} {a : Addr} {m m' : Mo} (h : own[k]? = some (a, m)) : ex Z (own.set k (a, m')) = ex Z own := by
  unfold ex
  rw [ex_set h]
/-- an own object is written -/
theorem RepH.write {H : Hp} (R : RepH X.K Z own H) {k : Nat} {a : Addr} {m m' : Mo} {o : HO} (h : own[k]? = some (a, m)) (hm : MoOk X.K (cut (ex Z own) H) (upd H a o) a m') : RepH X.K Z (own.set k (a, m')) (upd H a o) := by
  have hmem : (a, m) ∈ own := List.mem_of_getElem? h
  have ha : a ∈ ex Z own := List.mem_append_left _ (List.mem_map.mpr ⟨_, hmem, rfl⟩)
  have ec : cut (ex Z (own.set k (a, m'))) (upd H a o) = cut (ex Z own) H := by rw [ex_set' h, cut_upd ha]
  refine ⟨fun b u e => ?_, fun p hp => ?_, fun b hb => ?_, ?_, fun p hp z => ?_⟩
  · have hba : b ≠ a := fun z => by rw [z, (R.owns _ hmem).1] at e; cases e
    rw [upd_ne hba]
    exact R.fr b u e
  · rw [ec]
    obtain ⟨q, hq⟩ := List.getElem?_of_mem hp
    by_cases hk : q = k
    · subst hk
      have hlt : q < own.length := (List.getElem?_eq_some_iff.mp h).1
      rw [List.getElem?_set_self hlt] at hq
      cases hq
      exact ⟨(R.owns _ hmem).1, hm⟩
    · rw [List.getElem?_set_ne (Ne.symm hk)] at hq
      have hp' : p ∈ own := List.mem_of_getElem? hq
      have hpa : p.1 ≠ a := fun z => by
        have e1 : (own.map (·.1))[q]? = some p.1 := by rw [List.getElem?_map, hq]; rfl
        have e2 : (own.map (·.1))[k]? = some a := by rw [List.getElem?_map, h]; rfl
        rw [z] at e1
        exact hk (nd_ix R.nd e1 e2)
      obtain ⟨f1, f2⟩ := R.owns p hp'
      refine ⟨f1, ?_⟩
      cases hpm : p.2 with
      | lst ds => rw [hpm] at f2; obtain ⟨vs, x1, x2⟩ := f2; exact ⟨vs, by rw [upd_ne hpa]; exact x1, x2⟩
      | ins C f x => rw [hpm] at f2; obtain ⟨dx, v, x1, x2⟩ := f2; exact ⟨dx, v, by rw [upd_ne hpa]; exact x1, x2⟩
      | raw o' => rw [hpm] at f2; exact (upd_ne hpa).trans f2
      | fix C dx f v x => rw [hpm] at f2; exact ⟨(upd_ne hpa).trans f2.1, f2.2⟩
  · obtain ⟨u, e⟩ := R.m0 b hb
    by_cases hba : b = a
    · subst hba; exact ⟨_, upd_same⟩
    · exact ⟨u, by rw [upd_ne hba]; exact e⟩
  · rw [ex_set h]; exact R.nd
  · have e : p.1 ∈ (own.set k (a, m')).map (·.1) := List.mem_map.mpr ⟨p, hp, rfl⟩
    rw [ex_set h] at e
    obtain ⟨q, hq, eq⟩ := List.mem_map.mp e
    exact R.dj q hq (by rw [eq]; exact z)
theorem Rep.write {H : Hp} {σ : L2.St} (R : Rep X.K Z own ρ σ H) {k : Nat} {a : Addr} {m m' : Mo} {o : HO} (h : own[k]? = some (a, m)) (hm : MoOk X.K (cut (ex Z own) H) (upd H a o) a m') : Rep X.K Z (own.set k (a, m')) ρ σ (upd H a o) := by
  have hmem : (a, m) ∈ own := List.mem_of_getElem? h
  have ha : a ∈ ex Z own := List.mem_append_left _ (List.mem_map.mpr ⟨_, hmem, rfl⟩)
  refine ⟨R.h.write h hm, ?_⟩
  rw [ex_set' h, cut_upd ha]
  exact R.s
/-- x.append(e) -/
theorem h_app {a : Addr} {o : Expr} {apos : Pos} (k : Nat) (ho : PD X Z own ρ o (.v (.ref a))) (hk : own[k]? = some (a, .lst ds)) (he : PD X Z own ρ e (.d d)) (hz : ds.length < sizeLine) (q : PH X Z (own.set k (a, .lst (ds ++ [d]))) ρ rest P)
    (hpe : PE X (.Call (.Attribute o "append" apos) [e] [] pos) (tBM X.K "list" rAppend (tE X o) (tCons (tE X e) tNil))) (hs : swapsWith (.Call (.Attribute o "append" apos) [e] [] pos) none spos.line X.env = pure false := by rfl) :
    PH X Z own ρ (.Expr (.Call (.Attribute o "append" apos) [e] [] pos) spos :: rest) P :=
  h_cons (ps_expr hpe hs) fun σ H R D E => ho σ H R _ fun v H1 s1 hv => by
    have hmem : (a, Mo.lst ds) ∈ own := List.mem_of_getElem? hk
    obtain ⟨_, vs, h1, h2⟩ := (R.h.mono s1).owns _ hmem
    have ev : v = .ref a := hv
    subst ev
    refine ⟨.inl ⟨rfl, _, SqL.of h1⟩, he σ H1 (R.mono s1) _ fun u H2 s2 hu => ⟨a, vs, u, rfl, rfl, s2 _ _ h1, by rw [dpAll_length h2]; exact hz, ?_⟩⟩
    refine E.nx _ _ σ _ q (((R.mono s1).mono s2).write hk ⟨vs ++ [u], upd_same, dpAll_app (dpAll_mono (cut_same s2) _ _ h2) (.cons hu .nil)⟩)
/-- y = x.pop() -/
theorem h_pop {a : Addr} {o : Expr} {apos : Pos} (k i : Nat) (ho : PD X Z own ρ o (.v (.ref a))) (hk : own[k]? = some (a, .lst (ds ++ [d]))) (q : PH X Z (own.set k (a, .lst ds)) (ρ.set i (.d d)) rest P)
    (hpe : PE X (.Call (.Attribute o "pop" apos) [] [] pos) (tBM0 X.K "list" rPop (tE X o))) (hN : X.N.Nodup) (hi : X.N[i]? = some x := by rfl) (hx : Loc X.env.scope x := by first | exact Or.inl rfl | exact Or.inr rfl)
    (hs : swapsWith (.Call (.Attribute o "pop" apos) [] [] pos) (some (.Name x px)) spos.line X.env = pure false := by rfl) (hf : X.fn x = true ∨ X.env.scope.names.lookup x = some .local := by first | exact .inl rfl | exact .inr rfl) :
    PH X Z own ρ (.Assign [.Name x px] (.Call (.Attribute o "pop" apos) [] [] pos) spos :: rest) P :=
  h_cons (ps_set hN hi hx hpe hs hf) fun σ H R D E => ho σ H R _ fun v H1 s1 hv => by
    have hmem : (a, Mo.lst (ds ++ [d])) ∈ own := List.mem_of_getElem? hk
    obtain ⟨_, vs, h1, h2⟩ := (R.h.mono s1).owns _ hmem
    have ev : v = .ref a := hv
    subst ev
    have hl := dpAll_length h2
    rw [List.length_append, List.length_singleton] at hl
    obtain ⟨u, hu, hd⟩ := dpAll_get (i := ds.length) (d := d) h2 (by rw [List.getElem?_append_right (Nat.le_refl _)]; simp)
    refine ⟨.inl ⟨rfl, _, SqL.of h1⟩, a, vs, u, rfl, rfl, h1, by rw [hl]; exact hu, ?_⟩
    have h3 : DpAll X.K (cut (ex Z own) H1) vs.dropLast ds := by
      have := dpAll_dropLast h2
      rwa [List.dropLast_concat] at this
    have R2 : Rep X.K Z (own.set k (a, .lst ds)) ρ σ (upd H1 a (.lst vs.dropLast)) := (R.mono s1).write hk ⟨_, upd_same, h3⟩
    refine E.nx _ _ _ _ q (R2.setS ?_)
    rw [ex_set' hk, cut_upd (show a ∈ ex Z own from List.mem_append_left _ (List.mem_map.mpr ⟨_, hmem, rfl⟩))]
    exact hd

/-! ### targets -/
def TgD (X : Cx) (tg : Expr) (d : PyData) (u : List Sl → List Sl) : Prop :=
  ∃ g, L2.PG X tg g ∧ ∀ Z own ρ σ H v, Rep X.K Z own ρ σ H → Dp X.K (cut (ex Z own) H) v d → ∀ Q : L2.St → Hp → Prop, (∀ σ', Rep X.K Z own (u ρ) σ' H → Q σ' H) → g v σ H Q
def TgsD (X : Cx) (es : List Expr) (ds : List PyData) (u : List Sl → List Sl) : Prop :=
  ∃ g, PGs X es g ∧ ∀ Z own ρ σ H vs, Rep X.K Z own ρ σ H → DpAll X.K (cut (ex Z own) H) vs ds → ∀ Q : L2.St → Hp → Prop, (∀ σ', Rep X.K Z own (u ρ) σ' H → Q σ' H) → g vs σ H Q
theorem tg_name (i : Nat) (hN : X.N.Nodup) (hi : X.N[i]? = some x := by rfl) (hx : Loc X.env.scope x := by first | exact Or.inl rfl | exact Or.inr rfl) (hf : X.fn x = true ∨ X.env.scope.names.lookup x = some .local := by first | exact .inl rfl | exact .inr rfl) :
    TgD X (.Name x px) d (fun ρ => ρ.set i (.d d)) := ⟨_, pg_name hN hi hx hf, fun Z own ρ σ H v R hv Q k => k _ (R.setS hv)⟩
theorem tgs_nil : TgsD X [] [] (fun ρ => ρ) := ⟨_, pgs_nil, fun Z own ρ σ H vs R hv Q k => by cases hv; exact ⟨rfl, k _ R⟩⟩
theorem tgs_cons {tg : Expr} {es : List Expr} {u u' : List Sl → List Sl} (h : TgD X tg d u) (h' : TgsD X es ds u') (hs : (assignEach (tg :: es) X.env).map (·.2) = assign tg X.env :: (assignEach es X.env).map (·.2) := by rfl) : TgsD X (tg :: es) (d :: ds) (fun ρ => u' (u ρ)) := by
  obtain ⟨g, h1, h2⟩ := h
  obtain ⟨g', h3, h4⟩ := h'
  refine ⟨_, pgs_cons h1 h3 hs, fun Z own ρ σ H vs R hv Q k => ?_⟩
  cases hv with
  | cons a b => exact ⟨_, _, rfl, h2 Z own ρ σ H _ R a _ fun σ' R' => h4 Z own _ σ' H _ R' b Q k⟩
theorem tg_tup {es : List Expr} {kk : Nat} {u : List Sl → List Sl} (h : TgsD X es ds u) (hn : (assignEach es X.env).length = ds.length := by rfl) (hc : X.calm = true := by rfl) (hst : (assignEach es X.env).findIdx? (·.1) = none := by rfl) : TgD X (.Tuple es kk pos) (.tuple ds) u := by
  obtain ⟨g, h1, h2⟩ := h
  refine ⟨_, L2.pg_tup hc h1 hn hst, fun Z own ρ σ H v R hv Q k => ?_⟩
  cases hv with
  | @tup a vs _ hs hd => exact ⟨a, vs, rfl, (.inl (rd_same cut_full hs)), dpAll_length hd, h2 Z own ρ σ H vs R hd Q k⟩
/-- a target of any form -/
theorem h_asg {tg : Expr} {u : List Sl → List Sl} (he : PD X Z own ρ e (.d d)) (ht : TgD X tg d u) (k : PH X Z own (u ρ) rest P) (hs : swapsWithSole [tg] e spos.line X.env = pure false := by rfl) (hw : swappedStores [tg] e X.env = pure none := by rfl)
    (h1 : (assignEach [tg] X.env).map (·.2) = [assign tg X.env] := by rfl) : PH X Z own ρ (.Assign [tg] e spos :: rest) P := by
  obtain ⟨g, hg, ht⟩ := ht
  exact h_cons (ps_asg pe_E hg hs hw h1) fun σ H R D E => he σ H R _ fun v H' s hv => ht Z own ρ σ H' v (R.mono s) hv _ fun σ' R' => E.nx _ _ _ _ k R'
/-- a, b = e1, e2 -/
theorem h_par {y : Str} {py pt pt2 : Pos} {kt k2 : Nat} {a b : Expr} {d1 d2 : PyData} (i j : Nat) (ha : PDD X Z own ρ [a, b] [d1, d2]) (k : PH X Z own ((ρ.set i (.d d1)).set j (.d d2)) rest P) (hN : X.N.Nodup) (hij : i ≠ j := by decide) (hi : X.N[i]? = some x := by rfl) (hj : X.N[j]? = some y := by rfl) (hc : X.calm = true := by rfl)
    (hx : X.env.scope.names.lookup x = some .local := by rfl) (hy : X.env.scope.names.lookup y = some .local := by rfl) (hw : swappedStores [.Tuple [.Name x px, .Name y py] kt pt] (.Tuple [a, b] k2 pt2) X.env = pure (some [x, y]) := by rfl)
    (hs : swapsWithSole [.Tuple [.Name x px, .Name y py] kt pt] (.Tuple [a, b] k2 pt2) pos.line X.env = pure false := by rfl) : PH X Z own ρ (.Assign [.Tuple [.Name x px, .Name y py] kt pt] (.Tuple [a, b] k2 pt2) pos :: rest) P :=
  h_cons (ps_par hc hN hi hj hij hx hy pa_A hw hs) fun σ H R D E => ha σ H R _ fun vs H' s hv => by
    cases hv with
    | cons h1 h2 =>
      cases h2 with
      | cons h2 h3 =>
        cases h3
        exact ⟨_, _, rfl, E.nx _ _ _ _ k (((R.mono s).setS (r := .d d1) h1).setS (r := .d d2) h2)⟩

/-! ### if -/
theorem h_if (hc : PB X Z own ρ c b) (h1 : b = true → PH X Z own ρ thn (P.seq X Z rest)) (h2 : b = false → PH X Z own ρ els (P.seq X Z rest)) : PH X Z own ρ (.If c thn els pos :: rest) P :=
  h_cons (ps_if pt_T pss_Ss pss_Ss) fun σ H R D E => hc σ H R _ fun H' s => by
    cases b with
    | true => exact iteT (h1 rfl σ H' (R.mono s) D E)
    | false => exact iteF (h2 rfl σ H' (R.mono s) D E)
/-- .. both ways met behind it -/
theorem h_ifM (M : Own → List Sl → Prop) (hc : PB X Z own ρ c b) (h1 : b = true → PH X Z own ρ thn { P with nx := M }) (h2 : b = false → PH X Z own ρ els { P with nx := M }) (h3 : ∀ own ρ, M own ρ → PH X Z own ρ rest P) : PH X Z own ρ (.If c thn els pos :: rest) P :=
  h_if hc (fun hb σ H R D E => h1 hb σ H R D ⟨fun own ρ σ H m R => E.nx own ρ σ H (h3 own ρ m) R, E.rt, E.bk, E.ct⟩) (fun hb σ H R D E => h2 hb σ H R D ⟨fun own ρ σ H m R => E.nx own ρ σ H (h3 own ρ m) R, E.rt, E.bk, E.ct⟩)
/-- if c: x = e -/
theorem h_ifSet (i : Nat) {d0 : PyData} (hc : PB X Z own ρ c b) (h0 : ρ[i]? = some (.d d0)) (he : b = true → PD X Z own ρ e (.d d)) (k : PH X Z own (ρ.set i (.d (if b = true then d else d0))) rest P) (hN : X.N.Nodup) (hi : X.N[i]? = some x := by rfl) (hx : Loc X.env.scope x := by first | exact Or.inl rfl | exact Or.inr rfl)
    (hs : swapsWith e (some (.Name x px)) spos.line X.env = pure false := by rfl) (hf : X.fn x = true ∨ X.env.scope.names.lookup x = some .local := by first | exact .inl rfl | exact .inr rfl) : PH X Z own ρ (.If c [.Assign [.Name x px] e spos] [] pos :: rest) P :=
  h_if hc (fun hb => h_set i (he hb) (h_nil (by subst hb; exact k)) hN hi hx hs hf) (fun hb => h_nil (by
    subst hb
    show PH X Z own ρ rest P
    have e : ρ.set i (.d (if false = true then d else d0)) = ρ := by
      rw [if_neg Bool.false_ne_true]
      obtain ⟨h1, h2⟩ := List.getElem?_eq_some_iff.mp h0
      rw [← h2, List.set_getElem_self]
    rw [e] at k
    exact k))

/-- .. of ints -/
theorem h_ifSetI (i : Nat) {n0 n : Int} (hc : PB X Z own ρ c b) (h0 : ρ[i]? = some (.d (.int n0))) (he : b = true → PD X Z own ρ e (.d (.int n))) (k : PH X Z own (ρ.set i (.d (.int (if b = true then n else n0)))) rest P) (hN : X.N.Nodup) (hi : X.N[i]? = some x := by rfl) (hx : Loc X.env.scope x := by first | exact Or.inl rfl | exact Or.inr rfl)
    (hs : swapsWith e (some (.Name x px)) spos.line X.env = pure false := by rfl) (hf : X.fn x = true ∨ X.env.scope.names.lookup x = some .local := by first | exact .inl rfl | exact .inr rfl) : PH X Z own ρ (.If c [.Assign [.Name x px] e spos] [] pos :: rest) P := by
  refine h_ifSet i hc h0 he ?_ hN hi hx hs hf
  cases b with
  | true => exact k
  | false => exact k

/-! ### return, break, continue, pass -/
theorem h_ret (he : PD X Z own ρ e r) (h : P.rt own r) : PH X Z own ρ (.Return (some e) pos :: rest) P := h_cons (ps_ret pe_E) fun σ H R D E => he σ H R _ fun v H' s hv => E.rt own r v H' h (R.h.mono s) hv
theorem h_retN (he : PN X Z own ρ e ds) (h : ∀ p, P.rt ((p, .lst ds) :: own) (.v (.ref p))) : PH X Z own ρ (.Return (some e) pos :: rest) P :=
  h_cons (ps_ret pe_E) fun σ H R D E => he σ H R _ fun p vs H' hp s hq hd => E.rt _ _ _ H' (h p) (R.h.cons (m := .lst ds) hp s ⟨vs, hq, hd⟩) rfl
theorem h_ret0 (h : P.rt own (.d .none)) : PH X Z own ρ (.Return none pos :: rest) P := h_cons ps_retN fun σ H R D E => E.rt own _ _ H h R.h Dp.non
theorem h_break (h : P.bk own ρ) : PH X Z own ρ (.Break pos :: rest) P := h_cons ps_break fun σ H R D E => E.bk own ρ σ H h R
theorem h_cont (h : P.ct own ρ) : PH X Z own ρ (.Continue pos :: rest) P := h_cons ps_continue fun σ H R D E => E.ct own ρ σ H h R
theorem h_pass (k : PH X Z own ρ rest P) : PH X Z own ρ (.Pass pos :: rest) P := h_cons ps_pass fun σ H R D E => E.nx own ρ σ H k R
theorem h_doc {z : Str} {kk} {pos' : Pos} (k : PH X Z own ρ rest P) : PH X Z own ρ (.Expr (.Constant (.str z) kk pos) pos' :: rest) P := h_cons ps_doc fun σ H R D E => E.nx own ρ σ H k R
/-- an expression whose value is dropped -/
theorem h_expr (he : PD X Z own ρ e r) (k : PH X Z own ρ rest P) (hs : swapsWith e none spos.line X.env = pure false := by rfl) : PH X Z own ρ (.Expr e spos :: rest) P :=
  h_cons (ps_expr pe_E hs) fun σ H R D E => he σ H R _ fun v H' s hv => E.nx own ρ σ H' k (R.mono s)
/-- an own list becomes data -/
theorem h_freeze {a : Addr} (k i : Nat) (hk : own[k]? = some (a, .lst ds)) (hi : ρ[i]? = some (.v (.ref a))) (h : PH X Z (own.eraseIdx k) (ρ.set i (.d (.list ds))) rest P) : PH X Z own ρ rest P := fun σ H R D E => by
  have hmem : (a, Mo.lst ds) ∈ own := List.mem_of_getElem? hk
  have sub : ∀ p, p ∈ own.eraseIdx k → p ∈ own := fun p hp => List.mem_of_mem_eraseIdx hp
  have na : a ∉ ex Z (own.eraseIdx k) := fun z => by
    rcases List.mem_append.mp z with z | z
    · have e1 : (own.map (·.1))[k]? = some a := by rw [List.getElem?_map, hk]; rfl
      obtain ⟨p, hp, hpa⟩ := List.mem_map.mp z
      obtain ⟨q, hqk, hq⟩ := List.mem_eraseIdx_iff_getElem?.mp hp
      have e2 : (own.map (·.1))[q]? = some a := by rw [List.getElem?_map, hq]; exact congrArg some hpa
      exact hqk (nd_ix R.h.nd e2 e1)
    · exact R.h.dj _ hmem z
  have hsub : ∀ b, b ∈ ex Z (own.eraseIdx k) → b ∈ ex Z own := fun b hb => by
    rcases List.mem_append.mp hb with z | z
    · obtain ⟨p, hp, hpa⟩ := List.mem_map.mp z
      exact List.mem_append_left _ (List.mem_map.mpr ⟨p, sub p hp, hpa⟩)
    · exact List.mem_append_right _ z
  have c : Same (cut (ex Z own) H) (cut (ex Z (own.eraseIdx k)) H) := cut_less hsub
  obtain ⟨_, vs, h1, h2⟩ := R.h.owns _ hmem
  refine h σ H ⟨⟨R.h.fr, fun p hp => ⟨(R.h.owns p (sub p hp)).1, (R.h.owns p (sub p hp)).2.mono c (Same.refl H)⟩, R.h.m0, ?_, fun p hp => R.h.dj p (sub p hp)⟩, ?_⟩ D E
  · exact R.h.nd.sublist ((List.eraseIdx_sublist own k).map _)
  · obtain ⟨o, ho, hs⟩ := R.s.get hi
    have ho' : o = some (.ref a) := hs
    subst ho'
    have q := (R.s.mono c).set (r := .d (.list ds)) (o := some (.ref a)) ⟨_, rfl, .lst (.inl ?_) (dpAll_mono c _ _ h2)⟩ i
    · have e : σ.set i (some (.ref a)) = σ := by
        obtain ⟨z1, z2⟩ := List.getElem?_eq_some_iff.mp ho
        rw [← z2, List.set_getElem_self]
      rw [e] at q
      exact q
    · rw [cut_out na]; exact h1
end
end L3
set_option Elab.async false
set_option linter.all false
set_option autoImplicit false
set_option maxRecDepth 100000
set_option maxHeartbeats 4000000
/-! Lay8: loops, a def by its body. -/
namespace L3
open PySem PySem.Spec L2

/-- all that stands but the own objects -/
def frameOf (own : Own) (H : Hp) : Hp := cut (own.map (·.1)) H
theorem rep_frame {X : Cx} {Z : Fz} {own : Own} {ρ : List Sl} {σ : L2.St} {H : Hp} (R : Rep X.K Z own ρ σ H) : Rep X.K ⟨frameOf own H, Z.m0⟩ own ρ σ H :=
  ⟨⟨cut_full, fun p hp => ⟨cut_in (List.mem_map.mpr ⟨p, hp, rfl⟩), (R.h.owns p hp).2⟩, R.h.m0, R.h.nd, R.h.dj⟩, R.s⟩
theorem frame_le {X : Cx} {Z : Fz} {own : Own} {H : Hp} (R : RepH X.K Z own H) : Same Z.F (frameOf own H) := fun b o e => by
  have hb : b ∉ own.map (·.1) := fun z => by
    obtain ⟨p, hp, hpe⟩ := List.mem_map.mp z
    have := (R.owns p hp).1
    rw [hpe, e] at this; cases this
  unfold frameOf
  rw [cut_out hb]
  exact R.fr b o e
/-- what data leaned on ahead of the loop stands at each turn -/
theorem frame_cut {X : Cx} {Z : Fz} {own own' : Own} {H H' : Hp} (R' : RepH X.K ⟨frameOf own H, Z.m0⟩ own' H') : Same (cut (ex Z own) H) (cut (ex Z own') H') := fun b o e => by
  have hb : b ∉ ex Z own := fun z => by rw [cut_in z] at e; cases e
  rw [cut_out hb] at e
  have hf : frameOf own H b = some o := by
    unfold frameOf
    rw [cut_out fun z => hb (List.mem_append_left _ z)]
    exact e
  have hb' : b ∉ ex Z own' := fun z => by
    rcases List.mem_append.mp z with z | z
    · obtain ⟨p, hp, hpe⟩ := List.mem_map.mp z
      have this : frameOf own H p.1 = none := (R'.owns p hp).1
      rw [hpe, hf] at this; cases this
    · exact hb (List.mem_append_right _ z)
  rw [cut_out hb']
  exact R'.fr b o hf
section
variable {X : Cx} {Z : Fz} {own : Own} {ρ : List Sl} {pos px spos : Pos} {e c iter tg : Expr} {x : Str} {r : Sl} {d : PyData} {ds l : List PyData} {rest body : List Stmt} {st : Stmt} {P : Pst} {i : Nat} {b : Bool}
/-- for tg in iter: J says how the state is at each turn -/
theorem h_for (J : Nat → Own → List Sl → Prop) (hi : PIt X Z own ρ tg iter l) (u : PyData → List Sl → List Sl) (ht : ∀ d ∈ l, TgD X tg d (u d)) (h0 : J 0 own ρ)
    (hb : ∀ F k own' ρ' d, l[k]? = some d → J k own' ρ' → PH X ⟨F, Z.m0⟩ own' (u d ρ') body { nx := J (k + 1), ct := J (k + 1), rt := P.rt, bk := fun own ρ => PH X Z own ρ rest P })
    (hd : ∀ own' ρ', J l.length own' ρ' → PH X Z own' ρ' rest P) (hp : PassesOwn (model X.prog X.w) X.A X.env X.xe := by exact PassesOwn.never) (hc : X.calm = true := by rfl) (hs : ∀ x, foldedSetIterable iter X.env x = pure x := by intro _; rfl) :
    PH X Z own ρ (.For tg iter body [] pos :: rest) P := by
  obtain ⟨wi, hwi, hw⟩ := hi
  -- the target's rule, one for all items
  have gt : L2.PG X tg (fun v σ H Q => ∃ g, L2.PG X tg g ∧ g v σ H Q) := ⟨fun pins s σ H v w Q I r ⟨g, hg, q⟩ => hg.run pins s σ H v w Q I r q⟩
  refine h_cons (ps_for hp hc hwi gt pss_Ss hs) fun σ H R D E => hw σ H R _ fun K H1 s1 it => ?_
  have R1 := R.mono s1
  have F0 := frame_le R1.h
  refine ⟨fun k m σ' H' => m = l.length - k ∧ k ≤ l.length ∧ ∃ own' ρ', J k own' ρ' ∧ Rep X.K ⟨frameOf own H1, Z.m0⟩ own' ρ' σ' H', ⟨l.length, rfl, Nat.zero_le _, own, ρ, h0, rep_frame R1⟩, ?_⟩
  rintro k m σ' H' ⟨rfl, hk, own', ρ', j, R'⟩
  have c := frame_cut R'.h
  by_cases hlt : k < l.length
  · refine .inr ⟨it.go _ H' k c hlt, fun σ' H' => k + 1 ≤ l.length ∧ ∃ own' ρ', J (k + 1) own' ρ' ∧ Rep X.K ⟨frameOf own H1, Z.m0⟩ own' ρ' σ' H', fun σ' H' ⟨a, b⟩ => ⟨l.length - (k + 1), by omega, rfl, a, b⟩, fun y H2 yl => ?_⟩
    have hd' : l[k]? = some l[k] := List.getElem?_eq_getElem hlt
    obtain ⟨s2, hy⟩ := it.yld (ex Z own') H' k y H2 l[k] c (fun a ha => R'.h.there ha) hd' yl
    obtain ⟨g, hg, hgt⟩ := ht l[k] (List.getElem_mem hlt)
    refine ⟨g, hg, hgt _ _ _ _ _ _ (R'.mono s2) hy _ fun σ3 R3 => ?_⟩
    refine hb (frameOf own H1) k own' ρ' l[k] hd' j σ3 H2 R3 _ ⟨fun own ρ σ H hn R => ⟨hlt, own, ρ, hn, R⟩, fun own r v H hr R hv => E.rt own r v H hr (repH_weakF F0 R) hv, fun own ρ σ H hb R => ?_, fun own ρ σ H hn R => ⟨hlt, own, ρ, hn, R⟩⟩
    exact E.nx own ρ σ H hb (rep_weakF F0 R)
  · have e : k = l.length := by omega
    subst e
    exact .inl ⟨it.stop _ H' c, E.nx own' ρ' σ' H' (hd own' ρ' j) (rep_weakF F0 R')⟩
/-- while: J with a measure -/
theorem h_while (J : Nat → Own → List Sl → Prop) (m0 : Nat) (h0 : J m0 own ρ)
    (hb : ∀ F m own' ρ', J m own' ρ' → ∃ b, PB X ⟨F, Z.m0⟩ own' ρ' c b ∧ (b = true → PH X ⟨F, Z.m0⟩ own' ρ' body { nx := fun own ρ => ∃ m', m' < m ∧ J m' own ρ, ct := fun own ρ => ∃ m', m' < m ∧ J m' own ρ, rt := P.rt, bk := fun own ρ => PH X Z own ρ rest P }) ∧ (b = false → PH X Z own' ρ' rest P))
    (hp : PassesOwn (model X.prog X.w) X.A X.env X.xe := by exact PassesOwn.never) : PH X Z own ρ (.While c body [] pos :: rest) P := by
  refine h_cons (ps_while hp pt_T pss_Ss) fun σ H R D E => ?_
  have F0 := frame_le R.h
  have RF := rep_frame R
  generalize frameOf own H = G at F0 RF
  refine ⟨fun m σ' H' => ∃ own' ρ', J m own' ρ' ∧ Rep X.K ⟨G, Z.m0⟩ own' ρ' σ' H', ⟨m0, own, ρ, h0, RF⟩, ?_⟩
  rintro m σ' H' ⟨own', ρ', j, R'⟩
  obtain ⟨b, hc, h1, h2⟩ := hb G m own' ρ' j
  refine hc σ' H' R' _ fun H2 s2 => ?_
  cases b with
  | true =>
    exact iteT ⟨fun σ' H' => ∃ m', m' < m ∧ ∃ own' ρ', J m' own' ρ' ∧ Rep X.K ⟨G, Z.m0⟩ own' ρ' σ' H', fun σ' H' ⟨m', hm, z⟩ => ⟨m', hm, z⟩, h1 rfl σ' H2 (R'.mono s2) _ ⟨fun own ρ σ H' ⟨m', hm, j⟩ R => ⟨m', hm, own, ρ, j, R⟩, fun own r v H hr R hv => E.rt own r v H hr (repH_weakF F0 R) hv, fun own ρ σ H hb R => E.nx own ρ σ H hb (rep_weakF F0 R), fun own ρ σ H' ⟨m', hm, j⟩ R => ⟨m', hm, own, ρ, j, R⟩⟩⟩
  | false => exact iteF (E.nx own' ρ' σ' H2 (h2 rfl) (rep_weakF F0 (R'.mono s2)))
end

/-! ### a def by its body -/
inductive RetD (own : Own) : Sl → PyData → Prop where
  | d (x : PyData) : RetD own (.d x) x
  | o {a : Addr} {ds : List PyData} : (a, Mo.lst ds) ∈ own → RetD own (.v (.ref a)) (.list ds)
abbrev retD (d : PyData) : Pst := { nx := fun own _ => RetD own (.d .none) d, rt := fun own r => RetD own r d }
abbrev retL (ds : List PyData) : Pst := { nx := fun _ _ => False, rt := fun own r => ∃ a, r = .v (.ref a) ∧ (a, Mo.lst ds) ∈ own }
theorem slots_start {K : PySem.W.Frag} {G : Hp} : ∀ {ds : List PyData} {vs : List V} (n : Nat), DpAll K G vs ds → Slots K G (ds.map Sl.d ++ List.replicate n Sl.no) (vs.map some ++ List.replicate n none)
  | [], _, 0, h => by cases h; exact .nil
  | [], _, n + 1, h => by cases h; exact .cons trivial (slots_start (ds := []) n .nil)
  | d :: ds, _, n, h => by
    cases h with
    | cons a b => exact .cons ⟨_, rfl, a⟩ (slots_start n b)
theorem rep_start {K : PySem.W.Frag} {H : Hp} {m0 : List Addr} {ds : List PyData} {vs : List V} {N : List Str} (h0 : ∀ a ∈ m0, ∃ o, H a = some o) (h : DpAll K (cut m0 H) vs ds) : Rep K ⟨H, m0⟩ [] (ds.map Sl.d ++ List.replicate (N.length - ds.length) Sl.no) (L2.start N vs) H := by
  refine ⟨⟨Same.refl H, fun p hp => absurd hp (by simp), h0, List.nodup_nil, fun p hp => absurd hp (by simp)⟩, ?_⟩
  unfold L2.start
  rw [dpAll_length h]
  exact slots_start _ h
section
variable {P : Program} {w : World} {K : PySem.W.Frag} {mg : Str → Option Value} {base : Heap}
/-- the context of a def's body -/
abbrev bodyX (P : Program) (w : World) (K : PySem.W.Frag) (mg : Str → Option Value) (base : Heap) (N : List Str) (qual : Str) (st : Stmt) (f : Addr) (cdv : Value) (A : Around) (outer : List Env) (s : Shared) (H : Hp) (E : XK) : Cx :=
  (cxOf CX0 P w K mg base N qual (defScope st) f cdv A outer s H E).nox
theorem okD {x qual : Str} {st : Stmt} {f : Addr} {fd : FuncData} {N ps : List Str} {k : Nat} {Φ : List PyData → PyData → Prop} (F : Fun K x qual st f fd) (S : FnScope N ps (defScope st)) (len : ∀ ds d, Φ ds d → ds.length = ps.length)
    (body : ∀ (cdv : Value) (A : Around) (outer : List Env) (s : Shared) (H : Hp) (E : XK) (Z : Fz) (ds : List PyData) (d : PyData), Room k (A.deeper (PyProof.Rows.envOfC qual (defScope st) s.heap.objs.size f cdv)) → Φ ds d →
      PH (bodyX P w K mg base N qual st f cdv A outer s H E) Z [] (ds.map Sl.d ++ List.replicate (N.length - ds.length) Sl.no) (defBody st) (retD d)) : FnOk P w K mg base CX0 (k + 1) f fd ps (SpD K Φ) := by
  refine F.ok S (fun vs H Q E h => ?_) (fun cdv A outer s H vs Q E hr h => ?_)
  · obtain ⟨m0, ds, d, _, h2, h3, _⟩ := h
    rw [dpAll_length h2]
    exact len ds d h3
  · obtain ⟨m0, ds, d, h1, h2, h3, q⟩ := h
    have fin : ∀ own r v H', RetD own r d → RepH K ⟨H, m0⟩ own H' → SlOk K (cut (ex ⟨H, m0⟩ own) H') r v → Q v H' := fun own r v H' hr R hv => by
      have less : Same (cut (ex ⟨H, m0⟩ own) H') (cut m0 H') := cut_less fun a ha => List.mem_append_right _ ha
      cases hr with
      | d x => exact q v H' R.fr (dp_mono less _ _ hv)
      | @o a ds ho =>
        obtain ⟨_, ws, e1, e2⟩ := R.owns _ ho
        have ev : v = .ref a := hv
        subst ev
        exact q _ H' R.fr (.lst (.inl (by rw [cut_out (R.dj _ ho)]; exact e1)) (dpAll_mono less _ _ e2))
    exact ⟨_, pss_Ss, body cdv A outer s H E ⟨H, m0⟩ ds d hr h3 _ H (rep_start h1 h2) _
      ⟨fun own ρ σ H' hn R => fin own _ .non H' hn R.h Dp.non, fun own r v H' hr R hv => fin own r v H' hr R hv, fun own ρ σ H' hb R => hb.elim, fun own ρ σ H' hb R => hb.elim⟩⟩
theorem okL {x qual : Str} {st : Stmt} {f : Addr} {fd : FuncData} {N ps : List Str} {k : Nat} {Φ : List PyData → List PyData → Prop} (F : Fun K x qual st f fd) (S : FnScope N ps (defScope st)) (len : ∀ ds d, Φ ds d → ds.length = ps.length)
    (body : ∀ (cdv : Value) (A : Around) (outer : List Env) (s : Shared) (H : Hp) (E : XK) (Z : Fz) (ds es : List PyData), Room k (A.deeper (PyProof.Rows.envOfC qual (defScope st) s.heap.objs.size f cdv)) → Φ ds es →
      PH (bodyX P w K mg base N qual st f cdv A outer s H E) Z [] (ds.map Sl.d ++ List.replicate (N.length - ds.length) Sl.no) (defBody st) (retL es)) : FnOk P w K mg base CX0 (k + 1) f fd ps (SpL K Φ) := by
  refine F.ok S (fun vs H Q E h => ?_) (fun cdv A outer s H vs Q E hr h => ?_)
  · obtain ⟨m0, ds, d, _, h2, h3, _⟩ := h
    rw [dpAll_length h2]
    exact len ds d h3
  · obtain ⟨m0, ds, es, h1, h2, h3, q⟩ := h
    refine ⟨_, pss_Ss, body cdv A outer s H E ⟨H, m0⟩ ds es hr h3 _ H (rep_start h1 h2) _
      ⟨fun own ρ σ H' hn R => hn.elim, fun own r v H' ⟨a, er, ho⟩ R hv => ?_, fun own ρ σ H' hb R => hb.elim, fun own ρ σ H' hb R => hb.elim⟩⟩
    subst er
    obtain ⟨e0, ws, e1, e2⟩ := R.owns _ ho
    have ev : v = .ref a := hv
    subst ev
    have ea : a ∈ own.map (·.1) := List.mem_map.mpr ⟨_, ho, rfl⟩
    refine q a ws H' e0 R.fr e1 (dpAll_mono (cut_less fun b hb => ?_) _ _ e2)
    rcases List.mem_cons.mp hb with z | z
    · subst z; exact List.mem_append_left _ ea
    · exact List.mem_append_right _ z
end
end L3
set_option Elab.async false
set_option linter.all false
set_option autoImplicit false
set_option maxRecDepth 100000
set_option maxHeartbeats 4000000
/-! Lay9: callees, sizes of ints, small things. -/
namespace L3
open PySem PySem.Spec L2

/-- a def of the module that keeps its promise -/
structure Cal (P : Program) (w : World) (K : PySem.W.Frag) (mg : Str → Option Value) (base : Heap) (k : Nat) (x : Str) (ps : List Str) (sp : Sp) : Prop where
  ex : ∃ f fd, FnOk P w K mg base CX0 k f fd ps sp ∧ mg x = some (.ref f) ∧ PySem.W.keepIn K (.ref f) = true ∧ Binds K fd ps []
section
variable {X : Cx} {Z : Fz} {own : Own} {ρ : List Sl} {pos p : Pos} {a b e : Expr} {es : List Expr} {r : Sl} {rs : List Sl} {ds : List PyData} {d : PyData} {i j : Int} {k : Nat} {ps : List Str} {x : Str}
theorem pd_fn {Φ : List PyData → PyData → Prop} (C : Cal X.prog X.w X.K X.mg X.base k x ps (SpD X.K Φ)) (hr : Room k X.A) (ha : PDD X Z own ρ (e :: es) ds) (hΦ : Φ ds d)
    (hg : Gl X x := by rfl) (hdb : (x == ("__debug__" : Str)) = false := by decide) (he : starEach (e :: es) X.env = (false, eval e X.env) :: starEach es X.env := by rfl) (hpl : (backTo pos (starEach es X.env)).any (·.1) = false := by rfl) :
    PD X Z own ρ (.Call (.Name x p) (e :: es) [] pos) (.d d) := by
  obtain ⟨f, fd, F, hm, hk, hb⟩ := C.ex
  exact pd_call F hr hm hk hb ha hΦ hg hdb he hpl
theorem pd_fnF {Φ : List PyData → PyData → Prop} (C : Cal X.prog X.w X.K X.mg X.base k x ps (SpD X.K Φ)) (hr : Room k X.A) (ha : PWW X Z own ρ (e :: es) (ds.map Sl.d)) (hΦ : Φ ds d) (hf : flatD d = true := by rfl)
    (hg : Gl X x := by rfl) (hdb : (x == ("__debug__" : Str)) = false := by decide) (he : starEach (e :: es) X.env = (false, eval e X.env) :: starEach es X.env := by rfl) (hpl : (backTo pos (starEach es X.env)).any (·.1) = false := by rfl) :
    PD X Z own ρ (.Call (.Name x p) (e :: es) [] pos) (.d d) := by
  obtain ⟨f, fd, F, hm, hk, hb⟩ := C.ex
  exact pd_callF F hr hm hk hb ha hΦ hf hg hdb he hpl
theorem pn_fn {Φ : List PyData → List PyData → Prop} {es' : List PyData} (C : Cal X.prog X.w X.K X.mg X.base k x ps (SpL X.K Φ)) (hr : Room k X.A) (ha : PDD X Z own ρ (e :: es) ds) (hΦ : Φ ds es')
    (hg : Gl X x := by rfl) (hdb : (x == ("__debug__" : Str)) = false := by decide) (he : starEach (e :: es) X.env = (false, eval e X.env) :: starEach es X.env := by rfl) (hpl : (backTo pos (starEach es X.env)).any (·.1) = false := by rfl) :
    PN X Z own ρ (.Call (.Name x p) (e :: es) [] pos) es' := by
  obtain ⟨f, fd, F, hm, hk, hb⟩ := C.ex
  exact pn_call F hr hm hk hb ha hΦ hg hdb he hpl
theorem pd_neg (h : PD X Z own ρ e (.d (.int i))) : PD X Z own ρ (.UnaryOp .USub e pos) (.d (.int (-i))) :=
  pd_of (pe_un un_neg pe_E) fun σ H R Q k => h σ H R _ fun v H' s hv => by cases hv; exact ⟨i, rfl, k _ H' s (Dp.int _)⟩
end

section
variable {X : Cx} {Z : Fz} {own : Own} {ra rb : Sl} {as bs : List PyData}
/-- list + list, as data -/
theorem bin_catL (ha : AsL own ra as) (hb : AsL own rb bs) (hz : as.length + bs.length ≤ sizeLine) : BinR X Z own .Add ra rb (.d (.list (as ++ bs))) :=
  BinR.mk ⟨_, op_catR, fun x y H R hx hy Q k => by
    obtain ⟨l, xs, rfl, hl, dl⟩ := ha.is R hx
    obtain ⟨m, ys, rfl, hm, dm⟩ := hb.is R hy
    refine ⟨l, m, xs, ys, rfl, rfl, hl, hm, by rw [dpAll_length dl, dpAll_length dm]; exact hz, fun p hp => ?_⟩
    have s := same_new hp (HO.lst (xs ++ ys))
    exact k _ _ s (.lst (.inl (R.newAt hp)) (dpAll_app (dpAll_mono (cut_same s) _ _ dl) (dpAll_mono (cut_same s) _ _ dm)))⟩
end

/-! ### sizes -/
/-- at most k + 1 bits -/
def Sz (k : Nat) (n : Int) : Prop := n.natAbs < 2 ^ (k + 1)
theorem sz_le {k m : Nat} {n : Int} (h : Sz k n) (hk : k ≤ m) : Sz m n := Nat.lt_of_lt_of_le h (Nat.pow_le_pow_right (by decide) (Nat.succ_le_succ hk))
theorem sz_mul {a b : Nat} {m n : Int} (h : Sz a m) (h' : Sz b n) : Sz (a + b + 1) (m * n) := by
  unfold Sz at *
  rw [Int.natAbs_mul, show a + b + 1 + 1 = (a + 1) + (b + 1) by omega, Nat.pow_add]
  exact Nat.mul_lt_mul'' h h'
theorem sz_add {a : Nat} {m n : Int} (h : Sz a m) (h' : Sz a n) : Sz (a + 1) (m + n) := by
  unfold Sz at *
  rw [Nat.pow_succ]
  have := Int.natAbs_add_le m n
  omega
theorem sz_sub {a : Nat} {m n : Int} (h : Sz a m) (h' : Sz a n) : Sz (a + 1) (m - n) := by
  unfold Sz at *
  rw [Nat.pow_succ]
  have := Int.natAbs_sub_le m n
  omega
theorem sz_div {a : Nat} {m j : Int} (h : Sz a m) (hj : 0 < j) : Sz a (m / j) := by
  unfold Sz at *
  refine Nat.lt_of_le_of_lt ?_ h
  have h1 := Int.natAbs_ediv_le_natAbs m j
  exact h1
theorem sz_of_bits {k : Nat} {n : Int} (h : Builtin.Int.intBits n ≤ k) : Sz k n := by
  unfold Sz
  unfold Builtin.Int.intBits at h
  by_cases h0 : n = 0
  · subst h0; exact Nat.pow_pos (by decide)
  · rw [if_neg (by simpa using h0)] at h
    refine Nat.lt_of_lt_of_le Nat.lt_log2_self (Nat.pow_le_pow_right (by decide) (by omega))
theorem bits_of_sz {k : Nat} {n : Int} (h : Sz k n) : Builtin.Int.intBits n ≤ k + 1 := by
  unfold Sz at h
  unfold Builtin.Int.intBits
  split
  · omega
  · rename_i h0
    have h0' : n.natAbs ≠ 0 := by
      intro z
      exact h0 (by simpa using Int.natAbs_eq_zero.mp z)
    have := (Nat.log2_lt h0').mpr h
    omega
theorem mul_sz {a b : Nat} {m n : Int} (h : Sz a m) (h' : Sz b n) (hk : a + b ≤ 100000000) : IntMulOk m n := by
  have h1 := bits_of_sz h
  have h2 := bits_of_sz h'
  have e : bitsLine = 134217728 := by decide
  unfold IntMulOk
  intro z
  rw [Bool.and_eq_true] at z
  have z2 := z.2
  unfold Builtin.Int.intTooBig at z2
  have z3 := of_decide_eq_true z2
  rw [e] at z3
  omega
theorem mul_small {m n : Int} (h : n.natAbs < 2 ^ 60) : IntMulOk m n := .of_right (intBits_le_64 (by omega) (by omega))
end L3
set_option Elab.async false
set_option linter.all false
set_option autoImplicit false
set_option maxRecDepth 100000
set_option maxHeartbeats 4000000
/-! Lay10: methods of lists, triples of ints, data that is plain, sorted triples. -/
namespace L3
open PySem PySem.Spec L2
section
variable {X : Cx} {o e : Expr} {apos pos : Pos}
theorem pe_app (hbase : attributeBase o "append" X.env (eval o X.env) = eval o X.env := by rfl)
    (hfew : ((backTo pos (starEach (e :: []) X.env)).all (fun x => !x.1) && (backToKw pos (keywordEach [] X.env)).all (fun x => x.1.isSome)
      && decide ((e :: ([] : List Expr)).length + ([] : List Keyword).length + (if ([] : List Keyword).isEmpty then 0 else 1) < 30)) = true := by rfl)
    (hline : (apos.endLine == pos.line) = true := by rfl) (hs : starEach (e :: []) X.env = (false, eval e X.env) :: starEach [] X.env := by rfl) (hplain : (backTo pos (starEach [] X.env)).any (·.1) = false := by rfl) :
    PE X (.Call (.Attribute o "append" apos) [e] [] pos) (tBM X.K "list" rAppend (tE X o) (tCons (tE X e) tNil)) :=
  pe_bm PySem.F.plainAttrs_list PySem.F.slot_list_append PySem.F.type_list_append mt_append pe_E (pa_cons pe_E pa_nil hs) hbase hfew hline hs hplain
theorem pe_pop (hbase : attributeBase o "pop" X.env (eval o X.env) = eval o X.env := by rfl) (hline : (apos.endLine == pos.line) = true := by rfl) :
    PE X (.Call (.Attribute o "pop" apos) [] [] pos) (tBM0 X.K "list" rPop (tE X o)) :=
  pe_bm0 PySem.F.plainAttrs_list PySem.F.slot_list_pop PySem.F.type_list_pop mt_pop pe_E hbase hline
end
/-! ### data that is plain to a depth -/
def Fl (k : Nat) (d : PyData) : Prop := d.canLay0 = true ∧ d.depth ≤ k
theorem fl_int {k : Nat} {n : Int} : Fl k (.int n) := ⟨rfl, Nat.zero_le _⟩
theorem fl_bool {k : Nat} {n : Bool} : Fl k (.bool n) := ⟨rfl, Nat.zero_le _⟩
theorem fl_none {k : Nat} : Fl k .none := ⟨rfl, Nat.zero_le _⟩
theorem fl_all {k : Nat} : ∀ {ds : List PyData}, (∀ d ∈ ds, Fl k d) → PyData.canLayAll0 ds = true ∧ PyData.depthAll ds ≤ k
  | [], _ => ⟨rfl, Nat.zero_le _⟩
  | d :: ds, h => by
    obtain ⟨h1, h2⟩ := fl_all (ds := ds) fun x hx => h x (List.mem_cons_of_mem _ hx)
    obtain ⟨h3, h4⟩ := h d List.mem_cons_self
    constructor
    · rw [PyData.canLayAll0, h3, h1]; rfl
    · rw [PyData.depthAll]; exact Nat.max_le.mpr ⟨h4, h2⟩
theorem fl_tup {k : Nat} {ds : List PyData} (h : ∀ d ∈ ds, Fl k d) : Fl (k + 1) (.tuple ds) := by
  obtain ⟨h1, h2⟩ := fl_all h
  exact ⟨by rw [PyData.canLay0]; exact h1, by rw [PyData.depth]; omega⟩
theorem fl_lst {k : Nat} {ds : List PyData} (h : ∀ d ∈ ds, Fl k d) : Fl (k + 1) (.list ds) := by
  obtain ⟨h1, h2⟩ := fl_all h
  exact ⟨by rw [PyData.canLay0]; exact h1, by rw [PyData.depth]; omega⟩
theorem fl_ints {k : Nat} (ns : List Int) : Fl (k + 1) (.tuple (ns.map PyData.int)) := fl_tup fun d hd => by
  obtain ⟨n, _, rfl⟩ := List.mem_map.mp hd
  exact fl_int
theorem fl_shaped {k : Nat} {d : PyData} (h : Fl k d) (hk : k ≤ 64) : SeqAt.shaped d = true := by
  unfold SeqAt.shaped
  rw [h.1]
  exact decide_eq_true (by have := h.2; omega)
theorem eqv_self {k : Nat} {d : PyData} (h : Fl k d) : PyData.eqv d d = true := PySem.SeqAt.eqv_refl d h.1
/-! ### triples -/
abbrev S3 := Int × Int × Int
abbrev encS (s : S3) : PyData := .tuple [.int s.1, .int s.2.1, .int s.2.2]
theorem fl_S {k : Nat} (s : S3) : Fl (k + 1) (encS s) := fl_ints [s.1, s.2.1, s.2.2]
theorem fl_Ss {k : Nat} (l : List S3) : Fl (k + 2) (.list (l.map encS)) := fl_lst fun d hd => by
  obtain ⟨n, _, rfl⟩ := List.mem_map.mp hd
  exact fl_S n
theorem encS_eqv (a b : S3) : PyData.eqv (encS a) (encS b) = decide (a = b) := by
  obtain ⟨a1, a2, a3⟩ := a
  obtain ⟨b1, b2, b3⟩ := b
  simp only [encS, PyData.eqv, PyData.eqvAll, Bool.and_true]
  rw [Bool.eq_iff_iff]
  simp
theorem encS_any (l : List S3) (s : S3) : ((l.map encS).any fun z => PyData.eqv z (encS s)) = decide (s ∈ l) := by
  rw [List.any_map, Bool.eq_iff_iff, List.any_eq_true, decide_eq_true_eq]
  constructor
  · rintro ⟨y, hy, e⟩
    have e' : PyData.eqv (encS y) (encS s) = true := e
    rw [encS_eqv, decide_eq_true_eq] at e'
    exact e' ▸ hy
  · intro hx
    refine ⟨s, hx, ?_⟩
    show PyData.eqv (encS s) (encS s) = true
    rw [encS_eqv, decide_eq_true_eq]
theorem encS_inj {a b : S3} (h : encS a = encS b) : a = b := by
  obtain ⟨a1, a2, a3⟩ := a
  obtain ⟨b1, b2, b3⟩ := b
  simp [encS] at h
  simp [h]
theorem encS_map_inj : ∀ {l m : List S3}, l.map encS = m.map encS → l = m
  | [], [], _ => rfl
  | [], _ :: _, h => by simp at h
  | _ :: _, [], h => by simp at h
  | a :: l, b :: m, h => by
    rw [List.map_cons, List.map_cons, List.cons.injEq] at h
    rw [encS_inj h.1, encS_map_inj h.2]
theorem encSs_eqv (l m : List S3) : PyData.eqv (.list (l.map encS)) (.list (m.map encS)) = decide (l = m) := by
  have key : ∀ l m : List S3, PyData.eqvAll (l.map encS) (m.map encS) = decide (l = m) := by
    intro l
    induction l with
    | nil => intro m; cases m <;> simp [PyData.eqvAll]
    | cons a l ih =>
      intro m
      cases m with
      | nil => simp [PyData.eqvAll]
      | cons b m =>
        rw [List.map_cons, List.map_cons, PyData.eqvAll, encS_eqv, ih, ← Bool.decide_and]
        exact decide_eq_decide.mpr (by rw [List.cons.injEq])
  rw [PyData.eqv]
  exact key l m
/-! ### the order of triples -/
def sLtP (a b : S3) : Prop := a.1 < b.1 ∨ (a.1 = b.1 ∧ (a.2.1 < b.2.1 ∨ (a.2.1 = b.2.1 ∧ a.2.2 < b.2.2)))
instance (a b : S3) : Decidable (sLtP a b) := by unfold sLtP; infer_instance
def sLe (a b : S3) : Bool := !decide (sLtP b a)
open PySem.W in
theorem dataLt_S (a b : S3) : dataLt (encS a) (encS b) = decide (sLtP a b) := by
  rw [dataLt_tuple]
  have e := dataLt_ints [a.1, a.2.1, a.2.2] [b.1, b.2.1, b.2.2]
  refine (show _ = _ from e).trans ?_
  refine decide_eq_decide.mpr ?_
  unfold sLtP
  simp [List.cons_lt_cons_iff]
open PySem.W in
theorem dataLe_S : dataLe false encS = sLe := by
  funext a b
  show (!dataLt (encS b) (encS a)) = _
  rw [dataLt_S]
  rfl
theorem sLe_iff (a b : S3) : sLe a b = true ↔ a.1 < b.1 ∨ (a.1 = b.1 ∧ (a.2.1 < b.2.1 ∨ (a.2.1 = b.2.1 ∧ a.2.2 ≤ b.2.2))) := by
  unfold sLe
  rw [Bool.not_eq_true', decide_eq_false_iff_not]
  unfold sLtP
  omega
theorem sort_sorted (l : List S3) : (l.mergeSort sLe).Pairwise fun a b => sLe a b = true :=
  List.pairwise_mergeSort (fun a b c h1 h2 => by rw [sLe_iff] at *; omega) (fun a b => by
    rw [Bool.or_eq_true, sLe_iff, sLe_iff]; omega) l
open PySem.W in
theorem alike_S (l : List S3) : AllAlike (l.map encS) := AllAlike.of fun b b' => by simp [encS, alike, alikeAll]
open PySem.W in
theorem sortable_S (l : List S3) : Sortable (l.map encS) := .inl fun d hd => by
  obtain ⟨n, _, rfl⟩ := List.mem_map.mp hd
  exact ⟨_, _, rfl⟩
/-! ### comprehensions without a test; name = [comp] as data -/
section
variable {X : Cx} {Z : Fz} {own : Own} {ρ : List Sl} {pos spos px py : Pos} {x y : Str} {elt iter : Expr} {ifs : List Expr} {scope : Scope} {rest : List Stmt} {P : Pst}
theorem filt_all {β : Type} (l : List β) : l.filter (fun _ => true) = l := List.filter_eq_self.mpr fun _ _ => rfl
theorem pn_lc0 {β : Type} (enc : β → PyData) (l : List β) (f : β → PyData) (j : Nat) (hi : PIt X Z own ρ (.Name x px) iter (l.map enc)) (hN : X.N.Nodup)
    (he : ∀ b ∈ l, ∀ D s H0 C cl fp, PD (blkX X scope s H0 C cl fp) (Z.more D) own (ρ.set j (.d (enc b))) elt (.d (f b)))
    (hz : l.length < sizeLine)
    (hg : ∀ (s : Shared) (H : Hp) (C : Addr) (cl : List (Str × Addr)) (fp : List Addr), L2.PG (blkX X scope s H C cl fp) (.Name x px) (gName j))
    (ok : blkC X.N X.env.scope scope [(x, j)] = true := by rfl) (hc : X.calm = true := by rfl) (hs : ∀ x, foldedSetIterable iter X.env x = pure x := by intro _; rfl) :
    PN X Z own ρ (.ListComp elt [⟨.Name x px, iter, [], 0⟩] scope pos) (l.map f) := by
  have := pn_lc (ifs := []) (pos := pos) enc l (fun _ => true) f j hi hN ok hg (fun _ _ _ _ _ _ _ _ => pbs_nil) (fun b hb _ => he b hb) hz hc hs
  rwa [filt_all] at this
/-- .. of ints -/
theorem pn_lcI {β : Type} (enc : β → PyData) (l : List β) (g : β → Int) (j : Nat) (hi : PIt X Z own ρ (.Name x px) iter (l.map enc)) (hN : X.N.Nodup)
    (he : ∀ b ∈ l, ∀ D s H0 C cl fp, PD (blkX X scope s H0 C cl fp) (Z.more D) own (ρ.set j (.d (enc b))) elt (.d (.int (g b))))
    (hz : l.length < sizeLine)
    (hg : ∀ (s : Shared) (H : Hp) (C : Addr) (cl : List (Str × Addr)) (fp : List Addr), L2.PG (blkX X scope s H C cl fp) (.Name x px) (gName j))
    (ok : blkC X.N X.env.scope scope [(x, j)] = true := by rfl) (hc : X.calm = true := by rfl) (hs : ∀ x, foldedSetIterable iter X.env x = pure x := by intro _; rfl) :
    PN X Z own ρ (.ListComp elt [⟨.Name x px, iter, [], 0⟩] scope pos) ((l.map g).map PyData.int) := by
  rw [List.map_map]
  exact pn_lc0 enc l (PyData.int ∘ g) j hi hN he hz hg ok hc hs
theorem h_setLc {β : Type} (enc : β → PyData) (l : List β) (t : β → Bool) (f : β → PyData) (i j : Nat) (hi : PIt X Z own ρ (.Name x px) iter (l.map enc))
    (ht : ∀ b ∈ l, ∀ D s H0 C cl fp, PBs (blkX X scope s H0 C cl fp) (Z.more D) own (ρ.set j (.d (enc b))) ifs (t b))
    (he : ∀ b ∈ l, t b = true → ∀ D s H0 C cl fp, PD (blkX X scope s H0 C cl fp) (Z.more D) own (ρ.set j (.d (enc b))) elt (.d (f b)))
    (hz : l.length < sizeLine) (k : PH X Z own (ρ.set i (.d (.list ((l.filter t).map f)))) rest P) (hN : X.N.Nodup)
    (hg : ∀ (s : Shared) (H : Hp) (C : Addr) (cl : List (Str × Addr)) (fp : List Addr), L2.PG (blkX X scope s H C cl fp) (.Name x px) (gName j)) (hlt : Nat.ble (i + 1) ρ.length = true := by rfl) (hy : X.N[i]? = some y := by rfl) (hyl : X.env.scope.names.lookup y = some .local := by rfl)
    (hsw : swapsWith (.ListComp elt [⟨.Name x px, iter, ifs, 0⟩] scope pos) (some (.Name y py)) spos.line X.env = pure true := by rfl) (ok : blkC X.N X.env.scope scope [(x, j)] = true := by rfl)
    (hc : X.calm = true := by rfl) (hs : ∀ x, foldedSetIterable iter X.env x = pure x := by intro _; rfl) :
    PH X Z own ρ (.Assign [.Name y py] (.ListComp elt [⟨.Name x px, iter, ifs, 0⟩] scope pos) spos :: rest) P := by
  refine setLc_core (px' := px) enc l t f i j hi ht he hz (fun p => ?_) hN hy hyl hsw ok hg hc hs
  refine h_freeze 0 i rfl (a := p) (ds := (l.filter t).map f) ?_ ?_
  · rw [List.getElem?_set_self (Nat.le_of_ble_eq_true hlt)]
  · rw [List.set_set]
    exact k
theorem h_setLc0 {β : Type} (enc : β → PyData) (l : List β) (f : β → PyData) (i j : Nat) (hi : PIt X Z own ρ (.Name x px) iter (l.map enc))
    (he : ∀ b ∈ l, ∀ D s H0 C cl fp, PD (blkX X scope s H0 C cl fp) (Z.more D) own (ρ.set j (.d (enc b))) elt (.d (f b)))
    (hz : l.length < sizeLine) (k : PH X Z own (ρ.set i (.d (.list (l.map f)))) rest P) (hN : X.N.Nodup)
    (hg : ∀ (s : Shared) (H : Hp) (C : Addr) (cl : List (Str × Addr)) (fp : List Addr), L2.PG (blkX X scope s H C cl fp) (.Name x px) (gName j)) (hlt : Nat.ble (i + 1) ρ.length = true := by rfl) (hy : X.N[i]? = some y := by rfl) (hyl : X.env.scope.names.lookup y = some .local := by rfl)
    (hsw : swapsWith (.ListComp elt [⟨.Name x px, iter, [], 0⟩] scope pos) (some (.Name y py)) spos.line X.env = pure true := by rfl) (ok : blkC X.N X.env.scope scope [(x, j)] = true := by rfl)
    (hc : X.calm = true := by rfl) (hs : ∀ x, foldedSetIterable iter X.env x = pure x := by intro _; rfl) :
    PH X Z own ρ (.Assign [.Name y py] (.ListComp elt [⟨.Name x px, iter, [], 0⟩] scope pos) spos :: rest) P :=
  h_setLc enc l (fun _ => true) f i j hi (fun _ _ _ _ _ _ _ _ => pbs_nil) (fun b hb _ => he b hb) hz (by rw [filt_all]; exact k) hN hg hlt hy hyl hsw ok hc hs
end
theorem mul_smallL {m n : Int} (h : m.natAbs < 2 ^ 60) : IntMulOk m n := .of_left (intBits_le_64 (by omega) (by omega))
theorem small_mul {m n : Int} (h : n.natAbs < 2 ^ 60) : IntMulOk m n := mul_small h
/-! ### loops with a break, and what holds behind them -/
section
variable {X : Cx} {Z : Fz} {own : Own} {ρ : List Sl} {pos : Pos} {tg iter c : Expr} {rest body : List Stmt} {P : Pst} {l : List PyData}
theorem h_forM (M : Own → List Sl → Prop) (J : Nat → Own → List Sl → Prop) (hi : PIt X Z own ρ tg iter l) (u : PyData → List Sl → List Sl) (ht : ∀ d ∈ l, TgD X tg d (u d)) (h0 : J 0 own ρ)
    (hb : ∀ F k own' ρ' d, l[k]? = some d → J k own' ρ' → PH X ⟨F, Z.m0⟩ own' (u d ρ') body { nx := J (k + 1), ct := J (k + 1), rt := P.rt, bk := M })
    (hd : ∀ own' ρ', J l.length own' ρ' → M own' ρ') (hr : ∀ own' ρ', M own' ρ' → PH X Z own' ρ' rest P) (hp : PassesOwn (model X.prog X.w) X.A X.env X.xe := by exact PassesOwn.never) (hc : X.calm = true := by rfl) (hs : ∀ x, foldedSetIterable iter X.env x = pure x := by intro _; rfl) :
    PH X Z own ρ (.For tg iter body [] pos :: rest) P :=
  h_for J hi u ht h0 (fun F k own' ρ' d hk j σ H R D E => hb F k own' ρ' d hk j σ H R D ⟨E.nx, E.rt, fun own ρ σ H m R => E.bk own ρ σ H (hr own ρ m) R, E.ct⟩) (fun own' ρ' j => hr own' ρ' (hd own' ρ' j)) hp hc hs
theorem h_whileM (M : Own → List Sl → Prop) (J : Nat → Own → List Sl → Prop) (m0 : Nat) (h0 : J m0 own ρ)
    (hb : ∀ F m own' ρ', J m own' ρ' → ∃ b, PB X ⟨F, Z.m0⟩ own' ρ' c b ∧ (b = true → PH X ⟨F, Z.m0⟩ own' ρ' body { nx := fun own ρ => ∃ m', m' < m ∧ J m' own ρ, ct := fun own ρ => ∃ m', m' < m ∧ J m' own ρ, rt := P.rt, bk := M }) ∧ (b = false → M own' ρ'))
    (hr : ∀ own' ρ', M own' ρ' → PH X Z own' ρ' rest P) (hp : PassesOwn (model X.prog X.w) X.A X.env X.xe := by exact PassesOwn.never) : PH X Z own ρ (.While c body [] pos :: rest) P :=
  h_while J m0 h0 (fun F m own' ρ' j => by
    obtain ⟨b, h1, h2, h3⟩ := hb F m own' ρ' j
    exact ⟨b, h1, fun e σ H R D E => h2 e σ H R D ⟨E.nx, E.rt, fun own ρ σ H m R => E.bk own ρ σ H (hr own ρ m) R, E.ct⟩, fun e => hr _ _ (h3 e)⟩) hp
end
end L3
set_option Elab.async false
set_option linter.all false
set_option autoImplicit false
set_option maxRecDepth 100000
set_option maxHeartbeats 4000000
/-! Lay11: triples compared; an instance with one attribute: read, written, handed to defs and methods that read it or write it. -/
namespace L3
open PySem PySem.Spec L2
section
variable {X : Cx} {k : Nat} {a b : S3}
theorem cmp_eqSS (hr : Room k X.A) : CmpR X .Eq (.d (encS a)) (.d (encS b)) (decide (a = b)) := by
  have := cmp_eqD (X := X) (d := encS a) (d' := encS b) hr (fl_shaped (k := 1) (fl_S a) (by decide)) (fl_shaped (k := 1) (fl_S b) (by decide))
  rwa [encS_eqv] at this
theorem cmp_neSS (hr : Room k X.A) : CmpR X .NotEq (.d (encS a)) (.d (encS b)) (!decide (a = b)) := by
  have := cmp_neD (X := X) (d := encS a) (d' := encS b) hr (fl_shaped (k := 1) (fl_S a) (by decide)) (fl_shaped (k := 1) (fl_S b) (by decide))
  rwa [encS_eqv] at this
theorem cmp_inS {l : List S3} (hr : Room k X.A) : CmpR X .In (.d (encS a)) (.d (.list (l.map encS))) (decide (a ∈ l)) := by
  have := cmp_inD (X := X) (d := encS a) (ds := l.map encS) hr (fl_shaped (k := 1) (fl_S a) (by decide)) (fl_shaped (k := 2) (fl_Ss l) (by decide))
  rwa [encS_any] at this
theorem cmp_notInS {l : List S3} (hr : Room k X.A) : CmpR X .NotIn (.d (encS a)) (.d (.list (l.map encS))) (!decide (a ∈ l)) := by
  have := cmp_notInD (X := X) (d := encS a) (ds := l.map encS) hr (fl_shaped (k := 1) (fl_S a) (by decide)) (fl_shaped (k := 2) (fl_Ss l) (by decide))
  rwa [encS_any] at this
theorem cmp_eqSs {l m : List S3} (hr : Room k X.A) : CmpR X .Eq (.d (.list (l.map encS))) (.d (.list (m.map encS))) (decide (l = m)) := by
  have := cmp_eqD (X := X) (d := .list (l.map encS)) (d' := .list (m.map encS)) hr (fl_shaped (k := 2) (fl_Ss l) (by decide)) (fl_shaped (k := 2) (fl_Ss m) (by decide))
  rwa [encSs_eqv] at this
theorem cmp_neSs {l m : List S3} (hr : Room k X.A) : CmpR X .NotEq (.d (.list (l.map encS))) (.d (.list (m.map encS))) (!decide (l = m)) := by
  have := cmp_neD (X := X) (d := .list (l.map encS)) (d' := .list (m.map encS)) hr (fl_shaped (k := 2) (fl_Ss l) (by decide)) (fl_shaped (k := 2) (fl_Ss m) (by decide))
  rwa [encSs_eqv] at this
theorem lexLt_S : HT.lexLt [a.1, a.2.1, a.2.2] [b.1, b.2.1, b.2.2] = decide (sLtP a b) := by
  rw [HT.lexLt_cons, HT.lexLt_cons, HT.lexLt_cons, HT.lexLt_nil_nil]
  by_cases h1 : a.1 = b.1
  · rw [if_pos h1]
    by_cases h2 : a.2.1 = b.2.1
    · rw [if_pos h2]
      by_cases h3 : a.2.2 = b.2.2
      · rw [if_pos h3]
        exact (decide_eq_false (by unfold sLtP; omega)).symm
      · rw [if_neg h3]
        exact decide_eq_decide.mpr (by unfold sLtP; omega)
    · rw [if_neg h2]
      exact decide_eq_decide.mpr (by unfold sLtP; omega)
  · rw [if_neg h1]
    exact decide_eq_decide.mpr (by unfold sLtP; omega)
theorem cmp_ltSS (hr : Room k X.A) : CmpR X .Lt (.d (encS a)) (.d (encS b)) (decide (sLtP a b)) := by
  have := cmp_ltT (X := X) (ns := [a.1, a.2.1, a.2.2]) (ms := [b.1, b.2.1, b.2.2]) hr
  rw [lexLt_S] at this
  exact this
/-- t > u -/
def rGtT (K : PySem.W.Frag) : R2 := fun x y H Q => ∃ (l r : Addr) (ns ms : List Int), x = .ref l ∧ y = .ref r ∧ SqT K H l (ns.map V.int) ∧ SqT K H r (ms.map V.int) ∧
  Q (.bl (Ob.lexAt (fun j => decide (ns.getD j 0 = ms.getD j 0)) (fun j => decide (ns.getD j 0 > ms.getD j 0)) (decide (ns.length > ms.length)) 0 (min ns.length ms.length))) H
theorem int_in {us : List Value} {ns : List Int} (i : PyProof.Rows.IntsAre us ns) (j : Nat) (h : j < us.toArray.size) : ∃ t, us.toArray[j] = .int (ns.getD j 0) t :=
  PyProof.Rows.IntsAre.int_at i _ _ (by rw [List.size_toArray] at h; simp [h])
theorem op_gtT (hu : X.A.units < cLine) : OpR X (compareOp .Gt) (rGtT X.K) := by
  rintro pins s σ H x y v u Q I rx ry ⟨l, r, ns, ms, rfl, rfl, hl, hr, q⟩
  cases rx; cases ry
  obtain ⟨us, r1, p1, _⟩ := I.tuple hl
  obtain ⟨ws, r2, p2, _⟩ := I.tuple hr
  have i1 : PyProof.Rows.IntsAre us ns := Vals.ints r1
  have i2 : PyProof.Rows.IntsAre ws ms := Vals.ints r2
  have n1 : us.toArray.size = ns.length := List.size_toArray.trans i1.length
  have n2 : ws.toArray.size = ms.length := List.size_toArray.trans i2.length
  have step := Ob.RcOp.tuples_gt (A := X.A) (s := s) (e := fun j => decide (ns.getD j 0 = ms.getD j 0)) (r := fun j => decide (ns.getD j 0 > ms.getD j 0)) p1 p2 hu
    (fun j g1 g2 => by
      obtain ⟨t1, z1⟩ := int_in i1 j g1
      obtain ⟨t2, z2⟩ := int_in i2 j g2
      have zz : decide (ns.getD j 0 = ms.getD j 0) = (ns.getD j 0 == ms.getD j 0) := by rw [Bool.eq_iff_iff]; simp
      rw [z1, z2, zz]
      exact SeqAt.EqAt.int_int _ _ _ _)
    (fun j g1 g2 _ => by
      obtain ⟨t1, z1⟩ := int_in i1 j g1
      obtain ⟨t2, z2⟩ := int_in i2 j g2
      rw [z1, z2]
      exact Ob.RcOp.gt_int _ _ _ _)
  rw [n1, n2] at step
  exact step X.prog X.w X.xe (EP X pins σ Q) ⟨.bl _, H, I, rfl, q⟩
theorem cmp_gtSS (hr : Room k X.A) : CmpR X .Gt (.d (encS a)) (.d (encS b)) (decide (sLtP b a)) :=
  CmpR.mk ⟨_, op_gtT hr.units0, fun x y H hx hy Q k => by
    cases hx with
    | @tup m vs _ hs ha =>
      cases hy with
      | @tup m' vs' _ hs' ha' =>
        have e := dpAll_ints (ns := [a.1, a.2.1, a.2.2]) ha
        have e' := dpAll_ints (ns := [b.1, b.2.1, b.2.2]) ha'
        subst e e'
        refine ⟨m, m', [a.1, a.2.1, a.2.2], [b.1, b.2.1, b.2.2], rfl, rfl, (.inl hs), (.inl hs'), ?_⟩
        have ee : Ob.lexAt (fun j => decide (([a.1, a.2.1, a.2.2] : List Int).getD j 0 = ([b.1, b.2.1, b.2.2] : List Int).getD j 0)) (fun j => decide (([a.1, a.2.1, a.2.2] : List Int).getD j 0 > ([b.1, b.2.1, b.2.2] : List Int).getD j 0)) (decide (([a.1, a.2.1, a.2.2] : List Int).length > ([b.1, b.2.1, b.2.2] : List Int).length)) 0 (min ([a.1, a.2.1, a.2.2] : List Int).length ([b.1, b.2.1, b.2.2] : List Int).length) = decide (sLtP b a) := by
          show Ob.lexAt _ _ (decide (3 > 3)) 0 3 = _
          simp only [Ob.lexAt, List.getD_cons_zero, List.getD_cons_succ]
          unfold sLtP
          by_cases h1 : a.1 = b.1
          · rw [decide_eq_true h1, if_pos rfl]
            by_cases h2 : a.2.1 = b.2.1
            · rw [decide_eq_true h2, if_pos rfl]
              by_cases h3 : a.2.2 = b.2.2
              · rw [decide_eq_true h3, if_pos rfl]
                exact decide_eq_decide.mpr (by omega)
              · rw [decide_eq_false h3, if_neg Bool.false_ne_true]
                exact decide_eq_decide.mpr (by omega)
            · rw [decide_eq_false h2, if_neg Bool.false_ne_true]
              exact decide_eq_decide.mpr (by omega)
          · rw [decide_eq_false h1, if_neg Bool.false_ne_true]
            exact decide_eq_decide.mpr (by omega)
        rw [ee]
        exact k⟩
end
/-! ### an instance with one attribute -/
theorem cut_mem {m m' : List Addr} {H : Hp} (h : ∀ a, a ∈ m ↔ a ∈ m') : cut m H = cut m' H := by
  funext b
  by_cases hb : b ∈ m
  · rw [cut_in hb, cut_in ((h b).mp hb)]
  · rw [cut_out hb, cut_out fun z => hb ((h b).mpr z)]
def exBut (Z : Fz) (own : Own) (p : Addr) : List Addr := (ex Z own).filter fun a => a != p
theorem exBut_not {Z : Fz} {own : Own} {p : Addr} : p ∉ exBut Z own p := fun h => by
  have := (List.mem_filter.mp h).2
  simp at this
theorem exBut_iff {Z : Fz} {own : Own} {p : Addr} (h : p ∈ ex Z own) (a : Addr) : a ∈ p :: exBut Z own p ↔ a ∈ ex Z own := by
  rw [List.mem_cons]
  unfold exBut
  rw [List.mem_filter]
  by_cases e : a = p
  · subst e; simp [h]
  · simp [e]
def AsI (own : Own) (p C : Addr) (f : Str) (x : PyData) : Prop := (p, Mo.ins C f x) ∈ own ∨ ∃ dx v, (p, Mo.fix C dx f v x) ∈ own
section
variable {K : PySem.W.Frag} {Z : Fz} {own : Own} {H H' : Hp} {p C : Addr} {f : Str} {x : PyData} {ρ : List Sl} {σ : L2.St}
theorem AsI.is (h : AsI own p C f x) (R : RepH K Z own H) : ∃ dx v, H p = some (.ins C dx [(f, v)]) ∧ Dp K (cut (ex Z own) H) v x := by
  rcases h with h | ⟨dx, v, h⟩
  · exact (R.owns _ h).2
  · exact ⟨dx, v, (R.owns _ h).2⟩
theorem AsI.ex (h : AsI own p C f x) : p ∈ ex Z own := by
  rcases h with h | ⟨dx, v, h⟩
  · exact List.mem_append_left _ (List.mem_map.mpr ⟨_, h, rfl⟩)
  · exact List.mem_append_left _ (List.mem_map.mpr ⟨_, h, rfl⟩)
theorem AsI.no0 (h : AsI own p C f x) (R : RepH K Z own H) : p ∉ Z.m0 := by
  rcases h with h | ⟨dx, v, h⟩
  · exact R.dj _ h
  · exact R.dj _ h
theorem AsI.noF (h : AsI own p C f x) (R : RepH K Z own H) : Z.F p = none := by
  rcases h with h | ⟨dx, v, h⟩
  · exact (R.owns _ h).1
  · exact (R.owns _ h).1
/-- the rest of what is own is let go -/
theorem RepH.only (R : RepH K Z own H) (h : AsI own p C f x) : RepH K Z [(p, .ins C f x)] H := by
  obtain ⟨dx, v, e, d⟩ := h.is R
  refine ⟨R.fr, fun q hq => ?_, R.m0, by simp, fun q hq => ?_⟩
  · rw [List.mem_singleton] at hq
    subst hq
    refine ⟨h.noF R, dx, v, e, dp_mono (cut_less fun a ha => ?_) _ _ d⟩
    rcases List.mem_append.mp ha with z | z
    · have : a = p := by simpa using z
      subst this
      exact h.ex
    · exact List.mem_append_right _ z
  · rw [List.mem_singleton] at hq
    subst hq
    exact h.no0 R
/-- behind a def that wrote the instance -/
theorem Rep.eff {k : Nat} {m : Mo} {x' : PyData} (R : Rep K Z own ρ σ H) (hk : own[k]? = some (p, m)) (R' : RepH K ⟨cut [p] H, exBut Z own p⟩ [(p, .ins C f x')] H') : Rep K Z (own.set k (p, .ins C f x')) ρ σ H' := by
  have hm : (p, m) ∈ own := List.mem_of_getElem? hk
  have hx : p ∈ ex Z own := List.mem_append_left _ (List.mem_map.mpr ⟨_, hm, rfl⟩)
  have keep : ∀ b o, b ≠ p → H b = some o → H' b = some o := fun b o hb e => R'.fr b o (by
    show cut [p] H b = some o
    rw [cut_out (by simpa using hb)]
    exact e)
  have s : Same (cut (ex Z own) H) (cut (ex Z own) H') := fun b o e => by
    have hb : b ∉ ex Z own := fun z => by rw [cut_in z] at e; cases e
    rw [cut_out hb] at e ⊢
    exact keep b o (fun z => hb (z ▸ hx)) e
  have ee : ∀ H : Hp, cut (ex ⟨cut [p] H, exBut Z own p⟩ [(p, Mo.ins C f x')]) H' = cut (ex Z own) H' := fun H => cut_mem fun a => exBut_iff hx a
  refine ⟨⟨fun b o e => ?_, fun q hq => ?_, fun a ha => ?_, ?_, fun q hq z => ?_⟩, ?_⟩
  · have hb : b ≠ p := fun z => by
      subst z
      have h1 : Z.F b = none := (R.h.owns _ hm).1
      rw [h1] at e
      cases e
    exact keep b o hb (R.h.fr b o e)
  · rw [ex_set' hk]
    obtain ⟨i, hi⟩ := List.getElem?_of_mem hq
    by_cases hki : k = i
    · subst hki
      have hlt : k < own.length := (List.getElem?_eq_some_iff.mp hk).1
      rw [List.getElem?_set_self hlt] at hi
      cases hi
      obtain ⟨_, dx, v, e, d⟩ := R'.owns _ List.mem_cons_self
      refine ⟨(R.h.owns _ hm).1, dx, v, e, ?_⟩
      rw [ee] at d
      exact d
    · rw [List.getElem?_set_ne hki] at hi
      have hq' : q ∈ own := List.mem_of_getElem? hi
      have hne : q.1 ≠ p := fun z => by
        have e1 : (own.map (·.1))[i]? = some q.1 := by rw [List.getElem?_map, hi]; rfl
        have e2 : (own.map (·.1))[k]? = some p := by rw [List.getElem?_map, hk]; rfl
        rw [z] at e1
        exact hki (nd_ix R.h.nd e2 e1)
      exact ⟨(R.h.owns q hq').1, (R.h.owns q hq').2.mono1 s fun o => keep _ o hne⟩
  · obtain ⟨o, e⟩ := R.h.m0 a ha
    exact ⟨o, keep a o (fun z => R.h.dj _ hm (z ▸ ha)) e⟩
  · rw [ex_set hk]; exact R.h.nd
  · have e : q.1 ∈ (own.set k (p, Mo.ins C f x')).map (·.1) := List.mem_map.mpr ⟨q, hq, rfl⟩
    rw [ex_set hk] at e
    obtain ⟨y, hy, ey⟩ := List.mem_map.mp e
    exact R.h.dj y hy (by rw [ey]; exact z)
  · rw [ex_set' hk]
    exact R.s.mono s
/-- what a def that writes finds -/
theorem RepH.hand (R : RepH K Z own H) (h : AsI own p C f x) : RepH K ⟨cut [p] H, exBut Z own p⟩ [(p, .ins C f x)] H := by
  obtain ⟨dx, v, e, d⟩ := h.is R
  have hx : p ∈ L3.ex Z own := h.ex
  refine ⟨cut_full, fun q hq => ?_, fun a ha => R.there (List.mem_filter.mp ha |>.1), by simp, fun q hq => ?_⟩
  · rw [List.mem_singleton] at hq
    subst hq
    refine ⟨cut_in (by simp), dx, v, e, ?_⟩
    rw [show cut (L3.ex ⟨cut [p] H, exBut Z own p⟩ [(p, Mo.ins C f x)]) H = cut (L3.ex Z own) H from cut_mem fun a => exBut_iff hx a]
    exact d
  · rw [List.mem_singleton] at hq
    subst hq
    exact exBut_not
end
section
variable {X : Cx} {Z : Fz} {own : Own} {ρ : List Sl} {o e : Expr} {pos apos spos : Pos} {p C : Addr} {f : Str} {x d : PyData} {rest : List Stmt} {P : Pst}
theorem pd_fld (ho : PD X Z own ρ o (.v (.ref p))) (h : AsI own p C f x) (c : Cls X.K C) (n : NoAttr X.K C f) (hb : attributeBase o f X.env (eval o X.env) = eval o X.env := by rfl) : PD X Z own ρ (.Attribute o f pos) (.d x) :=
  pd_of (pe_fld pe_E hb) fun σ H R Q k => ho σ H R _ fun v H1 s1 hv => by
    obtain rfl : v = .ref p := hv
    obtain ⟨dx, u, e, d⟩ := h.is (R.h.mono s1)
    exact ⟨p, C, dx, _, u, rfl, e, c, n, by simp [List.lookup], k u H1 s1 d⟩
/-- an own thing whose attribute f can be written -/
inductive CanPut (C : Addr) (f : Str) : Mo → Prop where
  | ins (x : PyData) : CanPut C f (.ins C f x)
  | fix (dx : Addr) (v : V) (x : PyData) : CanPut C f (.fix C dx f v x)
  | raw (dx : Addr) : CanPut C f (.raw (.ins C dx []))
theorem CanPut.is {K : PySem.W.Frag} {G H : Hp} {m : Mo} (h : CanPut C f m) (hm : MoOk K G H p m) : ∃ dx fs, H p = some (.ins C dx fs) ∧ fs.length < 1000 ∧ ∀ y, putF f y fs = [(f, y)] := by
  cases h with
  | ins x => obtain ⟨dx, v, e, _⟩ := hm; exact ⟨dx, _, e, by simp, fun y => by simp [putF]⟩
  | fix dx v x => exact ⟨dx, _, hm.1, by simp, fun y => by simp [putF]⟩
  | raw dx => exact ⟨dx, _, hm, by simp, fun y => rfl⟩
theorem h_fld {m : Mo} (k : Nat) (ho : PD X Z own ρ o (.v (.ref p))) (hk : own[k]? = some (p, m)) (hm : CanPut C f m) (c : Cls X.K C) (n : NoAttr X.K C f) (he : PD X Z own ρ e (.d d)) (q : PH X Z (own.set k (p, .ins C f d)) ρ rest P)
    (hs : swapsWith e (some (.Attribute o f apos)) spos.line X.env = pure false := by rfl) : PH X Z own ρ (.Assign [.Attribute o f apos] e spos :: rest) P :=
  h_cons (ps_fld pe_E pe_E hs) fun σ H R D E => he σ H R _ fun y H1 s1 hy => ho σ H1 (R.mono s1) _ fun v H2 s2 hv => by
    obtain rfl : v = .ref p := hv
    have R2 := (R.mono s1).mono s2
    obtain ⟨dx, fs, e1, e2, e3⟩ := hm.is (R2.h.owns _ (List.mem_of_getElem? hk)).2
    refine ⟨p, C, dx, fs, rfl, e1, c, n, e2, ?_⟩
    rw [e3]
    exact E.nx _ _ σ _ q (R2.write hk ⟨dx, y, upd_same, dp_mono (cut_same s2) _ _ hy⟩)
end
end L3
set_option Elab.async false
set_option linter.all false
set_option autoImplicit false
set_option maxRecDepth 100000
set_option maxHeartbeats 4000000
/-! Lay12: defs and methods whose first argument is an instance: they read it (SpR, SpRL) or write it (SpE). -/
namespace L3
open PySem PySem.Spec L2
/-- reads: x what the instance holds, ds the other arguments, r what comes -/
def SpR (K : PySem.W.Frag) (C : Addr) (f : Str) (Φ : PyData → List PyData → PyData → Prop) : Sp := fun vs H Q _ => ∃ m0 p dx v x args ds r, vs = .ref p :: args ∧ p ∉ m0 ∧ (∀ a ∈ m0, ∃ o, H a = some o) ∧ H p = some (.ins C dx [(f, v)]) ∧ Dp K (cut (p :: m0) H) v x ∧
  DpAll K (cut (p :: m0) H) args ds ∧ Φ x ds r ∧ ∀ u H', Same H H' → Dp K (cut (p :: m0) H') u r → Q u H'
/-- .. a new list comes -/
def SpRL (K : PySem.W.Frag) (C : Addr) (f : Str) (Φ : PyData → List PyData → List PyData → Prop) : Sp := fun vs H Q _ => ∃ m0 p dx v x args ds es, vs = .ref p :: args ∧ p ∉ m0 ∧ (∀ a ∈ m0, ∃ o, H a = some o) ∧ H p = some (.ins C dx [(f, v)]) ∧ Dp K (cut (p :: m0) H) v x ∧
  DpAll K (cut (p :: m0) H) args ds ∧ Φ x ds es ∧ ∀ a ws H', H a = none → Same H H' → H' a = some (.lst ws) → DpAll K (cut (a :: p :: m0) H') ws es → Q (.ref a) H'
/-- writes: x' what the instance holds behind it; what comes, or the class of what is raised -/
def SpE (K : PySem.W.Frag) (C : Addr) (f : Str) (Φ : PyData → List PyData → PyData → PyData ⊕ Addr → Prop) : Sp := fun vs H Q E => ∃ m0 p x args ds x' r, vs = .ref p :: args ∧ p ∉ m0 ∧ RepH K ⟨cut [p] H, m0⟩ [(p, .ins C f x)] H ∧
  DpAll K (cut (p :: m0) H) args ds ∧ Φ x ds x' r ∧ (∀ u H' d, r = .inl d → RepH K ⟨cut [p] H, m0⟩ [(p, .ins C f x')] H' → Dp K (cut (p :: m0) H') u d → Q u H') ∧
  (∀ c H', r = .inr c → RepH K ⟨cut [p] H, m0⟩ [(p, .ins C f x')] H' → E (.ref c) none H')
theorem sp_RL {K : PySem.W.Frag} {C : Addr} {f : Str} {Φ : PyData → List PyData → List PyData → Prop} {vs : List V} {H : Hp} {Q : VK} {E : XK} (h : SpR K C f (fun x ds r => ∃ es, Φ x ds es ∧ r = .list es) vs H Q E) : SpRL K C f Φ vs H Q E := by
  obtain ⟨m0, p, dx, v, x, args, ds, _, e, hp, h1, h2, h3, h4, ⟨es, h5, rfl⟩, q⟩ := h
  refine ⟨m0, p, dx, v, x, args, ds, es, e, hp, h1, h2, h3, h4, h5, fun a ws H' ha s hw hd => q _ H' s (.lst (.inl ?_) (dpAll_mono (cut_less fun b hb => List.mem_cons_of_mem _ hb) _ _ hd))⟩
  rw [cut_out]
  · exact hw
  · intro z
    rcases List.mem_cons.mp z with z | z
    · rw [z, h2] at ha; cases ha
    · obtain ⟨o, q⟩ := h1 a z
      rw [ha] at q; cases q
section
variable {P : Program} {w : World} {K : PySem.W.Frag} {mg : Str → Option Value} {base : Heap} {C : Addr} {f : Str}
/-- the post of a body that reads -/
abbrev retR (p : Addr) (m : Mo) (d : PyData) : Pst := { nx := fun own _ => (p, m) ∈ own ∧ RetD own (.d .none) d, rt := fun own r => (p, m) ∈ own ∧ RetD own r d }
abbrev retRL (p : Addr) (m : Mo) (es : List PyData) : Pst := { nx := fun _ _ => False, rt := fun own r => (p, m) ∈ own ∧ ∃ a, r = .v (.ref a) ∧ (a, Mo.lst es) ∈ own }
abbrev retE (C : Addr) (f : Str) (p : Addr) (x' : PyData) (r : PyData ⊕ Addr) : Pst := { nx := fun own _ => AsI own p C f x' ∧ r = .inl .none, rt := fun own s => AsI own p C f x' ∧ ∃ d, r = .inl d ∧ RetD own s d }
abbrev startO (N : List Str) (p : Addr) (ds : List PyData) : List Sl := .v (.ref p) :: (ds.map Sl.d ++ List.replicate (N.length - (ds.length + 1)) Sl.no)
theorem slots_startO {G : Hp} {p : Addr} {ds : List PyData} {vs : List V} {N : List Str} (h : DpAll K G vs ds) : Slots K G (startO N p ds) (L2.start N (.ref p :: vs)) := by
  unfold L2.start
  rw [List.length_cons, dpAll_length h]
  exact .cons rfl (slots_start _ h)
theorem fix_start {H : Hp} {m0 : List Addr} {p dx : Addr} {v : V} {x : PyData} {ds : List PyData} {vs : List V} {N : List Str} (hp : p ∉ m0) (h0 : ∀ a ∈ m0, ∃ o, H a = some o) (e : H p = some (.ins C dx [(f, v)])) (hv : Dp K (cut (p :: m0) H) v x) (ha : DpAll K (cut (p :: m0) H) vs ds) :
    Rep K ⟨cut [p] H, m0⟩ [(p, .fix C dx f v x)] (startO N p ds) (L2.start N (.ref p :: vs)) H := by
  refine ⟨⟨cut_full, fun q hq => ?_, h0, by simp, fun q hq => ?_⟩, slots_startO ha⟩
  · rw [List.mem_singleton] at hq
    subst hq
    exact ⟨cut_in (by simp), e, hv⟩
  · rw [List.mem_singleton] at hq
    subst hq
    exact hp
theorem fix_same {H H' : Hp} {m0 : List Addr} {p dx : Addr} {v : V} {x : PyData} {own : Own} (e : H p = some (.ins C dx [(f, v)])) (R : RepH K ⟨cut [p] H, m0⟩ own H') (hp : (p, Mo.fix C dx f v x) ∈ own) : Same H H' := fun b o hb => by
  by_cases z : b = p
  · subst z
    rw [e] at hb
    cases hb
    exact (R.owns _ hp).2.1
  · exact R.fr b o (by
      show cut [p] H b = some o
      rw [cut_out (by simpa using z)]
      exact hb)
theorem own_sub {m0 : List Addr} {F : Hp} {p : Addr} {m : Mo} {own : Own} (hp : (p, m) ∈ own) : ∀ a, a ∈ p :: m0 → a ∈ ex ⟨F, m0⟩ own := fun a ha => by
  rcases List.mem_cons.mp ha with z | z
  · subst z; exact List.mem_append_left _ (List.mem_map.mpr ⟨_, hp, rfl⟩)
  · exact List.mem_append_right _ z
/-- what a body returns, at its def's end -/
theorem ret_is {m0 : List Addr} {F H' : Hp} {p : Addr} {own : Own} {r : Sl} {d : PyData} {u : V} {x : PyData} (hp : AsI own p C f x) (hr : RetD own r d) (R : RepH K ⟨F, m0⟩ own H') (hv : SlOk K (cut (ex ⟨F, m0⟩ own) H') r u) : Dp K (cut (p :: m0) H') u d := by
  have sub : ∀ a, a ∈ p :: m0 → a ∈ ex ⟨F, m0⟩ own := by
    rcases hp with h | ⟨_, _, h⟩
    · exact own_sub h
    · exact own_sub h
  have less : Same (cut (ex ⟨F, m0⟩ own) H') (cut (p :: m0) H') := cut_less sub
  cases hr with
  | d x => exact dp_mono less _ _ hv
  | @o a ds ho =>
    obtain ⟨_, ws, e1, e2⟩ := R.owns _ ho
    obtain rfl : u = .ref a := hv
    refine .lst (.inl ?_) (dpAll_mono less _ _ e2)
    rw [cut_out]
    · exact e1
    · intro z
      rcases List.mem_cons.mp z with z | z
      · obtain ⟨dx, w, e3, _⟩ := hp.is R
        rw [z] at e1
        rw [e3] at e1
        cases e1
      · exact R.dj _ ho z
theorem okR {x0 qual : Str} {st : Stmt} {g : Addr} {fd : FuncData} {N ps : List Str} {k : Nat} {Φ : PyData → List PyData → PyData → Prop} (F : Fun K x0 qual st g fd) (S : FnScope N ps (defScope st)) (len : ∀ x ds d, Φ x ds d → ds.length + 1 = ps.length)
    (body : ∀ (cdv : Value) (A : Around) (outer : List Env) (s : Shared) (H : Hp) (E : XK) (Z : Fz) (p dx : Addr) (v : V) (x : PyData) (ds : List PyData) (d : PyData), Room k (A.deeper (PyProof.Rows.envOfC qual (defScope st) s.heap.objs.size g cdv)) → Φ x ds d →
      PH (bodyX P w K mg base N qual st g cdv A outer s H E) Z [(p, .fix C dx f v x)] (startO N p ds) (defBody st) (retR p (.fix C dx f v x) d)) : FnOk P w K mg base CX0 (k + 1) g fd ps (SpR K C f Φ) := by
  refine F.ok S (fun vs H Q E h => ?_) (fun cdv A outer s H vs Q E hr h => ?_)
  · obtain ⟨m0, p, dx, v, x, args, ds, d, rfl, _, _, _, _, h2, h3, _⟩ := h
    rw [List.length_cons, dpAll_length h2]
    exact len x ds d h3
  · obtain ⟨m0, p, dx, v, x, args, ds, d, rfl, hp, h0, e, hv, ha, h3, q⟩ := h
    have fin : ∀ own r u H', (p, Mo.fix C dx f v x) ∈ own → RetD own r d → RepH K ⟨cut [p] H, m0⟩ own H' → SlOk K (cut (ex ⟨cut [p] H, m0⟩ own) H') r u → Q u H' := fun own r u H' ho hr R hu =>
      q u H' (fix_same e R ho) (ret_is (.inr ⟨dx, v, ho⟩) hr R hu)
    exact ⟨_, pss_Ss, body cdv A outer s H E ⟨cut [p] H, m0⟩ p dx v x ds d hr h3 _ H (fix_start hp h0 e hv ha) _
      ⟨fun own ρ σ H' hn R => fin own _ .non H' hn.1 hn.2 R.h Dp.non, fun own r u H' hr R hu => fin own r u H' hr.1 hr.2 R hu, fun own ρ σ H' hb R => hb.elim, fun own ρ σ H' hb R => hb.elim⟩⟩
theorem okRL {x0 qual : Str} {st : Stmt} {g : Addr} {fd : FuncData} {N ps : List Str} {k : Nat} {Φ : PyData → List PyData → List PyData → Prop} (F : Fun K x0 qual st g fd) (S : FnScope N ps (defScope st)) (len : ∀ x ds es, Φ x ds es → ds.length + 1 = ps.length)
    (body : ∀ (cdv : Value) (A : Around) (outer : List Env) (s : Shared) (H : Hp) (E : XK) (Z : Fz) (p dx : Addr) (v : V) (x : PyData) (ds es : List PyData), Room k (A.deeper (PyProof.Rows.envOfC qual (defScope st) s.heap.objs.size g cdv)) → Φ x ds es →
      PH (bodyX P w K mg base N qual st g cdv A outer s H E) Z [(p, .fix C dx f v x)] (startO N p ds) (defBody st) (retRL p (.fix C dx f v x) es)) : FnOk P w K mg base CX0 (k + 1) g fd ps (SpRL K C f Φ) := by
  refine F.ok S (fun vs H Q E h => ?_) (fun cdv A outer s H vs Q E hr h => ?_)
  · obtain ⟨m0, p, dx, v, x, args, ds, d, rfl, _, _, _, _, h2, h3, _⟩ := h
    rw [List.length_cons, dpAll_length h2]
    exact len x ds d h3
  · obtain ⟨m0, p, dx, v, x, args, ds, es, rfl, hp, h0, e, hv, ha, h3, q⟩ := h
    refine ⟨_, pss_Ss, body cdv A outer s H E ⟨cut [p] H, m0⟩ p dx v x ds es hr h3 _ H (fix_start hp h0 e hv ha) _
      ⟨fun own ρ σ H' hn R => hn.elim, fun own r u H' hr R hu => ?_, fun own ρ σ H' hb R => hb.elim, fun own ρ σ H' hb R => hb.elim⟩⟩
    obtain ⟨ho, a, rfl, hl⟩ := hr
    obtain ⟨e0, ws, e1, e2⟩ := R.owns _ hl
    obtain rfl : u = .ref a := hu
    have hne : a ≠ p := fun z => by
      have e3 := (R.owns _ ho).2.1
      rw [z] at e1
      rw [e1] at e3
      cases e3
    have e0' : cut [p] H a = none := e0
    rw [cut_out (by simpa using hne)] at e0'
    refine q a ws H' e0' (fix_same e R ho) e1 (dpAll_mono (cut_less fun b hb => ?_) _ _ e2)
    rcases List.mem_cons.mp hb with z | z
    · subst z; exact List.mem_append_left _ (List.mem_map.mpr ⟨_, hl, rfl⟩)
    · exact own_sub ho b z
/-- the start of a body that writes -/
theorem ins_start {H : Hp} {m0 : List Addr} {p : Addr} {x : PyData} {ds : List PyData} {vs : List V} {N : List Str} (R : RepH K ⟨cut [p] H, m0⟩ [(p, .ins C f x)] H) (ha : DpAll K (cut (p :: m0) H) vs ds) :
    Rep K ⟨cut [p] H, m0⟩ [(p, .ins C f x)] (startO N p ds) (L2.start N (.ref p :: vs)) H := ⟨R, slots_startO ha⟩
theorem okE {x0 qual : Str} {st : Stmt} {g : Addr} {fd : FuncData} {N ps : List Str} {k : Nat} {Φ : PyData → List PyData → PyData → PyData ⊕ Addr → Prop} (F : Fun K x0 qual st g fd) (S : FnScope N ps (defScope st)) (len : ∀ x ds x' r, Φ x ds x' r → ds.length + 1 = ps.length)
    (body : ∀ (cdv : Value) (A : Around) (outer : List Env) (s : Shared) (H : Hp) (E : XK) (Z : Fz) (p : Addr) (x : PyData) (ds : List PyData) (x' : PyData) (r : PyData ⊕ Addr), Room k (A.deeper (PyProof.Rows.envOfC qual (defScope st) s.heap.objs.size g cdv)) → Φ x ds x' r →
      PH (bodyX P w K mg base N qual st g cdv A outer s H E) Z [(p, .ins C f x)] (startO N p ds) (defBody st) (retE C f p x' r)) : FnOk P w K mg base CX0 (k + 1) g fd ps (SpE K C f Φ) := by
  refine F.ok S (fun vs H Q E h => ?_) (fun cdv A outer s H vs Q E hr h => ?_)
  · obtain ⟨m0, p, x, args, ds, x', r, rfl, _, _, h2, h3, _⟩ := h
    rw [List.length_cons, dpAll_length h2]
    exact len x ds x' r h3
  · obtain ⟨m0, p, x, args, ds, x', r, rfl, hp, R0, ha, h3, q, _⟩ := h
    exact ⟨_, pss_Ss, body cdv A outer s H E ⟨cut [p] H, m0⟩ p x ds x' r hr h3 _ H (ins_start R0 ha) _
      ⟨fun own ρ σ H' hn R => q .non H' .none hn.2 (R.h.only hn.1) Dp.non, fun own s u H' ⟨hn, d, hd, hr⟩ R hu => q u H' d hd (R.only hn) (ret_is hn hr R hu), fun own ρ σ H' hb R => hb.elim, fun own ρ σ H' hb R => hb.elim⟩⟩
end
/-! ### callees -/
/-- a def of the module, under a wish about exceptions -/
structure CalX (CX : CXT) (P : Program) (w : World) (K : PySem.W.Frag) (mg : Str → Option Value) (base : Heap) (k : Nat) (x : Str) (ps : List Str) (sp : Sp) : Prop where
  ex : ∃ f fd, FnOk P w K mg base CX k f fd ps sp ∧ mg x = some (.ref f) ∧ PySem.W.keepIn K (.ref f) = true ∧ Binds K fd ps []
/-- a method of the class at C -/
structure CalM (CX : CXT) (P : Program) (w : World) (K : PySem.W.Frag) (mg : Str → Option Value) (base : Heap) (k : Nat) (C : Addr) (m : Str) (ps : List Str) (sp : Sp) : Prop where
  ex : ∃ f fd, FnOk P w K mg base CX k f fd ps sp ∧ Meth K C m f ∧ Binds K fd ps []
section
variable {X : Cx} {Z : Fz} {own : Own} {ρ : List Sl} {pos apos q0 : Pos} {o e : Expr} {es : List Expr} {d x : PyData} {ds rs : List PyData} {k : Nat} {ps : List Str} {m fn : Str} {f : Str} {C p : Addr}
theorem look_no {v : V} (h : (m == f) = false) : ([(f, v)] : List (Str × V)).lookup m = none := by simp [List.lookup, h]
/-- o.m(e, ..) that reads -/
theorem pd_meth {pl : Sem Bool} {Φ : PyData → List PyData → PyData → Prop} (M : CalM CX0 X.prog X.w X.K X.mg X.base k C m ps (SpR X.K C f Φ)) (c : Cls X.K C) (hr : Room k X.A) (ho : PD X Z own ρ o (.v (.ref p))) (h : AsI own p C f x) (ha : PDD X Z own ρ (e :: es) ds) (hΦ : Φ x ds d) (hne : (m == f) = false := by decide)
    (hst : starEach (e :: es) X.env = (false, eval e X.env) :: starEach es X.env := by rfl) (hpl : (backTo pos (starEach es X.env)).any (·.1) = false := by rfl)
    (ht : eval (.Call (.Attribute o m apos) (e :: es) [] pos) X.env = (do
      let ov ← eval o X.env
      standAt apos.atName; let (f, first) ← holding [ov] (getMethod ov m pl); callWith pos f first (backTo pos (starEach (e :: es) X.env)) (backToKw pos (keywordEach [] X.env))) := by rfl) :
    PD X Z own ρ (.Call (.Attribute o m apos) (e :: es) [] pos) (.d d) := by
  obtain ⟨g, fd, F, hm, hb⟩ := M.ex
  refine pd_of (pe_meth pe_E c hm F hr hb .nil pass0 pa_A hst hpl ht) fun σ H R Q q => ho σ H R _ fun v H1 s1 hv => ?_
  obtain rfl : v = .ref p := hv
  have R1 := R.mono s1
  obtain ⟨dx, u, e1, d1⟩ := h.is R1.h
  refine ⟨p, dx, _, rfl, e1, look_no hne, ha σ H1 R1 _ fun vs H2 s2 q1 => ?_⟩
  rw [List.append_nil]
  have cc : ∀ G : Hp, cut (p :: exBut Z own p) G = cut (ex Z own) G := fun G => cut_mem fun a => exBut_iff h.ex a
  refine ⟨exBut Z own p, p, dx, u, x, vs, ds, d, rfl, exBut_not, fun a ha => ((R1.mono s2).h.there (List.mem_filter.mp ha |>.1)), s2 _ _ e1, ?_, ?_, hΦ, fun y H' s hy => q y H' ((s1.trans s2).trans s) ?_⟩
  · rw [cc]; exact dp_mono (cut_same s2) _ _ d1
  · rw [cc]; exact q1
  · rw [cc] at hy; exact hy
theorem pd_meth0 {pl : Sem Bool} {Φ : PyData → List PyData → PyData → Prop} (M : CalM CX0 X.prog X.w X.K X.mg X.base k C m ps (SpR X.K C f Φ)) (c : Cls X.K C) (hr : Room k X.A) (ho : PD X Z own ρ o (.v (.ref p))) (h : AsI own p C f x) (hΦ : Φ x [] d) (hne : (m == f) = false := by decide)
    (ht : eval (.Call (.Attribute o m apos) [] [] pos) X.env = (do
      let ov ← eval o X.env
      standAt apos.atName; let (f, first) ← holding [ov] (getMethod ov m pl); callWith pos f first (backTo pos (starEach [] X.env)) (backToKw pos (keywordEach [] X.env))) := by rfl) :
    PD X Z own ρ (.Call (.Attribute o m apos) [] [] pos) (.d d) := by
  obtain ⟨g, fd, F, hm, hb⟩ := M.ex
  refine pd_of (pe_meth0 pe_E c hm F hr hb .nil pass0 ht) fun σ H R Q q => ho σ H R _ fun v H1 s1 hv => ?_
  obtain rfl : v = .ref p := hv
  have R1 := R.mono s1
  obtain ⟨dx, u, e1, d1⟩ := h.is R1.h
  have cc : ∀ G : Hp, cut (p :: exBut Z own p) G = cut (ex Z own) G := fun G => cut_mem fun a => exBut_iff h.ex a
  refine ⟨p, dx, _, rfl, e1, look_no hne, ?_⟩
  refine ⟨exBut Z own p, p, dx, u, x, [], [], d, rfl, exBut_not, fun a ha => (R1.h.there (List.mem_filter.mp ha |>.1)), e1, ?_, .nil, hΦ, fun y H' s hy => q y H' (s1.trans s) ?_⟩
  · rw [cc]; exact d1
  · rw [cc] at hy; exact hy
theorem new_cut {a : Addr} {H' : Hp} {ws : List V} (hx : p ∈ ex Z own) (hd : DpAll X.K (cut (a :: p :: exBut Z own p) H') ws rs) : DpAll X.K (cut (a :: ex Z own) H') ws rs := by
  have e : cut (a :: p :: exBut Z own p) H' = cut (a :: ex Z own) H' := cut_mem fun b => by
    rw [List.mem_cons, List.mem_cons (l := ex Z own), exBut_iff hx]
  rwa [e] at hd
/-- o.m(e, ..), o.m() that read, a new list comes -/
theorem pn_meth {pl : Sem Bool} {Φ : PyData → List PyData → List PyData → Prop} (M : CalM CX0 X.prog X.w X.K X.mg X.base k C m ps (SpRL X.K C f Φ)) (c : Cls X.K C) (hr : Room k X.A) (ho : PD X Z own ρ o (.v (.ref p))) (h : AsI own p C f x) (ha : PDD X Z own ρ (e :: es) ds) (hΦ : Φ x ds rs) (hne : (m == f) = false := by decide)
    (hst : starEach (e :: es) X.env = (false, eval e X.env) :: starEach es X.env := by rfl) (hpl : (backTo pos (starEach es X.env)).any (·.1) = false := by rfl)
    (ht : eval (.Call (.Attribute o m apos) (e :: es) [] pos) X.env = (do
      let ov ← eval o X.env
      standAt apos.atName; let (f, first) ← holding [ov] (getMethod ov m pl); callWith pos f first (backTo pos (starEach (e :: es) X.env)) (backToKw pos (keywordEach [] X.env))) := by rfl) :
    PN X Z own ρ (.Call (.Attribute o m apos) (e :: es) [] pos) rs := by
  obtain ⟨g, fd, F, hm, hb⟩ := M.ex
  refine fun σ H R Q q => ⟨_, pe_meth pe_E c hm F hr hb .nil pass0 pa_A hst hpl ht, ho σ H R _ fun v H1 s1 hv => ?_⟩
  obtain rfl : v = .ref p := hv
  have R1 := R.mono s1
  obtain ⟨dx, u, e1, d1⟩ := h.is R1.h
  refine ⟨p, dx, _, rfl, e1, look_no hne, ha σ H1 R1 _ fun vs H2 s2 q1 => ?_⟩
  rw [List.append_nil]
  have cc : ∀ G : Hp, cut (p :: exBut Z own p) G = cut (ex Z own) G := fun G => cut_mem fun a => exBut_iff h.ex a
  refine ⟨exBut Z own p, p, dx, u, x, vs, ds, rs, rfl, exBut_not, fun a ha => ((R1.mono s2).h.there (List.mem_filter.mp ha |>.1)), s2 _ _ e1, ?_, ?_, hΦ, fun a ws H' hn s hw hd => q a ws H' ((s1.trans s2).free hn) ((s1.trans s2).trans s) hw (new_cut h.ex hd)⟩
  · rw [cc]; exact dp_mono (cut_same s2) _ _ d1
  · rw [cc]; exact q1
theorem pn_meth0 {pl : Sem Bool} {Φ : PyData → List PyData → List PyData → Prop} (M : CalM CX0 X.prog X.w X.K X.mg X.base k C m ps (SpRL X.K C f Φ)) (c : Cls X.K C) (hr : Room k X.A) (ho : PD X Z own ρ o (.v (.ref p))) (h : AsI own p C f x) (hΦ : Φ x [] rs) (hne : (m == f) = false := by decide)
    (ht : eval (.Call (.Attribute o m apos) [] [] pos) X.env = (do
      let ov ← eval o X.env
      standAt apos.atName; let (f, first) ← holding [ov] (getMethod ov m pl); callWith pos f first (backTo pos (starEach [] X.env)) (backToKw pos (keywordEach [] X.env))) := by rfl) :
    PN X Z own ρ (.Call (.Attribute o m apos) [] [] pos) rs := by
  obtain ⟨g, fd, F, hm, hb⟩ := M.ex
  refine fun σ H R Q q => ⟨_, pe_meth0 pe_E c hm F hr hb .nil pass0 ht, ho σ H R _ fun v H1 s1 hv => ?_⟩
  obtain rfl : v = .ref p := hv
  have R1 := R.mono s1
  obtain ⟨dx, u, e1, d1⟩ := h.is R1.h
  have cc : ∀ G : Hp, cut (p :: exBut Z own p) G = cut (ex Z own) G := fun G => cut_mem fun a => exBut_iff h.ex a
  refine ⟨p, dx, _, rfl, e1, look_no hne, ?_⟩
  refine ⟨exBut Z own p, p, dx, u, x, [], [], rs, rfl, exBut_not, fun a ha => (R1.h.there (List.mem_filter.mp ha |>.1)), e1, ?_, .nil, hΦ, fun a ws H' hn s hw hd => q a ws H' (s1.free hn) (s1.trans s) hw (new_cut h.ex hd)⟩
  rw [cc]; exact d1
/-- g(o, e, ..) that reads -/
theorem pd_onO {Φ : PyData → List PyData → PyData → Prop} (M : CalX CX0 X.prog X.w X.K X.mg X.base k fn ps (SpR X.K C f Φ)) (hr : Room k X.A) (ho : PD X Z own ρ o (.v (.ref p))) (h : AsI own p C f x) (ha : PDD X Z own ρ es ds) (hΦ : Φ x ds d)
    (hg : Gl X fn := by rfl) (hdb : (fn == ("__debug__" : Str)) = false := by decide) (he : starEach (o :: es) X.env = (false, eval o X.env) :: starEach es X.env := by rfl) (hpl : (backTo pos (starEach es X.env)).any (·.1) = false := by rfl) :
    PD X Z own ρ (.Call (.Name fn q0) (o :: es) [] pos) (.d d) := by
  obtain ⟨g, fd, F, hm, hk, hb⟩ := M.ex
  refine pd_of (pe_call F hr hg hm hk hb .nil pass0 (pa_cons pe_E pa_A he) hdb he hpl) fun σ H R Q q => ho σ H R _ fun v H1 s1 hv => ?_
  obtain rfl : v = .ref p := hv
  have R1 := R.mono s1
  obtain ⟨dx, u, e1, d1⟩ := h.is R1.h
  refine ha σ H1 R1 _ fun vs H2 s2 q1 => ?_
  show SpR X.K C f Φ ((V.ref p :: vs) ++ []) H2 Q E0
  rw [List.append_nil]
  have cc : ∀ G : Hp, cut (p :: exBut Z own p) G = cut (ex Z own) G := fun G => cut_mem fun a => exBut_iff h.ex a
  refine ⟨exBut Z own p, p, dx, u, x, vs, ds, d, rfl, exBut_not, fun a ha => ((R1.mono s2).h.there (List.mem_filter.mp ha |>.1)), s2 _ _ e1, ?_, ?_, hΦ, fun y H' s hy => q y H' ((s1.trans s2).trans s) ?_⟩
  · rw [cc]; exact dp_mono (cut_same s2) _ _ d1
  · rw [cc]; exact q1
  · rw [cc] at hy; exact hy
end
end L3
set_option Elab.async false
set_option linter.all false
set_option autoImplicit false
set_option maxRecDepth 100000
set_option maxHeartbeats 4000000
/-! Lay13: expressions that write an instance; what is raised, and caught. -/
namespace L3
open PySem PySem.Spec L2
/-- e gives data, and leaves what is own as post says; or raises as xp says -/
def PX (X : Cx) (W : WX) (Z : Fz) (own : Own) (ρ : List Sl) (e : Expr) (post : Own → PyData → Prop) (xp : Own → Addr → Prop) : Prop :=
  ∀ σ H, Rep X.K Z own ρ σ H → ∀ Q : VK, (∀ own' d v H', post own' d → Rep X.K Z own' ρ σ H' → Dp X.K (cut (ex Z own') H') v d → Q v H') → (∀ own' c H', xp own' c → Rep X.K Z own' ρ σ H' → W (.ref c) none σ H') → tE X e σ H Q
/-- a test that writes -/
def PBX (X : Cx) (Z : Fz) (own : Own) (ρ : List Sl) (e : Expr) (post : Own → Bool → Prop) : Prop :=
  ∀ σ H, Rep X.K Z own ρ σ H → ∀ Q : Bool → Hp → Prop, (∀ own' b H', post own' b → Rep X.K Z own' ρ σ H' → Q b H') → tT X e σ H Q
/-- a block that may raise -/
def PHX (X : Cx) (W : WX) (Z : Fz) (own : Own) (ρ : List Sl) (sts : List Stmt) (P : Pst) (xp : Own → List Sl → Addr → Prop) : Prop :=
  ∀ σ H, Rep X.K Z own ρ σ H → ∀ D, EndsOk X.K Z P D → (∀ own' ρ' σ' H' c, xp own' ρ' c → Rep X.K Z own' ρ' σ' H' → W (.ref c) none σ' H') → tSs X sts D σ H
abbrev W0 : WX := fun _ _ _ _ => True
abbrev noXp : Own → Addr → Prop := fun _ _ => False
abbrev Pst.seqX (P : Pst) (X : Cx) (W : WX) (Z : Fz) (rest : List Stmt) (xp : Own → List Sl → Addr → Prop) : Pst := { P with nx := fun own ρ => PHX X W Z own ρ rest P xp }
section
variable {X : Cx} {CX : CXT} {W : WX} {Z : Fz} {own : Own} {ρ : List Sl} {pos apos q0 spos px : Pos} {o e e1 e2 c : Expr} {es : List Expr} {d x : PyData} {ds : List PyData} {k n i : Nat} {ps : List Str} {m fn y : Str} {f : Str} {C p : Addr} {rest thn els : List Stmt} {P : Pst} {st : Stmt} {b : Bool} {r : Sl}
variable {post : Own → PyData → Prop} {xp : Own → Addr → Prop} {xps : Own → List Sl → Addr → Prop}
/-- what is raised passes: of a callee that raises nothing -/
theorem pass00 {E : L2.St → XK} : ∀ σ, PassesAt CX0 X σ (E σ) := fun _ _ _ _ _ _ _ h => h.elim
/-- o.m(..), slots ahead -/
def tMethW (C : Addr) (m : Str) (sp : Sp) (E : L2.St → XK) (ta : TE) (t : TA) : TE := fun σ H Q => ta σ H fun x H1 => ∃ a dx fs, x = .ref a ∧ H1 a = some (.ins C dx fs) ∧ fs.lookup m = none ∧ t σ H1 fun vs H2 => sp (x :: vs) H2 Q (E σ)
theorem pe_methW {pl : Sem Bool} {g : Addr} {fd : FuncData} {sp : Sp} {E : L2.St → XK} {ta : TE} {t : TA} (he : PE X o ta) (cl : Cls X.K C) (hm : Meth X.K C m g) (F : FnOk X.prog X.w X.K X.mg X.base CX k g fd ps sp) (hr : Room k X.A) (hb : Binds X.K fd ps []) (hx : ∀ σ, PassesAt CX X σ (E σ)) (ha : PA X (e :: es) t)
    (hst : starEach (e :: es) X.env = (false, eval e X.env) :: starEach es X.env := by rfl) (hpl : (backTo pos (starEach es X.env)).any (·.1) = false := by rfl)
    (ht : eval (.Call (.Attribute o m apos) (e :: es) [] pos) X.env = (do
      let ov ← eval o X.env
      standAt apos.atName; let (f, first) ← holding [ov] (getMethod ov m pl); callWith pos f first (backTo pos (starEach (e :: es) X.env)) (backToKw pos (keywordEach [] X.env))) := by rfl) :
    PE X (.Call (.Attribute o m apos) (e :: es) [] pos) (tMethW C m sp E ta t) := ⟨fun pins s σ H Q I h => by
  refine PySem.W.methodCall_KW (pl := pl) (thn (he.run pins s σ H _ I h) ?_) ht
  rintro u s1 ⟨v, H1, I1, rv, a, dx, fs, rfl, ea, l, q⟩
  obtain rfl : u = Value.ref a := rv
  refine getmeth_ok I1 ea cl hm l (PySem.W.callWith_K (first := [.ref a]) (h₀ := X.base) I1.ok.mod.kin hm.kp (thn (ha.run pos pins s1 σ H1 _ I1 q) ?_) hst hpl)
  rintro us s2 ⟨vs, H2, I2, r2, q2⟩
  exact ⟨I2.kIn, run_fnS (us := .ref a :: us) (vs := .ref a :: vs) F hr hb (hx σ) I2 (.cons rfl r2) q2⟩⟩
/-- the promise, at the caller -/
theorem spE_at {Φ : PyData → List PyData → PyData → PyData ⊕ Addr → Prop} {x' : PyData} {t : PyData ⊕ Addr} {H : Hp} {σ : L2.St} {vs : List V} {mo : Mo} {Q : VK} {E : XK} (R : Rep X.K Z own ρ σ H) (hn : own[n]? = some (p, mo)) (h : AsI own p C f x) (ha : DpAll X.K (cut (ex Z own) H) vs ds) (hΦ : Φ x ds x' t)
    (q1 : ∀ d v H', t = .inl d → Rep X.K Z (own.set n (p, .ins C f x')) ρ σ H' → Dp X.K (cut (ex Z (own.set n (p, .ins C f x'))) H') v d → Q v H') (q2 : ∀ c H', t = .inr c → Rep X.K Z (own.set n (p, .ins C f x')) ρ σ H' → E (.ref c) none H') : SpE X.K C f Φ (.ref p :: vs) H Q E := by
  have cc : ∀ G : Hp, cut (p :: exBut Z own p) G = cut (ex Z own) G := fun G => cut_mem fun a => exBut_iff h.ex a
  refine ⟨exBut Z own p, p, x, vs, ds, x', t, rfl, exBut_not, R.h.hand h, by rw [cc]; exact ha, hΦ, fun u H' d hd R' hu => q1 d u H' hd (R.eff hn R') ?_, fun c H' hc R' => q2 c H' hc (R.eff hn R')⟩
  rw [ex_set' hn, ← cc]
  exact hu
/-- o.m(e, ..) that writes -/
theorem px_meth {pl : Sem Bool} {Φ : PyData → List PyData → PyData → PyData ⊕ Addr → Prop} {x' : PyData} {t : PyData ⊕ Addr} {mo : Mo} (M : CalM CX X.prog X.w X.K X.mg X.base k C m ps (SpE X.K C f Φ)) (hx : ∀ σ, PassesAt CX X σ (WE W σ)) (cl : Cls X.K C) (hr : Room k X.A) (n : Nat) (ho : PD X Z own ρ o (.v (.ref p))) (hn : own[n]? = some (p, mo)) (h : AsI own p C f x) (ha : PDD X Z own ρ (e :: es) ds) (hΦ : Φ x ds x' t) (hne : (m == f) = false := by decide)
    (hst : starEach (e :: es) X.env = (false, eval e X.env) :: starEach es X.env := by rfl) (hpl : (backTo pos (starEach es X.env)).any (·.1) = false := by rfl)
    (ht : eval (.Call (.Attribute o m apos) (e :: es) [] pos) X.env = (do
      let ov ← eval o X.env
      standAt apos.atName; let (f, first) ← holding [ov] (getMethod ov m pl); callWith pos f first (backTo pos (starEach (e :: es) X.env)) (backToKw pos (keywordEach [] X.env))) := by rfl) :
    PX X W Z own ρ (.Call (.Attribute o m apos) (e :: es) [] pos) (fun own' d => own' = own.set n (p, .ins C f x') ∧ t = .inl d) (fun own' c => own' = own.set n (p, .ins C f x') ∧ t = .inr c) := fun σ H R Q q1 q2 => by
  obtain ⟨g, fd, F, hm, hb⟩ := M.ex
  refine ⟨_, pe_methW pe_E cl hm F hr hb hx pa_A hst hpl ht, ho σ H R _ fun v H1 s1 hv => ?_⟩
  obtain rfl : v = .ref p := hv
  have R1 := R.mono s1
  obtain ⟨dx, u, e1, d1⟩ := h.is R1.h
  exact ⟨p, dx, _, rfl, e1, look_no hne, ha σ H1 R1 _ fun vs H2 s2 hvs => spE_at (R1.mono s2) hn h hvs hΦ (fun d v H' hd R' hv => q1 _ d v H' ⟨rfl, hd⟩ R' hv) (fun c H' hc R' => q2 _ c H' ⟨rfl, hc⟩ R')⟩
/-- g(o, ..) that writes -/
theorem px_onO {Φ : PyData → List PyData → PyData → PyData ⊕ Addr → Prop} {x' : PyData} {t : PyData ⊕ Addr} {mo : Mo} (M : CalX CX X.prog X.w X.K X.mg X.base k fn ps (SpE X.K C f Φ)) (hx : ∀ σ, PassesAt CX X σ (WE W σ)) (hr : Room k X.A) (n : Nat) (ho : PD X Z own ρ o (.v (.ref p))) (hn : own[n]? = some (p, mo)) (h : AsI own p C f x) (ha : PDD X Z own ρ es ds) (hΦ : Φ x ds x' t)
    (hg : Gl X fn := by rfl) (hdb : (fn == ("__debug__" : Str)) = false := by decide) (he : starEach (o :: es) X.env = (false, eval o X.env) :: starEach es X.env := by rfl) (hpl : (backTo pos (starEach es X.env)).any (·.1) = false := by rfl) :
    PX X W Z own ρ (.Call (.Name fn q0) (o :: es) [] pos) (fun own' d => own' = own.set n (p, .ins C f x') ∧ t = .inl d) (fun own' c => own' = own.set n (p, .ins C f x') ∧ t = .inr c) := fun σ H R Q q1 q2 => by
  obtain ⟨g, fd, F, hm, hk, hb⟩ := M.ex
  refine ⟨_, pe_callS F hr hg hm hk hb hx (pa_cons pe_E pa_A he) hdb he hpl, ho σ H R _ fun v H1 s1 hv => ?_⟩
  obtain rfl : v = .ref p := hv
  exact ha σ H1 (R.mono s1) _ fun vs H2 s2 hvs => spE_at ((R.mono s1).mono s2) hn h hvs hΦ (fun d v H' hd R' hv => q1 _ d v H' ⟨rfl, hd⟩ R' hv) (fun c H' hc R' => q2 _ c H' ⟨rfl, hc⟩ R')
theorem px_imp {post' : Own → PyData → Prop} {xp' : Own → Addr → Prop} (h : PX X W Z own ρ e post xp) (h1 : ∀ own' d, post own' d → post' own' d) (h2 : ∀ own' c, xp own' c → xp' own' c) : PX X W Z own ρ e post' xp' := fun σ H R Q q1 q2 =>
  h σ H R Q (fun own' d v H' hp => q1 own' d v H' (h1 _ _ hp)) fun own' c H' hp => q2 own' c H' (h2 _ _ hp)
/-! ### tests -/
theorem pbx_val {pb : Own → Bool → Prop} (h : PX X W0 Z own ρ e post xp) (hp : ∀ own' d, post own' d → ∃ b, d = .bool b ∧ pb own' b) (he : ∀ whole, isTrue e X.env whole = (do let v ← whole; standAt e.pos; holding [v] (truthy v)) := by intro _; rfl) : PBX X Z own ρ e pb := fun σ H R Q k =>
  ⟨_, pt_val pe_E he, h σ H R _ (fun own' d v H' hpo R' hv => by
    obtain ⟨b, rfl, hb⟩ := hp own' d hpo
    cases hv
    exact ⟨b, rfl, k own' b H' hb R'⟩) fun _ _ _ _ _ => trivial⟩
theorem pbx_not {pb : Own → Bool → Prop} (h : PBX X Z own ρ e pb) : PBX X Z own ρ (.UnaryOp .Not e pos) (fun own' b => ∃ b', pb own' b' ∧ b = !b') := fun σ H R Q k =>
  ⟨_, pt_not pt_T, h σ H R _ fun own' b H' hb R' => k own' (!b) H' ⟨b, hb, rfl⟩ R'⟩
/-! ### statements -/
theorem h_exprX (h : PX X W0 Z own ρ e post xp) (q : ∀ own' d, post own' d → PH X Z own' ρ rest P) (hs : swapsWith e none spos.line X.env = pure false := by rfl) : PH X Z own ρ (.Expr e spos :: rest) P :=
  h_cons (ps_expr pe_E hs) fun σ H R D E => h σ H R _ (fun own' d v H' hp R' _ => E.nx own' ρ σ H' (q own' d hp) R') fun _ _ _ _ _ => trivial
theorem h_setX (i : Nat) (h : PX X W0 Z own ρ e post xp) (q : ∀ own' d, post own' d → PH X Z own' (ρ.set i (.d d)) rest P) (hN : X.N.Nodup) (hi : X.N[i]? = some y := by rfl) (hl : Loc X.env.scope y := by first | exact Or.inl rfl | exact Or.inr rfl) (hs : swapsWith e (some (.Name y px)) spos.line X.env = pure false := by rfl)
    (hf : X.fn y = true ∨ X.env.scope.names.lookup y = some .local := by first | exact .inl rfl | exact .inr rfl) : PH X Z own ρ (.Assign [.Name y px] e spos :: rest) P :=
  h_cons (ps_set hN hi hl pe_E hs hf) fun σ H R D E => h σ H R _ (fun own' d v H' hp R' hv => E.nx own' _ _ H' (q own' d hp) (R'.setS hv)) fun _ _ _ _ _ => trivial
theorem h_retX (h : PX X W0 Z own ρ e post xp) (q : ∀ own' d, post own' d → P.rt own' (.d d)) : PH X Z own ρ (.Return (some e) spos :: rest) P :=
  h_cons (ps_ret pe_E) fun σ H R D E => h σ H R _ (fun own' d v H' hp R' hv => E.rt own' (.d d) v H' (q own' d hp) R'.h hv) fun _ _ _ _ _ => trivial
theorem h_ifX {pb : Own → Bool → Prop} (hc : PBX X Z own ρ c pb) (h1 : ∀ own', pb own' true → PH X Z own' ρ thn (P.seq X Z rest)) (h2 : ∀ own', pb own' false → PH X Z own' ρ els (P.seq X Z rest)) : PH X Z own ρ (.If c thn els spos :: rest) P :=
  h_cons (ps_if pt_T pss_Ss pss_Ss) fun σ H R D E => hc σ H R _ fun own' b H' hb R' => by
    cases b with
    | true => exact iteT (h1 own' hb σ H' R' _ E)
    | false => exact iteF (h2 own' hb σ H' R' _ E)
/-! ### statements of a block that may raise -/
theorem hx_of (h : PH X Z own ρ rest P) : PHX X W Z own ρ rest P xps := fun σ H R D E _ => h σ H R D E
theorem hx_cons {t : TS} (h : PS X st t) (q : ∀ σ H, Rep X.K Z own ρ σ H → ∀ D, EndsOk X.K Z (P.seqX X W Z rest xps) D → (∀ own' ρ' σ' H' c, xps own' ρ' c → Rep X.K Z own' ρ' σ' H' → W (.ref c) none σ' H') → t D σ H) : PHX X W Z own ρ (st :: rest) P xps := fun σ H R D E w =>
  ⟨_, pss_cons h pss_Ss, q σ H R _ ⟨fun own ρ σ H hn R => hn σ H R D E w, E.rt, E.bk, E.ct⟩ w⟩
theorem hx_set (i : Nat) (he : PD X Z own ρ e r) (q : PHX X W Z own (ρ.set i r) rest P xps) (hN : X.N.Nodup) (hi : X.N[i]? = some y := by rfl) (hl : Loc X.env.scope y := by first | exact Or.inl rfl | exact Or.inr rfl) (hs : swapsWith e (some (.Name y px)) spos.line X.env = pure false := by rfl)
    (hf : X.fn y = true ∨ X.env.scope.names.lookup y = some .local := by first | exact .inl rfl | exact .inr rfl) : PHX X W Z own ρ (.Assign [.Name y px] e spos :: rest) P xps :=
  hx_cons (ps_set hN hi hl pe_E hs hf) fun σ H R D E w => he σ H R _ fun v H' s hv => E.nx own _ _ H' q ((R.mono s).setS hv)
theorem hx_if (hc : PB X Z own ρ c b) (h1 : b = true → PHX X W Z own ρ thn (P.seqX X W Z rest xps) xps) (h2 : b = false → PHX X W Z own ρ els (P.seqX X W Z rest xps) xps) : PHX X W Z own ρ (.If c thn els spos :: rest) P xps :=
  hx_cons (ps_if pt_T pss_Ss pss_Ss) fun σ H R D E w => hc σ H R _ fun H' s => by
    cases b with
    | true => exact iteT (h1 rfl σ H' (R.mono s) _ E w)
    | false => exact iteF (h2 rfl σ H' (R.mono s) _ E w)
theorem hx_setX (i : Nat) (h : PX X W Z own ρ e post xp) (q : ∀ own' d, post own' d → PHX X W Z own' (ρ.set i (.d d)) rest P xps) (qx : ∀ own' c, xp own' c → xps own' ρ c) (hN : X.N.Nodup) (hi : X.N[i]? = some y := by rfl) (hl : Loc X.env.scope y := by first | exact Or.inl rfl | exact Or.inr rfl) (hs : swapsWith e (some (.Name y px)) spos.line X.env = pure false := by rfl)
    (hf : X.fn y = true ∨ X.env.scope.names.lookup y = some .local := by first | exact .inl rfl | exact .inr rfl) : PHX X W Z own ρ (.Assign [.Name y px] e spos :: rest) P xps :=
  hx_cons (ps_set hN hi hl pe_E hs hf) fun σ H R D E w => h σ H R _ (fun own' d v H' hp R' hv => E.nx own' _ _ H' (q own' d hp) (R'.setS hv)) fun own' c H' hx R' => w own' ρ σ H' c (qx own' c hx) R'
theorem hx_exprX (h : PX X W Z own ρ e post xp) (q : ∀ own' d, post own' d → PHX X W Z own' ρ rest P xps) (qx : ∀ own' c, xp own' c → xps own' ρ c) (hs : swapsWith e none spos.line X.env = pure false := by rfl) : PHX X W Z own ρ (.Expr e spos :: rest) P xps :=
  hx_cons (ps_expr pe_E hs) fun σ H R D E w => h σ H R _ (fun own' d v H' hp R' hv => E.nx own' _ _ H' (q own' d hp) R') fun own' c H' hx R' => w own' ρ σ H' c (qx own' c hx) R'
theorem hx_retX (h : PX X W Z own ρ e post xp) (q : ∀ own' d, post own' d → P.rt own' (.d d)) (qx : ∀ own' c, xp own' c → xps own' ρ c) : PHX X W Z own ρ (.Return (some e) spos :: rest) P xps :=
  hx_cons (ps_ret pe_E) fun σ H R D E w => h σ H R _ (fun own' d v H' hp R' hv => E.rt own' (.d d) v H' (q own' d hp) R'.h hv) fun own' c H' hx R' => w own' ρ σ H' c (qx own' c hx) R'
/-- an own class of errors without own __init__, as the top has written it -/
structure ExcT (K : PySem.W.Frag) (mg : Str → Option Value) (x : Str) (c : Addr) : Prop where
  g : mg x = some (.ref c)
  q : PySem.W.excIn K c [.type "ValueError", .type "Exception", .type "BaseException", .type "object"] "ValueError.__new__" = true
  kp : PySem.W.keepIn K (.ref c) = true
  sb : PySem.W.subIn K (.ref c) (.type "BaseException") = some true
  ty : PySem.W.typeIn K (.ref c) = some (.type "type")
theorem hx_raise {msg : Str} {j : Nat} {p1 p2 p3 : Pos} {cc : Addr} (T : ExcT X.K X.mg y cc) (tk : Takes X W) (h : xps own ρ cc) (hc : X.calm = true := by rfl) (hg : Gl X y := by rfl) (hdb : (y == ("__debug__" : Str)) = false := by decide) :
    PHX X W Z own ρ (.Raise (some (.Call (.Name y p1) [.Constant (.str msg) j p2] [] p3)) none spos :: rest) P xps :=
  hx_cons (ps_raise hc tk (pmk_own PySem.F.excBase_ValueError T.q T.g T.kp (raises_own T.sb T.ty) hg hdb)) fun σ H R D E w => w own ρ σ H cc h R
end
/-! ### a def that writes and may raise, by its body -/
section
variable {P : Program} {w : World} {K : PySem.W.Frag} {mg : Str → Option Value} {base : Heap} {C : Addr} {f : Str}
abbrev bodyXX (P : Program) (w : World) (K : PySem.W.Frag) (mg : Str → Option Value) (base : Heap) (N : List Str) (qual : Str) (st : Stmt) (g : Addr) (cdv : Value) (A : Around) (outer : List Env) (s : Shared) (H : Hp) (E : XK) : Cx :=
  cxOf (L2.CX P w) P w K mg base N qual (defScope st) g cdv A outer s H E
theorem okEX {x0 qual : Str} {st : Stmt} {g : Addr} {fd : FuncData} {N ps : List Str} {k : Nat} {Φ : PyData → List PyData → PyData → PyData ⊕ Addr → Prop} (F : Fun K x0 qual st g fd) (S : FnScope N ps (defScope st)) (len : ∀ x ds x' r, Φ x ds x' r → ds.length + 1 = ps.length)
    (body : ∀ (cdv : Value) (A : Around) (outer : List Env) (s : Shared) (H : Hp) (E : XK) (Z : Fz) (p : Addr) (x : PyData) (ds : List PyData) (x' : PyData) (r : PyData ⊕ Addr) (W : WX), Room k (A.deeper (PyProof.Rows.envOfC qual (defScope st) s.heap.objs.size g cdv)) → Takes (bodyXX P w K mg base N qual st g cdv A outer s H E) W → Φ x ds x' r →
      PHX (bodyXX P w K mg base N qual st g cdv A outer s H E) W Z [(p, .ins C f x)] (startO N p ds) (defBody st) (retE C f p x' r) (fun own _ c => AsI own p C f x' ∧ r = .inr c)) : FnOk P w K mg base (L2.CX P w) (k + 1) g fd ps (SpE K C f Φ) := by
  refine F.okX S (fun vs H Q E h => ?_) (fun cdv A outer s H vs Q E hr h => ?_)
  · obtain ⟨m0, p, x, args, ds, x', r, rfl, _, _, h2, h3, _⟩ := h
    rw [List.length_cons, dpAll_length h2]
    exact len x ds x' r h3
  · obtain ⟨m0, p, x, args, ds, x', r, rfl, hp, R0, ha, h3, q, qx⟩ := h
    exact ⟨_, pss_Ss, body cdv A outer s H E ⟨cut [p] H, m0⟩ p x ds x' r (fun cls d _ H => E cls d H) hr (takes_of rfl rfl rfl rfl) h3 _ H (ins_start R0 ha) _
      ⟨fun own ρ σ H' hn R => q .non H' .none hn.2 (R.h.only hn.1) Dp.non, fun own s u H' ⟨hn, d, hd, hr⟩ R hu => q u H' d hd (R.only hn) (ret_is hn hr R hu), fun own ρ σ H' hb R => hb.elim, fun own ρ σ H' hb R => hb.elim⟩
      fun own ρ σ H' c hx R => qx c H' hx.2 (R.h.only hx.1)⟩
end
/-! ### try -/
section
variable {X : Cx} {Z : Fz} {own : Own} {ρ : List Sl} {spos np pos' : Pos} {n y : Str} {cc : Value} {i : Nat} {rest body suite : List Stmt} {b0 : Stmt} {P : Pst} {xps : Own → List Sl → Addr → Prop}
def tbAll (X : Cx) (body : List Stmt) : WX → TS := fun W D σ H => ∀ pn xe, Takes (X.tr pn xe) W → PassesOwn (model X.prog X.w) X.A X.env xe → tSs (X.tr pn xe) body D σ H
def tsAll (X : Cx) (suite : List Stmt) : Addr → Value → Option Addr → TS := fun a cls d D σ H => ∀ oe pn, Zc cls d oe → (∃ vs, oe.data = .fields vs) → tSs (X.suite a ((a, oe) :: pn)) suite D σ H
theorem h_tryAs (i : Nat) (c0 : Names X y cc)
    (hb : ∀ W pn xe, Takes (X.tr pn xe) W → PHX (X.tr pn xe) W Z own ρ body { nx := fun own ρ => PH X Z own ρ rest P, rt := P.rt, bk := P.bk, ct := P.ct } xps)
    (hsu : ∀ own' ρ' c, xps own' ρ' c → PySem.W.exmOne X.K (.ref c) cc = some true ∧ ∀ a oe pn, Zc (.ref c) none oe → (∃ vs, oe.data = .fields vs) →
      PH (X.suite a ((a, oe) :: pn)) Z own' (ρ'.set i (.v (.ref a))) (b0 :: suite) { nx := fun own ρ => PH X Z own (ρ.set i .no) rest P, rt := P.rt, bk := fun own ρ => P.bk own (ρ.set i .no), ct := fun own ρ => P.ct own (ρ.set i .no) })
    (hN : X.N.Nodup) (hi : X.N[i]? = some n := by rfl) (hs : X.stack = X.env :: X.outer := by rfl) (hf : X.env.frame = some X.env.locals := by rfl) (hln : X.env.kindOf n = some .local := by rfl) :
    PH X Z own ρ (.Try body [.ExceptHandler (some (.Name y np)) (some n) (b0 :: suite) pos'] [] [] spos :: rest) P :=
  h_cons (ps_try_as (tb := tbAll X body) (ts := tsAll X (b0 :: suite)) hs hf hN hi hln c0 takes0 (fun W pn xe tk po => ⟨fun pins s σ H D I h => pss_Ss.run pins s σ H D I (h pn xe tk po)⟩) (fun a oe cls d pn hz hv => ⟨fun pins s σ H D I h => pss_Ss.run pins s σ H D I (h oe pn hz hv)⟩)) fun σ H R D E pn xe tk po =>
    hb _ pn xe tk σ H R D ⟨E.nx, E.rt, E.bk, E.ct⟩ fun own' ρ' σ' H' c hx R' => by
      obtain ⟨he, hq⟩ := hsu own' ρ' c hx
      refine ⟨true, he, fun _ a _ oe pn' hz hv => ?_, fun z => Bool.noConfusion z⟩
      have go : ∀ {own ρ σ H}, Rep X.K Z own ρ σ H → Rep X.K Z own (ρ.set i .no) (σ.set i none) H := fun R => ⟨R.h, R.s.set (r := .no) (o := none) trivial i⟩
      exact hq a oe pn' hz hv _ H' (Rep.setS (X := X) R' rfl) _ ⟨fun own ρ σ H h R => E.nx _ _ _ H h (go R), E.rt, fun own ρ σ H h R => E.bk _ _ _ H h (go R), fun own ρ σ H h R => E.ct _ _ _ H h (go R)⟩
theorem h_tryOnly (c0 : Names X y cc)
    (hb : ∀ W pn xe, Takes (X.tr pn xe) W → PHX (X.tr pn xe) W Z own ρ body { nx := fun own ρ => PH X Z own ρ rest P, rt := P.rt, bk := P.bk, ct := P.ct } xps)
    (hsu : ∀ own' ρ' c, xps own' ρ' c → PySem.W.exmOne X.K (.ref c) cc = some true ∧ ∀ a oe pn, Zc (.ref c) none oe → (∃ vs, oe.data = .fields vs) →
      PH (X.suite a ((a, oe) :: pn)) Z own' ρ' (b0 :: suite) { nx := fun own ρ => PH X Z own ρ rest P, rt := P.rt, bk := P.bk, ct := P.ct })
    (hs : X.stack = X.env :: X.outer := by rfl) (hf : X.env.frame = some X.env.locals := by rfl) :
    PH X Z own ρ (.Try body [.ExceptHandler (some (.Name y np)) none (b0 :: suite) pos'] [] [] spos :: rest) P :=
  h_cons (ps_try_only (tb := tbAll X body) (ts := tsAll X (b0 :: suite)) hs hf c0 takes0 (fun W pn xe tk po => ⟨fun pins s σ H D I h => pss_Ss.run pins s σ H D I (h pn xe tk po)⟩) (fun a oe cls d pn hz hv => ⟨fun pins s σ H D I h => pss_Ss.run pins s σ H D I (h oe pn hz hv)⟩)) fun σ H R D E pn xe tk po =>
    hb _ pn xe tk σ H R D ⟨E.nx, E.rt, E.bk, E.ct⟩ fun own' ρ' σ' H' c hx R' => by
      obtain ⟨he, hq⟩ := hsu own' ρ' c hx
      exact ⟨true, he, fun _ a _ oe pn' hz hv => hq a oe pn' hz hv _ H' R' _ ⟨E.nx, E.rt, E.bk, E.ct⟩, fun z => Bool.noConfusion z⟩
/-- isinstance(e, c) in the suite, e the error -/
theorem pd_isE {a D : Addr} {oe : Obj} {pn : List (Addr × Obj)} {e c : Expr} {pos p : Pos} {cv : Value} {u : V} {b : Bool} (XC : ExcC X.K D) (hz : Zc (.ref D) none oe) (hf : ∃ vs, oe.data = .fields vs) (he1 : PD (X.suite a ((a, oe) :: pn)) Z own ρ e (.v (.ref a))) (hc1 : PD (X.suite a ((a, oe) :: pn)) Z own ρ c (.v u)) (hu : ∀ z, RelV u z → z = cv) (hk : PySem.W.kitOne X.K (.ref D) cv = some b)
    (hm : X.mg "isinstance" = none) (hg : Gl (X.suite a ((a, oe) :: pn)) "isinstance" := by rfl) (he : starEach (e :: [c]) X.env = (false, eval e X.env) :: starEach [c] X.env := by rfl) (he2 : starEach (c :: []) X.env = (false, eval c X.env) :: starEach [] X.env := by rfl) (hpl : (backTo pos (starEach [c] X.env)).any (·.1) = false := by rfl) :
    PD (X.suite a ((a, oe) :: pn)) Z own ρ (.Call (.Name "isinstance" p) [e, c] [] pos) (.d (.bool b)) :=
  pd_of (pe_callB (call_isE XC hz hf) hg hm boot_isi (pa_cons pe_E (pa_cons pe_E pa_nil he2) he) (by decide) (by decide) he hpl) fun σ H R Q k => he1 σ H R _ fun v H1 s1 h1 => hc1 σ H1 (R.mono s1) _ fun v2 H2 s2 h2 => by
    obtain rfl : v = .ref a := h1
    obtain rfl : v2 = u := h2
    exact ⟨v2, cv, b, rfl, hu, hk, k _ H2 (s1.trans s2) (Dp.bl b)⟩
end
end L3
set_option Elab.async false
set_option linter.all false
set_option autoImplicit false
set_option maxRecDepth 100000
set_option maxHeartbeats 4000000
/-! Lay14: balanced trees of triples, in plain Lean. -/
namespace L3
theorem lt_irr (a : S3) : ¬ sLtP a a := by unfold sLtP; omega
theorem lt_tr {a b c : S3} (h : sLtP a b) (g : sLtP b c) : sLtP a c := by unfold sLtP at *; omega
theorem lt_tri (a b : S3) : sLtP a b ∨ a = b ∨ sLtP b a := by
  obtain ⟨a1, a2, a3⟩ := a
  obtain ⟨b1, b2, b3⟩ := b
  unfold sLtP
  by_cases h1 : a1 = b1
  · by_cases h2 : a2 = b2
    · by_cases h3 : a3 = b3
      · exact .inr (.inl (by rw [h1, h2, h3]))
      · simp only [h1, h2, true_and]; omega
    · simp only [h1, true_and]; omega
  · simp only; omega
theorem lt_asym {a b : S3} (h : sLtP a b) : ¬ sLtP b a := fun g => lt_irr a (lt_tr h g)
theorem lt_ne {a b : S3} (h : sLtP a b) : a ≠ b := fun e => lt_irr b (e ▸ h)
abbrev Srt (l : List S3) : Prop := l.Pairwise sLtP
def insS (x : S3) (l : List S3) : List S3 := l.filter (fun y => decide (sLtP y x)) ++ x :: l.filter (fun y => !decide (sLtP y x))
def remS (x : S3) (l : List S3) : List S3 := l.filter fun y => !decide (y = x)
theorem fil_all {p : S3 → Bool} {l : List S3} (h : ∀ x ∈ l, p x = true) : l.filter p = l := List.filter_eq_self.mpr h
theorem fil_no {p : S3 → Bool} {l : List S3} (h : ∀ x ∈ l, p x = false) : l.filter p = [] := List.filter_eq_nil_iff.mpr fun x hx => by rw [h x hx]; exact Bool.false_ne_true
theorem srt_mid {L R : List S3} {s : S3} (h : Srt (L ++ s :: R)) : Srt L ∧ Srt R ∧ (∀ y ∈ L, sLtP y s) ∧ (∀ y ∈ R, sLtP s y) := by
  unfold Srt at *
  rw [List.pairwise_append, List.pairwise_cons] at h
  exact ⟨h.1, h.2.1.2, fun y hy => h.2.2 y hy s List.mem_cons_self, h.2.1.1⟩
theorem ins_left {L R : List S3} {s x : S3} (h : Srt (L ++ s :: R)) (hx : sLtP x s) : insS x (L ++ s :: R) = insS x L ++ s :: R := by
  obtain ⟨_, _, hL, hR⟩ := srt_mid h
  have e1 : (s :: R).filter (fun y => decide (sLtP y x)) = [] := fil_no fun y hy => decide_eq_false (by
    rcases List.mem_cons.mp hy with rfl | hy
    · exact lt_asym hx
    · exact lt_asym (lt_tr hx (hR y hy)))
  have e2 : (s :: R).filter (fun y => !decide (sLtP y x)) = s :: R := fil_all fun y hy => by
    rcases List.mem_cons.mp hy with rfl | hy
    · rw [decide_eq_false (lt_asym hx)]; rfl
    · rw [decide_eq_false (lt_asym (lt_tr hx (hR y hy)))]; rfl
  unfold insS
  rw [List.filter_append, List.filter_append, e1, e2]
  simp
theorem ins_right {L R : List S3} {s x : S3} (h : Srt (L ++ s :: R)) (hx : sLtP s x) : insS x (L ++ s :: R) = L ++ s :: insS x R := by
  obtain ⟨_, _, hL, hR⟩ := srt_mid h
  have e1 : L.filter (fun y => decide (sLtP y x)) = L := fil_all fun y hy => decide_eq_true (lt_tr (hL y hy) hx)
  have e2 : L.filter (fun y => !decide (sLtP y x)) = [] := fil_no fun y hy => by rw [decide_eq_true (lt_tr (hL y hy) hx)]; rfl
  unfold insS
  rw [List.filter_append, List.filter_append, e1, e2, List.filter_cons, List.filter_cons, if_pos (decide_eq_true hx), if_neg (by rw [decide_eq_true hx]; decide)]
  simp
theorem rem_none {l : List S3} {x : S3} (h : ∀ y ∈ l, y ≠ x) : remS x l = l := fil_all fun y hy => by rw [decide_eq_false (h y hy)]; rfl
theorem rem_left {L R : List S3} {s x : S3} (h : Srt (L ++ s :: R)) (hx : sLtP x s) : remS x (L ++ s :: R) = remS x L ++ s :: R := by
  obtain ⟨_, _, hL, hR⟩ := srt_mid h
  unfold remS
  rw [List.filter_append]
  refine congrArg (_ ++ ·) (rem_none fun y hy => ?_)
  rcases List.mem_cons.mp hy with rfl | hy
  · exact (lt_ne hx).symm
  · exact (lt_ne (lt_tr hx (hR y hy))).symm
theorem rem_right {L R : List S3} {s x : S3} (h : Srt (L ++ s :: R)) (hx : sLtP s x) : remS x (L ++ s :: R) = L ++ s :: remS x R := by
  obtain ⟨_, _, hL, hR⟩ := srt_mid h
  have e : L.filter (fun y => !decide (y = x)) = L := rem_none fun y hy => lt_ne (lt_tr (hL y hy) hx)
  unfold remS
  rw [List.filter_append, e, List.filter_cons, if_pos (by rw [decide_eq_false (lt_ne hx)]; rfl)]
theorem rem_mid {L R : List S3} {s : S3} (h : Srt (L ++ s :: R)) : remS s (L ++ s :: R) = L ++ R := by
  obtain ⟨_, _, hL, hR⟩ := srt_mid h
  have e : L.filter (fun y => !decide (y = s)) = L := rem_none fun y hy => lt_ne (hL y hy)
  have e2 : R.filter (fun y => !decide (y = s)) = R := rem_none fun y hy => (lt_ne (hR y hy)).symm
  unfold remS
  rw [List.filter_append, e, List.filter_cons, if_neg (by rw [decide_eq_true rfl]; decide), e2]
theorem srt_ins {l : List S3} {x : S3} (h : Srt l) (hx : x ∉ l) : Srt (insS x l) := by
  unfold Srt insS
  rw [List.pairwise_append, List.pairwise_cons]
  refine ⟨h.sublist List.filter_sublist, ⟨fun y hy => ?_, h.sublist List.filter_sublist⟩, fun y hy z hz => ?_⟩
  · obtain ⟨h1, h2⟩ := List.mem_filter.mp hy
    rw [Bool.not_eq_true', decide_eq_false_iff_not] at h2
    rcases lt_tri x y with q | q | q
    · exact q
    · exact absurd (q ▸ h1) hx
    · exact absurd q h2
  · obtain ⟨h1, h2⟩ := List.mem_filter.mp hy
    have h2 := of_decide_eq_true h2
    rcases List.mem_cons.mp hz with rfl | hz
    · exact h2
    · obtain ⟨h3, h4⟩ := List.mem_filter.mp hz
      rw [Bool.not_eq_true', decide_eq_false_iff_not] at h4
      rcases lt_tri x z with q | q | q
      · exact lt_tr h2 q
      · exact q ▸ h2
      · exact absurd q h4
theorem srt_rem {l : List S3} {x : S3} (h : Srt l) : Srt (remS x l) := h.sublist List.filter_sublist
theorem mem_ins {l : List S3} {x y : S3} : y ∈ insS x l ↔ y = x ∨ y ∈ l := by
  unfold insS
  rw [List.mem_append, List.mem_cons, List.mem_filter, List.mem_filter]
  by_cases h : sLtP y x
  · simp [h]; exact or_comm
  · simp [h]
theorem mem_rem {l : List S3} {x y : S3} : y ∈ remS x l ↔ y ∈ l ∧ y ≠ x := by
  unfold remS
  rw [List.mem_filter]
  simp
theorem len_two (p : S3 → Bool) : ∀ l : List S3, (l.filter p).length + (l.filter fun y => !p y).length = l.length
  | [] => rfl
  | a :: l => by
    have ih := len_two p l
    rw [List.filter_cons, List.filter_cons]
    cases h : p a with
    | true => simp at ih ⊢; omega
    | false => simp at ih ⊢; omega
theorem len_ins (x : S3) (l : List S3) : (insS x l).length = l.length + 1 := by
  have := len_two (fun y => decide (sLtP y x)) l
  unfold insS
  rw [List.length_append, List.length_cons]
  omega
theorem len_rem (x : S3) (l : List S3) : (remS x l).length ≤ l.length := List.length_filter_le _ _
/-! ### trees -/
inductive T where
  | nil
  | node (l : T) (s : S3) (r : T) (h m : Int)
namespace T
def isNode : T → Bool
  | nil => false
  | node .. => true
def ht : T → Int
  | nil => 0
  | node _ _ _ h _ => h
def mx : T → Int
  | nil => 0
  | node _ _ _ _ m => m
def lf : T → T
  | nil => nil
  | node l _ _ _ _ => l
def rt : T → T
  | nil => nil
  | node _ _ r _ _ => r
def st : T → S3
  | nil => (0, 0, 0)
  | node _ s _ _ _ => s
def toL : T → List S3
  | nil => []
  | node l s r _ _ => toL l ++ s :: toL r
def dep : T → Nat
  | nil => 0
  | node l _ r _ _ => max (dep l) (dep r) + 1
theorem dep_le : ∀ t : T, dep t ≤ (toL t).length
  | nil => Nat.le_refl _
  | node l s r _ _ => by
    have h1 := dep_le l
    have h2 := dep_le r
    unfold dep toL
    rw [List.length_append, List.length_cons]
    omega
def rch (l : T) (s : S3) (r : T) : Int := if isNode r = true then max (if isNode l = true then max s.2.1 (mx l) else s.2.1) (mx r) else (if isNode l = true then max s.2.1 (mx l) else s.2.1)
def box (l : T) (s : S3) (r : T) : T := node l s r (1 + max (ht l) (ht r)) (rch l s r)
def bal (l : T) (s : S3) (r : T) : T :=
  if decide (ht r + 1 < ht l) = true then
    (if decide (ht (rt l) ≤ ht (lf l)) = true then box (lf l) (st l) (box (rt l) s r) else box (box (lf l) (st l) (lf (rt l))) (st (rt l)) (box (rt (rt l)) s r))
  else if decide (ht l + 1 < ht r) = true then
    (if decide (ht (lf r) ≤ ht (rt r)) = true then box (box l s (lf r)) (st r) (rt r) else box (box l s (lf (lf r))) (st (lf r)) (box (rt (lf r)) (st r) (rt r)))
  else box l s r
def has : T → S3 → Bool
  | nil, _ => false
  | node l s r _ _, x => if decide (x = s) = true then true else if decide (sLtP x s) = true then has l x else has r x
def wit : T → S3 → T
  | nil, x => box nil x nil
  | node l s r _ _, x => if decide (sLtP x s) = true then bal (wit l x) s r else bal l s (wit r x)
def lea : T → S3
  | nil => (0, 0, 0)
  | node nil s _ _ _ => s
  | node (node l s r h m) _ _ _ _ => lea (node l s r h m)
def wio : T → S3 → T
  | nil, _ => nil
  | node l s r _ _, x => if decide (sLtP x s) = true then bal (wio l x) s r else if decide (sLtP s x) = true then bal l s (wio r x) else if isNode l = true then (if isNode r = true then bal l (lea r) (wio r (lea r)) else l) else r
def Av : T → Prop
  | nil => True
  | node l s r h m => Av l ∧ Av r ∧ h = 1 + max (ht l) (ht r) ∧ m = rch l s r ∧ ht l ≤ ht r + 1 ∧ ht r ≤ ht l + 1
theorem ht_nn : ∀ {t : T}, Av t → 0 ≤ ht t ∧ (isNode t = true → 1 ≤ ht t)
  | nil, _ => ⟨Int.le_refl _, fun h => absurd h Bool.false_ne_true⟩
  | node l s r h m, a => by
    obtain ⟨a1, a2, rfl, _⟩ := a
    have h1 := (ht_nn a1).1
    have h2 := (ht_nn a2).1
    refine ⟨?_, fun _ => ?_⟩
    · show 0 ≤ 1 + max (ht l) (ht r); omega
    · show 1 ≤ 1 + max (ht l) (ht r); omega
theorem node_of {t : T} (h : 0 < ht t) : isNode t = true := by
  cases t with
  | nil => exact absurd h (by decide)
  | node => rfl
theorem av_lf {t : T} (a : Av t) : Av (lf t) := by
  cases t with
  | nil => exact trivial
  | node => exact a.1
theorem av_rt {t : T} (a : Av t) : Av (rt t) := by
  cases t with
  | nil => exact trivial
  | node => exact a.2.1
theorem toL_node {t : T} (h : isNode t = true) : toL t = toL (lf t) ++ st t :: toL (rt t) := by
  cases t with
  | nil => exact absurd h Bool.false_ne_true
  | node => rfl
theorem toL_box (l : T) (s : S3) (r : T) : toL (box l s r) = toL l ++ s :: toL r := rfl
theorem av_node {t : T} (a : Av t) (h : isNode t = true) : ht t = 1 + max (ht (lf t)) (ht (rt t)) ∧ ht (lf t) ≤ ht (rt t) + 1 ∧ ht (rt t) ≤ ht (lf t) + 1 := by
  cases t with
  | nil => exact absurd h Bool.false_ne_true
  | node => exact ⟨a.2.2.1, a.2.2.2.2⟩
theorem av_box {l r : T} {s : S3} (a : Av l) (b : Av r) (h1 : ht l ≤ ht r + 1) (h2 : ht r ≤ ht l + 1) : Av (box l s r) := ⟨a, b, rfl, rfl, h1, h2⟩
theorem ht_box (l : T) (s : S3) (r : T) : ht (box l s r) = 1 + max (ht l) (ht r) := rfl
theorem toL_bal {l r : T} {s : S3} (a : Av l) (b : Av r) : toL (bal l s r) = toL l ++ s :: toL r := by
  have l0 := (ht_nn a).1
  have r0 := (ht_nn b).1
  unfold bal
  split
  · rename_i h
    have h := of_decide_eq_true h
    have nl : isNode l = true := node_of (by omega)
    split
    · rw [toL_box, toL_box, toL_node nl, List.append_assoc]
      rfl
    · rename_i h2
      have h2 : ¬ ht (rt l) ≤ ht (lf l) := fun z => h2 (decide_eq_true z)
      have q := (ht_nn (av_lf a)).1
      have nr : isNode (rt l) = true := node_of (by omega)
      rw [toL_box, toL_box, toL_box, toL_node nl, toL_node nr]
      simp
  · split
    · rename_i _ h
      have h := of_decide_eq_true h
      have nr : isNode r = true := node_of (by omega)
      split
      · rw [toL_box, toL_box, toL_node nr]
        simp
      · rename_i h2
        have h2 : ¬ ht (lf r) ≤ ht (rt r) := fun z => h2 (decide_eq_true z)
        have q := (ht_nn (av_rt b)).1
        have nl : isNode (lf r) = true := node_of (by omega)
        rw [toL_box, toL_box, toL_box, toL_node nr, toL_node nl]
        simp
    · rfl
theorem av_bal {l r : T} {s : S3} (a : Av l) (b : Av r) (h1 : ht l ≤ ht r + 2) (h2 : ht r ≤ ht l + 2) : Av (bal l s r) ∧ max (ht l) (ht r) ≤ ht (bal l s r) ∧ ht (bal l s r) ≤ 1 + max (ht l) (ht r) ∧ (ht l ≤ ht r + 1 → ht r ≤ ht l + 1 → ht (bal l s r) = 1 + max (ht l) (ht r)) := by
  have l0 := (ht_nn a).1
  have r0 := (ht_nn b).1
  unfold bal
  split
  · rename_i h
    have h := of_decide_eq_true h
    have nl : isNode l = true := node_of (by omega)
    obtain ⟨e1, e2, e3⟩ := av_node a nl
    have q1 := (ht_nn (av_lf a)).1
    have q2 := (ht_nn (av_rt a)).1
    split
    · rename_i g
      have g := of_decide_eq_true g
      refine ⟨av_box (av_lf a) (av_box (av_rt a) b (by omega) (by omega)) ?_ ?_, ?_⟩
      · rw [ht_box]; omega
      · rw [ht_box]; omega
      · rw [ht_box, ht_box]; omega
    · rename_i g
      have g : ¬ ht (rt l) ≤ ht (lf l) := fun z => g (decide_eq_true z)
      have nr : isNode (rt l) = true := node_of (by omega)
      obtain ⟨f1, f2, f3⟩ := av_node (av_rt a) nr
      have p1 := (ht_nn (av_lf (av_rt a))).1
      have p2 := (ht_nn (av_rt (av_rt a))).1
      refine ⟨av_box (av_box (av_lf a) (av_lf (av_rt a)) (by omega) (by omega)) (av_box (av_rt (av_rt a)) b (by omega) (by omega)) ?_ ?_, ?_⟩
      · rw [ht_box, ht_box]; omega
      · rw [ht_box, ht_box]; omega
      · rw [ht_box, ht_box, ht_box]; omega
  · rename_i h
    have h : ¬ ht r + 1 < ht l := fun z => h (decide_eq_true z)
    split
    · rename_i h'
      have h' := of_decide_eq_true h'
      have nr : isNode r = true := node_of (by omega)
      obtain ⟨e1, e2, e3⟩ := av_node b nr
      have q1 := (ht_nn (av_lf b)).1
      have q2 := (ht_nn (av_rt b)).1
      split
      · rename_i g
        have g := of_decide_eq_true g
        refine ⟨av_box (av_box a (av_lf b) (by omega) (by omega)) (av_rt b) ?_ ?_, ?_⟩
        · rw [ht_box]; omega
        · rw [ht_box]; omega
        · rw [ht_box, ht_box]; omega
      · rename_i g
        have g : ¬ ht (lf r) ≤ ht (rt r) := fun z => g (decide_eq_true z)
        have nl : isNode (lf r) = true := node_of (by omega)
        obtain ⟨f1, f2, f3⟩ := av_node (av_lf b) nl
        have p1 := (ht_nn (av_lf (av_lf b))).1
        have p2 := (ht_nn (av_rt (av_lf b))).1
        refine ⟨av_box (av_box a (av_lf (av_lf b)) (by omega) (by omega)) (av_box (av_rt (av_lf b)) (av_rt b) (by omega) (by omega)) ?_ ?_, ?_⟩
        · rw [ht_box, ht_box]; omega
        · rw [ht_box, ht_box]; omega
        · rw [ht_box, ht_box, ht_box]; omega
    · rename_i h'
      have h' : ¬ ht l + 1 < ht r := fun z => h' (decide_eq_true z)
      refine ⟨av_box a b (by omega) (by omega), ?_⟩
      rw [ht_box]; omega
theorem has_mem : ∀ {t : T} {x : S3}, Srt (toL t) → has t x = decide (x ∈ toL t)
  | nil, x, _ => by unfold has toL; simp
  | node l s r h m, x, q => by
    obtain ⟨s1, s2, hL, hR⟩ := srt_mid q
    unfold has toL
    split
    · rename_i e
      have e := of_decide_eq_true e
      exact (decide_eq_true (by rw [e]; exact List.mem_append_right _ List.mem_cons_self)).symm
    · rename_i e
      have e : ¬ x = s := fun z => e (decide_eq_true z)
      split
      · rename_i c
        have c := of_decide_eq_true c
        rw [has_mem s1]
        refine decide_eq_decide.mpr ⟨fun z => List.mem_append_left _ z, fun z => ?_⟩
        rcases List.mem_append.mp z with z | z
        · exact z
        · rcases List.mem_cons.mp z with z | z
          · exact absurd z e
          · exact absurd (hR x z) (lt_asym c)
      · rename_i c
        have c : ¬ sLtP x s := fun z => c (decide_eq_true z)
        rw [has_mem s2]
        refine decide_eq_decide.mpr ⟨fun z => List.mem_append_right _ (List.mem_cons_of_mem _ z), fun z => ?_⟩
        rcases List.mem_append.mp z with z | z
        · exact absurd (hL x z) c
        · rcases List.mem_cons.mp z with z | z
          · exact absurd z e
          · exact z
theorem wit_ok : ∀ {t : T} {x : S3}, Av t → Srt (toL t) → x ∉ toL t → Av (wit t x) ∧ toL (wit t x) = insS x (toL t) ∧ ht t ≤ ht (wit t x) ∧ ht (wit t x) ≤ ht t + 1
  | nil, x, _, _, _ => ⟨⟨trivial, trivial, rfl, rfl, by decide, by decide⟩, rfl, (by show (0 : Int) ≤ 1 + max 0 0; omega), (by show 1 + max (0 : Int) 0 ≤ 0 + 1; omega)⟩
  | node l s r h m, x, ⟨a, b, eh, em, h1, h2⟩, q, hx => by
    obtain ⟨s1, s2, hL, hR⟩ := srt_mid q
    have n1 : x ∉ toL l := fun z => hx (List.mem_append_left _ z)
    have n2 : x ∉ toL r := fun z => hx (List.mem_append_right _ (List.mem_cons_of_mem _ z))
    have n3 : x ≠ s := fun z => hx (z ▸ List.mem_append_right _ List.mem_cons_self)
    have l0 := (ht_nn a).1
    have r0 := (ht_nn b).1
    have hh : ht (node l s r h m) = 1 + max (ht l) (ht r) := eh
    unfold wit
    split
    · rename_i c
      have c := of_decide_eq_true c
      obtain ⟨w1, w2, w3, w4⟩ := wit_ok a s1 n1
      obtain ⟨b1, b2, b3, b4⟩ := av_bal (s := s) w1 b (by omega) (by omega)
      refine ⟨b1, ?_, ?_, ?_⟩
      · rw [toL_bal w1 b, w2]
        exact (ins_left q c).symm
      · rw [hh]; omega
      · rw [hh]; omega
    · rename_i c
      have c : ¬ sLtP x s := fun z => c (decide_eq_true z)
      have c : sLtP s x := by
        rcases lt_tri x s with z | z | z
        · exact absurd z c
        · exact absurd z n3
        · exact z
      obtain ⟨w1, w2, w3, w4⟩ := wit_ok b s2 n2
      obtain ⟨b1, b2, b3, b4⟩ := av_bal (s := s) a w1 (by omega) (by omega)
      refine ⟨b1, ?_, ?_, ?_⟩
      · rw [toL_bal a w1, w2]
        exact (ins_right q c).symm
      · rw [hh]; omega
      · rw [hh]; omega
theorem lea_head : ∀ {t : T}, isNode t = true → ∃ tl, toL t = lea t :: tl
  | nil, h => absurd h Bool.false_ne_true
  | node nil s r _ _, _ => ⟨_, rfl⟩
  | node (node l s r h m) s' r' _ _, _ => by
    obtain ⟨tl, e⟩ := lea_head (t := node l s r h m) rfl
    refine ⟨tl ++ s' :: toL r', ?_⟩
    show toL (node l s r h m) ++ s' :: toL r' = _
    rw [e]
    rfl
theorem lea_mem {t : T} (h : isNode t = true) : lea t ∈ toL t := by
  obtain ⟨tl, e⟩ := lea_head h
  rw [e]
  exact List.mem_cons_self
theorem wio_ok : ∀ {t : T} {x : S3}, Av t → Srt (toL t) → x ∈ toL t → Av (wio t x) ∧ toL (wio t x) = remS x (toL t) ∧ ht t - 1 ≤ ht (wio t x) ∧ ht (wio t x) ≤ ht t
  | nil, x, _, _, hx => absurd hx (by unfold toL; simp)
  | node l s r h m, x, ⟨a, b, eh, em, h1, h2⟩, q, hx => by
    obtain ⟨s1, s2, hL, hR⟩ := srt_mid q
    have l0 := (ht_nn a).1
    have r0 := (ht_nn b).1
    have hh : ht (node l s r h m) = 1 + max (ht l) (ht r) := eh
    unfold wio
    split
    · rename_i c
      have c := of_decide_eq_true c
      have n1 : x ∈ toL l := by
        rcases List.mem_append.mp hx with z | z
        · exact z
        · rcases List.mem_cons.mp z with z | z
          · exact absurd z (lt_ne c)
          · exact absurd (hR x z) (lt_asym c)
      obtain ⟨w1, w2, w3, w4⟩ := wio_ok a s1 n1
      obtain ⟨b1, b2, b3, b4⟩ := av_bal (s := s) w1 b (by omega) (by omega)
      refine ⟨b1, ?_, ?_, ?_⟩
      · rw [toL_bal w1 b, w2]
        exact (rem_left q c).symm
      · rw [hh]; omega
      · rw [hh]; omega
    · rename_i c
      have c : ¬ sLtP x s := fun z => c (decide_eq_true z)
      split
      · rename_i c'
        have c' := of_decide_eq_true c'
        have n2 : x ∈ toL r := by
          rcases List.mem_append.mp hx with z | z
          · exact absurd (hL x z) (lt_asym c')
          · rcases List.mem_cons.mp z with z | z
            · exact absurd z (lt_ne c').symm
            · exact z
        obtain ⟨w1, w2, w3, w4⟩ := wio_ok b s2 n2
        obtain ⟨b1, b2, b3, b4⟩ := av_bal (s := s) a w1 (by omega) (by omega)
        refine ⟨b1, ?_, ?_, ?_⟩
        · rw [toL_bal a w1, w2]
          exact (rem_right q c').symm
        · rw [hh]; omega
        · rw [hh]; omega
      · rename_i c'
        have c' : ¬ sLtP s x := fun z => c' (decide_eq_true z)
        have e : x = s := by
          rcases lt_tri x s with z | z | z
          · exact absurd z c
          · exact z
          · exact absurd z c'
        subst e
        have em : remS x (toL (node l x r h m)) = toL l ++ toL r := rem_mid q
        rw [em]
        split
        · rename_i nl
          split
          · rename_i nr
            obtain ⟨tl, et⟩ := lea_head nr
            obtain ⟨w1, w2, w3, w4⟩ := wio_ok b s2 (lea_mem nr)
            obtain ⟨b1, b2, b3, b4⟩ := av_bal (s := lea r) a w1 (by omega) (by omega)
            refine ⟨b1, ?_, ?_, ?_⟩
            · rw [toL_bal a w1, w2, et]
              have : remS (lea r) (lea r :: tl) = tl := rem_mid (L := []) (R := tl) (s := lea r) (by rw [et] at s2; exact s2)
              rw [this]
            · rw [hh]; omega
            · rw [hh]; omega
          · rename_i nr
            have er : r = nil := by
              cases r with
              | nil => rfl
              | node => exact absurd rfl nr
            subst er
            refine ⟨a, by simp [toL], ?_, ?_⟩
            · rw [hh]; show _ - 1 ≤ _; have : ht nil = 0 := rfl; omega
            · rw [hh]; have : ht nil = 0 := rfl; omega
        · rename_i nl
          have el : l = nil := by
            cases l with
            | nil => rfl
            | node => exact absurd rfl nl
          subst el
          refine ⟨b, by simp [toL], ?_, ?_⟩
          · rw [hh]; have : ht nil = 0 := rfl; omega
          · rw [hh]; have : ht nil = 0 := rfl; omega
end T
/-- the kept ones with one more, sorted -/
theorem sort_ins {l : List S3} {x : S3} (h : Srt l) (hx : x ∉ l) : (l ++ [x]).mergeSort sLe = insS x l := by
  have le_of : ∀ {a b : S3}, sLtP a b → sLe a b = true := fun {a b} q => by
    unfold sLe
    rw [decide_eq_false (lt_asym q)]
    rfl
  have p : ((l ++ [x]).mergeSort sLe).Perm (insS x l) := by
    refine (List.mergeSort_perm _ _).trans ?_
    unfold insS
    have e : (l.filter (fun y => decide (sLtP y x)) ++ l.filter (fun y => !decide (sLtP y x))).Perm l := List.filter_append_perm _ _
    exact (List.perm_append_comm (l₁ := l) (l₂ := [x])).trans (((e.symm.cons x)).trans List.perm_middle.symm)
  refine p.eq_of_pairwise (le := fun a b => sLe a b = true) (fun a b _ _ h1 h2 => ?_) (sort_sorted _) ((srt_ins h hx).imp le_of)
  rcases lt_tri a b with q | q | q
  · unfold sLe at h2; rw [decide_eq_true q] at h2; exact absurd h2 (by decide)
  · exact q
  · unfold sLe at h1; rw [decide_eq_true q] at h1; exact absurd h1 (by decide)
end L3
set_option Elab.async false
set_option linter.all false
set_option autoImplicit false
set_option maxRecDepth 100000
set_option maxHeartbeats 4000000
/-! Lay15: trees as data. -/
namespace L3
open PySem PySem.Spec L2
def encT : T → PyData
  | .nil => .none
  | .node l s r h m => .tuple [encT l, encS s, encT r, .int h, .int m]
section
variable {X : Cx} {own : Own} {t : T}
theorem cmp_isT : CmpR X .Is (.d (encT t)) (.d .none) (!t.isNode) := by
  cases t with
  | nil => exact cmp_isN
  | node => exact cmp_isN
theorem cmp_notT : CmpR X .IsNot (.d (encT t)) (.d .none) t.isNode := by
  cases t with
  | nil => exact cmp_notN
  | node => exact cmp_notN
theorem ix_lf (h : t.isNode = true) : IxO own (.d (encT t)) 0 (encT t.lf) := by
  cases t with
  | nil => exact absurd h Bool.false_ne_true
  | node => exact .t rfl
theorem ix_st (h : t.isNode = true) : IxO own (.d (encT t)) 1 (encS t.st) := by
  cases t with
  | nil => exact absurd h Bool.false_ne_true
  | node => exact .t rfl
theorem ix_rt (h : t.isNode = true) : IxO own (.d (encT t)) 2 (encT t.rt) := by
  cases t with
  | nil => exact absurd h Bool.false_ne_true
  | node => exact .t rfl
theorem ix_ht (h : t.isNode = true) : IxO own (.d (encT t)) 3 (.int t.ht) := by
  cases t with
  | nil => exact absurd h Bool.false_ne_true
  | node => exact .t rfl
theorem ix_mx (h : t.isNode = true) : IxO own (.d (encT t)) 4 (.int t.mx) := by
  cases t with
  | nil => exact absurd h Bool.false_ne_true
  | node => exact .t rfl
end
namespace T
theorem lea_left {t : T} (h : t.isNode = true) (h2 : t.lf.isNode = true) : lea t = lea t.lf := by
  cases t with
  | nil => exact absurd h Bool.false_ne_true
  | node l s r a b =>
    cases l with
    | nil => exact absurd h2 Bool.false_ne_true
    | node => rfl
theorem lea_here {t : T} (h : t.isNode = true) (h2 : t.lf.isNode = false) : lea t = t.st := by
  cases t with
  | nil => exact absurd h Bool.false_ne_true
  | node l s r a b =>
    cases l with
    | nil => rfl
    | node => exact Bool.noConfusion (show true = false from h2)
theorem dep_lf {t : T} (h : t.isNode = true) : t.lf.dep < t.dep := by
  cases t with
  | nil => exact absurd h Bool.false_ne_true
  | node l s r a b => show l.dep < max l.dep r.dep + 1; omega
theorem dep_rt {t : T} (h : t.isNode = true) : t.rt.dep < t.dep := by
  cases t with
  | nil => exact absurd h Bool.false_ne_true
  | node l s r a b => show r.dep < max l.dep r.dep + 1; omega
theorem has_node {t : T} (h : t.isNode = true) (x : S3) : has t x = if decide (x = t.st) = true then true else if decide (sLtP x t.st) = true then has t.lf x else has t.rt x := by
  cases t with
  | nil => exact absurd h Bool.false_ne_true
  | node => rfl
end T
/-- a row of a telling: the triple, its depth, its height, its reach -/
abbrev R4 := S3 × Int × Int × Int
abbrev encR (r : R4) : PyData := .tuple [encS r.1, .int r.2.1, .int r.2.2.1, .int r.2.2.2]
def T.tol : T → Int → List R4
  | .nil, _ => []
  | .node l s r h m, d => l.tol (d + 1) ++ (s, d, h, m) :: r.tol (d + 1)
theorem T.tol_fst : ∀ (t : T) (d : Int), (t.tol d).map (·.1) = t.toL
  | .nil, _ => rfl
  | .node l s r h m, d => by
    show ((l.tol (d + 1) ++ (s, d, h, m) :: r.tol (d + 1)).map (·.1)) = l.toL ++ s :: r.toL
    rw [List.map_append, List.map_cons, T.tol_fst l, T.tol_fst r]
theorem T.tol_len (t : T) (d : Int) : (t.tol d).length = t.toL.length := by
  rw [← T.tol_fst t d, List.length_map]
theorem fl_R {k : Nat} (r : R4) : Fl (k + 2) (encR r) := fl_tup fun d hd => by
  rcases List.mem_cons.mp hd with rfl | hd
  · exact fl_S _
  · rcases List.mem_cons.mp hd with rfl | hd
    · exact fl_int
    · rcases List.mem_cons.mp hd with rfl | hd
      · exact fl_int
      · rw [List.mem_singleton] at hd; subst hd; exact fl_int
theorem fl_Rs {k : Nat} (l : List R4) : Fl (k + 3) (.list (l.map encR)) := fl_lst fun d hd => by
  obtain ⟨r, _, rfl⟩ := List.mem_map.mp hd
  exact fl_R r
end L3
set_option Elab.async false
set_option linter.all false
set_option autoImplicit false
set_option maxRecDepth 100000
set_option maxHeartbeats 4000000
/-! Lay16: making an instance; lists times 0 or 1; pieces of lists of triples. -/
namespace L3
open PySem PySem.Spec L2
/-- __init__: the one attribute f is set to d -/
def SpI (K : PySem.W.Frag) (C : Addr) (f : Str) (d : PyData) : Sp := fun vs H Q _ => ∃ p dx, vs = [.ref p] ∧ H p = some (.ins C dx []) ∧ ∀ H', RepH K ⟨cut [p] H, []⟩ [(p, .ins C f d)] H' → Q .non H'
section
variable {P : Program} {w : World} {K : PySem.W.Frag} {mg : Str → Option Value} {base : Heap} {C : Addr} {f : Str}
abbrev retI (C : Addr) (f : Str) (p : Addr) (d : PyData) : Pst := { nx := fun own _ => AsI own p C f d, rt := fun own s => AsI own p C f d ∧ s = .d .none }
theorem okI {x0 qual : Str} {st : Stmt} {g : Addr} {fd : FuncData} {N : List Str} {y : Str} {k : Nat} {d : PyData} (F : Fun K x0 qual st g fd) (S : FnScope N [y] (defScope st))
    (body : ∀ (cdv : Value) (A : Around) (outer : List Env) (s : Shared) (H : Hp) (E : XK) (Z : Fz) (p dx : Addr), Room k (A.deeper (PyProof.Rows.envOfC qual (defScope st) s.heap.objs.size g cdv)) →
      PH (bodyX P w K mg base N qual st g cdv A outer s H E) Z [(p, .raw (.ins C dx []))] (startO N p []) (defBody st) (retI C f p d)) : FnOk P w K mg base CX0 (k + 1) g fd [y] (SpI K C f d) := by
  refine F.ok S (fun vs H Q E h => ?_) (fun cdv A outer s H vs Q E hr h => ?_)
  · obtain ⟨p, dx, rfl, _⟩ := h; rfl
  · obtain ⟨p, dx, rfl, e, q⟩ := h
    have R0 : Rep K ⟨cut [p] H, []⟩ [(p, .raw (.ins C dx []))] (startO N p []) (L2.start N [.ref p]) H := by
      refine ⟨⟨cut_full, fun y hy => ?_, fun a ha => absurd ha (by simp), by simp, fun y hy z => absurd z (by simp)⟩, slots_startO .nil⟩
      rw [List.mem_singleton] at hy
      subst hy
      exact ⟨cut_in (by simp), e⟩
    exact ⟨_, pss_Ss, body cdv A outer s H E ⟨cut [p] H, []⟩ p dx hr _ H R0 _
      ⟨fun own ρ σ H' hn R => q H' (R.h.only hn), fun own s u H' hs R hu => by
        obtain ⟨h1, rfl⟩ := hs
        cases hu
        exact q H' (R.only h1), fun own ρ σ H' hb R => hb.elim, fun own ρ σ H' hb R => hb.elim⟩⟩
end
section
variable {X : Cx} {Z : Fz} {own : Own} {ρ : List Sl} {pos spos px q0 : Pos} {a b c e : Expr} {as ds : List PyData} {d : PyData} {rest : List Stmt} {P : Pst} {x y : Str} {C g : Addr} {f : Str} {k : Nat} {fd : FuncData}
/-- y = C() -/
theorem h_make (i : Nat) (M : Mk X.K C g) (F : FnOk X.prog X.w X.K X.mg X.base CX0 k g fd ["self"] (SpI X.K C f d)) (hf : flatD d = true) (hr : Room (k + 1) X.A) (hm : X.mg x = some (.ref C)) (hb : Binds X.K fd ["self"] []) (q : ∀ p, PH X Z ((p, .ins C f d) :: own) (ρ.set i (.v (.ref p))) rest P) (hN : X.N.Nodup)
    (hg : Gl X x := by rfl) (hdb : (x == ("__debug__" : Str)) = false := by decide) (hi : X.N[i]? = some y := by rfl) (hl : Loc X.env.scope y := by first | exact Or.inl rfl | exact Or.inr rfl) (hs : swapsWith (.Call (.Name x q0) [] [] pos) (some (.Name y px)) spos.line X.env = pure false := by rfl)
    (hfn : X.fn y = true ∨ X.env.scope.names.lookup y = some .local := by first | exact .inl rfl | exact .inr rfl) : PH X Z own ρ (.Assign [.Name y px] (.Call (.Name x q0) [] [] pos) spos :: rest) P :=
  h_cons (ps_set hN hi hl (pe_make0 M F hr hg hm hb .nil pass0 hdb) hs hfn) fun σ H R D E => by
    refine fun p dx hp hdx hne => ⟨p, dx, rfl, upd_same, fun H' R' => ⟨rfl, ?_⟩⟩
    have s : Same H H' := fun b o e => R'.fr b o (by
      have h1 : b ≠ p := ne_of_none e hp
      have h2 : b ≠ dx := ne_of_none e hdx
      show cut [p] _ b = some o
      rw [cut_out (by simpa using h1), upd_ne h1, upd_ne h2]
      exact e)
    obtain ⟨_, dx', v, e1, e2⟩ := R'.owns _ List.mem_cons_self
    exact E.nx _ _ _ H' (q p) (Rep.setS (R.cons (m := .ins C f d) hp s ⟨dx', v, e1, dp_flat e2 hf⟩) rfl)
/-- a new list times 0 or 1 -/
theorem pn_rep {t : Bool} (ha : PN X Z own ρ a ds) (hb : PD X Z own ρ b (.d (.int (if t = true then 1 else 0)))) (hz : ds.length ≤ sizeLine) : PN X Z own ρ (.BinOp a .Mult b pos) (if t = true then ds else []) := fun σ H R Q q =>
  ⟨_, pe_op op_rep pe_E pe_E, ha σ H R _ fun p vs H1 hp s1 e1 d1 => hb σ H1 (R.mono s1) _ fun y H2 s2 hy => by
    cases hy
    have e2 := s2 _ _ e1
    have d2 : DpAll X.K (cut (ex Z own) H2) vs ds := dpAll_mono ((cut_less fun b hb => List.mem_cons_of_mem _ hb).trans (cut_same s2)) _ _ d1
    have hl := dpAll_length d1
    cases t with
    | true =>
      refine ⟨p, 1, vs, rfl, rfl, e2, by decide, by decide, by show vs.length * 1 ≤ sizeLine; omega, fun z hz' => ?_⟩
      have ee : (List.replicate (1 : Int).toNat vs).flatten = vs := by simp
      rw [ee]
      exact pn_end (R.h.mono (s1.trans s2)) d2 (fun p vs H' h1 h2 h3 h4 => q p vs H' (s1.free (s2.free h1)) (s1.trans (s2.trans h2)) h3 h4) z hz'
    | false =>
      refine ⟨p, 0, vs, rfl, rfl, e2, by decide, by decide, by show vs.length * 0 ≤ sizeLine; omega, fun z hz' => ?_⟩
      have ee : (List.replicate (0 : Int).toNat vs).flatten = [] := rfl
      rw [ee]
      exact pn_end (R.h.mono (s1.trans s2)) .nil (fun p vs H' h1 h2 h3 h4 => q p vs H' (s1.free (s2.free h1)) (s1.trans (s2.trans h2)) h3 h4) z hz'⟩
/-- one text or the other -/
theorem pd_ifES {t : Bool} {u v : Str} (hc : PB X Z own ρ c t) (ha : t = true → PD X Z own ρ a (.d (.str u))) (hb : t = false → PD X Z own ρ b (.d (.str v))) : PD X Z own ρ (.IfExp c a b pos) (.d (.str (if t = true then u else v))) := by
  have := pd_ifE (pos := pos) hc ha hb
  cases t with
  | true => exact this
  | false => exact this
end
/-! ### pieces -/
theorem pick_map {α β : Type} (g : α → β) (l : List α) (lo hi st : Option Int) : pickV (l.map g) lo hi st = (pickV l lo hi st).map g := by
  unfold pickV
  rw [List.length_map, List.map_filterMap]
  refine congrArg (fun z => List.filterMap z _) (funext fun i => ?_)
  rw [List.getElem?_map]
theorem pick_mem {α : Type} {l : List α} {lo hi st : Option Int} {x : α} (h : x ∈ pickV l lo hi st) : x ∈ l := by
  unfold pickV at h
  obtain ⟨i, _, e⟩ := List.mem_filterMap.mp h
  exact List.mem_of_getElem? e
def cutG {α : Type} (xs : List α) (lo hi : Option Int) : List α := (xs.drop (HT.sIx xs.length 0 lo)).take (HT.sIx xs.length xs.length hi - HT.sIx xs.length 0 lo)
theorem cut_map {α : Type} (g : α → PyData) (l : List α) (lo hi : Option Int) : cutD (l.map g) lo hi = (cutG l lo hi).map g := by
  unfold cutD cutG
  rw [List.length_map, List.map_take, List.map_drop]
theorem cutG_mem {α : Type} {l : List α} {lo hi : Option Int} {x : α} (h : x ∈ cutG l lo hi) : x ∈ l := List.mem_of_mem_drop (List.mem_of_mem_take h)
theorem cutG_upto {α : Type} (l : List α) (n : Nat) : cutG l none (some (n : Int)) = l.take n := by
  unfold cutG
  have e : HT.sIx l.length 0 none = 0 := rfl
  rw [e, HT.sIx_nat, List.drop_zero, Nat.sub_zero]
  rcases Nat.le_total n l.length with h | h
  · rw [Nat.min_eq_left h]
  · rw [Nat.min_eq_right h, List.take_of_length_le (Nat.le_refl _), List.take_of_length_le h]
end L3
set_option Elab.async false
set_option linter.all false
set_option autoImplicit false
set_option maxRecDepth 100000
set_option maxHeartbeats 4000000
/-! Lay17: name = [comp] as an own list. -/
namespace L3
open PySem PySem.Spec L2
section
variable {X : Cx} {Z : Fz} {own : Own} {ρ : List Sl} {pos spos px py : Pos} {x y : Str} {elt iter : Expr} {scope : Scope} {rest : List Stmt} {P : Pst}
theorem h_setLcN0 {β : Type} (enc : β → PyData) (l : List β) (f : β → PyData) (i j : Nat) (hi : PIt X Z own ρ (.Name x px) iter (l.map enc))
    (he : ∀ b ∈ l, ∀ D s H0 C cl fp, PD (blkX X scope s H0 C cl fp) (Z.more D) own (ρ.set j (.d (enc b))) elt (.d (f b)))
    (hz : l.length < sizeLine) (k : ∀ p, PH X Z ((p, .lst (l.map f)) :: own) (ρ.set i (.v (.ref p))) rest P) (hN : X.N.Nodup)
    (hg : ∀ (s : Shared) (H : Hp) (C : Addr) (cl : List (Str × Addr)) (fp : List Addr), L2.PG (blkX X scope s H C cl fp) (.Name x px) (gName j)) (hy : X.N[i]? = some y := by rfl) (hyl : X.env.scope.names.lookup y = some .local := by rfl)
    (hsw : swapsWith (.ListComp elt [⟨.Name x px, iter, [], 0⟩] scope pos) (some (.Name y py)) spos.line X.env = pure true := by rfl) (ok : blkC X.N X.env.scope scope [(x, j)] = true := by rfl)
    (hc : X.calm = true := by rfl) (hs : ∀ x, foldedSetIterable iter X.env x = pure x := by intro _; rfl) :
    PH X Z own ρ (.Assign [.Name y py] (.ListComp elt [⟨.Name x px, iter, [], 0⟩] scope pos) spos :: rest) P :=
  setLc_core (px' := px) enc l (fun _ => true) f i j hi (fun _ _ _ _ _ _ _ _ => pbs_nil) (fun b hb _ => he b hb) hz (fun p => by rw [filt_all]; exact k p) hN hy hyl hsw ok hg hc hs
end
theorem take_step {α : Type} {row : List α} {k : Nat} (hk : k < row.length) : row.take (k + 1) = row.take k ++ [row[k]] := List.take_succ_eq_append_getElem hk
/-! ### a comparison whose first side writes -/
section
variable {X : Cx} {Z : Fz} {own : Own} {ρ : List Sl} {pos : Pos} {e1 e2 : Expr} {op : CmpOp} {post : Own → PyData → Prop} {xp : Own → Addr → Prop} {pb : Own → Bool → Prop}
def rAny (X : Cx) (op : CmpOp) : R2 := fun x y H Q => ∃ r, OpR X (compareOp op) r ∧ r x y H Q
theorem op_any : OpR X (compareOp op) (rAny X op) := fun pins s σ H x y v u Q I rx ry ⟨_, ho, h⟩ => ho pins s σ H x y v u Q I rx ry h
theorem pbx_cmp (h : PX X W0 Z own ρ e1 post xp) (hp : ∀ own' d, post own' d → ∃ r2 b, PW X Z own' ρ e2 r2 ∧ CmpR X op (.d d) r2 b ∧ pb own' b) (hm : behindInMarks op e2 = false) : PBX X Z own ρ (.Compare e1 [op] [e2] pos) pb := fun σ H R Q q =>
  ⟨_, pt_cmpR op_any pe_E pe_E hm, h σ H R _ (fun own' d v H1 hpo R1 hv => by
    obtain ⟨r2, b, h2, hc, hb⟩ := hp own' d hpo
    obtain ⟨r, ho, hr⟩ := hc.ex
    exact h2 σ H1 R1 _ fun y H2 s2 p2 => ⟨r, ho, hr v y H2 (dp_mono (s2.trans (Same.refl _)) _ _ (dp_mono cut_full _ _ hv)) p2 _ ⟨b, rfl, q own' b H2 hb (R1.mono s2)⟩⟩) fun _ _ _ _ _ => trivial⟩
end
theorem enum_at {α : Type} {g : α → PyData} {l : List α} {k : Nat} {d : PyData} (h : (enumD (l.map g))[k]? = some d) : ∃ (hk : k < l.length), d = .tuple [.int (k : Nat), g l[k]] ∧ l.drop k = l[k] :: l.drop (k + 1) := by
  rw [enumD_get, List.getElem?_map] at h
  by_cases hk : k < l.length
  · rw [List.getElem?_eq_getElem hk] at h
    exact ⟨hk, (Option.some.inj h).symm, List.drop_eq_getElem_cons hk⟩
  · rw [List.getElem?_eq_none (by omega)] at h
    cases h
end L3
set_option Elab.async false
set_option linter.all false
set_option autoImplicit false
set_option maxRecDepth 100000
set_option maxHeartbeats 4000000
/-! Lay18: a telling's rows, piece by piece. -/
namespace L3
open PySem PySem.Spec L2
def T.sz (t : T) : Nat := t.toL.length
theorem T.sz_node (l : T) (s : S3) (r : T) (h m : Int) : (T.node l s r h m).sz = l.sz + 1 + r.sz := by
  show (l.toL ++ s :: r.toL).length = l.toL.length + 1 + r.toL.length
  rw [List.length_append, List.length_cons]
  omega
theorem T.sz_pos {t : T} : t.isNode = true ↔ 0 < t.sz := by
  cases t with
  | nil => exact ⟨fun h => absurd h Bool.false_ne_true, fun h => absurd h (by decide)⟩
  | node l s r h m => exact ⟨fun _ => by rw [T.sz_node]; omega, fun _ => rfl⟩
theorem T.tol_sz (t : T) (d : Int) : (t.tol d).length = t.sz := T.tol_len t d
theorem T.tol_deep : ∀ {t : T} {d : Int}, ∀ x ∈ t.tol d, d ≤ x.2.1
  | .nil, d, x, hx => absurd hx (by simp [T.tol])
  | .node l s r h m, d, x, hx => by
    rcases List.mem_append.mp (show x ∈ l.tol (d + 1) ++ (s, d, h, m) :: r.tol (d + 1) from hx) with z | z
    · have := T.tol_deep x z; omega
    · rcases List.mem_cons.mp z with rfl | z
      · exact Int.le_refl _
      · have := T.tol_deep x z; omega
/-- the rows of u at depth d stand from b on -/
def Seg (rows : List R4) (b : Nat) (u : T) (d : Int) : Prop := ∃ pre post, rows = pre ++ u.tol d ++ post ∧ pre.length = b
theorem seg_self (t : T) (d : Int) : Seg (t.tol d) 0 t d := ⟨[], [], by simp, rfl⟩
theorem seg_left {rows : List R4} {b : Nat} {l : T} {s : S3} {r : T} {h m d : Int} (g : Seg rows b (.node l s r h m) d) : Seg rows b l (d + 1) := by
  obtain ⟨pre, post, e, hb⟩ := g
  refine ⟨pre, (s, d, h, m) :: r.tol (d + 1) ++ post, ?_, hb⟩
  rw [e]
  show pre ++ (l.tol (d + 1) ++ (s, d, h, m) :: r.tol (d + 1)) ++ post = _
  simp
theorem seg_right {rows : List R4} {b : Nat} {l : T} {s : S3} {r : T} {h m d : Int} (g : Seg rows b (.node l s r h m) d) : Seg rows (b + l.sz + 1) r (d + 1) := by
  obtain ⟨pre, post, e, hb⟩ := g
  refine ⟨pre ++ l.tol (d + 1) ++ [(s, d, h, m)], post, ?_, ?_⟩
  · rw [e]
    show pre ++ (l.tol (d + 1) ++ (s, d, h, m) :: r.tol (d + 1)) ++ post = _
    simp
  · rw [List.length_append, List.length_append, T.tol_sz, List.length_singleton, hb]
theorem seg_at {rows : List R4} {b : Nat} {u : T} {d : Int} (g : Seg rows b u d) {j : Nat} (hj : j < u.sz) : rows[b + j]? = some ((u.tol d).getD j ((0, 0, 0), 0, 0, 0)) := by
  obtain ⟨pre, post, e, hb⟩ := g
  have hj' : j < (u.tol d).length := by rw [T.tol_sz]; exact hj
  rw [e, List.append_assoc, List.getElem?_append_right (by omega), List.getElem?_append_left (by omega), show b + j - pre.length = j from by omega, List.getElem?_eq_getElem hj']
  simp [List.getD, hj']
theorem getD_mem {l : List R4} {j : Nat} {z : R4} (h : j < l.length) : l.getD j z ∈ l := by
  simp only [List.getD, List.getElem?_eq_getElem h]
  exact List.getElem_mem h
theorem tol_root (l : T) (s : S3) (r : T) (h m d : Int) (z : R4) : ((T.node l s r h m).tol d).getD l.sz z = (s, d, h, m) := by
  show (l.tol (d + 1) ++ (s, d, h, m) :: r.tol (d + 1)).getD l.sz z = _
  rw [← T.tol_sz l (d + 1)]
  simp [List.getD]
theorem tol_other {l : T} {s : S3} {r : T} {h m d : Int} {z : R4} {j : Nat} (hj : j < (T.node l s r h m).sz) (hne : j ≠ l.sz) : d + 1 ≤ (((T.node l s r h m).tol d).getD j z).2.1 := by
  have e : (T.node l s r h m).tol d = l.tol (d + 1) ++ (s, d, h, m) :: r.tol (d + 1) := rfl
  rw [T.sz_node] at hj
  have hl := T.tol_sz l (d + 1)
  have hr := T.tol_sz r (d + 1)
  by_cases c : j < l.sz
  · have : ((T.node l s r h m).tol d).getD j z = (l.tol (d + 1)).getD j z := by
      rw [e]
      simp only [List.getD]
      rw [List.getElem?_append_left (by omega)]
    rw [this]
    exact T.tol_deep _ (getD_mem (by omega))
  · obtain ⟨i, rfl⟩ : ∃ i, j = l.sz + 1 + i := ⟨j - l.sz - 1, by omega⟩
    have : ((T.node l s r h m).tol d).getD (l.sz + 1 + i) z = (r.tol (d + 1)).getD i z := by
      rw [e]
      simp only [List.getD]
      rw [List.getElem?_append_right (by omega), show l.sz + 1 + i - (l.tol (d + 1)).length = i + 1 from by omega, List.getElem?_cons_succ]
    rw [this]
    exact T.tol_deep _ (getD_mem (by omega))
theorem range_one {n k : Nat} (h : k < n) : (List.range n).filter (fun j => decide (j = k)) = [k] := by
  induction n with
  | zero => omega
  | succ n ih =>
    rw [List.range_succ, List.filter_append]
    by_cases e : k = n
    · subst e
      have : (List.range k).filter (fun j => decide (j = k)) = [] := List.filter_eq_nil_iff.mpr fun x hx => by
        have := List.mem_range.mp hx
        rw [decide_eq_false (by omega)]
        exact Bool.false_ne_true
      rw [this]
      simp
    · rw [ih (by omega)]
      have : ¬ n = k := fun z => e z.symm
      simp [this]
/-! ### the boxes in the order of a queue -/
abbrev Q3 := Nat × T × Int
abbrev encQ (q : Q3) : PyData := .tuple [.int (q.1 : Nat), .int ((q.1 + q.2.1.sz : Nat) : Int), .int q.2.2]
abbrev encSp (q : Q3) : PyData := .tuple [.int ((q.1 + q.2.1.lf.sz : Nat) : Int), .int (q.1 : Nat), .int ((q.1 + q.2.1.sz : Nat) : Int)]
def kids (q : Q3) : List Q3 := (if q.2.1.lf.isNode = true then [(q.1, q.2.1.lf, q.2.2 + 1)] else []) ++ (if q.2.1.rt.isNode = true then [(q.1 + q.2.1.lf.sz + 1, q.2.1.rt, q.2.2 + 1)] else [])
def bfs : Nat → List Q3 → List Q3
  | 0, _ => []
  | _ + 1, [] => []
  | n + 1, q :: R => q :: bfs n (R ++ kids q)
def sumSz (R : List Q3) : Nat := (R.map fun q => q.2.1.sz).sum
theorem sumSz_app (R S : List Q3) : sumSz (R ++ S) = sumSz R + sumSz S := by
  unfold sumSz
  rw [List.map_append, List.sum_append]
theorem sumSz_kids {q : Q3} (h : q.2.1.isNode = true) : sumSz (kids q) + 1 = q.2.1.sz := by
  obtain ⟨b, u, d⟩ := q
  cases u with
  | nil => exact absurd h Bool.false_ne_true
  | node l s r a m =>
    show sumSz ((if l.isNode = true then [(b, l, d + 1)] else []) ++ (if r.isNode = true then [(b + l.sz + 1, r, d + 1)] else [])) + 1 = (T.node l s r a m).sz
    rw [sumSz_app, T.sz_node]
    have e1 : sumSz (if l.isNode = true then [((b, l, d + 1) : Q3)] else []) = l.sz := by
      by_cases c : l.isNode = true
      · rw [if_pos c]; simp [sumSz]
      · rw [if_neg c]
        have : ¬ 0 < l.sz := fun z => c (T.sz_pos.mpr z)
        simp [sumSz]; omega
    have e2 : sumSz (if r.isNode = true then [((b + l.sz + 1, r, d + 1) : Q3)] else []) = r.sz := by
      by_cases c : r.isNode = true
      · rw [if_pos c]; simp [sumSz]
      · rw [if_neg c]
        have : ¬ 0 < r.sz := fun z => c (T.sz_pos.mpr z)
        simp [sumSz]; omega
    rw [e1, e2]
    omega
structure SubQ (rows : List R4) (q : Q3) : Prop where
  node : q.2.1.isNode = true
  seg : Seg rows q.1 q.2.1 q.2.2
  av : T.Av q.2.1
theorem kids_sub {rows : List R4} {q : Q3} (h : SubQ rows q) : ∀ k ∈ kids q, SubQ rows k := fun k hk => by
  obtain ⟨b, u, d⟩ := q
  obtain ⟨h1, h2, h3⟩ := h
  dsimp only at h1 h2 h3
  cases u with
  | nil => exact absurd h1 Bool.false_ne_true
  | node l s r a m =>
    rcases List.mem_append.mp hk with z | z
    · split at z
      · rename_i c
        rw [List.mem_singleton] at z
        subst z
        exact ⟨c, seg_left h2, h3.1⟩
      · exact absurd z (by simp)
    · split at z
      · rename_i c
        rw [List.mem_singleton] at z
        subst z
        exact ⟨c, seg_right h2, h3.2.1⟩
      · exact absurd z (by simp)
theorem bfs_sub {rows : List R4} : ∀ (n : Nat) (R : List Q3), (∀ q ∈ R, SubQ rows q) → ∀ q ∈ bfs n R, SubQ rows q
  | 0, _, _, q, hq => absurd hq (by simp [bfs])
  | _ + 1, [], _, q, hq => absurd hq (by simp [bfs])
  | n + 1, p :: R, h, q, hq => by
    rcases List.mem_cons.mp (show q ∈ p :: bfs n (R ++ kids p) from hq) with rfl | z
    · exact h _ List.mem_cons_self
    · refine bfs_sub n _ (fun k hk => ?_) q z
      rcases List.mem_append.mp hk with y | y
      · exact h k (List.mem_cons_of_mem _ y)
      · exact kids_sub (h p List.mem_cons_self) k y
theorem bfs_len : ∀ (n : Nat) (R : List Q3), (bfs n R).length ≤ n
  | 0, _ => Nat.le_refl _
  | _ + 1, [] => Nat.zero_le _
  | n + 1, p :: R => by
    show (p :: bfs n (R ++ kids p)).length ≤ n + 1
    have := bfs_len n (R ++ kids p)
    rw [List.length_cons]
    omega
/-- the reach is the greatest high -/
theorem rch_max : ∀ {t : T}, T.Av t → t.isNode = true → (∀ x ∈ t.toL, x.2.1 ≤ t.mx) ∧ ∃ x ∈ t.toL, x.2.1 = t.mx
  | .nil, _, h => absurd h Bool.false_ne_true
  | .node l s r h m, ⟨a, b, _, em, _⟩, _ => by
    have hm : (T.node l s r h m).mx = T.rch l s r := em
    have hl : (T.node l s r h m).toL = l.toL ++ s :: r.toL := rfl
    rw [hm, hl]
    have L : l.isNode = true → (∀ x ∈ l.toL, x.2.1 ≤ l.mx) ∧ ∃ x ∈ l.toL, x.2.1 = l.mx := fun n => rch_max a n
    have R : r.isNode = true → (∀ x ∈ r.toL, x.2.1 ≤ r.mx) ∧ ∃ x ∈ r.toL, x.2.1 = r.mx := fun n => rch_max b n
    have L0 : ¬ l.isNode = true → l.toL = [] := fun n => by
      cases l with
      | nil => rfl
      | node => exact absurd rfl n
    have R0 : ¬ r.isNode = true → r.toL = [] := fun n => by
      cases r with
      | nil => rfl
      | node => exact absurd rfl n
    unfold T.rch
    by_cases nl : l.isNode = true
    · obtain ⟨l1, x1, hx1, e1⟩ := L nl
      by_cases nr : r.isNode = true
      · obtain ⟨r1, x2, hx2, e2⟩ := R nr
        rw [if_pos nr, if_pos nl]
        refine ⟨fun x hx => ?_, ?_⟩
        · rcases List.mem_append.mp hx with z | z
          · have := l1 x z; omega
          · rcases List.mem_cons.mp z with rfl | z
            · omega
            · have := r1 x z; omega
        · by_cases c : r.mx ≤ max s.2.1 l.mx
          · by_cases c2 : l.mx ≤ s.2.1
            · exact ⟨s, List.mem_append_right _ List.mem_cons_self, by omega⟩
            · exact ⟨x1, List.mem_append_left _ hx1, by omega⟩
          · exact ⟨x2, List.mem_append_right _ (List.mem_cons_of_mem _ hx2), by omega⟩
      · rw [if_neg nr, if_pos nl, R0 nr]
        refine ⟨fun x hx => ?_, ?_⟩
        · rcases List.mem_append.mp hx with z | z
          · have := l1 x z; omega
          · rw [List.mem_singleton] at z; subst z; omega
        · by_cases c2 : l.mx ≤ s.2.1
          · exact ⟨s, List.mem_append_right _ List.mem_cons_self, by omega⟩
          · exact ⟨x1, List.mem_append_left _ hx1, by omega⟩
    · rw [if_neg nl, L0 nl]
      by_cases nr : r.isNode = true
      · obtain ⟨r1, x2, hx2, e2⟩ := R nr
        rw [if_pos nr]
        refine ⟨fun x hx => ?_, ?_⟩
        · rcases List.mem_cons.mp (show x ∈ s :: r.toL from hx) with rfl | z
          · omega
          · have := r1 x z; omega
        · by_cases c : r.mx ≤ s.2.1
          · exact ⟨s, List.mem_cons_self, by omega⟩
          · exact ⟨x2, List.mem_cons_of_mem _ hx2, by omega⟩
      · rw [if_neg nr, R0 nr]
        refine ⟨fun x hx => ?_, s, List.mem_cons_self, rfl⟩
        rw [List.nil_append, List.mem_singleton] at hx
        subst hx
        exact Int.le_refl _
/-- the kept ones of a piece -/
theorem seg_toL {t : T} {b : Nat} {u : T} {d : Int} (g : Seg (t.tol 0) b u d) {j : Nat} (hj : j < u.sz) : t.toL[b + j]? = some (u.toL.getD j (0, 0, 0)) := by
  have h1 := seg_at g hj
  have hj' : j < (u.tol d).length := by rw [T.tol_sz]; exact hj
  have e := congrArg (Option.map (fun r : R4 => r.1)) h1
  rw [← List.getElem?_map, T.tol_fst] at e
  rw [e]
  show some ((u.tol d).getD j ((0, 0, 0), 0, 0, 0)).1 = _
  rw [← T.tol_fst u d]
  simp [List.getD, hj']
end L3
set_option Elab.async false
set_option linter.all false
set_option autoImplicit false
set_option maxRecDepth 100000
set_option maxHeartbeats 4000000
/-! Lay19: an own list handed to a def that tells a new list of tuples of ints. -/
namespace L3
open PySem PySem.Spec L2
theorem dp_past {K : PySem.W.Frag} {H' : Hp} {q a : Addr} {ws : List V} {m m' : List Addr} (hq : H' q = some (.lst ws)) (sub : ∀ b, b ∈ m' → b = q ∨ b ∈ m) : ∀ {rs : List PyData} {us : List V}, (∀ r ∈ rs, ∃ ns : List Int, r = .tuple (ns.map PyData.int)) → DpAll K (cut (a :: m) H') us rs → DpAll K (cut (a :: m') H') us rs
  | [], _, _, h => by cases h; exact .nil
  | r :: rs, _, fl, h => by
    cases h with
    | @cons u us _ _ h1 h2 =>
      obtain ⟨ns, rfl⟩ := fl _ List.mem_cons_self
      refine .cons ?_ (dp_past hq sub (fun r hr => fl r (List.mem_cons_of_mem _ hr)) h2)
      cases h1 with
      | @tup x vs _ hs ha =>
        have e := dpAll_ints ha
        subst e
        have go : ∀ o, cut (a :: m) H' x = some o → o ≠ .lst ws → cut (a :: m') H' x = some o := fun o e hne => by
          have hn : x ∉ a :: m := fun z => by rw [cut_in z] at e; cases e
          rw [cut_out hn] at e
          rw [cut_out]
          · exact e
          · intro z
            rcases List.mem_cons.mp z with z | z
            · exact hn (z ▸ List.mem_cons_self)
            · rcases sub x z with z | z
              · rw [z, hq] at e
                exact hne (Option.some.inj e).symm
              · exact hn (List.mem_cons_of_mem _ z)
        refine .tup ?_ (dpAll_of_ints ns)
        rcases hs with hs | ⟨o, hs⟩
        · exact .inl (go _ hs (fun z => by cases z))
        · exact .inr ⟨o, go _ hs (fun z => by cases z)⟩
section
variable {X : Cx} {Z : Fz} {own : Own} {ρ : List Sl} {pos p0 : Pos} {e : Expr} {es : List Expr} {ds ds0 rs : List PyData} {k : Nat} {ps : List Str} {x : Str} {q : Addr}
theorem pn_fnO {Φ : List PyData → List PyData → Prop} (C : Cal X.prog X.w X.K X.mg X.base k x ps (SpL X.K Φ)) (hr : Room k X.A) (ho : PD X Z own ρ e (.v (.ref q))) (hq : (q, Mo.lst ds0) ∈ own) (ha : PDD X Z own ρ es ds) (hΦ : Φ (.list ds0 :: ds) rs) (fl : ∀ r ∈ rs, ∃ ns : List Int, r = .tuple (ns.map PyData.int))
    (hg : Gl X x := by rfl) (hdb : (x == ("__debug__" : Str)) = false := by decide) (he : starEach (e :: es) X.env = (false, eval e X.env) :: starEach es X.env := by rfl) (hpl : (backTo pos (starEach es X.env)).any (·.1) = false := by rfl) :
    PN X Z own ρ (.Call (.Name x p0) (e :: es) [] pos) rs := fun σ H R Q qq => by
  obtain ⟨f, fd, F, hm, hk, hb⟩ := C.ex
  refine ⟨_, pe_call F hr hg hm hk hb .nil pass0 (pa_cons pe_E pa_A he) hdb he hpl, ho σ H R _ fun v H1 s1 hv => ha σ H1 (R.mono s1) _ fun vs H2 s2 hvs => ?_⟩
  obtain rfl : v = .ref q := hv
  have R2 := (R.mono s1).mono s2
  obtain ⟨_, ws, e1, e2⟩ := R2.h.owns _ hq
  have hx : q ∈ ex Z own := List.mem_append_left _ (List.mem_map.mpr ⟨_, hq, rfl⟩)
  have sub : ∀ a, a ∈ exBut Z own q → a ∈ ex Z own := fun a ha => (List.mem_filter.mp ha).1
  show SpL X.K Φ ((V.ref q :: vs) ++ []) H2 Q E0
  rw [List.append_nil]
  refine ⟨exBut Z own q, .list ds0 :: ds, rs, fun a ha => R2.h.there (sub a ha), .cons (.lst (.inl (by rw [cut_out exBut_not]; exact e1)) (dpAll_mono (cut_less sub) _ _ e2)) (dpAll_mono (cut_less sub) _ _ hvs), hΦ, fun a us H' hn s hw hd => ?_⟩
  exact qq a us H' (s1.free (s2.free hn)) ((s1.trans s2).trans s) hw (dp_past (s _ _ e1) (fun b hb => by
    have := (exBut_iff hx b).mpr hb
    exact List.mem_cons.mp this) fl hd)
end
end L3
set_option Elab.async false
set_option linter.all false
set_option autoImplicit false
set_option maxRecDepth 100000
set_option maxHeartbeats 4000000
/-! Lay20: a def that tells a pair of a new list and a number. -/
namespace L3
open PySem PySem.Spec L2
/-- (a new list of es, n) -/
def SpM (K : PySem.W.Frag) (Φ : List PyData → List PyData → Int → Prop) : Sp := fun vs H Q _ => ∃ m0 ds es n, (∀ a ∈ m0, ∃ o, H a = some o) ∧ DpAll K (cut m0 H) vs ds ∧ Φ ds es n ∧
  ∀ a p ws H', H a = none → H p = none → a ≠ p → Same H H' → H' a = some (.lst ws) → H' p = some (.tup [.ref a, .int n]) → DpAll K (cut (p :: a :: m0) H') ws es → Q (.ref p) H'
abbrev pairM (a p : Addr) (es : List PyData) (n : Int) : Own := [(p, .raw (.tup [.ref a, .int n])), (a, .lst es)]
abbrev retM (es : List PyData) (n : Int) : Pst := { nx := fun _ _ => False, rt := fun own r => ∃ a p, r = .v (.ref p) ∧ a ≠ p ∧ (a, Mo.lst es) ∈ own ∧ (p, Mo.raw (.tup [.ref a, .int n])) ∈ own }
section
variable {P : Program} {w : World} {K : PySem.W.Frag} {mg : Str → Option Value} {base : Heap}
theorem okM {x qual : Str} {st : Stmt} {f : Addr} {fd : FuncData} {N ps : List Str} {k : Nat} {Φ : List PyData → List PyData → Int → Prop} (F : Fun K x qual st f fd) (S : FnScope N ps (defScope st)) (len : ∀ ds es n, Φ ds es n → ds.length = ps.length)
    (body : ∀ (cdv : Value) (A : Around) (outer : List Env) (s : Shared) (H : Hp) (E : XK) (Z : Fz) (ds es : List PyData) (n : Int), Room k (A.deeper (PyProof.Rows.envOfC qual (defScope st) s.heap.objs.size f cdv)) → Φ ds es n →
      PH (bodyX P w K mg base N qual st f cdv A outer s H E) Z [] (ds.map Sl.d ++ List.replicate (N.length - ds.length) Sl.no) (defBody st) (retM es n)) : FnOk P w K mg base CX0 (k + 1) f fd ps (SpM K Φ) := by
  refine F.ok S (fun vs H Q E h => ?_) (fun cdv A outer s H vs Q E hr h => ?_)
  · obtain ⟨m0, ds, es, n, _, h2, h3, _⟩ := h
    rw [dpAll_length h2]
    exact len ds es n h3
  · obtain ⟨m0, ds, es, n, h1, h2, h3, q⟩ := h
    refine ⟨_, pss_Ss, body cdv A outer s H E ⟨H, m0⟩ ds es n hr h3 _ H (rep_start h1 h2) _
      ⟨fun own ρ σ H' hn R => hn.elim, fun own r v H' hr R hv => ?_, fun own ρ σ H' hb R => hb.elim, fun own ρ σ H' hb R => hb.elim⟩⟩
    obtain ⟨a, p, rfl, hne, hl, ht⟩ := hr
    obtain rfl : v = .ref p := hv
    obtain ⟨n1, ws, e1, e2⟩ := R.owns _ hl
    obtain ⟨n2, e3⟩ := R.owns _ ht
    refine q a p ws H' n1 n2 hne R.fr e1 e3 (dpAll_mono (cut_less fun b hb => ?_) _ _ e2)
    rcases List.mem_cons.mp hb with z | hb
    · subst z; exact List.mem_append_left _ (List.mem_map.mpr ⟨_, ht, rfl⟩)
    · rcases List.mem_cons.mp hb with z | z
      · subst z; exact List.mem_append_left _ (List.mem_map.mpr ⟨_, hl, rfl⟩)
      · exact List.mem_append_right _ z
end
section
variable {X : Cx} {Z : Fz} {own : Own} {ρ : List Sl} {pos p0 px spos : Pos} {e e1 e2 : Expr} {es : List Expr} {ds rs : List PyData} {k : Nat} {ps : List Str} {x y : Str} {a p : Addr} {n : Int} {rest : List Stmt} {P : Pst} {us : List PyData}
/-- the call, at the caller -/
theorem met_at {Φ : List PyData → List PyData → Int → Prop} {σ : L2.St} {H : Hp} {Q : VK} (C : Cal X.prog X.w X.K X.mg X.base k x ps (SpM X.K Φ)) (hr : Room k X.A) (ha : PDD X Z own ρ (e :: es) ds) (hΦ : Φ ds rs n) (R : Rep X.K Z own ρ σ H)
    (q : ∀ a p ws H', H a = none → H p = none → a ≠ p → Same H H' → H' a = some (.lst ws) → H' p = some (.tup [.ref a, .int n]) → DpAll X.K (cut (p :: a :: ex Z own) H') ws rs → Q (.ref p) H')
    (hg : Gl X x) (hdb : (x == ("__debug__" : Str)) = false) (he : starEach (e :: es) X.env = (false, eval e X.env) :: starEach es X.env) (hpl : (backTo pos (starEach es X.env)).any (·.1) = false) :
    tE X (.Call (.Name x p0) (e :: es) [] pos) σ H Q := by
  obtain ⟨f, fd, F, hm, hk, hb⟩ := C.ex
  refine ⟨_, pe_call F hr hg hm hk hb .nil pass0 pa_A hdb he hpl, ha σ H R _ fun vs H1 s1 q1 => ?_⟩
  rw [List.append_nil]
  exact ⟨ex Z own, ds, rs, n, fun b hb => (R.h.mono s1).there hb, q1, hΦ, fun a p ws H' h1 h2 h3 s h4 h5 h6 => q a p ws H' (s1.free h1) (s1.free h2) h3 (s1.trans s) h4 h5 h6⟩
/-- the two come beside what is own -/
theorem Rep.pair {σ : L2.St} {H H' : Hp} {ws : List V} (R : Rep X.K Z own ρ σ H) (h1 : H a = none) (h2 : H p = none) (hne : a ≠ p) (s : Same H H') (h4 : H' a = some (.lst ws)) (h5 : H' p = some (.tup [.ref a, .int n])) (h6 : DpAll X.K (cut (p :: a :: ex Z own) H') ws rs) :
    Rep X.K Z ((a, .lst rs) :: (p, .raw (.tup [.ref a, .int n])) :: own) ρ σ H' := by
  have R2 : Rep X.K Z ((p, .raw (.tup [.ref a, .int n])) :: own) ρ σ (upd H p (.tup [.ref a, .int n])) := R.cons (m := .raw (.tup [.ref a, .int n])) h2 (same_new h2 _) upd_same
  have s2 : Same (upd H p (.tup [.ref a, .int n])) H' := fun b o e => by
    by_cases z : b = p
    · subst z
      rw [upd_same] at e
      cases e
      exact h5
    · rw [upd_ne z] at e
      exact s b o e
  refine R2.cons (m := .lst rs) (by rw [upd_ne hne]; exact h1) s2 ⟨ws, h4, ?_⟩
  have e : cut (a :: ex Z ((p, Mo.raw (.tup [.ref a, .int n])) :: own)) H' = cut (p :: a :: ex Z own) H' := cut_mem fun b => by
    show b ∈ a :: p :: ex Z own ↔ _
    simp only [List.mem_cons]
    exact ⟨fun z => by rcases z with z | z | z <;> simp [z], fun z => by rcases z with z | z | z <;> simp [z]⟩
  rw [e]
  exact h6
/-- y = f(..) -/
theorem h_setM {Φ : List PyData → List PyData → Int → Prop} (i : Nat) (C : Cal X.prog X.w X.K X.mg X.base k x ps (SpM X.K Φ)) (hr : Room k X.A) (ha : PDD X Z own ρ (e :: es) ds) (hΦ : Φ ds rs n) (q : ∀ a p, a ≠ p → PH X Z ((a, .lst rs) :: (p, .raw (.tup [.ref a, .int n])) :: own) (ρ.set i (.v (.ref p))) rest P) (hN : X.N.Nodup)
    (hg : Gl X x := by rfl) (hdb : (x == ("__debug__" : Str)) = false := by decide) (he : starEach (e :: es) X.env = (false, eval e X.env) :: starEach es X.env := by rfl) (hpl : (backTo pos (starEach es X.env)).any (·.1) = false := by rfl)
    (hi : X.N[i]? = some y := by rfl) (hl : Loc X.env.scope y := by first | exact Or.inl rfl | exact Or.inr rfl) (hs : swapsWith (.Call (.Name x p0) (e :: es) [] pos) (some (.Name y px)) spos.line X.env = pure false := by rfl)
    (hf : X.fn y = true ∨ X.env.scope.names.lookup y = some .local := by first | exact .inl rfl | exact .inr rfl) : PH X Z own ρ (.Assign [.Name y px] (.Call (.Name x p0) (e :: es) [] pos) spos :: rest) P :=
  h_cons (ps_set hN hi hl pe_E hs hf) fun σ H R D E => met_at C hr ha hΦ R (fun a p ws H' h1 h2 hne s h4 h5 h6 => E.nx _ _ _ H' (q a p hne) (Rep.setS (R.pair h1 h2 hne s h4 h5 h6) rfl)) hg hdb he hpl
/-- f(..)[0] -/
theorem pn_met0 {Φ : List PyData → List PyData → Int → Prop} {j : Nat} {p2 : Pos} (C : Cal X.prog X.w X.K X.mg X.base k x ps (SpM X.K Φ)) (hr : Room k X.A) (ha : PDD X Z own ρ (e :: es) ds) (hΦ : Φ ds rs n)
    (hg : Gl X x := by rfl) (hdb : (x == ("__debug__" : Str)) = false := by decide) (he : starEach (e :: es) X.env = (false, eval e X.env) :: starEach es X.env := by rfl) (hpl : (backTo pos (starEach es X.env)).any (·.1) = false := by rfl)
    (hs : PlainIx (.Constant (.int 0) j p2) := by exact fun _ _ => rfl) : PN X Z own ρ (.Subscript (.Call (.Name x p0) (e :: es) [] pos) (.Constant (.int 0) j p2) spos) rs := fun σ H R Q qq =>
  ⟨_, pe_ix (ix_list.or ix_tup) pe_E pe_int hs, met_at C hr ha hΦ R (fun a p ws H' h1 h2 hne s h4 h5 h6 => .inr ⟨p, _, 0, .ref a, rfl, rfl, .inl (.inl h5), rfl, qq a ws H' h1 s h4 (dpAll_mono (cut_less fun b hb => List.mem_cons_of_mem _ hb) _ _ h6)⟩) hg hdb he hpl⟩
/-- f(..)[1] -/
theorem pd_met1 {Φ : List PyData → List PyData → Int → Prop} {j : Nat} {p2 : Pos} (C : Cal X.prog X.w X.K X.mg X.base k x ps (SpM X.K Φ)) (hr : Room k X.A) (ha : PDD X Z own ρ (e :: es) ds) (hΦ : Φ ds rs n)
    (hg : Gl X x := by rfl) (hdb : (x == ("__debug__" : Str)) = false := by decide) (he : starEach (e :: es) X.env = (false, eval e X.env) :: starEach es X.env := by rfl) (hpl : (backTo pos (starEach es X.env)).any (·.1) = false := by rfl)
    (hs : PlainIx (.Constant (.int 1) j p2) := by exact fun _ _ => rfl) : PD X Z own ρ (.Subscript (.Call (.Name x p0) (e :: es) [] pos) (.Constant (.int 1) j p2) spos) (.d (.int n)) := fun σ H R Q qq =>
  ⟨_, pe_ix (ix_list.or ix_tup) pe_E pe_int hs, met_at C hr ha hΦ R (fun a p ws H' h1 h2 hne s h4 h5 h6 => .inr ⟨p, _, 1, .int n, rfl, rfl, .inl (.inl h5), rfl, qq _ H' s (Dp.int n)⟩) hg hdb he hpl⟩
/-- t[0], t[1] of such a pair -/
theorem pd_raw0 {j : Nat} {p2 : Pos} (ho : PD X Z own ρ e (.v (.ref p))) (h : (p, Mo.raw (.tup [.ref a, .int n])) ∈ own) (hs : PlainIx (.Constant (.int 0) j p2) := by exact fun _ _ => rfl) : PD X Z own ρ (.Subscript e (.Constant (.int 0) j p2) spos) (.v (.ref a)) :=
  pd_of (pe_ix (ix_list.or ix_tup) pe_E pe_int hs) fun σ H R Q qq => ho σ H R _ fun v H1 s1 hv => by
    obtain rfl : v = .ref p := hv
    have h5 : H1 p = some (.tup [.ref a, .int n]) := ((R.h.mono s1).owns _ h).2
    exact .inr ⟨p, _, 0, .ref a, rfl, rfl, .inl (.inl h5), rfl, qq _ H1 s1 rfl⟩
theorem pd_raw1 {j : Nat} {p2 : Pos} (ho : PD X Z own ρ e (.v (.ref p))) (h : (p, Mo.raw (.tup [.ref a, .int n])) ∈ own) (hs : PlainIx (.Constant (.int 1) j p2) := by exact fun _ _ => rfl) : PD X Z own ρ (.Subscript e (.Constant (.int 1) j p2) spos) (.d (.int n)) :=
  pd_of (pe_ix (ix_list.or ix_tup) pe_E pe_int hs) fun σ H R Q qq => ho σ H R _ fun v H1 s1 hv => by
    obtain rfl : v = .ref p := hv
    have h5 : H1 p = some (.tup [.ref a, .int n]) := ((R.h.mono s1).owns _ h).2
    exact .inr ⟨p, _, 1, .int n, rfl, rfl, .inl (.inl h5), rfl, qq _ H1 s1 (Dp.int n)⟩
/-- return (a new list, n) -/
theorem h_retPN {kk : Nat} {tp : Pos} (h1 : PN X Z own ρ e1 rs) (h2 : PD X Z own ρ e2 (.d (.int n))) (q : ∀ a p, a ≠ p → P.rt ((p, .raw (.tup [.ref a, .int n])) :: (a, .lst rs) :: own) (.v (.ref p)))
    (hs1 : starEach (e1 :: [e2]) X.env = (false, eval e1 X.env) :: starEach [e2] X.env := by rfl) (hs2 : starEach (e2 :: []) X.env = (false, eval e2 X.env) :: starEach [] X.env := by rfl) : PH X Z own ρ (.Return (some (.Tuple [e1, e2] kk tp)) spos :: rest) P :=
  h_cons (ps_ret pe_E) fun σ H R D E => ⟨_, pe_tup (pa_cons pe_E (pa_cons pe_E pa_nil hs2) hs1), h1 σ H R _ fun a ws H1 hn s1 hw hd => h2 σ H1 (R.mono s1) _ fun v H2 s2 hv => ⟨sz1000 rfl, fun p hp => by
    cases hv
    have hne : a ≠ p := fun z => by
      have := s2 _ _ hw
      rw [z, hp] at this
      cases this
    have R1 : Rep X.K Z ((a, .lst rs) :: own) ρ σ H1 := R.cons (m := .lst rs) hn s1 ⟨ws, hw, hd⟩
    exact E.rt _ _ _ _ (q a p hne) (((R1.mono s2).cons (m := .raw (.tup [.ref a, .int n])) hp (same_new hp _) upd_same).h) rfl⟩⟩
/-- return (an own list, n) -/
theorem h_retPO {kk : Nat} {tp : Pos} (h1 : PD X Z own ρ e1 (.v (.ref a))) (ha : (a, Mo.lst rs) ∈ own) (h2 : PD X Z own ρ e2 (.d (.int n))) (q : ∀ p, a ≠ p → P.rt ((p, .raw (.tup [.ref a, .int n])) :: own) (.v (.ref p)))
    (hs1 : starEach (e1 :: [e2]) X.env = (false, eval e1 X.env) :: starEach [e2] X.env := by rfl) (hs2 : starEach (e2 :: []) X.env = (false, eval e2 X.env) :: starEach [] X.env := by rfl) : PH X Z own ρ (.Return (some (.Tuple [e1, e2] kk tp)) spos :: rest) P :=
  h_cons (ps_ret pe_E) fun σ H R D E => ⟨_, pe_tup (pa_cons pe_E (pa_cons pe_E pa_nil hs2) hs1), h1 σ H R _ fun v1 H1 s1 hv1 => h2 σ H1 (R.mono s1) _ fun v H2 s2 hv => ⟨sz1000 rfl, fun p hp => by
    cases hv
    obtain rfl : v1 = .ref a := hv1
    have R2 := (R.mono s1).mono s2
    obtain ⟨_, ws, e, _⟩ := R2.h.owns _ ha
    have hne : a ≠ p := fun z => by rw [z, hp] at e; cases e
    exact E.rt _ _ _ _ (q p hne) ((R2.cons (m := .raw (.tup [.ref a, .int n])) hp (same_new hp _) upd_same).h) rfl⟩⟩
end
end L3
set_option Elab.async false
set_option linter.all false
set_option autoImplicit false
set_option maxRecDepth 100000
set_option maxHeartbeats 4000000
/-! Lay21: lists of own things: made, grown, read, walked; own lists written by place; own things in another order; a method that tells a new instance. -/
namespace L3
open PySem PySem.Spec L2
theorem nd_mem : ∀ {own : Own}, (own.map (·.1)).Nodup → ∀ {a : Addr} {m m' : Mo}, (a, m) ∈ own → (a, m') ∈ own → m = m'
  | [], _, _, _, _, h, _ => absurd h (by simp)
  | q :: own, nd, a, m, m', h, h' => by
    rw [List.map_cons, List.nodup_cons] at nd
    rcases List.mem_cons.mp h with e | h
    · rcases List.mem_cons.mp h' with e' | h'
      · rw [← e] at e'; injection e' with _ e'; exact e'.symm
      · exact absurd (show q.1 ∈ own.map (·.1) from List.mem_map.mpr ⟨(a, m'), h', by rw [← e]⟩) nd.1
    · rcases List.mem_cons.mp h' with e' | h'
      · exact absurd (show q.1 ∈ own.map (·.1) from List.mem_map.mpr ⟨(a, m), h, by rw [← e']⟩) nd.1
      · exact nd_mem nd.2 h h'
section
variable {K : PySem.W.Frag} {Z : Fz} {own own2 : Own} {ρ : List Sl} {σ : L2.St} {H : Hp}
theorem ex_perm (h : own.Perm own2) (a : Addr) : a ∈ ex Z own ↔ a ∈ ex Z own2 := by
  unfold ex
  rw [List.mem_append, List.mem_append, (h.map _).mem_iff]
theorem Rep.perm (h : own.Perm own2) (R : Rep K Z own ρ σ H) : Rep K Z own2 ρ σ H := by
  have e : cut (ex Z own) H = cut (ex Z own2) H := cut_mem (ex_perm h)
  refine ⟨⟨R.h.fr, fun p hp => ?_, R.h.m0, (h.map _).nodup_iff.mp R.h.nd, fun p hp => R.h.dj p (h.mem_iff.mpr hp)⟩, ?_⟩
  · rw [← e]; exact R.h.owns p (h.mem_iff.mpr hp)
  · rw [← e]; exact R.s
end
section
variable {X : Cx} {Z : Fz} {own own2 : Own} {ρ : List Sl} {rest : List Stmt} {P : Pst}
theorem h_perm (h : own.Perm own2) (k : PH X Z own2 ρ rest P) : PH X Z own ρ rest P := fun σ H R D E => k σ H (R.perm h) D E
end
/-! ### lists of own things -/
section
variable {X : Cx} {Z : Fz} {own : Own} {ρ : List Sl} {pos spos px p0 lpos apos ipos : Pos} {e i o iter : Expr} {es : List Expr} {r : Sl} {d x : PyData} {ds : List PyData} {rest body : List Stmt} {P : Pst} {L : Addr} {vs : List V} {v : V} {y : Str} {n : Nat} {C : Addr} {f : Str}
theorem pd_ixR {k : Int} (ho : PD X Z own ρ e (.v (.ref L))) (hi : PD X Z own ρ i (.d (.int k))) (h : (L, Mo.raw (.lst vs)) ∈ own) (hx : atI vs k = some v) (hs : PlainIx i := by exact fun _ _ => rfl) : PD X Z own ρ (.Subscript e i pos) (.v v) :=
  pd_of (pe_ix (ix_list.or ix_tup) pe_E pe_E hs) fun σ H R Q q => ho σ H R _ fun u H1 s1 p1 => hi σ H1 (R.mono s1) _ fun w H2 s2 p2 => by
    obtain rfl : u = .ref L := p1
    cases p2
    have h1 : H2 L = some (.lst vs) := ((R.h.mono (s1.trans s2)).owns _ h).2
    exact .inl ⟨L, vs, k, v, rfl, rfl, SqL.of h1, hx, q v H2 (s1.trans s2) rfl⟩
theorem pd_lenR (h : PD X Z own ρ e (.v (.ref L))) (hL : (L, Mo.raw (.lst vs)) ∈ own) (hm : X.mg "len" = none) (hg : Gl X "len" := by rfl) (he : starEach (e :: []) X.env = (false, eval e X.env) :: starEach [] X.env := by rfl) (hpl : (backTo pos (starEach [] X.env)).any (·.1) = false := by rfl) :
    PD X Z own ρ (.Call (.Name "len" p0) [e] [] pos) (.d (.int vs.length)) :=
  pd_of (pe_callB call_len_seq hg hm PySem.boot_len (pa_cons pe_E pa_nil he) (by decide) (by decide) he hpl) fun σ H R Q k => h σ H R _ fun u H1 s1 q1 => by
    obtain rfl : u = .ref L := q1
    have h1 : H1 L = some (.lst vs) := ((R.h.mono s1).owns _ hL).2
    exact ⟨L, vs, rfl, .inl (SqL.of h1), k _ H1 s1 (Dp.int _)⟩
/-- arguments that make own things: what is own behind them, and their values -/
def PAV (X : Cx) (Z : Fz) (own : Own) (ρ : List Sl) (es : List Expr) (post : Own → List V → Prop) : Prop :=
  ∀ σ H, Rep X.K Z own ρ σ H → ∀ Q : List V → Hp → Prop, (∀ own' vs H', post own' vs → Rep X.K Z own' ρ σ H' → Q vs H') → tA X es σ H Q
theorem pav_nil {post : Own → List V → Prop} (h : post own []) : PAV X Z own ρ [] post := fun σ H R Q k => ⟨tNil, pa_nil, k own [] H h R⟩
theorem pav_v {post : Own → List V → Prop} (h1 : PD X Z own ρ e (.v v)) (h2 : PAV X Z own ρ es fun own' vs => post own' (v :: vs)) (hs : starEach (e :: es) X.env = (false, eval e X.env) :: starEach es X.env := by rfl) : PAV X Z own ρ (e :: es) post := fun σ H R Q k =>
  ⟨_, pa_cons pe_E pa_A hs, h1 σ H R _ fun u H1 s1 q1 => h2 σ H1 (R.mono s1) _ fun own' vs H2 hp R2 => by
    obtain rfl : u = v := q1
    exact k own' _ H2 hp R2⟩
theorem pav_n {post : Own → List V → Prop} (h1 : PN X Z own ρ e ds) (h2 : ∀ a, PAV X Z ((a, .lst ds) :: own) ρ es fun own' vs => post own' (.ref a :: vs)) (hs : starEach (e :: es) X.env = (false, eval e X.env) :: starEach es X.env := by rfl) : PAV X Z own ρ (e :: es) post := fun σ H R Q k =>
  ⟨_, pa_cons pe_E pa_A hs, h1 σ H R _ fun a ws H1 hn s1 hw hd => h2 a σ H1 (R.cons (m := .lst ds) hn s1 ⟨ws, hw, hd⟩) _ fun own' vs H2 hp R2 => k own' _ H2 hp R2⟩
/-- e makes an instance -/
def PNI (X : Cx) (Z : Fz) (own : Own) (ρ : List Sl) (e : Expr) (C : Addr) (f : Str) (d : PyData) : Prop :=
  ∀ σ H, Rep X.K Z own ρ σ H → ∀ Q : VK, (∀ q H', Rep X.K Z ((q, .ins C f d) :: own) ρ σ H' → Q (.ref q) H') → tE X e σ H Q
theorem pav_i {post : Own → List V → Prop} (h1 : PNI X Z own ρ e C f d) (h2 : ∀ a, PAV X Z ((a, .ins C f d) :: own) ρ es fun own' vs => post own' (.ref a :: vs)) (hs : starEach (e :: es) X.env = (false, eval e X.env) :: starEach es X.env := by rfl) : PAV X Z own ρ (e :: es) post := fun σ H R Q k =>
  ⟨_, pa_cons pe_E pa_A hs, h1 σ H R _ fun a H1 R1 => h2 a σ H1 R1 _ fun own' vs H2 hp R2 => k own' _ H2 hp R2⟩
theorem pni_make {g : Addr} {fd : FuncData} {k : Nat} {x : Str} {q0 : Pos} (M : Mk X.K C g) (F : FnOk X.prog X.w X.K X.mg X.base CX0 k g fd ["self"] (SpI X.K C f d)) (hf : flatD d = true) (hr : Room (k + 1) X.A) (hm : X.mg x = some (.ref C)) (hb : Binds X.K fd ["self"] [])
    (hg : Gl X x := by rfl) (hdb : (x == ("__debug__" : Str)) = false := by decide) : PNI X Z own ρ (.Call (.Name x q0) [] [] pos) C f d := fun σ H R Q q =>
  ⟨_, pe_make0 M F hr hg hm hb .nil pass0 hdb, by
    refine fun p dx hp hdx hne => ⟨p, dx, rfl, upd_same, fun H' R' => ⟨rfl, ?_⟩⟩
    have s : Same H H' := fun b u e => R'.fr b u (by
      have h1 : b ≠ p := ne_of_none e hp
      have h2 : b ≠ dx := ne_of_none e hdx
      show cut [p] _ b = some u
      rw [cut_out (by simpa using h1), upd_ne h1, upd_ne h2]
      exact e)
    obtain ⟨_, dx', w, e1, e2⟩ := R'.owns _ List.mem_cons_self
    exact q p H' (R.cons (m := .ins C f d) hp s ⟨dx', w, e1, dp_flat e2 hf⟩)⟩
/-- y = [..] -/
theorem h_setRaw {post : Own → List V → Prop} (i : Nat) (h : PAV X Z own ρ es post) (hz : ∀ own' vs, post own' vs → vs.length ≤ 1000) (k : ∀ own' vs L, post own' vs → PH X Z ((L, .raw (.lst vs)) :: own') (ρ.set i (.v (.ref L))) rest P) (hN : X.N.Nodup)
    (hi : X.N[i]? = some y := by rfl) (hl : Loc X.env.scope y := by first | exact Or.inl rfl | exact Or.inr rfl) (hs : swapsWith (.List es lpos) (some (.Name y px)) spos.line X.env = pure false := by rfl)
    (hf : X.fn y = true ∨ X.env.scope.names.lookup y = some .local := by first | exact .inl rfl | exact .inr rfl) : PH X Z own ρ (.Assign [.Name y px] (.List es lpos) spos :: rest) P :=
  h_cons (ps_set hN hi hl (pe_lst pa_A) hs hf) fun σ H R D E => h σ H R _ fun own' vs H' hp R' => ⟨Nat.le_of_lt (small1000 (hz _ _ hp)), fun L hL => E.nx _ _ _ _ (k own' vs L hp) (Rep.setS (R'.cons (m := .raw (.lst vs)) hL (same_new hL _) upd_same) rfl)⟩
/-- o.append(e), o a list of own things, e makes one -/
theorem h_appR (k : Nat) (ho : PD X Z own ρ o (.v (.ref L))) (hk : own[k]? = some (L, .raw (.lst vs))) (he : PNI X Z own ρ e C f d) (hz : vs.length < sizeLine) (q : ∀ a, PH X Z ((a, .ins C f d) :: own.set k (L, .raw (.lst (vs ++ [.ref a])))) ρ rest P)
    (hpe : PE X (.Call (.Attribute o "append" apos) [e] [] pos) (tBM X.K "list" rAppend (tE X o) (tCons (tE X e) tNil))) (hs : swapsWith (.Call (.Attribute o "append" apos) [e] [] pos) none spos.line X.env = pure false := by rfl) :
    PH X Z own ρ (.Expr (.Call (.Attribute o "append" apos) [e] [] pos) spos :: rest) P :=
  h_cons (ps_expr hpe hs) fun σ H R D E => ho σ H R _ fun v H1 s1 hv => by
    obtain rfl : v = .ref L := hv
    have hmem : (L, Mo.raw (.lst vs)) ∈ own := List.mem_of_getElem? hk
    have h1 : H1 L = some (.lst vs) := ((R.h.mono s1).owns _ hmem).2
    refine ⟨.inl ⟨rfl, _, SqL.of h1⟩, he σ H1 (R.mono s1) _ fun a H2 R2 => ?_⟩
    have h2 : H2 L = some (.lst vs) := (R2.h.owns _ (List.mem_cons_of_mem _ hmem)).2
    refine ⟨L, vs, .ref a, rfl, rfl, h2, hz, ?_⟩
    have hk2 : ((a, Mo.ins C f d) :: own)[k + 1]? = some (L, .raw (.lst vs)) := by rw [List.getElem?_cons_succ]; exact hk
    have R3 : Rep X.K Z (((a, Mo.ins C f d) :: own).set (k + 1) (L, .raw (.lst (vs ++ [V.ref a])))) ρ σ (upd H2 L (.lst (vs ++ [V.ref a]))) := R2.write hk2 upd_same
    exact E.nx _ _ σ _ (q a) R3
/-- a[i] = e, a an own list -/
theorem dpAll_set {K : PySem.W.Frag} {G : Hp} {u : V} (h : Dp K G u d) : ∀ {ds : List PyData} {us : List V} (j : Nat), DpAll K G us ds → DpAll K G (us.set j u) (ds.set j d)
  | _, _, _, .nil => .nil
  | _, _, 0, .cons _ t => .cons h t
  | _, _, j + 1, .cons q t => .cons q (dpAll_set h j t)
theorem h_setIx {a : Addr} {z : Int} {j : Nat} (k : Nat) (he : PD X Z own ρ e (.d d)) (ho : PD X Z own ρ o (.v (.ref a))) (hi : PD X Z own ρ i (.d (.int z))) (hk : own[k]? = some (a, .lst ds)) (hj : ixN ds.length z = some j) (q : PH X Z (own.set k (a, .lst (ds.set j d))) ρ rest P)
    (ha : ∀ v, assign (.Subscript o i ipos) X.env v = (do
      let ov ← holding [v] (eval o X.env)
      let iv ← holding [v, ov] (eval i X.env)
      standAt ipos
      holding [v, ov, iv] (setItem ov iv v)
      release [v, ov, iv] []) := by intro _; rfl)
    (hs : swapsWithSole [.Subscript o i ipos] e spos.line X.env = pure false := by rfl) (hw : swappedStores [.Subscript o i ipos] e X.env = pure none := by rfl)
    (h1 : (assignEach [.Subscript o i ipos] X.env).map (·.2) = [assign (.Subscript o i ipos) X.env] := by rfl) : PH X Z own ρ (.Assign [.Subscript o i ipos] e spos :: rest) P :=
  h_cons (ps_asg pe_E (pg_sub pe_E pe_E set_list ha) hs hw h1) fun σ H R D E => he σ H R _ fun v H1 s1 hv => ho σ H1 (R.mono s1) _ fun u H2 s2 hu => hi σ H2 ((R.mono s1).mono s2) _ fun w H3 s3 hw => by
    obtain rfl : u = .ref a := hu
    cases hw
    have R3 := ((R.mono s1).mono s2).mono s3
    obtain ⟨_, us, e1, e2⟩ := R3.h.owns _ (List.mem_of_getElem? hk)
    refine ⟨a, us, z, j, rfl, rfl, e1, by rw [dpAll_length e2]; exact hj, ?_⟩
    exact E.nx _ _ σ _ q (R3.write hk ⟨_, upd_same, dpAll_set (dp_mono (cut_same (s2.trans s3)) _ _ hv) j e2⟩)
/-- e gives a list of own things -/
def PRL (X : Cx) (Z : Fz) (own : Own) (ρ : List Sl) (e : Expr) (post : Own → Addr → Prop) : Prop :=
  ∀ σ H, Rep X.K Z own ρ σ H → ∀ Q : VK, (∀ own' L H', post own' L → Rep X.K Z own' ρ σ H' → Q (.ref L) H') → tE X e σ H Q
theorem prl_v (h : PD X Z own ρ e (.v (.ref L))) : PRL X Z own ρ e fun own' a => own' = own ∧ a = L := fun σ H R Q k => h σ H R _ fun v H1 s1 hv => by
  obtain rfl : v = .ref L := hv
  exact k own L H1 ⟨rfl, rfl⟩ (R.mono s1)
theorem prl_list {post : Own → List V → Prop} (h : PAV X Z own ρ es post) (hz : ∀ own' vs, post own' vs → vs.length ≤ 1000) : PRL X Z own ρ (.List es lpos) fun own' L => ∃ own0 vs, post own0 vs ∧ own' = (L, .raw (.lst vs)) :: own0 := fun σ H R Q k =>
  ⟨_, pe_lst pa_A, h σ H R _ fun own' vs H' hp R' => ⟨Nat.le_of_lt (small1000 (hz _ _ hp)), fun L hL => k _ L _ ⟨own', vs, hp, rfl⟩ (R'.cons (m := .raw (.lst vs)) hL (same_new hL _) upd_same)⟩⟩
/-- for y in a list of own things -/
theorem h_forR {post : Own → Addr → Prop} (J : Addr → List V → Nat → Own → List Sl → Prop) (i : Nat) (hi : PRL X Z own ρ iter post) (h0 : ∀ own' L, post own' L → ∃ vs, J L vs 0 own' ρ) (hL : ∀ L vs k own' ρ', J L vs k own' ρ' → (L, Mo.raw (.lst vs)) ∈ own')
    (hb : ∀ L vs F k own' ρ' v, vs[k]? = some v → J L vs k own' ρ' → PH X ⟨F, Z.m0⟩ own' (ρ'.set i (.v v)) body { nx := J L vs (k + 1), ct := J L vs (k + 1), rt := P.rt, bk := fun own ρ => PH X Z own ρ rest P })
    (hd : ∀ L vs own' ρ', J L vs vs.length own' ρ' → PH X Z own' ρ' rest P) (hN : X.N.Nodup) (hy : X.N[i]? = some y := by rfl) (hl : Loc X.env.scope y := by first | exact Or.inl rfl | exact Or.inr rfl) (hf : X.fn y = true ∨ X.env.scope.names.lookup y = some .local := by first | exact .inl rfl | exact .inr rfl)
    (hp : PassesOwn (model X.prog X.w) X.A X.env X.xe := by exact PassesOwn.never) (hc : X.calm = true := by rfl) (hs : ∀ x, foldedSetIterable iter X.env x = pure x := by intro _; rfl) :
    PH X Z own ρ (.For (.Name y px) iter body [] pos :: rest) P :=
  h_cons (ps_for hp hc (pi_list pe_E) (pg_name hN hy hl hf) pss_Ss hs) fun σ H R D E => hi σ H R _ fun own1 L H1 hpo R1 => by
    obtain ⟨vs, j0⟩ := h0 _ _ hpo
    have hL1 : H1 L = some (.lst vs) := (R1.h.owns _ (hL _ _ _ _ _ j0)).2
    refine ⟨L, rfl, ⟨vs, SqL.of hL1⟩, ?_⟩
    have F0 := frame_le R1.h
    refine ⟨fun k m σ' H' => m = vs.length - k ∧ k ≤ vs.length ∧ ∃ own' ρ', J L vs k own' ρ' ∧ Rep X.K ⟨frameOf own1 H1, Z.m0⟩ own' ρ' σ' H', ⟨vs.length, rfl, Nat.zero_le _, own1, ρ, j0, rep_frame R1⟩, ?_⟩
    rintro k m σ' H' ⟨rfl, hk, own', ρ', j, R'⟩
    have hL2 : SqL X.K H' L vs := SqL.of (R'.h.owns _ (hL _ _ _ _ _ j)).2
    by_cases hlt : k < vs.length
    · refine .inr ⟨⟨vs, vs[k], hL2, List.getElem?_eq_getElem hlt⟩, fun σ' H' => k + 1 ≤ vs.length ∧ ∃ own' ρ', J L vs (k + 1) own' ρ' ∧ Rep X.K ⟨frameOf own1 H1, Z.m0⟩ own' ρ' σ' H', fun σ' H' ⟨a, b⟩ => ⟨vs.length - (k + 1), by omega, rfl, a, b⟩, fun u H2 yl => ?_⟩
      obtain ⟨rfl, yl⟩ := yl
      have hx := yl vs hL2
      refine hb L vs (frameOf own1 H1) k own' ρ' u hx j _ H2 (R'.setS (r := .v u) rfl) _ ⟨fun own ρ σ H hn R => ⟨hlt, own, ρ, hn, R⟩, fun own r v H hr R hv => E.rt own r v H hr (repH_weakF F0 R) hv, fun own ρ σ H hb R => ?_, fun own ρ σ H hn R => ⟨hlt, own, ρ, hn, R⟩⟩
      exact E.nx own ρ σ H hb (rep_weakF F0 R)
    · have e : k = vs.length := by omega
      subst e
      exact .inl ⟨⟨vs, hL2, Nat.le_refl _⟩, E.nx own' ρ' σ' H' (hd L vs own' ρ' j) (rep_weakF F0 R')⟩
/-- isinstance(e, c), e an own instance -/
theorem pd_isW {w : Addr} {cx : Expr} {b : Bool} (h : PD X Z own ρ e (.v (.ref w))) (hw : AsI own w C f x) (ty : ∀ (H : Hp) dx fs, H w = some (.ins C dx fs) → TyX X.K H (.ref w) (.ref C)) (hcx : PD X Z own ρ cx (.v (.ref C))) (hk : PySem.W.kitOne X.K (.ref C) (.ref C) = some b) (hm : X.mg "isinstance" = none) (hg : Gl X "isinstance" := by rfl)
    (he : starEach (e :: [cx]) X.env = (false, eval e X.env) :: starEach [cx] X.env := by rfl) (he2 : starEach (cx :: []) X.env = (false, eval cx X.env) :: starEach [] X.env := by rfl) (hpl : (backTo pos (starEach [cx] X.env)).any (·.1) = false := by rfl) :
    PD X Z own ρ (.Call (.Name "isinstance" p0) [e, cx] [] pos) (.d (.bool b)) :=
  pd_of (pe_callB call_isi hg hm boot_isi (pa_cons pe_E (pa_cons pe_E pa_nil he2) he) (by decide) (by decide) he hpl) fun σ H R Q k => h σ H R _ fun v H1 s1 hv => hcx σ H1 (R.mono s1) _ fun u H2 s2 hu => by
    obtain rfl : v = .ref w := hv
    obtain rfl : u = .ref C := hu
    obtain ⟨dx, v', e1, _⟩ := hw.is (R.h.mono (s1.trans s2))
    exact ⟨.ref w, .ref C, .ref C, .ref C, b, rfl, .own C, ty _ _ _ e1, hk, k _ H2 (s1.trans s2) (Dp.bl b)⟩
end
/-! ### a method that tells a new instance -/
def SpB (K : PySem.W.Frag) (C : Addr) (f : Str) (Φ : PyData → List PyData → PyData → Prop) : Sp := fun vs H Q _ => ∃ m0 p dx v x args ds y, vs = .ref p :: args ∧ p ∉ m0 ∧ (∀ a ∈ m0, ∃ o, H a = some o) ∧ H p = some (.ins C dx [(f, v)]) ∧ Dp K (cut (p :: m0) H) v x ∧
  DpAll K (cut (p :: m0) H) args ds ∧ Φ x ds y ∧ ∀ a dx' v' H', H a = none → Same H H' → H' a = some (.ins C dx' [(f, v')]) → Dp K (cut (a :: p :: m0) H') v' y → Q (.ref a) H'
abbrev retB (p : Addr) (m : Mo) (C : Addr) (f : Str) (y : PyData) : Pst := { nx := fun _ _ => False, rt := fun own r => (p, m) ∈ own ∧ ∃ a, r = .v (.ref a) ∧ (a, Mo.ins C f y) ∈ own }
section
variable {P : Program} {w : World} {K : PySem.W.Frag} {mg : Str → Option Value} {base : Heap} {C : Addr} {f : Str}
theorem okB {x0 qual : Str} {st : Stmt} {g : Addr} {fd : FuncData} {N ps : List Str} {k : Nat} {Φ : PyData → List PyData → PyData → Prop} (F : Fun K x0 qual st g fd) (S : FnScope N ps (defScope st)) (len : ∀ x ds y, Φ x ds y → ds.length + 1 = ps.length)
    (body : ∀ (cdv : Value) (A : Around) (outer : List Env) (s : Shared) (H : Hp) (E : XK) (Z : Fz) (p dx : Addr) (v : V) (x : PyData) (ds : List PyData) (y : PyData), Room k (A.deeper (PyProof.Rows.envOfC qual (defScope st) s.heap.objs.size g cdv)) → Φ x ds y →
      PH (bodyX P w K mg base N qual st g cdv A outer s H E) Z [(p, .fix C dx f v x)] (startO N p ds) (defBody st) (retB p (.fix C dx f v x) C f y)) : FnOk P w K mg base CX0 (k + 1) g fd ps (SpB K C f Φ) := by
  refine F.ok S (fun vs H Q E h => ?_) (fun cdv A outer s H vs Q E hr h => ?_)
  · obtain ⟨m0, p, dx, v, x, args, ds, d, rfl, _, _, _, _, h2, h3, _⟩ := h
    rw [List.length_cons, dpAll_length h2]
    exact len x ds d h3
  · obtain ⟨m0, p, dx, v, x, args, ds, y, rfl, hp, h0, e, hv, ha, h3, q⟩ := h
    refine ⟨_, pss_Ss, body cdv A outer s H E ⟨cut [p] H, m0⟩ p dx v x ds y hr h3 _ H (fix_start hp h0 e hv ha) _
      ⟨fun own ρ σ H' hn R => hn.elim, fun own r u H' hr R hu => ?_, fun own ρ σ H' hb R => hb.elim, fun own ρ σ H' hb R => hb.elim⟩⟩
    obtain ⟨ho, a, rfl, hl⟩ := hr
    obtain ⟨e0, dx', v', e1, e2⟩ := R.owns _ hl
    obtain rfl : u = .ref a := hu
    have hne : a ≠ p := fun z => by
      subst z
      have := nd_mem R.nd ho hl
      cases this
    have e0' : cut [p] H a = none := e0
    rw [cut_out (by simpa using hne)] at e0'
    refine q a dx' v' H' e0' (fix_same e R ho) e1 (dp_mono (cut_less fun b hb => ?_) _ _ e2)
    rcases List.mem_cons.mp hb with z | z
    · subst z; exact List.mem_append_left _ (List.mem_map.mpr ⟨_, hl, rfl⟩)
    · exact own_sub ho b z
end
section
variable {X : Cx} {Z : Fz} {own : Own} {ρ : List Sl} {pos apos q0 : Pos} {o : Expr} {d x : PyData} {k : Nat} {ps : List Str} {m : Str} {f : Str} {C p : Addr}
theorem pni_meth0 {pl : Sem Bool} {Φ : PyData → List PyData → PyData → Prop} (M : CalM CX0 X.prog X.w X.K X.mg X.base k C m ps (SpB X.K C f Φ)) (c : Cls X.K C) (hr : Room k X.A) (ho : PD X Z own ρ o (.v (.ref p))) (h : AsI own p C f x) (hΦ : Φ x [] d) (hne : (m == f) = false := by decide)
    (ht : eval (.Call (.Attribute o m apos) [] [] pos) X.env = (do
      let ov ← eval o X.env
      standAt apos.atName; let (f, first) ← holding [ov] (getMethod ov m pl); callWith pos f first (backTo pos (starEach [] X.env)) (backToKw pos (keywordEach [] X.env))) := by rfl) :
    PNI X Z own ρ (.Call (.Attribute o m apos) [] [] pos) C f d := fun σ H R Q q => by
  obtain ⟨g, fd, F, hm, hb⟩ := M.ex
  refine ⟨_, pe_meth0 pe_E c hm F hr hb .nil pass0 ht, ho σ H R _ fun v H1 s1 hv => ?_⟩
  obtain rfl : v = .ref p := hv
  have R1 := R.mono s1
  obtain ⟨dx, u, e1, d1⟩ := h.is R1.h
  have cc : ∀ G : Hp, cut (p :: exBut Z own p) G = cut (ex Z own) G := fun G => cut_mem fun a => exBut_iff h.ex a
  refine ⟨p, dx, _, rfl, e1, look_no hne, ?_⟩
  refine ⟨exBut Z own p, p, dx, u, x, [], [], d, rfl, exBut_not, fun a ha => (R1.h.there (List.mem_filter.mp ha |>.1)), e1, ?_, .nil, hΦ, fun a dx' v' H' hn s hw hd => ?_⟩
  · rw [cc]; exact d1
  · refine q a H' (R1.cons (m := .ins C f d) hn s ⟨dx', v', hw, ?_⟩)
    have e : cut (a :: p :: exBut Z own p) H' = cut (a :: ex Z own) H' := cut_mem fun b => by
      rw [List.mem_cons, List.mem_cons (b := a), exBut_iff h.ex b]
    rw [← e]
    exact hd
end
end L3
set_option Elab.async false
set_option linter.all false
set_option autoImplicit false
set_option maxRecDepth 100000
set_option maxHeartbeats 4000000
/-! Lay22: what is raised where nothing is handled (its context is None): raise, defs that raise, arguments that raise, try. -/
namespace L3
open PySem PySem.Spec L2
abbrev CXN (P : Program) (w : World) : CXT := L2N.CX P w
theorem takes0N {X : Cx} : L2N.Takes X fun _ _ _ _ => False := fun _ _ ⟨_, _, _, _, _, _, _, _, _, _, _, _, _, _, _, _, w⟩ => w.elim
section
variable {X : Cx} {CX : CXT} {W : WX} {Z : Fz} {own : Own} {ρ : List Sl} {pos apos q0 p0 spos px : Pos} {o e c : Expr} {es : List Expr} {d x : PyData} {ds : List PyData} {k n i : Nat} {ps : List Str} {m fn y : Str} {f : Str} {C p cc : Addr} {rest : List Stmt} {P : Pst} {r : Sl}
variable {post : Own → PyData → Prop} {xp : Own → Addr → Prop} {xps : Own → List Sl → Addr → Prop}
theorem hx_raiseN {msg : Str} {j : Nat} {p1 p2 p3 : Pos} (T : ExcT X.K X.mg y cc) (tk : L2N.Takes X W) (h : xps own ρ cc) (hc : X.calm = true := by rfl) (hg : Gl X y := by rfl) (hdb : (y == ("__debug__" : Str)) = false := by decide) :
    PHX X W Z own ρ (.Raise (some (.Call (.Name y p1) [.Constant (.str msg) j p2] [] p3)) none spos :: rest) P xps :=
  hx_cons (L2N.ps_raise hc tk (L2N.pmk_own PySem.F.excBase_ValueError T.q T.g T.kp (raises_own T.sb T.ty) hg hdb)) fun σ H R D E w => w own ρ σ H cc h R
/-- e raises cc, and leaves all as it was -/
def PR (X : Cx) (W : WX) (Z : Fz) (own : Own) (ρ : List Sl) (e : Expr) (cc : Addr) : Prop :=
  ∀ σ H, Rep X.K Z own ρ σ H → (∀ H', Same H H' → W (.ref cc) none σ H') → ∀ Q : VK, tE X e σ H Q
def PRA (X : Cx) (W : WX) (Z : Fz) (own : Own) (ρ : List Sl) (es : List Expr) (cc : Addr) : Prop :=
  ∀ σ H, Rep X.K Z own ρ σ H → (∀ H', Same H H' → W (.ref cc) none σ H') → ∀ Q : List V → Hp → Prop, tA X es σ H Q
theorem px_of_pr (h : PR X W Z own ρ e cc) : PX X W Z own ρ e (fun _ _ => False) (fun own' c' => own' = own ∧ c' = cc) := fun σ H R Q _ q2 => h σ H R (fun H' s => q2 own cc H' ⟨rfl, rfl⟩ (R.mono s)) Q
/-- a def that raises -/
def SpX (K : PySem.W.Frag) (Φ : List PyData → Addr → Prop) : Sp := fun vs H _ E => ∃ m0 ds cc, (∀ a ∈ m0, ∃ o, H a = some o) ∧ DpAll K (cut m0 H) vs ds ∧ Φ ds cc ∧ ∀ H', Same H H' → E (.ref cc) none H'
theorem pr_call {Φ : List PyData → Addr → Prop} (M : CalX CX X.prog X.w X.K X.mg X.base k fn ps (SpX X.K Φ)) (hx : ∀ σ, PassesAt CX X σ (WE W σ)) (hr : Room k X.A) (ha : PDD X Z own ρ (e :: es) ds) (hΦ : Φ ds cc)
    (hg : Gl X fn := by rfl) (hdb : (fn == ("__debug__" : Str)) = false := by decide) (he : starEach (e :: es) X.env = (false, eval e X.env) :: starEach es X.env := by rfl) (hpl : (backTo pos (starEach es X.env)).any (·.1) = false := by rfl) :
    PR X W Z own ρ (.Call (.Name fn q0) (e :: es) [] pos) cc := fun σ H R w Q => by
  obtain ⟨g, fd, F, hm, hk, hb⟩ := M.ex
  exact ⟨_, pe_callS F hr hg hm hk hb hx pa_A hdb he hpl, ha σ H R _ fun vs H1 s1 q1 => ⟨ex Z own, ds, cc, ex_there (R.h.mono s1), q1, hΦ, fun H' s => w H' (s1.trans s)⟩⟩
theorem pra_head (h : PR X W Z own ρ e cc) (hs : starEach (e :: es) X.env = (false, eval e X.env) :: starEach es X.env := by rfl) : PRA X W Z own ρ (e :: es) cc := fun σ H R w Q => ⟨_, pa_cons pe_E pa_A hs, h σ H R w _⟩
theorem pra_tail (h1 : PD X Z own ρ e r) (h2 : PRA X W Z own ρ es cc) (hs : starEach (e :: es) X.env = (false, eval e X.env) :: starEach es X.env := by rfl) : PRA X W Z own ρ (e :: es) cc := fun σ H R w Q =>
  ⟨_, pa_cons pe_E pa_A hs, h1 σ H R _ fun v H1 s1 _ => h2 σ H1 (R.mono s1) (fun H' s => w H' (s1.trans s)) _⟩
theorem pr_callA {sp : Sp} (M : Cal X.prog X.w X.K X.mg X.base k fn ps sp) (hr : Room k X.A) (ha : PRA X W Z own ρ (e :: es) cc)
    (hg : Gl X fn := by rfl) (hdb : (fn == ("__debug__" : Str)) = false := by decide) (he : starEach (e :: es) X.env = (false, eval e X.env) :: starEach es X.env := by rfl) (hpl : (backTo pos (starEach es X.env)).any (·.1) = false := by rfl) :
    PR X W Z own ρ (.Call (.Name fn q0) (e :: es) [] pos) cc := fun σ H R w Q => by
  obtain ⟨g, fd, F, hm, hk, hb⟩ := M.ex
  exact ⟨_, pe_call F hr hg hm hk hb .nil pass0 pa_A hdb he hpl, ha σ H R w _⟩
/-- a wish for nothing that is raised: of a callee that raises nothing here -/
abbrev WF : WX := fun _ _ _ _ => False
theorem passF : ∀ σ, PassesAt (CXN X.prog X.w) X σ (WE WF σ) := fun _ _ _ _ _ _ _ ⟨_, _, _, _, _, _, _, _, _, _, _, _, h⟩ => h.elim
theorem h_exprF (h : PX X WF Z own ρ e post xp) (hx : ∀ own' c, ¬ xp own' c) (q : ∀ own' d, post own' d → PH X Z own' ρ rest P) (hs : swapsWith e none spos.line X.env = pure false := by rfl) : PH X Z own ρ (.Expr e spos :: rest) P :=
  h_cons (ps_expr pe_E hs) fun σ H R D E => h σ H R _ (fun own' d v H' hp R' _ => E.nx own' ρ σ H' (q own' d hp) R') fun own' c H' hp _ => hx own' c hp
end
/-! ### a def that raises, by its body -/
section
variable {P : Program} {w : World} {K : PySem.W.Frag} {mg : Str → Option Value} {base : Heap} {C : Addr} {f : Str}
abbrev bodyXN (P : Program) (w : World) (K : PySem.W.Frag) (mg : Str → Option Value) (base : Heap) (N : List Str) (qual : Str) (st : Stmt) (g : Addr) (cdv : Value) (A : Around) (outer : List Env) (s : Shared) (H : Hp) (E : XK) : Cx :=
  cxOf (CXN P w) P w K mg base N qual (defScope st) g cdv A outer s H E
theorem fun_okN {x qual : Str} {st : Stmt} {g : Addr} {fd : FuncData} {N ps : List Str} {k : Nat} {sp : Sp} (F : Fun K x qual st g fd) (S : FnScope N ps (defScope st)) (len : ∀ vs H Q E, sp vs H Q E → vs.length = ps.length)
    (body : ∀ (cdv : Value) (A : Around) (outer : List Env) (s : Shared) (H : Hp) (vs : List V) (Q : VK) (E : XK), Room k (A.deeper (PyProof.Rows.envOfC qual (defScope st) s.heap.objs.size g cdv)) → sp vs H Q E →
      ∃ t, PSs (bodyXN P w K mg base N qual st g cdv A outer s H E) (defBody st) t ∧ t { nx := fun _ H' => Q .non H', rt := Q } (L2.start N vs) H) : FnOk P w K mg base (CXN P w) (k + 1) g fd ps sp := by
  obtain ⟨_, _, _, _, _, _, cdv, _, _, rfl, lk, hcd⟩ := F.ex
  exact fn_of lk hcd S len fun A outer s H vs Q E hr h => body cdv A outer s H vs Q E hr h
theorem okXN {x qual : Str} {st : Stmt} {g : Addr} {fd : FuncData} {N ps : List Str} {k : Nat} {Φ : List PyData → Addr → Prop} (F : Fun K x qual st g fd) (S : FnScope N ps (defScope st)) (len : ∀ ds cc, Φ ds cc → ds.length = ps.length)
    (body : ∀ (cdv : Value) (A : Around) (outer : List Env) (s : Shared) (H : Hp) (E : XK) (Z : Fz) (ds : List PyData) (cc : Addr) (W : WX), Room k (A.deeper (PyProof.Rows.envOfC qual (defScope st) s.heap.objs.size g cdv)) → L2N.Takes (bodyXN P w K mg base N qual st g cdv A outer s H E) W → Φ ds cc →
      PHX (bodyXN P w K mg base N qual st g cdv A outer s H E) W Z [] (ds.map Sl.d ++ List.replicate (N.length - ds.length) Sl.no) (defBody st) { nx := fun _ _ => False, rt := fun _ _ => False } (fun _ _ c' => c' = cc)) : FnOk P w K mg base (CXN P w) (k + 1) g fd ps (SpX K Φ) := by
  refine fun_okN F S (fun vs H Q E h => ?_) (fun cdv A outer s H vs Q E hr h => ?_)
  · obtain ⟨m0, ds, cc, _, h2, h3, _⟩ := h
    rw [dpAll_length h2]
    exact len ds cc h3
  · obtain ⟨m0, ds, cc, h1, h2, h3, q⟩ := h
    exact ⟨_, pss_Ss, body cdv A outer s H E ⟨H, m0⟩ ds cc (fun cls d _ H => E cls d H) hr (L2N.takes_of rfl rfl rfl rfl) h3 _ H (rep_start h1 h2) _
      ⟨fun own ρ σ H' hn R => hn.elim, fun own r v H' hr R hv => hr.elim, fun own ρ σ H' hb R => hb.elim, fun own ρ σ H' hb R => hb.elim⟩
      fun own ρ σ H' c hx R => by obtain rfl : c = cc := hx; exact q H' R.h.fr⟩
theorem okEXN {x0 qual : Str} {st : Stmt} {g : Addr} {fd : FuncData} {N ps : List Str} {k : Nat} {Φ : PyData → List PyData → PyData → PyData ⊕ Addr → Prop} (F : Fun K x0 qual st g fd) (S : FnScope N ps (defScope st)) (len : ∀ x ds x' r, Φ x ds x' r → ds.length + 1 = ps.length)
    (body : ∀ (cdv : Value) (A : Around) (outer : List Env) (s : Shared) (H : Hp) (E : XK) (Z : Fz) (p : Addr) (x : PyData) (ds : List PyData) (x' : PyData) (r : PyData ⊕ Addr) (W : WX), Room k (A.deeper (PyProof.Rows.envOfC qual (defScope st) s.heap.objs.size g cdv)) → L2N.Takes (bodyXN P w K mg base N qual st g cdv A outer s H E) W → Φ x ds x' r →
      PHX (bodyXN P w K mg base N qual st g cdv A outer s H E) W Z [(p, .ins C f x)] (startO N p ds) (defBody st) (retE C f p x' r) (fun own _ c => AsI own p C f x' ∧ r = .inr c)) : FnOk P w K mg base (CXN P w) (k + 1) g fd ps (SpE K C f Φ) := by
  refine fun_okN F S (fun vs H Q E h => ?_) (fun cdv A outer s H vs Q E hr h => ?_)
  · obtain ⟨m0, p, x, args, ds, x', r, rfl, _, _, h2, h3, _⟩ := h
    rw [List.length_cons, dpAll_length h2]
    exact len x ds x' r h3
  · obtain ⟨m0, p, x, args, ds, x', r, rfl, hp, R0, ha, h3, q, qx⟩ := h
    exact ⟨_, pss_Ss, body cdv A outer s H E ⟨cut [p] H, m0⟩ p x ds x' r (fun cls d _ H => E cls d H) hr (L2N.takes_of rfl rfl rfl rfl) h3 _ H (ins_start R0 ha) _
      ⟨fun own ρ σ H' hn R => q .non H' .none hn.2 (R.h.only hn.1) Dp.non, fun own s u H' ⟨hn, d, hd, hr⟩ R hu => q u H' d hd (R.only hn) (ret_is hn hr R hu), fun own ρ σ H' hb R => hb.elim, fun own ρ σ H' hb R => hb.elim⟩
      fun own ρ σ H' c hx R => qx c H' hx.2 (R.h.only hx.1)⟩
end
/-! ### try -/
section
variable {X : Cx} {Z : Fz} {own : Own} {ρ : List Sl} {spos np pos' : Pos} {n y : Str} {cc : Value} {i : Nat} {rest body suite : List Stmt} {b0 : Stmt} {P : Pst} {xps : Own → List Sl → Addr → Prop}
def tbN (X : Cx) (body : List Stmt) : WX → TS := fun W D σ H => ∀ pn xe, L2N.Takes (X.tr pn xe) W → PassesOwn (model X.prog X.w) X.A X.env xe → tSs (X.tr pn xe) body D σ H
def tsN (X : Cx) (suite : List Stmt) : Addr → Value → Option Addr → TS := fun a cls d D σ H => ∀ oe pn, L2N.Zn cls d oe → (∃ vs, oe.data = .fields vs) → tSs (X.suite a ((a, oe) :: pn)) suite D σ H
theorem h_tryAsN (i : Nat) (c0 : Names X y cc)
    (hb : ∀ W pn xe, L2N.Takes (X.tr pn xe) W → PHX (X.tr pn xe) W Z own ρ body { nx := fun own ρ => PH X Z own ρ rest P, rt := P.rt, bk := P.bk, ct := P.ct } xps)
    (hsu : ∀ own' ρ' c, xps own' ρ' c → PySem.W.exmOne X.K (.ref c) cc = some true ∧ ∀ a oe pn, L2N.Zn (.ref c) none oe → (∃ vs, oe.data = .fields vs) →
      PH (X.suite a ((a, oe) :: pn)) Z own' (ρ'.set i (.v (.ref a))) (b0 :: suite) { nx := fun own ρ => PH X Z own (ρ.set i .no) rest P, rt := P.rt, bk := fun own ρ => P.bk own (ρ.set i .no), ct := fun own ρ => P.ct own (ρ.set i .no) })
    (hN : X.N.Nodup) (hi : X.N[i]? = some n := by rfl) (hs : X.stack = X.env :: X.outer := by rfl) (hf : X.env.frame = some X.env.locals := by rfl) (hln : X.env.kindOf n = some .local := by rfl) :
    PH X Z own ρ (.Try body [.ExceptHandler (some (.Name y np)) (some n) (b0 :: suite) pos'] [] [] spos :: rest) P :=
  h_cons (L2N.ps_try_as (tb := tbN X body) (ts := tsN X (b0 :: suite)) hs hf hN hi hln c0 takes0N (fun W pn xe tk po => ⟨fun pins s σ H D I h => pss_Ss.run pins s σ H D I (h pn xe tk po)⟩) (fun a oe cls d pn hz hv => ⟨fun pins s σ H D I h => pss_Ss.run pins s σ H D I (h oe pn hz hv)⟩)) fun σ H R D E pn xe tk po =>
    hb _ pn xe tk σ H R D ⟨E.nx, E.rt, E.bk, E.ct⟩ fun own' ρ' σ' H' c hx R' => by
      obtain ⟨he, hq⟩ := hsu own' ρ' c hx
      refine ⟨true, he, fun _ a _ oe pn' hz hv => ?_, fun z => Bool.noConfusion z⟩
      have go : ∀ {own ρ σ H}, Rep X.K Z own ρ σ H → Rep X.K Z own (ρ.set i .no) (σ.set i none) H := fun R => ⟨R.h, R.s.set (r := .no) (o := none) trivial i⟩
      exact hq a oe pn' hz hv _ H' (Rep.setS (X := X) R' rfl) _ ⟨fun own ρ σ H h R => E.nx _ _ _ H h (go R), E.rt, fun own ρ σ H h R => E.bk _ _ _ H h (go R), fun own ρ σ H h R => E.ct _ _ _ H h (go R)⟩
end
end L3
set_option Elab.async false
set_option linter.all false
set_option autoImplicit false
set_option maxRecDepth 100000
set_option maxHeartbeats 4000000
/-! Lay23: within an except suite: a list is walked to its end, a comprehension over a list, a def that is handed the exception. -/
namespace L3
open PySem PySem.Spec PyProof.Rows L2 HotX L2H
abbrev St' := L2.St
/-! ### a list's end, while an exception is handled -/
section
variable {prog : Program} {w : World} {s : Shared} {A : Around} {E : Value → Shared → Prop}
theorem hot_end {it l x1 : Addr} {i : Nat} {items : Array Value} {Q : Option Value → Shared → Prop} (hot : HotAt A x1 s.heap) (st : s.heap.IsListIter it l i) (hl : s.heap.IsList l items) (hx : items[i]? = none)
    (q : ∀ h', (∀ b o, b ≠ it → s.heap.get? b = some o → h'.get? b = some o) → Q none { s with heap := h' }) : wpAny (model prog w) A (pyNext (.ref it)) Q E s := by
  obtain ⟨oi, gi, ci, di⟩ := id st
  obtain ⟨ol, gl, cl, nl, dl⟩ := hl
  obtain ⟨hh, o1, vs1, g1, d1, c1⟩ := hot
  have ne1 : it ≠ x1 := fun z => by
    rw [← z, gi] at g1
    cases g1
    rw [di] at d1
    cases d1
    simp at c1
  unfold pyNext
  -- the iterator's own step: its list, its place, the items; then StopIteration, made and raised beside the one that is handled
  refine wpAny_bind (wpAny_attempt (wpAny_callSpecial?_slot (name := Str.ofString "__next__") st.typeIs slot_listiter_next (wpAny_call_entry slot_listiter_next st.typeIs entry_listiter_next ?_ (args_listiter_next _))))
  show wpAny _ _ (field (.ref it) 0 >>= _) _ _ s; refine wpAny_bind (wpAny_field gi di (x := .ref l) rfl ?_)
  show wpAny _ _ (if (Value.ref l == Value.none) = true then _ else _) _ _ s; rw [if_neg (show ¬ ((Value.ref l == Value.none) = true) from Bool.false_ne_true)]
  show wpAny _ _ (field (.ref it) 1 >>= _) _ _ s; refine wpAny_bind (wpAny_field gi di (x := .int i 0) rfl ?_)
  show wpAny _ _ (seqItems? (.ref l) >>= _) _ _ s; refine wpAny_bind (wpAny_seqItems gl dl ?_); simp only [Int.toNat_natCast, hx]
  refine wpAny_bind (wpAny_rule (wpAny_bind (wpAny_setField gi di (by simp) ?_)))
  show wpAny _ _ (newExc (.type "StopIteration") [] >>= _) _ _ _; refine wpAny_bind ?_; simp only [newExc, newTuple]
  refine wpAny_bind (wpAny_newObj_type ?_ (by size_fits)); refine wpAny_bind (m := firstArgMember _ _) (wpAny_of_eq (a := Value.none) (by first | rfl | (simp only [firstArgMember]; rfl)) ?_); refine wpAny_newObj_type ?_ (by size_fits)
  have up : ∀ b o, b ≠ it → s.heap.get? b = some o → (s.heap.update it (Obj.mapFields (·.setIfInBounds 0 Value.none))).get? b = some o := fun b o hb e => (Heap.get?_update_other _ _ (Ne.symm hb)).trans e
  have g1' := Heap.get?_push_of_some { cls := .type "tuple", data := .seq #[] } (up x1 o1 (Ne.symm ne1) g1)
  refine raiseNew_hot ⟨hh, o1, vs1, Heap.get?_push_of_some _ g1', d1, c1⟩ (Nat.ne_of_lt (Heap.lt_size g1')) (Heap.get?_push_size _ rfl) rfl (by first | (simp; done) | (simp; omega) | (simp only [Array.size_append]; simp; omega)) ?_
  refine wpAny_bind (wpAny_isInstance (T := "StopIteration") (b := true) ⟨_, Heap.get?_update_self _ (Heap.get?_push_size _ rfl) rfl, rfl⟩ isSubtype_stop (wpAny_pure (q _ fun b o hb e => ?_)))
  have e1 := Heap.get?_push_of_some { cls := .type "tuple", data := .seq #[] } (up b o hb e)
  rw [Heap.get?_update_other _ _ (Nat.ne_of_gt (Heap.lt_size e1))]
  exact Heap.get?_push_of_some _ e1
end
/-! ### a comprehension over a list, while an exception is handled -/
theorem fs_nc {o : Obj} {vs : Array Value} (d : o.data = .fields vs) (v : Option Value) : o.data ≠ .cell v := fun z => by rw [d] at z; cases z
section
variable {X : Cx} {p : Addr × Obj}
theorem pinHot {X : Cx} {pl : List (Addr × Obj)} {σ : St'} {H : Hp} {s : Shared} (hot : Hot1 X.A p) (hp : p ∈ pl) (I : L2.Inv X pl σ H s) : HotAt X.A p.1 s.heap := by
  obtain ⟨hh, vs, e, c⟩ := hot
  exact ⟨hh, p.2, vs, (I.pin p (List.mem_append_right _ hp)).1, e, c⟩
theorem pe_lcP {elt tg e : Expr} {ifs : List Expr} {scope : Scope} {bs : List (Str × Nat)} {pos : Pos} {tl : TE} {g : TG} {tt : TT} {te : TE} (hot : Hot1 X.A p) (hpn : p ∈ X.pn) (hN : X.N.Nodup) (hi : PE X e tl) (ok : BlkOk X.N X.env.scope scope bs)
    (hg : ∀ (s : Shared) (H : Hp) (C : Addr) (cl : List (Str × Addr)) (fp : List Addr), L2.PG (X.blk s H scope (compEnvC scope cl C X.env) fp) tg g) (ht : ∀ (s : Shared) (H : Hp) (C : Addr) (cl : List (Str × Addr)) (fp : List Addr), PTs (X.blk s H scope (compEnvC scope cl C X.env) fp) ifs tt)
    (he : ∀ (s : Shared) (H : Hp) (C : Addr) (cl : List (Str × Addr)) (fp : List Addr), PE (X.blk s H scope (compEnvC scope cl C X.env) fp) elt te) (hs : ∀ x, foldedSetIterable e X.env x = pure x := by intro _; rfl) :
    PE X (.ListComp elt [⟨tg, e, ifs, 0⟩] scope pos) (tLc (iList X.K tl) g tt te (bs.map (·.2))) := by
  refine ⟨fun pins s σ H Q I h => ?_⟩; rw [eval_ListComp]
  have free0 : ∀ y ∈ scope.names, y.2 = .free → ∃ c, X.env.cells.lookup y.1 = some c := fun y hy ey => I.ok.has _ ((ok.free y hy ey).imp id id)
  refine wpAny_comprehension_free rfl hs (closure_ok free0) ok.kind (fun y hy ey => by rw [ok.uniq y hy, ey]) (thn (hi.run pins s σ H _ I h) fun u s1 ⟨v, H1, I1, r1, q1⟩ => ?_)
  obtain ⟨a, rfl, ⟨xs0, hq0⟩, q1⟩ := q1
  cases r1
  obtain ⟨its0, _, l0, _⟩ := I1.list hq0
  refine wpAny_pyIter_list l0.isList ?_
  -- the iterator stands
  generalize hit : s1.heap.objs.size = it
  generalize es2 : ({ s1 with heap := s1.heap.push { cls := .type "list_iterator", data := .fields #[.ref a, .int 0 0] } } : Shared) = s2
  have I2 : L2.Inv X pins σ H1 s2 := by rw [← es2]; exact I1.kept (t' := s1.toks) fun b o eb => Heap.get?_push_of_some _ eb
  have si2 : s2.heap.IsListIter it a 0 := by rw [← es2, ← hit]; exact ⟨_, Heap.get?_push_size _ rfl, rfl, rfl⟩
  have f2 : FpOk X pins H1 it := by rw [← hit]; exact I1.fpOk (Nat.le_refl _) (I1.hok.fresh (Nat.le_refl _))
  have neP : p.1 ≠ it := f2.2.2.2.2.2 p (List.mem_append_left _ hpn)
  -- the new list, the block's own frame
  refine wpAny_newObj_type (newEnv_comp ?_) (Nat.zero_le sizeLine)
  generalize eD : s2.heap.objs.size = D
  have eDn : H1 D = none := I2.hok.fresh (Nat.le_of_eq eD)
  obtain ⟨W, ⟨m0, w0⟩, turn⟩ := q1 D eDn
  generalize es3 : ({ s2 with heap := s2.heap.push { cls := .type "list", data := .seq ([] : List Value).toArray } } : Shared) = s3
  have eh3 : s3.heap = s2.heap.push { cls := .type "list", data := .seq ([] : List Value).toArray } := by rw [← es3]
  have I3 : L2.Inv X pins σ (upd H1 D (.lst [])) s3 := by
    rw [← es3]
    exact I2.laid (t' := s2.toks) (fun b o eb => Heap.get?_push_of_some _ eb) (Nat.le_of_eq eD) ⟨Nat.zero_le _, [], 0, .nil, by rw [← eD]; exact Heap.get?_push_size _ rfl⟩
  have lt2 : it < s2.heap.objs.size := by obtain ⟨o, eo, _⟩ := si2; exact Heap.lt_size eo
  have f3 : FpOk X pins (upd H1 D (.lst [])) it := ⟨by rw [upd_ne (by rw [← eD]; exact Nat.ne_of_lt lt2)]; exact f2.1, f2.2⟩
  have si3 : s3.heap.IsListIter it a 0 := si2.at fun o eo => by rw [eh3]; exact Heap.get?_push_of_some _ eo
  have I4 := block_start I3 ok hN (fp := [it]) fun b hb => by
    obtain rfl : b = it := by simpa using hb
    exact ⟨f3, by rw [eh3, Heap.size_push]; exact Nat.lt_succ_of_lt lt2⟩
  have P3 := I3.pin p (List.mem_append_left _ hpn)
  have pg := hg s3 (upd H1 D (.lst [])) s3.heap.objs.size (cellsFrom (s3.heap.objs.size + 1) scope.names (cloFrom X.env.cells scope.names [])) [it]
  have pt := ht s3 (upd H1 D (.lst [])) s3.heap.objs.size (cellsFrom (s3.heap.objs.size + 1) scope.names (cloFrom X.env.cells scope.names [])) [it]
  have pe := he s3 (upd H1 D (.lst [])) s3.heap.objs.size (cellsFrom (s3.heap.objs.size + 1) scope.names (cloFrom X.env.cells scope.names [])) [it]
  show codeAny _ _ (.compStart (.ListComp elt [⟨tg, e, ifs, 0⟩] scope pos) 0 (.ref it) (.ref D) (compEnvC scope (cellsFrom (s3.heap.objs.size + 1) scope.names (cloFrom X.env.cells scope.names [])) s3.heap.objs.size X.env)) (compPost (model X.prog X.w) X.A X.xe none (EP X pins σ Q) (.ref D) s3.heap.objs.size) { s3 with heap := pushCells (s3.heap.push { cls := .type "dict", data := .dict #[] }) scope.names }
  generalize ece : compEnvC scope (cellsFrom (s3.heap.objs.size + 1) scope.names (cloFrom X.env.cells scope.names [])) s3.heap.objs.size X.env = ce at I4 pg pt pe ⊢
  have locC : ce.locals = s3.heap.objs.size := by subst ece; rfl
  generalize hH3 : upd H1 D (.lst []) = H3 at I3 I4 pg pt pe w0 f3 P3
  have kp4 : ∀ b o, s3.heap.get? b = some o → (pushCells (s3.heap.push { cls := .type "dict", data := .dict #[] }) scope.names).get? b = some o := fun b o eb => pushCells_keeps _ _ _ _ (Heap.get?_push_of_some _ eb)
  generalize es4 : ({ s3 with heap := pushCells (s3.heap.push { cls := .type "dict", data := .dict #[] }) scope.names } : Shared) = s4 at I4 ⊢
  have si4 : s4.heap.IsListIter it a 0 := si3.at fun o eo => by rw [← es4]; exact kp4 _ _ eo
  -- the exception is pinned in the block, too
  have I4p : L2.Inv (X.blk s3 H3 scope ce [it]) [p] (wipe σ (bs.map (·.2))) H3 s4 := I4.pins_of fun q hq => by
    obtain rfl : q = p := by simpa using hq
    refine ⟨by rw [← es4]; exact kp4 _ _ P3.1, P3.2.1, ?_, fun lm => ?_, P3.2.2.2.2⟩
    · show q.1 ≠ ce.locals
      rw [locC]
      exact Nat.ne_of_lt (Heap.lt_size P3.1)
    · rcases List.mem_cons.mp (I3.stkSub q.1 lm) with z | z
      · exact P3.2.2.1 z
      · exact P3.2.2.2.1 z
  have stat : ∀ {σ' : St'} {H' : Hp} {s' : Shared}, L2.Inv (X.blk s3 H3 scope ce [it]) [p] σ' H' s' → H' it = none → FpOk (X.blk s3 H3 scope ce [it]) [p] H' it := fun {σ' H' s'} I' hn =>
    ⟨hn, (I'.ok.exf it (by simp)).1, I'.ok.exfs it (by simp), .inl (by simp), (I'.ok.exf it (by simp)).2, fun q hq => by
      obtain rfl : q = p := by simpa using hq
      exact neP⟩
  have loop : codeAny (model X.prog X.w) X.A (.compLoop (.ListComp elt [⟨tg, e, ifs, 0⟩] scope pos) 0 (.ref it) (.ref D) ce) (compPost (model X.prog X.w) X.A X.xe none (EP X pins σ Q) (.ref D) s3.heap.objs.size) s4 := by
    refine compLoop_any (fun n s' => ∃ i H', L2.Inv (X.blk s3 H3 scope ce [it]) [p] (wipe σ (bs.map (·.2))) H' s' ∧ s'.heap.IsListIter it a i ∧ H' it = none ∧ W i n H') ?_ m0 ⟨0, H3, I4p, si4, f3.1, w0⟩
    rintro n s5 ⟨i, G5, J5, si5, nn5, ww5⟩
    have F5 := stat J5 nn5
    rcases turn i n G5 ww5 with ⟨⟨ys, hq, hlen⟩, qq⟩ | ⟨⟨ys, y0, hq, hy0⟩, Nx, hNx, step⟩
    · -- no item is left
      obtain ⟨its, rv, l5, _⟩ := J5.list hq
      have hl := rv.length
      refine thnF (hot_end (E := fun _ _ => False) (Q := fun r s1 => r = none ∧ L2.Inv (X.blk s3 H3 scope ce [it]) [p] (wipe σ (bs.map (·.2))) G5 s1) (pinHot (X := X.blk s3 H3 scope ce [it]) hot (by simp) J5) si5 l5.isList (by simp; omega) fun h' eb =>
        ⟨rfl, J5.turned (t' := s5.toks) (fun b o hb eo => eb b o hb eo) F5.1 F5.2.1 F5.2.2.2.1 F5.2.2.2.2.1 F5.2.2.2.2.2⟩) fun r s6 ⟨hr, I6⟩ => ?_
      subst hr
      have I7 : L2.Inv X pins σ G5 s6 := I3.call' (ch := [it]) I6.os I6.base I6.hok I6.bare fun b hb => by
        obtain rfl : b = it := by simpa using hb
        exact ⟨f3.2.2.2.1, f3.2.1, f3.2.2.2.2.1, f3.2.2.2.2.2⟩
      have nC : G5 s3.heap.objs.size = none := by rw [← locC]; exact I6.free
      obtain ⟨m, hn, _⟩ := I6.loc
      rw [show (X.blk s3 H3 scope ce [it]).env.locals = s3.heap.objs.size from locC] at hn
      refine ⟨m, hn, fun h'' sb => ?_⟩
      obtain ⟨g0, g1, g2, g3, g4, g5⟩ := I3.fpOk (Nat.le_refl _) nC
      exact ⟨.ref D, G5, I7.turned (t' := s6.toks) (fun b o hb eo => (sb.2 b hb).trans eo) g0 g1 g3 g4 g5, rfl, qq⟩
    · -- the next item
      obtain ⟨its, rv, l5, _⟩ := J5.list hq
      obtain ⟨u, hu, ru⟩ := rv.get hy0
      refine wpAny_pyNext_list_item si5 l5.isList (x := u) (by simpa using hu) fun h6 st6 sb6 => ?_
      have I6 : L2.Inv (X.blk s3 H3 scope ce [it]) [p] (wipe σ (bs.map (·.2))) G5 { s5 with heap := h6 } := J5.turned (t' := s5.toks) (fun b o hb eo => (sb6.2 b hb).trans eo) F5.1 F5.2.1 F5.2.2.2.1 F5.2.2.2.2.1 F5.2.2.2.2.2
      obtain ⟨o6, g6, c6, d6⟩ := id st6
      refine go_of (s := { s5 with heap := h6 }) g6 c6 d6 (by decide) ?_
      have I6' := I6.pinned (fp := [it]) (fun b hb => by obtain rfl : b = it := (by simpa using hb); exact stat I6 nn5) (fun b hb => by obtain rfl : b = it := (by simpa using hb); exact ⟨o6, g6, fs_nc d6⟩)
      refine thnF (pg.run _ _ _ G5 y0 u _ I6' ru (step y0 G5 ⟨rfl, fun zs hz => by rw [J5.list_inj hz hq]; exact hy0⟩)) fun _ s8 ⟨σ8, H8, I8, hw8, q8⟩ => ?_
      refine thnF (pt.run _ s8 σ8 H8 _ I8 q8) fun b s9 ⟨G9, J9, qq9⟩ => ?_
      have fin : ∀ {s' : Shared} {H' : Hp}, L2.Inv (X.blk s3 H3 scope ce [it]) ([p] ++ pinsAt [it] h6) σ8 H' s' → Nx H' → ∃ m, m < n ∧ ∃ i H', L2.Inv (X.blk s3 H3 scope ce [it]) [p] (wipe σ (bs.map (·.2))) H' s' ∧ s'.heap.IsListIter it a i ∧ H' it = none ∧ W i m H' := fun {s' H'} I' nxt => by
        obtain ⟨m', lm, w'⟩ := hNx H' nxt
        have z := I'.pin (it, o6) (List.mem_append_right _ (List.mem_append_right _ (mem_pinsAt (by simp) g6)))
        refine ⟨m', lm, i + 1, H', (I'.unpinned (pins := [p])).weak (by rw [← hw8, wipe_length]) (fun j v ev => ?_), st6.at fun o eo => ?_, z.2.1, w'⟩
        · rw [← hw8] at ev
          exact (wipe_some ev).1
        · rw [show h6.get? it = some o6 from g6] at eo
          cases eo
          exact z.1
      cases b with
      | false =>
        simp only [Bool.false_eq_true, if_false] at qq9 ⊢
        exact fin J9 qq9
      | true =>
        simp only [if_true] at qq9 ⊢
        refine thnF (pe.run _ s9 σ8 G9 _ J9 qq9) fun z s10 ⟨yv, H10, I10, r10, acc, hD10, hz10, nxt⟩ => ?_
        exact app_ok (X := X.blk s3 H3 scope ce [it]) I10 hD10 hz10 r10 fun s11 I11 => fin I11 nxt
  exact codeAny_compStart_list loop (wpAny_pyIter_listiter si4 loop)
end
end L3
set_option Elab.async false
set_option linter.all false
set_option autoImplicit false
set_option maxRecDepth 100000
set_option maxHeartbeats 4000000
/-! Lay24: a def that is handed the exception which the suite holds; list.index; a comprehension there. -/
namespace L3
open PySem PySem.Spec L2 L2H
/-- what such a def promises, of the very exception -/
structure FnP (P : Program) (w : World) (K : PySem.W.Frag) (mg : Str → Option Value) (base : Heap) (k : Nat) (f : Addr) (fd : FuncData) (ps : List Str) (sp : Addr × Obj → Sp) : Prop where
  len : ∀ p vs H Q E, sp p vs H Q E → vs.length = ps.length
  run : ∀ (p : Addr × Obj) (A : Around) (outer : List Env) (s : Shared) (H : Hp) (args : Args) (us : List Value) (vs : List V) (Q : VK) (E : XK), RoomH k A → Hot1 A p → PinOk outer H s p → Env0 P w K mg base A outer s H → BindsTo s fd args (ps.zip us) → Vals vs us → sp p vs H Q E →
    codeAny (model P w) A (.call (.ref f) args) (CR CX0 outer P w H s Q E) s
section
variable {P : Program} {w : World} {K : PySem.W.Frag} {mg : Str → Option Value} {base : Heap}
theorem fnP_of {x qual : Str} {st : Stmt} {f : Addr} {fd : FuncData} {N ps : List Str} {k : Nat} {sp : Addr × Obj → Sp} (F : Fun K x qual st f fd) (S : FnScope N ps (defScope st)) (len : ∀ p vs H Q E, sp p vs H Q E → vs.length = ps.length)
    (body : ∀ (cdv : Value) (A : Around) (outer : List Env) (s : Shared) (H : Hp) (vs : List V) (Q : VK) (E : XK) (p : Addr × Obj), Hot1 A p → RoomH k (A.deeper (PyProof.Rows.envOfC qual (defScope st) s.heap.objs.size f cdv)) → sp p vs H Q E →
      ∃ t, PSs (cxH CX0 P w K mg base N qual (defScope st) f cdv A outer s H E p) (defBody st) t ∧ t { nx := fun _ H' => Q .non H', rt := Q } (L2.start N vs) H) : FnP P w K mg base (k + 1) f fd ps sp := by
  obtain ⟨_, _, _, _, _, _, cdv, _, _, rfl, lk, hcd⟩ := F.ex
  refine ⟨len, fun p A outer s H args us vs Q E hr hot pin e0 hb rv h => ?_⟩
  have nl := len _ _ _ _ _ h
  have kin : K.In s.heap := e0.mod.kin.keeps fun b o e => (e0.bs b o e).1
  have lim : s.heap.NoLimit := e0.mod.nolimit.keeps fun b o e => (e0.bs b o e).1
  have kinds : ∀ y ∈ ps.zip us, (defScope st).names.lookup y.1 = some .local ∨ ((defScope st).names.lookup y.1 = some .cell ∧ ((cellsFrom (s.heap.objs.size + 1) (defScope st).names []).lookup y.1).isSome = true) := fun y hy =>
    (S.par y.1 (List.of_mem_zip hy).1).imp id fun q => ⟨q, PySem.W.cellsFrom_some _ _ _ (.inl q)⟩
  refine codeAny_call_function hr.depth (kin _ _ lk) rfl S.co S.gen rfl (PySem.W.codeRec_of kin hcd) (hb _ _ _ _ ?_)
  refine wpAny_newFunctionEnv_cells S.kind kinds fun env he s1 ic => ?_
  subst he
  obtain ⟨t, ht, hq⟩ := body cdv A outer s H vs Q E p hot (hr.deeper _) h
  have I : L2.Inv (cxH CX0 P w K mg base N qual (defScope st) f cdv A outer s H E p) [] (L2.start N vs) H s1 := inv_startH S pin e0 nl rv ic
  refine ⟨lim.keeps ic.toInCall.keep, codeAny_func (wpAny_mono (ht.run [] s1 (L2.start N vs) H _ I hq) (fun fl s2 h2 => ?_) fun _ _ h2 => h2)⟩
  cases fl with
  | next => obtain ⟨σ', H', J, q⟩ := h2; exact ⟨.non, H', J.os, J.bare, J.base, J.hok, rfl, q⟩
  | ret u => obtain ⟨v, σ', H', J, rv', q⟩ := h2; exact ⟨v, H', J.os, J.bare, J.base, J.hok, rv', q⟩
  | brk => obtain ⟨_, _, _, q⟩ := h2; exact q.elim
  | cont => obtain ⟨_, _, _, q⟩ := h2; exact q.elim
end
/-- handed the exception at p, of which Φ p d holds, it hands back d -/
def SpP (K : PySem.W.Frag) (Φ : Addr × Obj → PyData → Prop) : Addr × Obj → Sp := fun p vs H Q _ => ∃ d, vs = [.ref p.1] ∧ flatD d = true ∧ Φ p d ∧ ∀ v H', Same H H' → Dp K H' v d → Q v H'
structure CalP (P : Program) (w : World) (K : PySem.W.Frag) (mg : Str → Option Value) (base : Heap) (k : Nat) (x : Str) (ps : List Str) (sp : Addr × Obj → Sp) : Prop where
  ex : ∃ f fd, FnP P w K mg base k f fd ps sp ∧ mg x = some (.ref f) ∧ PySem.W.keepIn K (.ref f) = true ∧ Binds K fd ps []
section
variable {P : Program} {w : World} {K : PySem.W.Frag} {mg : Str → Option Value} {base : Heap}
theorem okP {x qual y : Str} {st : Stmt} {f : Addr} {fd : FuncData} {N : List Str} {k : Nat} {Φ : Addr × Obj → PyData → Prop} (F : Fun K x qual st f fd) (S : FnScope N [y] (defScope st))
    (body : ∀ (cdv : Value) (A : Around) (outer : List Env) (s : Shared) (H : Hp) (E : XK) (Z : Fz) (p : Addr × Obj) (d : PyData), Hot1 A p → RoomH k (A.deeper (PyProof.Rows.envOfC qual (defScope st) s.heap.objs.size f cdv)) → Φ p d →
      PH (cxH CX0 P w K mg base N qual (defScope st) f cdv A outer s H E p) Z [] (.v (.ref p.1) :: List.replicate (N.length - 1) Sl.no) (defBody st) (retD d)) : FnP P w K mg base (k + 1) f fd [y] (SpP K Φ) := by
  refine fnP_of F S (fun p vs H Q E h => ?_) (fun cdv A outer s H vs Q E p hot hr h => ?_)
  · obtain ⟨_, rfl, _⟩ := h; rfl
  · obtain ⟨d, rfl, hf, hΦ, q⟩ := h
    have R0 : Rep K ⟨H, []⟩ [] (.v (.ref p.1) :: List.replicate (N.length - 1) Sl.no) (L2.start N [.ref p.1]) H := by
      refine ⟨⟨Same.refl H, fun y hy => absurd hy (by simp), fun a ha => absurd ha (by simp), List.nodup_nil, fun y hy => absurd hy (by simp)⟩, ?_⟩
      unfold L2.start
      exact .cons rfl (slots_start (ds := []) _ .nil)
    have fin : ∀ own r v H', RetD own r d → RepH K ⟨H, []⟩ own H' → SlOk K (cut (ex ⟨H, []⟩ own) H') r v → Q v H' := fun own r v H' hr R hv => by
      cases hr with
      | d _ => exact q v H' R.fr (dp_mono cut_full _ _ hv)
      | o _ => cases hf
    exact ⟨_, pss_Ss, body cdv A outer s H E ⟨H, []⟩ p d hot hr hΦ _ H R0 _
      ⟨fun own ρ σ H' hn R => fin own _ .non H' hn R.h Dp.non, fun own r v H' hr R hv => fin own r v H' hr R hv, fun own ρ σ H' hb R => hb.elim, fun own ρ σ H' hb R => hb.elim⟩⟩
end
section
variable {X : Cx} {Z : Fz} {own : Own} {ρ : List Sl} {p : Addr × Obj} {pos p0 q0 apos : Pos} {e o c : Expr} {k : Nat} {ps : List Str} {x : Str} {d : PyData}
theorem run_fnP {pins : List (Addr × Obj)} {σ : L2.St} {H : Hp} {s : Shared} {Q : VK} {E : XK} {us : List Value} {vs : List V} {f : Addr} {fd : FuncData} {sp : Addr × Obj → Sp} (F : FnP X.prog X.w X.K X.mg X.base k f fd ps sp) (hr : RoomH k X.A) (hot : Hot1 X.A p) (hp : p ∈ X.pn) (hb : Binds X.K fd ps [])
    (I : L2.Inv X pins σ H s) (r : Vals vs us) (h : sp p vs H Q E) : wpAny (model X.prog X.w) X.A (call (.ref f) us) (EP X pins σ Q) X.xe s := by
  have nl : us.length = ps.length := by rw [← r.length]; exact F.len _ _ _ _ _ h
  have b := hb s us I.kIn (by rw [List.append_nil]; exact nl)
  rw [List.append_nil] at b
  obtain ⟨i1, i2, i3, i4, i5⟩ := I.pin p (List.mem_append_left _ hp)
  have pin : PinOk X.stack H s p := ⟨i1, i2, fun hm => (List.mem_cons.mp (I.stkSub p.1 hm)).elim i3 i4, i5⟩
  refine wpAny_call (codeAny_mono (F.run p X.A X.stack s H ⟨us, []⟩ us vs Q E hr hot pin I.env0 b r h) fun z s2 h2 => ?_)
  cases z with
  | error u => exact h2.elim
  | ok fl =>
    cases fl with
    | ret u => exact I.after h2
    | next => exact h2.elim
    | brk => exact h2.elim
    | cont => exact h2.elim
theorem pd_callP {Φ : Addr × Obj → PyData → Prop} (M : CalP X.prog X.w X.K X.mg X.base k x ps (SpP X.K Φ)) (hr : RoomH k X.A) (hot : Hot1 X.A p) (hp : p ∈ X.pn) (he : PD X Z own ρ e (.v (.ref p.1))) (hf : flatD d = true) (hΦ : Φ p d)
    (hg : Gl X x := by rfl) (hdb : (x == ("__debug__" : Str)) = false := by decide) (hs : starEach (e :: []) X.env = (false, eval e X.env) :: starEach [] X.env := by rfl) (hpl : (backTo pos (starEach [] X.env)).any (·.1) = false := by rfl) :
    PD X Z own ρ (.Call (.Name x q0) [e] [] pos) (.d d) := by
  obtain ⟨f, fd, F, hm, hk, hb⟩ := M.ex
  refine pd_of (t := fun σ H Q => tCons (tE X e) tNil σ H fun vs H1 => SpP X.K Φ p vs H1 Q E0) ⟨fun pins s σ H Q I h => ?_⟩ fun σ H R Q q => he σ H R _ fun v H1 s1 hv => ?_
  · refine wpAny_Call_Name_kw (ld_glob I hg hm ?_ hdb)
    exact PySem.W.callWith_K (h₀ := X.base) I.ok.mod.kin hk (thn ((pa_cons pe_E pa_nil hs).run pos pins s σ H _ I h) fun us s1 ⟨vs, H1, I1, r, q⟩ => ⟨I1.kIn, run_fnP F hr hot hp hb I1 r q⟩) hs hpl
  · obtain rfl : v = .ref p.1 := hv
    exact ⟨d, rfl, hf, hΦ, fun u H' s hu => q u H' (s1.trans s) (dp_flat hu hf)⟩
/-- isinstance(e, c), e the exception that is handled -/
theorem call_isP {D : Addr} (C : ExcC X.K D) (hp : p ∈ X.pn) (hz : p.2.cls = .ref D ∧ p.2.dict = none) (hf : ∃ vs, p.2.data = .fields vs) : CallR X (.builtin "isinstance") (rIsE X.K D p.1) := by
  rintro pins s σ H xs us Q I r ⟨c, cv, b, rfl, hcv, hk, q⟩
  obtain ⟨u1, u2, rfl, r1, r2⟩ := vals2 r
  cases (show u1 = Value.ref p.1 from r1)
  obtain rfl := hcv _ r2
  have J : PySem.W.InstAt s.heap p.1 p.2 D none := by
    have g := (I.pin p (List.mem_append_left _ hp)).1
    obtain ⟨a, oc, od, oda, osl⟩ := p
    obtain ⟨vs, hv⟩ := hf
    obtain ⟨h1, h2⟩ := hz
    dsimp only at h1 h2 hv g ⊢
    subst h1 h2 hv
    exact ⟨g, rfl, rfl, trivial⟩
  exact PySem.W.kia_one (PySem.W.handS_kitx_exc C.hg C.hk C.hs C.hd C.ha C.hn C.ht C.hm) I.kIn J hk (fun z => nomatch z) fun tk => ⟨.bl b, H, I.tok tk, rfl, q⟩
theorem pd_isP {D : Addr} {cv : Value} {u : V} {b : Bool} (C : ExcC X.K D) (hp : p ∈ X.pn) (hz : p.2.cls = .ref D ∧ p.2.dict = none) (hf : ∃ vs, p.2.data = .fields vs) (he1 : PD X Z own ρ e (.v (.ref p.1))) (hc1 : PD X Z own ρ c (.v u)) (hu : ∀ z, RelV u z → z = cv) (hk : PySem.W.kitOne X.K (.ref D) cv = some b)
    (hm : X.mg "isinstance" = none) (hg : Gl X "isinstance" := by rfl) (he : starEach (e :: [c]) X.env = (false, eval e X.env) :: starEach [c] X.env := by rfl) (he2 : starEach (c :: []) X.env = (false, eval c X.env) :: starEach [] X.env := by rfl) (hpl : (backTo pos (starEach [c] X.env)).any (·.1) = false := by rfl) :
    PD X Z own ρ (.Call (.Name "isinstance" p0) [e, c] [] pos) (.d (.bool b)) :=
  pd_of (pe_callB (call_isP C hp hz hf) hg hm boot_isi (pa_cons pe_E (pa_cons pe_E pa_nil he2) he) (by decide) (by decide) he hpl) fun σ H R Q k => he1 σ H R _ fun v H1 s1 h1 => hc1 σ H1 (R.mono s1) _ fun v2 H2 s2 h2 => by
    obtain rfl : v = .ref p.1 := h1
    obtain rfl : v2 = u := h2
    exact ⟨v2, cv, b, rfl, hu, hk, k _ H2 (s1.trans s2) (Dp.bl b)⟩
/-- a comprehension over a list of data there -/
theorem pn_lcP {β : Type} {px : Pos} {y : Str} {elt iter : Expr} {ifs : List Expr} {scope : Scope} (enc : β → PyData) (l : List β) (t : β → Bool) (f : β → PyData) (j : Nat) (hot : Hot1 X.A p) (hp : p ∈ X.pn) (hi : PD X Z own ρ iter (.d (.list (l.map enc)))) (hN : X.N.Nodup) (ok : blkC X.N X.env.scope scope [(y, j)] = true)
    (hg : ∀ (s : Shared) (H : Hp) (C : Addr) (cl : List (Str × Addr)) (fp : List Addr), L2.PG (blkX X scope s H C cl fp) (.Name y px) (gName j))
    (ht : ∀ b ∈ l, ∀ D s H0 C cl fp, PBs (blkX X scope s H0 C cl fp) (Z.more D) own (ρ.set j (.d (enc b))) ifs (t b))
    (he : ∀ b ∈ l, t b = true → ∀ D s H0 C cl fp, PD (blkX X scope s H0 C cl fp) (Z.more D) own (ρ.set j (.d (enc b))) elt (.d (f b)))
    (hz : l.length < sizeLine) (hs : ∀ x, foldedSetIterable iter X.env x = pure x := by intro _; rfl) :
    PN X Z own ρ (.ListComp elt [⟨.Name y px, iter, ifs, 0⟩] scope pos) ((l.filter t).map f) := fun σ H R Q k =>
  ⟨_, pe_lcP (bs := [(y, j)]) hot hp hN pe_E (blkOk_by ok) hg ttB_ok teB_ok hs, lc_read R (fun R' k' => hi σ H R _ fun v H1 s1 q1 => by
    cases q1 with
    | @lst m vs _ hs' ha => exact ⟨m, rfl, ⟨vs, .inl (rd_same cut_full hs')⟩, k' _ H1 s1 (itOk_list hs' ha)⟩) ht he hz k⟩
/-- names.index(e), a list of bools -/
theorem bools_in {K : PySem.W.Frag} {G : Hp} : ∀ {vs : List V} {bs : List Bool}, DpAll K G vs (bs.map PyData.bool) → vs = bs.map V.bl
  | _, [], h => by cases h; rfl
  | _, b :: bs, h => by
    cases h with
    | cons h1 h2 => cases h1; rw [bools_in h2]; rfl
theorem flat_bools : ∀ bs : List Bool, (bs.map V.bl).all flatV = true
  | [] => rfl
  | b :: bs => by rw [List.map_cons, List.all_cons, flat_bools bs]; rfl
theorem pd_index {bs : List Bool} {b : Bool} {j : Nat} (ho : PD X Z own ρ o (.d (.list (bs.map PyData.bool)))) (he : PD X Z own ρ e (.d (.bool b))) (hj : bs[j]? = some b) (hno : ∀ m, m < j → bs[m]? ≠ some b)
    (hpe : PE X (.Call (.Attribute o "index" apos) [e] [] pos) (tBM X.K "list" (rIndex X.K) (tE X o) (tCons (tE X e) tNil))) : PD X Z own ρ (.Call (.Attribute o "index" apos) [e] [] pos) (.d (.int (j : Nat))) :=
  pd_of hpe fun σ H R Q k => ho σ H R _ fun v H1 s1 hv => by
    cases hv with
    | @lst a vs _ hs ha =>
      obtain rfl := bools_in ha
      have hl : SqL X.K H1 a (bs.map V.bl) := .inl (rd_same cut_full hs)
      refine ⟨.inl ⟨rfl, _, hl⟩, he σ H1 (R.mono s1) _ fun u H2 s2 hu => ?_⟩
      cases hu
      refine ⟨a, bs.map V.bl, .bl b, j, .bl b, rfl, rfl, s2.seq hl, rfl, flat_bools bs, by rw [List.getElem?_map, hj]; rfl, by cases b <;> rfl, fun m z hm hz => ?_, k _ H2 (s1.trans s2) (Dp.int _)⟩
      rw [List.getElem?_map] at hz
      cases hb : bs[m]? with
      | none => rw [hb] at hz; cases hz
      | some c =>
        rw [hb] at hz
        cases hz
        have : c ≠ b := fun z => hno m hm (by rw [hb, z])
        show (c == b) = false
        simpa using this
theorem pe_index (hbase : attributeBase o "index" X.env (eval o X.env) = eval o X.env := by rfl)
    (hfew : ((backTo pos (starEach (e :: []) X.env)).all (fun x => !x.1) && (backToKw pos (keywordEach [] X.env)).all (fun x => x.1.isSome)
      && decide ((e :: ([] : List Expr)).length + ([] : List Keyword).length + (if ([] : List Keyword).isEmpty then 0 else 1) < 30)) = true := by rfl)
    (hline : (apos.endLine == pos.line) = true := by rfl) (hs : starEach (e :: []) X.env = (false, eval e X.env) :: starEach [] X.env := by rfl) (hplain : (backTo pos (starEach [] X.env)).any (·.1) = false := by rfl) :
    PE X (.Call (.Attribute o "index" apos) [e] [] pos) (tBM X.K "list" (rIndex X.K) (tE X o) (tCons (tE X e) tNil)) :=
  pe_bm PySem.F.plainAttrs_list PySem.F.slot_list_index PySem.F.type_list_index mt_index pe_E (pa_cons pe_E pa_nil hs) hbase hfew hline hs hplain
end
end L3
set_option Elab.async false
set_option linter.all false
set_option autoImplicit false
set_option maxRecDepth 100000
set_option maxHeartbeats 4000000
namespace L3
open PySem PySem.Spec L2
local macro_rules | `(tactic| walk_at "bin") => `(tactic| first | exact bin_add | exact bin_sub | exact bin_fdiv ⟨by decide, by decide⟩ | exact bin_mod (by decide) | exact bin_pow ⟨by decide, by decide, by decide⟩ | exact bin_mul (mul_small (by decide)) | exact bin_mul (by with_reducible assumption) | exact bin_catL (.d _) (.d _) (by assumption))
local macro_rules | `(tactic| walk_at "mem") => `(tactic| first | exact List.mem_cons_self | exact List.mem_cons_of_mem _ List.mem_cons_self | exact List.mem_cons_of_mem _ (List.mem_cons_of_mem _ List.mem_cons_self) | exact List.mem_cons_of_mem _ (List.mem_cons_of_mem _ (List.mem_cons_of_mem _ List.mem_cons_self)) | exact List.mem_cons_of_mem _ (List.mem_cons_of_mem _ (List.mem_cons_of_mem _ (List.mem_cons_of_mem _ List.mem_cons_self))) | assumption)
local macro_rules | `(tactic| walk_at "asw") => `(tactic| first | exact .d _ | exact .o (by walk_at "mem") | exact .v _)
local macro_rules | `(tactic| walk_at "asl") => `(tactic| first | exact .d _ | exact .o (by walk_at "mem"))
local macro_rules | `(tactic| walk_at "len") => `(tactic| first | exact .l _ | exact .t _ | exact .o (by walk_at "mem") | exact .s _)
local macro_rules | `(tactic| walk_at "ix") => `(tactic| first | exact .t rfl | exact .l rfl | exact .l (by assumption) | exact .o (by walk_at "mem") rfl | exact .o (by walk_at "mem") (by assumption))
local macro_rules | `(tactic| walk_at "cmp") => `(tactic| first | exact cmp_eqI | exact cmp_neI | exact cmp_le | exact cmp_lt | exact cmp_ge | exact cmp_gt | exact cmp_eqB | exact cmp_neB | exact cmp_eqS | exact cmp_neS | exact cmp_isN | exact cmp_notN | exact cmp_isnotB)
local macro_rules | `(tactic| walk_at "kit") => `(tactic| first | exact kit_ii | exact kit_bb | exact kit_tt | exact kit_ll | exact kit_ib | exact kit_bi | exact kit_it | exact kit_ni | exact kit_si | exact kit_ti | exact kit_li)
def top (i : Nat) : Stmt := PySem.Challenge.pw_spanforest_k02_what_is_no_stretch.main.body.getD i (.Pass ⟨0, 0, 0, 0⟩)
abbrev sWall : Stmt := top 0
abbrev sIsNumber : Stmt := top 8
abbrev sNeedPair : Stmt := top 9
abbrev sStretchOf : Stmt := top 10
abbrev sGapsOf : Stmt := top 12
abbrev sManyAt : Stmt := top 13
abbrev sDeepestOf : Stmt := top 14
abbrev sHeightOf : Stmt := top 16
abbrev sBoxOf : Stmt := top 17
abbrev sBalanced : Stmt := top 18
abbrev sHasOne : Stmt := top 19
abbrev sWithOne : Stmt := top 20
abbrev sLeastOf : Stmt := top 21
abbrev sWithout : Stmt := top 22
abbrev sTold : Stmt := top 23
abbrev sMet : Stmt := top 24
abbrev sWoodInit : Stmt := inClass (top 26) 0
abbrev sWoodPut : Stmt := inClass (top 26) 1
abbrev sWoodTake : Stmt := inClass (top 26) 2
abbrev sWoodKeeps : Stmt := inClass (top 26) 3
abbrev sWoodBoxes : Stmt := inClass (top 26) 4
abbrev sWoodListed : Stmt := inClass (top 26) 5
abbrev sWoodTotal : Stmt := inClass (top 26) 6
abbrev sWoodHeight : Stmt := inClass (top 26) 7
abbrev sWoodMeeting : Stmt := inClass (top 26) 8
abbrev sWoodHolding : Stmt := inClass (top 26) 9
abbrev sWoodLooked : Stmt := inClass (top 26) 10
abbrev sWoodGaps : Stmt := inClass (top 26) 11
abbrev sWoodClumps : Stmt := inClass (top 26) 12
abbrev sWoodDeepest : Stmt := inClass (top 26) 13
abbrev sWoodBranch : Stmt := inClass (top 26) 14
abbrev sAt : Stmt := top 28
abbrev sThing : Stmt := top 29
abbrev sNumber : Stmt := top 30
abbrev sGood : Stmt := top 31
abbrev sCalled : Stmt := top 32
abbrev sNamed : Stmt := top 33
abbrev sWord : Stmt := top 34
abbrev sLaw : Stmt := top 35
section
variable {P : Program} {w : World} {K : PySem.W.Frag} {mg : Str → Option Value} {base : Heap}
/-! ### a cell of the script -/
def cell (ns : List Int) (k : Nat) : Int := ns.getD k 0
def ΦAt (ds : List PyData) (d : PyData) : Prop := ∃ (ns : List Int) (k : Nat), ds = [scrD ns, .int (k : Nat)] ∧ ns.length ≤ 1000 ∧ d = .int (cell ns k)
theorem cutZ_len (ns : List Int) (l u : Option Int) : (cutZ ns l u).length ≤ ns.length := by
  unfold cutZ
  rw [List.length_take, List.length_drop]
  omega
theorem at_cell (ns : List Int) (k : Nat) : atI ((cutZ ns (some (k : Int)) (some ((k : Int) + 1))).map PyData.int ++ [.int 0]) 0 = some (.int (cell ns k)) := by
  have e1 : ((k : Int) + 1) = ((k + 1 : Nat) : Int) := by omega
  unfold cutZ cell
  rw [e1, HT.sIx_nat, HT.sIx_nat]
  show atI _ ((0 : Nat) : Int) = _
  refine atI_nat ?_
  by_cases h : k < ns.length
  · have e2 : min k ns.length = k := by omega
    have e3 : min (k + 1) ns.length - k = 1 := by omega
    have e4 : (ns.drop k).take 1 = [ns[k]] := by
      rw [List.drop_eq_getElem_cons h]
      rfl
    rw [e2, e3, e4]
    simp [List.getD, h]
  · have e2 : min k ns.length = ns.length := by omega
    rw [e2, List.drop_eq_nil_of_le (Nat.le_refl _)]
    simp [List.getD, h]
theorem scAt : FnScope ["_law_script", "_law_place"] ["_law_script", "_law_place"] (defScope sAt) := ⟨rfl, rfl, rfl, by decide +kernel, rfl, by decide +kernel, by decide +kernel⟩
theorem ok_at {f : Addr} {fd : FuncData} (F : Fun K "_law_at" "_law_at" sAt f fd) : FnOk P w K mg base CX0 1 f fd ["_law_script", "_law_place"] (SpD K ΦAt) := by
  refine okD F scAt (fun ds d h => ?_) (fun cdv A outer s H E Z ds d hr h => ?_)
  · obtain ⟨_, _, rfl, _⟩ := h; rfl
  · obtain ⟨ns, k, rfl, hl, rfl⟩ := h
    have hz : ((cutZ ns (some (k : Int)) (some ((k : Int) + 1))).map PyData.int).length + [PyData.int 0].length ≤ sizeLine := by
      have h1 := cutZ_len ns (some (k : Int)) (some ((k : Int) + 1))
      rw [List.length_map]
      have h2 : sizeLine = 16777216 := sizeLine_eq
      show _ + 1 ≤ sizeLine
      omega
    have ha := at_cell ns k
    refine h_ret (pd_ix (pd_bin (pd_of_n (pn_sliceS (pd_name 0 rfl) (.some (pd_name 1 rfl)) (.some (pd_bin (pd_name 1 rfl) pd_int (by walk_at "bin"))))) (pd_of_n (pn_lst (pdd_cons pd_int pdd_nil))) (by walk_at "bin")) pd_int (by walk_at "ix")) ?_
    exact .d _
end
theorem e60 : (10 : Int) ^ (60 : Int).toNat = 1000000000000000000000000000000000000000000000000000000000000 := by decide +kernel
theorem e59 : (10 : Int) ^ (59 : Int).toNat = 100000000000000000000000000000000000000000000000000000000000 := by decide +kernel
end L3
set_option Elab.async false
set_option linter.all false
set_option autoImplicit false
set_option maxRecDepth 100000
set_option maxHeartbeats 4000000
namespace L3
open PySem PySem.Spec L2
local macro_rules | `(tactic| walk_at "bin") => `(tactic| first | exact bin_add | exact bin_sub | exact bin_fdiv ⟨by decide, by decide⟩ | exact bin_mod (by decide) | exact bin_pow ⟨by decide, by decide, by decide⟩ | exact bin_mul (mul_small (by decide)) | exact bin_mul (by with_reducible assumption) | exact bin_catL (.d _) (.d _) (by assumption))
local macro_rules | `(tactic| walk_at "mem") => `(tactic| first | exact List.mem_cons_self | exact List.mem_cons_of_mem _ List.mem_cons_self | exact List.mem_cons_of_mem _ (List.mem_cons_of_mem _ List.mem_cons_self) | exact List.mem_cons_of_mem _ (List.mem_cons_of_mem _ (List.mem_cons_of_mem _ List.mem_cons_self)) | exact List.mem_cons_of_mem _ (List.mem_cons_of_mem _ (List.mem_cons_of_mem _ (List.mem_cons_of_mem _ List.mem_cons_self))) | assumption)
local macro_rules | `(tactic| walk_at "asw") => `(tactic| first | exact .d _ | exact .o (by walk_at "mem") | exact .v _)
local macro_rules | `(tactic| walk_at "asl") => `(tactic| first | exact .d _ | exact .o (by walk_at "mem"))
local macro_rules | `(tactic| walk_at "len") => `(tactic| first | exact .l _ | exact .t _ | exact .o (by walk_at "mem") | exact .s _)
local macro_rules | `(tactic| walk_at "ix") => `(tactic| first | exact .t rfl | exact .l rfl | exact .l (by assumption) | exact .o (by walk_at "mem") rfl | exact .o (by walk_at "mem") (by assumption))
local macro_rules | `(tactic| walk_at "cmp") => `(tactic| first | exact cmp_eqI | exact cmp_neI | exact cmp_le | exact cmp_lt | exact cmp_ge | exact cmp_gt | exact cmp_eqB | exact cmp_neB | exact cmp_eqS | exact cmp_neS | exact cmp_isN | exact cmp_notN | exact cmp_isnotB)
local macro_rules | `(tactic| walk_at "kit") => `(tactic| first | exact kit_ii | exact kit_bb | exact kit_tt | exact kit_ll | exact kit_ib | exact kit_bi | exact kit_it | exact kit_ni | exact kit_si | exact kit_ti | exact kit_li)
section
variable {P : Program} {w : World} {K : PySem.W.Frag} {mg : Str → Option Value} {base : Heap}
/-- rows of whole numbers, told the very same -/
def Rows (xs : List PyData) : Prop := ∀ x ∈ xs, ∃ ns : List Int, x = .tuple (ns.map PyData.int) ∧ ns.length ≤ 1000
theorem rows_S (l : List S3) : Rows (l.map encS) := fun x hx => by
  obtain ⟨p, _, rfl⟩ := List.mem_map.mp hx
  exact ⟨[p.1, p.2.1, p.2.2], rfl, by simp⟩
theorem drop_at {row : List S3} {k : Nat} {d : PyData} (h : (row.map encS)[k]? = some d) : ∃ (hk : k < row.length), d = encS row[k] ∧ row.drop k = row[k] :: row.drop (k + 1) := by
  have hk : k < row.length := by
    have := (List.getElem?_eq_some_iff.mp h).1
    rwa [List.length_map] at this
  refine ⟨hk, ?_, List.drop_eq_getElem_cons hk⟩
  rw [List.getElem?_map, List.getElem?_eq_getElem hk] at h
  exact (Option.some.inj h).symm
/-! ### what is a number -/
def MOSTI : Int := 999999999999999999999999999999999999999999999999999999999999
def InR (n : Int) : Prop := -MOSTI ≤ n ∧ n ≤ MOSTI
def isNum : PyData → Bool
  | .int n => decide (-MOSTI ≤ n) && decide (n ≤ MOSTI)
  | _ => false
/-- what stands for a low, a high or a mark -/
inductive Thing : PyData → Prop where
  | int (n : Int) : Thing (.int n)
  | bool (b : Bool) : Thing (.bool b)
  | non : Thing .none
  | str (s : Str) : Thing (.str s)
  | tup (ds : List PyData) : Thing (.tuple ds)
  | lst (ds : List PyData) : Thing (.list ds)
def ΦNum (ds : List PyData) (d : PyData) : Prop := ∃ x : PyData, ds = [x] ∧ Thing x ∧ d = .bool (isNum x)
theorem scIsNumber : FnScope ["value"] ["value"] (defScope sIsNumber) := ⟨rfl, rfl, rfl, by decide +kernel, rfl, by decide +kernel, by decide +kernel⟩
theorem ok_isNumber {f : Addr} {fd : FuncData} {t : Tok} (F : Fun K "is_number" "is_number" sIsNumber f fd) (misi : mg "isinstance" = none) (mint : mg "int" = none) (mbool : mg "bool" = none) (mMOST : mg "MOST" = some (.int MOSTI t)) :
    FnOk P w K mg base CX0 1 f fd ["value"] (SpD K ΦNum) := by
  refine okD F scIsNumber (fun ds d h => ?_) (fun cdv A outer s H E Z ds d hr h => ?_)
  · obtain ⟨_, rfl, _⟩ := h; rfl
  · obtain ⟨x, rfl, th, rfl⟩ := h
    cases th with
    | int n =>
      exact h_ret (pda_and (pd_isi (pw_of (pd_name 0 rfl) (.d _)) kit_ii (by assumption) (by assumption) boot_int) fun _ => (pda_and (pd_not (pd_isi (pw_of (pd_name 0 rfl) (.d _)) kit_ib (by assumption) (by assumption) boot_bool)) fun _ => (pda_one (pd_chain (pw_of (pd_neg (pd_globI (by rfl) mMOST)) (.d _)) (pw_of (pd_name 0 rfl) (.d _)) (fun _ => (pw_of (pd_globI (by rfl) mMOST) (.d _))) cmp_le cmp_le)))) (.d _)
    | bool b => exact h_ret (pda_and (pd_isi (pw_of (pd_name 0 rfl) (.d _)) kit_bi (by assumption) (by assumption) boot_int) fun _ => (pda_and (q := false) (pd_not (pd_isi (pw_of (pd_name 0 rfl) (.d _)) kit_bb (by assumption) (by assumption) boot_bool)) fun h => absurd h (by decide))) (.d _)
    | non => exact h_ret (pda_and (q := false) (pd_isi (pw_of (pd_name 0 rfl) (.d _)) kit_ni (by assumption) (by assumption) boot_int) fun h => absurd h (by decide)) (.d _)
    | str _ => exact h_ret (pda_and (q := false) (pd_isi (pw_of (pd_name 0 rfl) (.d _)) kit_si (by assumption) (by assumption) boot_int) fun h => absurd h (by decide)) (.d _)
    | tup _ => exact h_ret (pda_and (q := false) (pd_isi (pw_of (pd_name 0 rfl) (.d _)) kit_ti (by assumption) (by assumption) boot_int) fun h => absurd h (by decide)) (.d _)
    | lst _ => exact h_ret (pda_and (q := false) (pd_isi (pw_of (pd_name 0 rfl) (.d _)) kit_li (by assumption) (by assumption) boot_int) fun h => absurd h (by decide)) (.d _)
theorem isNum_in {n : Int} (h : InR n) : isNum (.int n) = true := by
  show (decide (-MOSTI ≤ n) && decide (n ≤ MOSTI)) = true
  rw [decide_eq_true h.1, decide_eq_true h.2]
  rfl
theorem num_in {d : PyData} (h : isNum d = true) : ∃ n : Int, d = .int n ∧ InR n := by
  cases d with
  | int n =>
    have h : (decide (-MOSTI ≤ n) && decide (n ≤ MOSTI)) = true := h
    rw [Bool.and_eq_true] at h
    exact ⟨n, rfl, of_decide_eq_true h.1, of_decide_eq_true h.2⟩
  | _ => cases h
def gtD : PyData → PyData → Bool
  | .int a, .int b => decide (b < a)
  | _, _ => false
/-- no low and high -/
def badP (lo hi : PyData) : Bool := !isNum lo || (!isNum hi || gtD lo hi)
theorem good_pair {lo hi : PyData} (h : badP lo hi = false) : ∃ a b : Int, lo = .int a ∧ hi = .int b ∧ InR a ∧ InR b ∧ a ≤ b := by
  unfold badP at h
  rw [Bool.or_eq_false_iff, Bool.or_eq_false_iff, Bool.not_eq_false', Bool.not_eq_false'] at h
  obtain ⟨h1, h2, h3⟩ := h
  obtain ⟨a, rfl, ra⟩ := num_in h1
  obtain ⟨b, rfl, rb⟩ := num_in h2
  have h3 : decide (b < a) = false := h3
  exact ⟨a, b, rfl, rfl, ra, rb, by have := of_decide_eq_false h3; omega⟩
def ΦPair (ds : List PyData) (d : PyData) : Prop := ∃ l h : Int, ds = [.int l, .int h] ∧ InR l ∧ InR h ∧ l ≤ h ∧ d = .none
theorem scNeedPair : FnScope ["low", "high"] ["low", "high"] (defScope sNeedPair) := ⟨rfl, rfl, rfl, by decide +kernel, rfl, by decide +kernel, by decide +kernel⟩
theorem ok_needPair {f : Addr} {fd : FuncData} (F : Fun K "need_pair" "need_pair" sNeedPair f fd) (cIsNumber : Cal P w K mg base 1 "is_number" ["value"] (SpD K ΦNum)) : FnOk P w K mg base CX0 2 f fd ["low", "high"] (SpD K ΦPair) := by
  refine okD F scNeedPair (fun ds d h => ?_) (fun cdv A outer s H E Z ds d hr h => ?_)
  · obtain ⟨_, _, rfl, _⟩ := h; rfl
  · obtain ⟨l, h, rfl, hl, hh, hlh, rfl⟩ := h
    refine h_if (pb_bo (pbo_cons (pb_not (pb_val (pd_fn cIsNumber (hr.mono (by decide)) (pdd_cons (pd_name 0 rfl) pdd_nil) ⟨_, rfl, .int _, rfl⟩))) fun _ => (pbo_cons (pb_not (pb_val (pd_fn cIsNumber (hr.mono (by decide)) (pdd_cons (pd_name 1 rfl) pdd_nil) ⟨_, rfl, .int _, rfl⟩))) fun _ => (pbo_one (pb_cmp (pw_of (pd_name 0 rfl) (.d _)) (pw_of (pd_name 1 rfl) (.d _)) cmp_gt (nomark _)))))) (fun hb => ?_) (fun hb => ?_)
    · rw [isNum_in hl, isNum_in hh, decide_eq_false (by omega)] at hb
      exact absurd hb (by decide)
    · exact h_nil (h_nil (.d _))
/-! ### what is none -/
def ΦPairB (bc : Addr) (ds : List PyData) (cc : Addr) : Prop := ∃ lo hi : PyData, ds = [lo, hi] ∧ Thing lo ∧ Thing hi ∧ badP lo hi = true ∧ cc = bc
theorem ok_pairB {f : Addr} {fd : FuncData} {bc : Addr} (F : Fun K "need_pair" "need_pair" sNeedPair f fd) (B : ExcT K mg "BadStretch" bc) (cIsNumber : Cal P w K mg base 1 "is_number" ["value"] (SpD K ΦNum)) : FnOk P w K mg base (CXN P w) 2 f fd ["low", "high"] (SpX K (ΦPairB bc)) := by
  refine okXN F scNeedPair (fun ds d h => ?_) (fun cdv A outer s H E Z ds cc W hr tk h => ?_)
  · obtain ⟨_, _, rfl, _⟩ := h; rfl
  · obtain ⟨lo, hi, rfl, t1, t2, hb0, rfl⟩ := h
    refine hx_if (b := badP lo hi) (pb_bo (pbo_cons (pb_not (pb_val (pd_fn cIsNumber (hr.mono (by decide)) (pdd_cons (pd_name 0 rfl) pdd_nil) ⟨_, rfl, t1, rfl⟩))) fun h1 => (pbo_cons (pb_not (pb_val (pd_fn cIsNumber (hr.mono (by decide)) (pdd_cons (pd_name 1 rfl) pdd_nil) ⟨_, rfl, t2, rfl⟩))) fun h2 => (pbo_one (p := gtD lo hi) ?_)))) (fun hb => ?_) (fun hb => ?_)
    · obtain ⟨a, rfl, _⟩ := num_in (by simpa using h1)
      obtain ⟨b, rfl, _⟩ := num_in (by simpa using h2)
      exact pb_cmp (pw_of (pd_name 0 rfl) (.d _)) (pw_of (pd_name 1 rfl) (.d _)) cmp_gt (nomark _)
    · exact hx_raiseN B tk rfl
    · rw [hb0] at hb
      exact absurd hb (by decide)
end
end L3
set_option Elab.async false
set_option linter.all false
set_option autoImplicit false
set_option maxRecDepth 100000
set_option maxHeartbeats 4000000
namespace L3
open PySem PySem.Spec L2
local macro_rules | `(tactic| walk_at "bin") => `(tactic| first | exact bin_add | exact bin_sub | exact bin_fdiv ⟨by decide, by decide⟩ | exact bin_mod (by decide) | exact bin_pow ⟨by decide, by decide, by decide⟩ | exact bin_mul (mul_small (by decide)) | exact bin_mul (by with_reducible assumption) | exact bin_catL (.d _) (.d _) (by assumption))
local macro_rules | `(tactic| walk_at "mem") => `(tactic| first | exact List.mem_cons_self | exact List.mem_cons_of_mem _ List.mem_cons_self | exact List.mem_cons_of_mem _ (List.mem_cons_of_mem _ List.mem_cons_self) | exact List.mem_cons_of_mem _ (List.mem_cons_of_mem _ (List.mem_cons_of_mem _ List.mem_cons_self)) | exact List.mem_cons_of_mem _ (List.mem_cons_of_mem _ (List.mem_cons_of_mem _ (List.mem_cons_of_mem _ List.mem_cons_self))) | assumption)
local macro_rules | `(tactic| walk_at "asw") => `(tactic| first | exact .d _ | exact .o (by walk_at "mem") | exact .v _)
local macro_rules | `(tactic| walk_at "asl") => `(tactic| first | exact .d _ | exact .o (by walk_at "mem"))
local macro_rules | `(tactic| walk_at "len") => `(tactic| first | exact .l _ | exact .t _ | exact .o (by walk_at "mem") | exact .s _)
local macro_rules | `(tactic| walk_at "ix") => `(tactic| first | exact .t rfl | exact .l rfl | exact .l (by assumption) | exact .o (by walk_at "mem") rfl | exact .o (by walk_at "mem") (by assumption))
local macro_rules | `(tactic| walk_at "cmp") => `(tactic| first | exact cmp_eqI | exact cmp_neI | exact cmp_le | exact cmp_lt | exact cmp_ge | exact cmp_gt | exact cmp_eqB | exact cmp_neB | exact cmp_eqS | exact cmp_neS | exact cmp_isN | exact cmp_notN | exact cmp_isnotB)
local macro_rules | `(tactic| walk_at "kit") => `(tactic| first | exact kit_ii | exact kit_bb | exact kit_tt | exact kit_ll | exact kit_ib | exact kit_bi | exact kit_it | exact kit_ni | exact kit_si | exact kit_ti | exact kit_li)
section
variable {P : Program} {w : World} {K : PySem.W.Frag} {mg : Str → Option Value} {base : Heap}
/-! ### the tree's defs -/
def ΦHt (ds : List PyData) (d : PyData) : Prop := ∃ t : T, ds = [encT t] ∧ d = .int t.ht
theorem scHeightOf : FnScope ["box"] ["box"] (defScope sHeightOf) := ⟨rfl, rfl, rfl, by decide +kernel, rfl, by decide +kernel, by decide +kernel⟩
theorem ok_heightOf {f : Addr} {fd : FuncData} (F : Fun K "height_of" "height_of" sHeightOf f fd) : FnOk P w K mg base CX0 1 f fd ["box"] (SpD K ΦHt) := by
  refine okD F scHeightOf (fun ds d h => ?_) (fun cdv A outer s H E Z ds d hr h => ?_)
  · obtain ⟨_, rfl, _⟩ := h; rfl
  · obtain ⟨t, rfl, rfl⟩ := h
    refine h_if (pb_cmp (pw_of (pd_name 0 rfl) (by walk_at "asw")) (pw_of pd_non (by walk_at "asw")) cmp_isT (nomark _)) (fun hb => ?_) (fun hb => ?_)
    · have e : t.ht = 0 := by
        cases t with
        | nil => rfl
        | node => exact Bool.noConfusion (show false = true from hb)
      rw [e]
      exact h_ret pd_int (.d _)
    · have n : t.isNode = true := by simpa using hb
      exact h_nil (h_ret (pd_ix (pd_name 0 rfl) pd_int (ix_ht n)) (.d _))
def ΦBox (ds : List PyData) (d : PyData) : Prop := ∃ (l : T) (s : S3) (r : T), ds = [encT l, encS s, encT r] ∧ d = encT (T.box l s r)
theorem scBoxOf : FnScope ["left", "stretch", "right", "reach"] ["left", "stretch", "right"] (defScope sBoxOf) := ⟨rfl, rfl, rfl, by decide +kernel, rfl, by decide +kernel, by decide +kernel⟩
theorem ok_boxOf {f : Addr} {fd : FuncData} (F : Fun K "box_of" "box_of" sBoxOf f fd) (cHeightOf : Cal P w K mg base 1 "height_of" ["box"] (SpD K ΦHt)) (mmax : mg "max" = none) : FnOk P w K mg base CX0 2 f fd ["left", "stretch", "right"] (SpD K ΦBox) := by
  refine okD F scBoxOf (fun ds d h => ?_) (fun cdv A outer s H E Z ds d hr h => ?_)
  · obtain ⟨_, _, _, rfl, _⟩ := h; rfl
  · obtain ⟨l, s, r, rfl, rfl⟩ := h
    refine h_set 3 (pd_ix (pd_name 1 rfl) pd_int (by walk_at "ix")) ?_ scBoxOf.nd
    refine h_ifSetI 3 (pb_cmp (pw_of (pd_name 0 rfl) (by walk_at "asw")) (pw_of pd_non (by walk_at "asw")) cmp_notT (nomark _)) rfl (fun hb => (pd_max2 (pd_name 3 rfl) (pd_ix (pd_name 0 rfl) pd_int (ix_mx hb)) (by assumption))) ?_ scBoxOf.nd
    refine h_ifSetI 3 (pb_cmp (pw_of (pd_name 2 rfl) (by walk_at "asw")) (pw_of pd_non (by walk_at "asw")) cmp_notT (nomark _)) rfl (fun hb => (pd_max2 (pd_name 3 rfl) (pd_ix (pd_name 2 rfl) pd_int (ix_mx hb)) (by assumption))) ?_ scBoxOf.nd
    refine h_ret (pd_tup (pdd_cons (pd_name 0 rfl) (pdd_cons (pd_name 1 rfl) (pdd_cons (pd_name 2 rfl) (pdd_cons (pd_bin pd_int (pd_max2 (pd_fn cHeightOf (hr.mono (by decide)) (pdd_cons (pd_name 0 rfl) pdd_nil) ⟨l, rfl, rfl⟩) (pd_fn cHeightOf (hr.mono (by decide)) (pdd_cons (pd_name 2 rfl) pdd_nil) ⟨r, rfl, rfl⟩) (by assumption)) (by walk_at "bin")) (pdd_cons (pd_name 3 rfl) pdd_nil)))))) ?_
    exact .d _
def ΦBal (ds : List PyData) (d : PyData) : Prop := ∃ (l : T) (s : S3) (r : T), ds = [encT l, encS s, encT r] ∧ T.Av l ∧ T.Av r ∧ d = encT (T.bal l s r)
theorem scBalanced : FnScope ["left", "stretch", "right", "inner", "first", "last"] ["left", "stretch", "right"] (defScope sBalanced) := ⟨rfl, rfl, rfl, by decide +kernel, rfl, by decide +kernel, by decide +kernel⟩
theorem ok_balanced {f : Addr} {fd : FuncData} (F : Fun K "balanced" "balanced" sBalanced f fd) (cHeightOf : Cal P w K mg base 1 "height_of" ["box"] (SpD K ΦHt)) (cBoxOf : Cal P w K mg base 2 "box_of" ["left", "stretch", "right"] (SpD K ΦBox)) : FnOk P w K mg base CX0 3 f fd ["left", "stretch", "right"] (SpD K ΦBal) := by
  refine okD F scBalanced (fun ds d h => ?_) (fun cdv A outer s H E Z ds d hr h => ?_)
  · obtain ⟨_, _, _, rfl, _⟩ := h; rfl
  · obtain ⟨l, s, r, rfl, al, ar, rfl⟩ := h
    have l0 := (T.ht_nn al).1
    have r0 := (T.ht_nn ar).1
    refine h_if (pb_cmp (pw_of (pd_fn cHeightOf (hr.mono (by decide)) (pdd_cons (pd_name 0 rfl) pdd_nil) ⟨l, rfl, rfl⟩) (by walk_at "asw")) (pw_of (pd_bin (pd_fn cHeightOf (hr.mono (by decide)) (pdd_cons (pd_name 2 rfl) pdd_nil) ⟨r, rfl, rfl⟩) pd_int (by walk_at "bin")) (by walk_at "asw")) (by walk_at "cmp") (nomark _)) (fun hb => ?_) (fun hb => ?_)
    · have c := of_decide_eq_true hb
      have nl : l.isNode = true := T.node_of (by omega)
      refine h_set 3 (pd_ix (pd_name 0 rfl) pd_int (ix_rt nl)) ?_ scBalanced.nd
      refine h_if (pb_cmp (pw_of (pd_fn cHeightOf (hr.mono (by decide)) (pdd_cons (pd_ix (pd_name 0 rfl) pd_int (ix_lf nl)) pdd_nil) ⟨l.lf, rfl, rfl⟩) (by walk_at "asw")) (pw_of (pd_fn cHeightOf (hr.mono (by decide)) (pdd_cons (pd_name 3 rfl) pdd_nil) ⟨l.rt, rfl, rfl⟩) (by walk_at "asw")) (by walk_at "cmp") (nomark _)) (fun hb2 => ?_) (fun hb2 => ?_)
      · have e : T.bal l s r = T.box l.lf l.st (T.box l.rt s r) := by unfold T.bal; rw [if_pos hb, if_pos hb2]
        rw [e]
        refine h_ret (pd_fn cBoxOf (hr.mono (by decide)) (pdd_cons (pd_ix (pd_name 0 rfl) pd_int (ix_lf nl)) (pdd_cons (pd_ix (pd_name 0 rfl) pd_int (ix_st nl)) (pdd_cons (pd_fn cBoxOf (hr.mono (by decide)) (pdd_cons (pd_name 3 rfl) (pdd_cons (pd_name 1 rfl) (pdd_cons (pd_name 2 rfl) pdd_nil))) ⟨l.rt, s, r, rfl, rfl⟩) pdd_nil))) ⟨l.lf, l.st, T.box l.rt s r, rfl, rfl⟩) (.d _)
      · have c2 : ¬ l.rt.ht ≤ l.lf.ht := fun z => by rw [decide_eq_true z] at hb2; exact absurd hb2 (by decide)
        have q := (T.ht_nn (T.av_lf al)).1
        have nr : l.rt.isNode = true := T.node_of (by omega)
        have e : T.bal l s r = T.box (T.box l.lf l.st l.rt.lf) l.rt.st (T.box l.rt.rt s r) := by unfold T.bal; rw [if_pos hb, if_neg (by rw [hb2]; exact Bool.false_ne_true)]
        rw [e]
        refine h_nil (h_set 4 (pd_fn cBoxOf (hr.mono (by decide)) (pdd_cons (pd_ix (pd_name 0 rfl) pd_int (ix_lf nl)) (pdd_cons (pd_ix (pd_name 0 rfl) pd_int (ix_st nl)) (pdd_cons (pd_ix (pd_name 3 rfl) pd_int (ix_lf nr)) pdd_nil))) ⟨l.lf, l.st, l.rt.lf, rfl, rfl⟩) ?_ scBalanced.nd)
        refine h_ret (pd_fn cBoxOf (hr.mono (by decide)) (pdd_cons (pd_name 4 rfl) (pdd_cons (pd_ix (pd_name 3 rfl) pd_int (ix_st nr)) (pdd_cons (pd_fn cBoxOf (hr.mono (by decide)) (pdd_cons (pd_ix (pd_name 3 rfl) pd_int (ix_rt nr)) (pdd_cons (pd_name 1 rfl) (pdd_cons (pd_name 2 rfl) pdd_nil))) ⟨l.rt.rt, s, r, rfl, rfl⟩) pdd_nil))) ⟨T.box l.lf l.st l.rt.lf, l.rt.st, T.box l.rt.rt s r, rfl, rfl⟩) (.d _)
    · refine h_nil (h_if (pb_cmp (pw_of (pd_fn cHeightOf (hr.mono (by decide)) (pdd_cons (pd_name 2 rfl) pdd_nil) ⟨r, rfl, rfl⟩) (by walk_at "asw")) (pw_of (pd_bin (pd_fn cHeightOf (hr.mono (by decide)) (pdd_cons (pd_name 0 rfl) pdd_nil) ⟨l, rfl, rfl⟩) pd_int (by walk_at "bin")) (by walk_at "asw")) (by walk_at "cmp") (nomark _)) (fun hc => ?_) (fun hc => ?_))
      · have c := of_decide_eq_true hc
        have nr : r.isNode = true := T.node_of (by omega)
        refine h_set 3 (pd_ix (pd_name 2 rfl) pd_int (ix_lf nr)) ?_ scBalanced.nd
        refine h_if (pb_cmp (pw_of (pd_fn cHeightOf (hr.mono (by decide)) (pdd_cons (pd_ix (pd_name 2 rfl) pd_int (ix_rt nr)) pdd_nil) ⟨r.rt, rfl, rfl⟩) (by walk_at "asw")) (pw_of (pd_fn cHeightOf (hr.mono (by decide)) (pdd_cons (pd_name 3 rfl) pdd_nil) ⟨r.lf, rfl, rfl⟩) (by walk_at "asw")) (by walk_at "cmp") (nomark _)) (fun hb2 => ?_) (fun hb2 => ?_)
        · have e : T.bal l s r = T.box (T.box l s r.lf) r.st r.rt := by unfold T.bal; rw [if_neg (by rw [hb]; exact Bool.false_ne_true), if_pos hc, if_pos hb2]
          rw [e]
          refine h_ret (pd_fn cBoxOf (hr.mono (by decide)) (pdd_cons (pd_fn cBoxOf (hr.mono (by decide)) (pdd_cons (pd_name 0 rfl) (pdd_cons (pd_name 1 rfl) (pdd_cons (pd_name 3 rfl) pdd_nil))) ⟨l, s, r.lf, rfl, rfl⟩) (pdd_cons (pd_ix (pd_name 2 rfl) pd_int (ix_st nr)) (pdd_cons (pd_ix (pd_name 2 rfl) pd_int (ix_rt nr)) pdd_nil))) ⟨T.box l s r.lf, r.st, r.rt, rfl, rfl⟩) (.d _)
        · have c2 : ¬ r.lf.ht ≤ r.rt.ht := fun z => by rw [decide_eq_true z] at hb2; exact absurd hb2 (by decide)
          have q := (T.ht_nn (T.av_rt ar)).1
          have nl : r.lf.isNode = true := T.node_of (by omega)
          have e : T.bal l s r = T.box (T.box l s r.lf.lf) r.lf.st (T.box r.lf.rt r.st r.rt) := by unfold T.bal; rw [if_neg (by rw [hb]; exact Bool.false_ne_true), if_pos hc, if_neg (by rw [hb2]; exact Bool.false_ne_true)]
          rw [e]
          refine h_nil (h_set 5 (pd_fn cBoxOf (hr.mono (by decide)) (pdd_cons (pd_ix (pd_name 3 rfl) pd_int (ix_rt nl)) (pdd_cons (pd_ix (pd_name 2 rfl) pd_int (ix_st nr)) (pdd_cons (pd_ix (pd_name 2 rfl) pd_int (ix_rt nr)) pdd_nil))) ⟨r.lf.rt, r.st, r.rt, rfl, rfl⟩) ?_ scBalanced.nd)
          refine h_ret (pd_fn cBoxOf (hr.mono (by decide)) (pdd_cons (pd_fn cBoxOf (hr.mono (by decide)) (pdd_cons (pd_name 0 rfl) (pdd_cons (pd_name 1 rfl) (pdd_cons (pd_ix (pd_name 3 rfl) pd_int (ix_lf nl)) pdd_nil))) ⟨l, s, r.lf.lf, rfl, rfl⟩) (pdd_cons (pd_ix (pd_name 3 rfl) pd_int (ix_st nl)) (pdd_cons (pd_name 5 rfl) pdd_nil))) ⟨T.box l s r.lf.lf, r.lf.st, T.box r.lf.rt r.st r.rt, rfl, rfl⟩) (.d _)
      · have e : T.bal l s r = T.box l s r := by unfold T.bal; rw [if_neg (by rw [hb]; exact Bool.false_ne_true), if_neg (by rw [hc]; exact Bool.false_ne_true)]
        rw [e]
        exact h_nil (h_ret (pd_fn cBoxOf (hr.mono (by decide)) (pdd_cons (pd_name 0 rfl) (pdd_cons (pd_name 1 rfl) (pdd_cons (pd_name 2 rfl) pdd_nil))) ⟨l, s, r, rfl, rfl⟩) (.d _))
def ΦHas (ds : List PyData) (d : PyData) : Prop := ∃ (t : T) (x : S3), ds = [encT t, encS x] ∧ d = .bool (t.has x)
theorem scHasOne : FnScope ["box", "stretch"] ["box", "stretch"] (defScope sHasOne) := ⟨rfl, rfl, rfl, by decide +kernel, rfl, by decide +kernel, by decide +kernel⟩
theorem ok_hasOne {f : Addr} {fd : FuncData} (F : Fun K "has_one" "has_one" sHasOne f fd) : FnOk P w K mg base CX0 1 f fd ["box", "stretch"] (SpD K ΦHas) := by
  refine okD F scHasOne (fun ds d h => ?_) (fun cdv A outer s H E Z ds d hr h => ?_)
  · obtain ⟨_, _, rfl, _⟩ := h; rfl
  · obtain ⟨t0, x, rfl, rfl⟩ := h
    refine h_while (fun m own ρ => own = [] ∧ ∃ t : T, ρ = [.d (encT t), .d (encS x)] ∧ t.has x = t0.has x ∧ t.dep = m) t0.dep ⟨rfl, t0, rfl, rfl, rfl⟩ (fun F m own' ρ' j => ?_)
    obtain ⟨rfl, t, rfl, he, rfl⟩ := j
    refine ⟨_, (pb_cmp (pw_of (pd_name 0 rfl) (by walk_at "asw")) (pw_of pd_non (by walk_at "asw")) cmp_notT (nomark _)), fun n => ?_, fun n => ?_⟩
    · rw [T.has_node n] at he
      refine h_if (pb_cmp (pw_of (pd_name 1 rfl) (by walk_at "asw")) (pw_of (pd_ix (pd_name 0 rfl) pd_int (ix_st n)) (by walk_at "asw")) (cmp_eqSS hr) (nomark _)) (fun hb => ?_) (fun hb => ?_)
      · rw [if_pos hb] at he
        rw [← he]
        exact h_ret pd_bl (.d _)
      · rw [if_neg (by rw [hb]; exact Bool.false_ne_true)] at he
        refine h_nil (h_if (pb_cmp (pw_of (pd_name 1 rfl) (by walk_at "asw")) (pw_of (pd_ix (pd_name 0 rfl) pd_int (ix_st n)) (by walk_at "asw")) (cmp_ltSS hr) (nomark _)) (fun hb2 => ?_) (fun hb2 => ?_))
        · rw [if_pos hb2] at he
          exact h_set 0 (pd_ix (pd_name 0 rfl) pd_int (ix_lf n)) (h_nil (h_nil ⟨_, T.dep_lf n, rfl, t.lf, rfl, he, rfl⟩)) scHasOne.nd
        · rw [if_neg (by rw [hb2]; exact Bool.false_ne_true)] at he
          exact h_set 0 (pd_ix (pd_name 0 rfl) pd_int (ix_rt n)) (h_nil (h_nil ⟨_, T.dep_rt n, rfl, t.rt, rfl, he, rfl⟩)) scHasOne.nd
    · have e : t = .nil := by
        cases t with
        | nil => rfl
        | node => exact Bool.noConfusion (show true = false from n)
      subst e
      rw [← he]
      exact h_ret pd_bl (.d _)
def ΦWit (n : Nat) (ds : List PyData) (d : PyData) : Prop := ∃ (t : T) (x : S3), ds = [encT t, encS x] ∧ t.dep ≤ n ∧ T.Av t ∧ Srt t.toL ∧ x ∉ t.toL ∧ d = encT (t.wit x)
theorem scWithOne : FnScope ["box", "stretch"] ["box", "stretch"] (defScope sWithOne) := ⟨rfl, rfl, rfl, by decide +kernel, rfl, by decide +kernel, by decide +kernel⟩
theorem ok_withOne {f : Addr} {fd : FuncData} (F : Fun K "with_one" "with_one" sWithOne f fd) (hg : mg "with_one" = some (.ref f)) (hk : PySem.W.keepIn K (.ref f) = true) (hbi : Binds K fd ["box", "stretch"] [])
    (cBoxOf : Cal P w K mg base 2 "box_of" ["left", "stretch", "right"] (SpD K ΦBox)) (cBalanced : Cal P w K mg base 3 "balanced" ["left", "stretch", "right"] (SpD K ΦBal)) : ∀ n, FnOk P w K mg base CX0 (4 + n) f fd ["box", "stretch"] (SpD K (ΦWit n)) := by
  have step : ∀ n, (∀ m, n = m + 1 → Cal P w K mg base (4 + m) "with_one" ["box", "stretch"] (SpD K (ΦWit m))) → FnOk P w K mg base CX0 (3 + n + 1) f fd ["box", "stretch"] (SpD K (ΦWit n)) := fun n ih => by
    refine okD F scWithOne (fun ds d h => ?_) (fun cdv A outer s H E Z ds d hr h => ?_)
    · obtain ⟨_, _, rfl, _⟩ := h; rfl
    · obtain ⟨t, x, rfl, hd, av, hs, hx, rfl⟩ := h
      have hr2 : Room 2 _ := hr.mono (by omega)
      have hr3 : Room 3 _ := hr.mono (by omega)
      refine h_if (pb_cmp (pw_of (pd_name 0 rfl) (by walk_at "asw")) (pw_of pd_non (by walk_at "asw")) cmp_isT (nomark _)) (fun hb => ?_) (fun hb => ?_)
      · have e : t = .nil := by
          cases t with
          | nil => rfl
          | node => exact Bool.noConfusion (show false = true from hb)
        subst e
        exact h_ret (pd_fn cBoxOf hr2 (pdd_cons pd_non (pdd_cons (pd_name 1 rfl) (pdd_cons pd_non pdd_nil))) ⟨.nil, x, .nil, rfl, rfl⟩) (.d _)
      · cases t with
        | nil => exact absurd hb (by decide)
        | node l y r h m =>
          obtain ⟨av1, av2, _⟩ := id av
          obtain ⟨s1, s2, _, _⟩ := srt_mid hs
          have n1 : x ∉ l.toL := fun z => hx (List.mem_append_left _ z)
          have n2 : x ∉ r.toL := fun z => hx (List.mem_append_right _ (List.mem_cons_of_mem _ z))
          have hd' : max l.dep r.dep + 1 ≤ n := hd
          obtain ⟨m', rfl⟩ : ∃ m', n = m' + 1 := ⟨n - 1, by omega⟩
          have cWithOne := ih m' rfl
          have hrn : Room (4 + m') _ := hr.mono (by omega)
          refine h_nil (h_if (pb_cmp (pw_of (pd_name 1 rfl) (by walk_at "asw")) (pw_of (pd_ix (pd_name 0 rfl) pd_int (ix_st rfl)) (by walk_at "asw")) (cmp_ltSS hr) (nomark _)) (fun hb2 => ?_) (fun hb2 => ?_))
          · have e : T.wit (.node l y r h m) x = T.bal (l.wit x) y r := by rw [T.wit]; exact if_pos hb2
            rw [e]
            exact h_ret (pd_fn cBalanced hr3 (pdd_cons (pd_fn cWithOne hrn (pdd_cons (pd_ix (pd_name 0 rfl) pd_int (ix_lf rfl)) (pdd_cons (pd_name 1 rfl) pdd_nil)) ⟨l, x, rfl, by omega, av1, s1, n1, rfl⟩) (pdd_cons (pd_ix (pd_name 0 rfl) pd_int (ix_st rfl)) (pdd_cons (pd_ix (pd_name 0 rfl) pd_int (ix_rt rfl)) pdd_nil))) ⟨l.wit x, y, r, rfl, (T.wit_ok av1 s1 n1).1, av2, rfl⟩) (.d _)
          · have e : T.wit (.node l y r h m) x = T.bal l y (r.wit x) := by rw [T.wit]; exact if_neg (by rw [show decide (sLtP x y) = false from hb2]; exact Bool.false_ne_true)
            rw [e]
            exact h_nil (h_ret (pd_fn cBalanced hr3 (pdd_cons (pd_ix (pd_name 0 rfl) pd_int (ix_lf rfl)) (pdd_cons (pd_ix (pd_name 0 rfl) pd_int (ix_st rfl)) (pdd_cons (pd_fn cWithOne hrn (pdd_cons (pd_ix (pd_name 0 rfl) pd_int (ix_rt rfl)) (pdd_cons (pd_name 1 rfl) pdd_nil)) ⟨r, x, rfl, by omega, av2, s2, n2, rfl⟩) pdd_nil))) ⟨l, y, r.wit x, rfl, av1, (T.wit_ok av2 s2 n2).1, rfl⟩) (.d _))
  intro n
  induction n with
  | zero => exact step 0 fun m e => absurd e (by omega)
  | succ n ih =>
    have e : 4 + (n + 1) = 3 + (n + 1) + 1 := by omega
    rw [e]
    exact step (n + 1) fun m e => by
      obtain rfl : n = m := by omega
      exact ⟨_, _, ih, hg, hk, hbi⟩
def ΦLea (ds : List PyData) (d : PyData) : Prop := ∃ t : T, ds = [encT t] ∧ t.isNode = true ∧ d = encS t.lea
theorem scLeastOf : FnScope ["box"] ["box"] (defScope sLeastOf) := ⟨rfl, rfl, rfl, by decide +kernel, rfl, by decide +kernel, by decide +kernel⟩
theorem ok_leastOf {f : Addr} {fd : FuncData} (F : Fun K "least_of" "least_of" sLeastOf f fd) : FnOk P w K mg base CX0 1 f fd ["box"] (SpD K ΦLea) := by
  refine okD F scLeastOf (fun ds d h => ?_) (fun cdv A outer s H E Z ds d hr h => ?_)
  · obtain ⟨_, rfl, _⟩ := h; rfl
  · obtain ⟨t0, rfl, n0, rfl⟩ := h
    refine h_while (fun m own ρ => own = [] ∧ ∃ t : T, ρ = [.d (encT t)] ∧ t.isNode = true ∧ t.lea = t0.lea ∧ t.dep = m) t0.dep ⟨rfl, t0, rfl, n0, rfl, rfl⟩ (fun F m own' ρ' j => ?_)
    obtain ⟨rfl, t, rfl, n, he, rfl⟩ := j
    refine ⟨_, (pb_cmp (pw_of (pd_ix (pd_name 0 rfl) pd_int (ix_lf n)) (by walk_at "asw")) (pw_of pd_non (by walk_at "asw")) cmp_notT (nomark _)), fun n2 => ?_, fun n2 => ?_⟩
    · rw [T.lea_left n n2] at he
      exact h_set 0 (pd_ix (pd_name 0 rfl) pd_int (ix_lf n)) (h_nil ⟨_, T.dep_lf n, rfl, t.lf, rfl, n2, he, rfl⟩) scLeastOf.nd
    · rw [T.lea_here n n2] at he
      rw [← he]
      exact h_ret (pd_ix (pd_name 0 rfl) pd_int (ix_st n)) (.d _)
def ΦWio (n : Nat) (ds : List PyData) (d : PyData) : Prop := ∃ (t : T) (x : S3), ds = [encT t, encS x] ∧ t.dep ≤ n ∧ T.Av t ∧ Srt t.toL ∧ x ∈ t.toL ∧ d = encT (t.wio x)
theorem scWithout : FnScope ["box", "stretch", "least"] ["box", "stretch"] (defScope sWithout) := ⟨rfl, rfl, rfl, by decide +kernel, rfl, by decide +kernel, by decide +kernel⟩
theorem ok_without {f : Addr} {fd : FuncData} (F : Fun K "without" "without" sWithout f fd) (hg : mg "without" = some (.ref f)) (hk : PySem.W.keepIn K (.ref f) = true) (hbi : Binds K fd ["box", "stretch"] [])
    (cLeastOf : Cal P w K mg base 1 "least_of" ["box"] (SpD K ΦLea)) (cBalanced : Cal P w K mg base 3 "balanced" ["left", "stretch", "right"] (SpD K ΦBal)) : ∀ n, FnOk P w K mg base CX0 (4 + n) f fd ["box", "stretch"] (SpD K (ΦWio n)) := by
  have step : ∀ n, (∀ m, n = m + 1 → Cal P w K mg base (4 + m) "without" ["box", "stretch"] (SpD K (ΦWio m))) → FnOk P w K mg base CX0 (3 + n + 1) f fd ["box", "stretch"] (SpD K (ΦWio n)) := fun n ih => by
    refine okD F scWithout (fun ds d h => ?_) (fun cdv A outer s H E Z ds d hr h => ?_)
    · obtain ⟨_, _, rfl, _⟩ := h; rfl
    · obtain ⟨t, x, rfl, hd, av, hs, hx, rfl⟩ := h
      have hr1 : Room 1 _ := hr.mono (by omega)
      have hr3 : Room 3 _ := hr.mono (by omega)
      cases t with
      | nil => exact absurd hx (by simp [T.toL])
      | node l y r h m =>
        obtain ⟨av1, av2, _⟩ := id av
        obtain ⟨s1, s2, hL, hR⟩ := srt_mid hs
        have hd' : max l.dep r.dep + 1 ≤ n := hd
        obtain ⟨m', rfl⟩ : ∃ m', n = m' + 1 := ⟨n - 1, by omega⟩
        have cWithout := ih m' rfl
        have hrn : Room (4 + m') _ := hr.mono (by omega)
        have neg : ∀ {c : Bool}, c = false → ¬ c = true := fun e => by rw [e]; exact Bool.false_ne_true
        refine h_if (pb_cmp (pw_of (pd_name 1 rfl) (by walk_at "asw")) (pw_of (pd_ix (pd_name 0 rfl) pd_int (ix_st rfl)) (by walk_at "asw")) (cmp_ltSS hr) (nomark _)) (fun hb => ?_) (fun hb => ?_)
        · have c : sLtP x y := of_decide_eq_true hb
          have n1 : x ∈ l.toL := by
            rcases List.mem_append.mp hx with z | z
            · exact z
            · rcases List.mem_cons.mp z with z | z
              · exact absurd z (lt_ne c)
              · exact absurd (hR x z) (lt_asym c)
          have e : T.wio (.node l y r h m) x = T.bal (l.wio x) y r := by rw [T.wio]; exact if_pos hb
          rw [e]
          exact h_ret (pd_fn cBalanced hr3 (pdd_cons (pd_fn cWithout hrn (pdd_cons (pd_ix (pd_name 0 rfl) pd_int (ix_lf rfl)) (pdd_cons (pd_name 1 rfl) pdd_nil)) ⟨l, x, rfl, by omega, av1, s1, n1, rfl⟩) (pdd_cons (pd_ix (pd_name 0 rfl) pd_int (ix_st rfl)) (pdd_cons (pd_ix (pd_name 0 rfl) pd_int (ix_rt rfl)) pdd_nil))) ⟨l.wio x, y, r, rfl, (T.wio_ok av1 s1 n1).1, av2, rfl⟩) (.d _)
        refine h_nil (h_if (pb_cmp (pw_of (pd_name 1 rfl) (by walk_at "asw")) (pw_of (pd_ix (pd_name 0 rfl) pd_int (ix_st rfl)) (by walk_at "asw")) (cmp_gtSS hr) (nomark _)) (fun hb2 => ?_) (fun hb2 => ?_))
        · have c : sLtP y x := of_decide_eq_true hb2
          have n2 : x ∈ r.toL := by
            rcases List.mem_append.mp hx with z | z
            · exact absurd (hL x z) (lt_asym c)
            · rcases List.mem_cons.mp z with z | z
              · exact absurd z (lt_ne c).symm
              · exact z
          have e : T.wio (.node l y r h m) x = T.bal l y (r.wio x) := by rw [T.wio, if_neg (neg (show decide (sLtP x y) = false from hb))]; exact if_pos hb2
          rw [e]
          exact h_ret (pd_fn cBalanced hr3 (pdd_cons (pd_ix (pd_name 0 rfl) pd_int (ix_lf rfl)) (pdd_cons (pd_ix (pd_name 0 rfl) pd_int (ix_st rfl)) (pdd_cons (pd_fn cWithout hrn (pdd_cons (pd_ix (pd_name 0 rfl) pd_int (ix_rt rfl)) (pdd_cons (pd_name 1 rfl) pdd_nil)) ⟨r, x, rfl, by omega, av2, s2, n2, rfl⟩) pdd_nil))) ⟨l, y, r.wio x, rfl, av1, (T.wio_ok av2 s2 n2).1, rfl⟩) (.d _)
        have e0 : T.wio (.node l y r h m) x = if l.isNode = true then (if r.isNode = true then T.bal l r.lea (r.wio r.lea) else l) else r := by rw [T.wio, if_neg (neg (show decide (sLtP x y) = false from hb)), if_neg (neg (show decide (sLtP y x) = false from hb2))]
        rw [e0]
        refine h_nil (h_if (pb_cmp (pw_of (pd_ix (pd_name 0 rfl) pd_int (ix_lf rfl)) (by walk_at "asw")) (pw_of pd_non (by walk_at "asw")) cmp_isT (nomark _)) (fun hb3 => ?_) (fun hb3 => ?_))
        · have hb3 : l.isNode = false := by have z : (!l.isNode) = true := hb3; simpa using z
          rw [if_neg (neg hb3)]
          exact h_ret (pd_ix (pd_name 0 rfl) pd_int (ix_rt rfl)) (.d _)
        have nl : l.isNode = true := by have z : (!l.isNode) = false := hb3; simpa using z
        rw [if_pos nl]
        refine h_nil (h_if (pb_cmp (pw_of (pd_ix (pd_name 0 rfl) pd_int (ix_rt rfl)) (by walk_at "asw")) (pw_of pd_non (by walk_at "asw")) cmp_isT (nomark _)) (fun hb4 => ?_) (fun hb4 => ?_))
        · have hb4 : r.isNode = false := by have z : (!r.isNode) = true := hb4; simpa using z
          rw [if_neg (neg hb4)]
          exact h_ret (pd_ix (pd_name 0 rfl) pd_int (ix_lf rfl)) (.d _)
        have nr : r.isNode = true := by have z : (!r.isNode) = false := hb4; simpa using z
        rw [if_pos nr]
        refine h_nil (h_set 2 (pd_fn cLeastOf hr1 (pdd_cons (pd_ix (pd_name 0 rfl) pd_int (ix_rt rfl)) pdd_nil) ⟨r, rfl, nr, rfl⟩) ?_ scWithout.nd)
        exact h_ret (pd_fn cBalanced hr3 (pdd_cons (pd_ix (pd_name 0 rfl) pd_int (ix_lf rfl)) (pdd_cons (pd_name 2 rfl) (pdd_cons (pd_fn cWithout hrn (pdd_cons (pd_ix (pd_name 0 rfl) pd_int (ix_rt rfl)) (pdd_cons (pd_name 2 rfl) pdd_nil)) ⟨r, r.lea, rfl, by omega, av2, s2, T.lea_mem nr, rfl⟩) pdd_nil))) ⟨l, r.lea, r.wio r.lea, rfl, av1, (T.wio_ok av2 s2 (T.lea_mem nr)).1, rfl⟩) (.d _)
  intro n
  induction n with
  | zero => exact step 0 fun m e => absurd e (by omega)
  | succ n ih =>
    have e : 4 + (n + 1) = 3 + (n + 1) + 1 := by omega
    rw [e]
    exact step (n + 1) fun m e => by
      obtain rfl : n = m := by omega
      exact ⟨_, _, ih, hg, hk, hbi⟩
def ΦTold (n : Nat) (ds es : List PyData) : Prop := ∃ (t : T) (d : Int), ds = [encT t, .int d] ∧ t.dep ≤ n ∧ t.toL.length ≤ 1000 ∧ es = (t.tol d).map encR
theorem scTold : FnScope ["box", "depth"] ["box", "depth"] (defScope sTold) := ⟨rfl, rfl, rfl, by decide +kernel, rfl, by decide +kernel, by decide +kernel⟩
theorem ok_told {f : Addr} {fd : FuncData} (F : Fun K "told" "told" sTold f fd) (hg : mg "told" = some (.ref f)) (hk : PySem.W.keepIn K (.ref f) = true) (hbi : Binds K fd ["box", "depth"] []) : ∀ n, FnOk P w K mg base CX0 (1 + n) f fd ["box", "depth"] (SpL K (ΦTold n)) := by
  have step : ∀ n, (∀ m, n = m + 1 → Cal P w K mg base (1 + m) "told" ["box", "depth"] (SpL K (ΦTold m))) → FnOk P w K mg base CX0 (n + 1) f fd ["box", "depth"] (SpL K (ΦTold n)) := fun n ih => by
    refine okL F scTold (fun ds d h => ?_) (fun cdv A outer s H E Z ds es hr h => ?_)
    · obtain ⟨_, _, rfl, _⟩ := h; rfl
    · obtain ⟨t, d, rfl, hd, hz, rfl⟩ := h
      refine h_if (pb_cmp (pw_of (pd_name 0 rfl) (by walk_at "asw")) (pw_of pd_non (by walk_at "asw")) cmp_isT (nomark _)) (fun hb => ?_) (fun hb => ?_)
      · have e : t = .nil := by
          cases t with
          | nil => rfl
          | node => exact Bool.noConfusion (show false = true from hb)
        subst e
        exact h_retN (pn_lst pdd_nil) fun p => ⟨p, rfl, List.mem_cons_self⟩
      · cases t with
        | nil => exact absurd hb (by decide)
        | node l y r h m =>
          have hd' : max l.dep r.dep + 1 ≤ n := hd
          have hz' : (l.toL ++ y :: r.toL).length ≤ 1000 := hz
          rw [List.length_append, List.length_cons] at hz'
          have z1 := T.tol_len l (d + 1)
          have z2 := T.tol_len r (d + 1)
          obtain ⟨m', rfl⟩ : ∃ m', n = m' + 1 := ⟨n - 1, by omega⟩
          have cTold := ih m' rfl
          have hrn : Room (1 + m') _ := hr.mono (by omega)
          have e : (T.tol (.node l y r h m) d).map encR = ((l.tol (d + 1)).map encR ++ [encR (y, d, h, m)]) ++ (r.tol (d + 1)).map encR := by
            show ((l.tol (d + 1) ++ (y, d, h, m) :: r.tol (d + 1)).map encR) = _
            rw [List.map_append, List.map_cons, List.append_assoc]
            rfl
          rw [e]
          refine h_nil (h_retN (pn_cat (pl_of (pd_bin (pd_of_n (pn_fn cTold hrn (pdd_cons (pd_ix (pd_name 0 rfl) pd_int (ix_lf rfl)) (pdd_cons (pd_bin (pd_name 1 rfl) pd_int (by walk_at "bin")) pdd_nil)) ⟨l, d + 1, rfl, by omega, by omega, rfl⟩)) (pd_of_n (pn_lst (pdd_cons (pd_tup (pdd_cons (pd_ix (pd_name 0 rfl) pd_int (ix_st rfl)) (pdd_cons (pd_name 1 rfl) (pdd_cons (pd_ix (pd_name 0 rfl) pd_int (ix_ht rfl)) (pdd_cons (pd_ix (pd_name 0 rfl) pd_int (ix_mx rfl)) pdd_nil))))) pdd_nil))) (bin_catL (.d _) (.d _) ?_)) (.d _)) (pl_of (pd_of_n (pn_fn cTold hrn (pdd_cons (pd_ix (pd_name 0 rfl) pd_int (ix_rt rfl)) (pdd_cons (pd_bin (pd_name 1 rfl) pd_int (by walk_at "bin")) pdd_nil)) ⟨r, d + 1, rfl, by omega, by omega, rfl⟩)) (.d _)) ?_) fun p => ⟨p, rfl, List.mem_cons_self⟩)
          · rw [List.length_map, List.length_singleton]
            exact Nat.le_of_lt (small1000 (by omega))
          · rw [List.length_append, List.length_map, List.length_map, List.length_singleton]
            exact Nat.le_of_lt (small1000 (by omega))
  intro n
  induction n with
  | zero => exact step 0 fun m e => absurd e (by omega)
  | succ n ih =>
    have e : 1 + (n + 1) = n + 1 + 1 := by omega
    rw [e]
    exact step (n + 1) fun m e => by
      obtain rfl : n = m := by omega
      exact ⟨_, _, ih, hg, hk, hbi⟩
end
end L3
set_option Elab.async false
set_option linter.all false
set_option autoImplicit false
set_option maxRecDepth 100000
set_option maxHeartbeats 4000000
namespace L3
open PySem PySem.Spec L2
local macro_rules | `(tactic| walk_at "bin") => `(tactic| first | exact bin_add | exact bin_sub | exact bin_fdiv ⟨by decide, by decide⟩ | exact bin_mod (by decide) | exact bin_pow ⟨by decide, by decide, by decide⟩ | exact bin_mul (mul_small (by decide)) | exact bin_mul (by with_reducible assumption) | exact bin_catL (.d _) (.d _) (by assumption))
local macro_rules | `(tactic| walk_at "mem") => `(tactic| first | exact List.mem_cons_self | exact List.mem_cons_of_mem _ List.mem_cons_self | exact List.mem_cons_of_mem _ (List.mem_cons_of_mem _ List.mem_cons_self) | exact List.mem_cons_of_mem _ (List.mem_cons_of_mem _ (List.mem_cons_of_mem _ List.mem_cons_self)) | exact List.mem_cons_of_mem _ (List.mem_cons_of_mem _ (List.mem_cons_of_mem _ (List.mem_cons_of_mem _ List.mem_cons_self))) | assumption)
local macro_rules | `(tactic| walk_at "asw") => `(tactic| first | exact .d _ | exact .o (by walk_at "mem") | exact .v _)
local macro_rules | `(tactic| walk_at "asl") => `(tactic| first | exact .d _ | exact .o (by walk_at "mem"))
local macro_rules | `(tactic| walk_at "len") => `(tactic| first | exact .l _ | exact .t _ | exact .o (by walk_at "mem") | exact .s _)
local macro_rules | `(tactic| walk_at "ix") => `(tactic| first | exact .t rfl | exact .l rfl | exact .l (by assumption) | exact .o (by walk_at "mem") rfl | exact .o (by walk_at "mem") (by assumption))
local macro_rules | `(tactic| walk_at "cmp") => `(tactic| first | exact cmp_eqI | exact cmp_neI | exact cmp_le | exact cmp_lt | exact cmp_ge | exact cmp_gt | exact cmp_eqB | exact cmp_neB | exact cmp_eqS | exact cmp_neS | exact cmp_isN | exact cmp_notN | exact cmp_isnotB)
local macro_rules | `(tactic| walk_at "kit") => `(tactic| first | exact kit_ii | exact kit_bb | exact kit_tt | exact kit_ll | exact kit_ib | exact kit_bi | exact kit_it | exact kit_ni | exact kit_si | exact kit_ti | exact kit_li)
section
variable {P : Program} {w : World} {K : PySem.W.Frag} {mg : Str → Option Value} {base : Heap} {C : Addr}
/-! ### the wood -/
structure GoodS (s : S3) : Prop where
  lo : InR s.1
  hi : InR s.2.1
  mrk : InR s.2.2
  le : s.1 ≤ s.2.1
def ΦStr (ds : List PyData) (d : PyData) : Prop := ∃ s : S3, ds = [.int s.1, .int s.2.1, .int s.2.2] ∧ GoodS s ∧ d = encS s
theorem scStretchOf : FnScope ["low", "high", "mark"] ["low", "high", "mark"] (defScope sStretchOf) := ⟨rfl, rfl, rfl, by decide +kernel, rfl, by decide +kernel, by decide +kernel⟩
theorem ok_stretchOf {f : Addr} {fd : FuncData} (F : Fun K "stretch_of" "stretch_of" sStretchOf f fd) (cNeedPair : Cal P w K mg base 2 "need_pair" ["low", "high"] (SpD K ΦPair)) (cIsNumber : Cal P w K mg base 1 "is_number" ["value"] (SpD K ΦNum)) : FnOk P w K mg base CX0 3 f fd ["low", "high", "mark"] (SpD K ΦStr) := by
  refine okD F scStretchOf (fun ds d h => ?_) (fun cdv A outer s H E Z ds d hr h => ?_)
  · obtain ⟨_, rfl, _⟩ := h; rfl
  · obtain ⟨s, rfl, g, rfl⟩ := h
    refine h_expr (pd_fn cNeedPair (hr.mono (by decide)) (pdd_cons (pd_name 0 rfl) (pdd_cons (pd_name 1 rfl) pdd_nil)) ⟨_, _, rfl, g.lo, g.hi, g.le, rfl⟩) ?_
    refine h_if (pb_not (pb_val (pd_fn cIsNumber (hr.mono (by decide)) (pdd_cons (pd_name 2 rfl) pdd_nil) ⟨_, rfl, .int _, rfl⟩))) (fun hb => ?_) (fun hb => ?_)
    · rw [isNum_in g.mrk] at hb
      exact absurd hb (by decide)
    · exact h_nil (h_ret (pd_tup (pdd_cons (pd_name 0 rfl) (pdd_cons (pd_name 1 rfl) (pdd_cons (pd_name 2 rfl) pdd_nil)))) (.d _))
/-- a tree as a wood has it -/
structure Wd (t : T) : Prop where
  av : T.Av t
  srt : Srt t.toL
  len : t.toL.length ≤ 200
theorem Wd.dep {t : T} (h : Wd t) : t.dep ≤ 200 := Nat.le_trans (T.dep_le t) h.len
theorem wd_nil : Wd .nil := ⟨trivial, List.Pairwise.nil, by decide⟩
def ΦPut (tc : Addr) (x : PyData) (ds : List PyData) (x' : PyData) (r : PyData ⊕ Addr) : Prop := ∃ (t : T) (s : S3), x = encT t ∧ ds = [.int s.1, .int s.2.1, .int s.2.2] ∧ GoodS s ∧ Wd t ∧ ((s ∈ t.toL ∧ x' = encT t ∧ r = .inr tc) ∨ (s ∉ t.toL ∧ x' = encT (t.wit s) ∧ r = .inl .none))
theorem scWoodPut : FnScope ["self", "low", "high", "mark", "stretch"] ["self", "low", "high", "mark"] (defScope sWoodPut) := ⟨rfl, rfl, rfl, by decide +kernel, rfl, by decide +kernel, by decide +kernel⟩
theorem ok_put {f : Addr} {fd : FuncData} {tc : Addr} (F : Fun K "put" "Wood.put" sWoodPut f fd) (cl : Cls K C) (na : NoAttr K C "top") (T2 : ExcT K mg "Twice" tc) (cStretchOf : Cal P w K mg base 3 "stretch_of" ["low", "high", "mark"] (SpD K ΦStr)) (cHasOne : Cal P w K mg base 1 "has_one" ["box", "stretch"] (SpD K ΦHas))
    (cWithOne : Cal P w K mg base 204 "with_one" ["box", "stretch"] (SpD K (ΦWit 200))) : FnOk P w K mg base (CXN P w) 205 f fd ["self", "low", "high", "mark"] (SpE K C "top" (ΦPut tc)) := by
  refine okEXN F scWoodPut (fun x ds x' r h => ?_) (fun cdv A outer s H E Z p x ds x' r W hr tk h => ?_)
  · obtain ⟨_, _, _, rfl, _⟩ := h; rfl
  · obtain ⟨t, s, rfl, rfl, g, wd, h⟩ := h
    refine hx_set 4 (pd_fn cStretchOf (hr.mono (by decide)) (pdd_cons (pd_name 1 rfl) (pdd_cons (pd_name 2 rfl) (pdd_cons (pd_name 3 rfl) pdd_nil))) ⟨s, rfl, g, rfl⟩) ?_ scWoodPut.nd
    refine hx_if (pb_val (pd_fn cHasOne (hr.mono (by decide)) (pdd_cons (pd_fld (pd_name 0 rfl) (.inl List.mem_cons_self) cl na) (pdd_cons (pd_name 4 rfl) pdd_nil)) ⟨t, s, rfl, rfl⟩)) (fun hb => ?_) (fun hb => ?_)
    · rw [T.has_mem wd.srt] at hb
      have hm := of_decide_eq_true hb
      rcases h with ⟨_, rfl, rfl⟩ | ⟨hn, _⟩
      · exact hx_raiseN T2 tk ⟨.inl List.mem_cons_self, rfl⟩
      · exact absurd hm hn
    · rw [T.has_mem wd.srt] at hb
      have hm := of_decide_eq_false hb
      rcases h with ⟨hn, _⟩ | ⟨_, rfl, rfl⟩
      · exact absurd hn hm
      · refine hx_of (h_nil (hx_of ?_))
        exact h_fld 0 (pd_name 0 rfl) rfl (.ins _) cl na (pd_fn cWithOne (hr.mono (by decide)) (pdd_cons (pd_fld (pd_name 0 rfl) (.inl List.mem_cons_self) cl na) (pdd_cons (pd_name 4 rfl) pdd_nil)) ⟨t, s, rfl, wd.dep, wd.av, wd.srt, hm, rfl⟩) (h_nil ⟨.inl List.mem_cons_self, rfl⟩)
def ΦTake (mc : Addr) (x : PyData) (ds : List PyData) (x' : PyData) (r : PyData ⊕ Addr) : Prop := ∃ (t : T) (s : S3), x = encT t ∧ ds = [.int s.1, .int s.2.1, .int s.2.2] ∧ GoodS s ∧ Wd t ∧ ((s ∉ t.toL ∧ x' = encT t ∧ r = .inr mc) ∨ (s ∈ t.toL ∧ x' = encT (t.wio s) ∧ r = .inl .none))
theorem scWoodTake : FnScope ["self", "low", "high", "mark", "stretch"] ["self", "low", "high", "mark"] (defScope sWoodTake) := ⟨rfl, rfl, rfl, by decide +kernel, rfl, by decide +kernel, by decide +kernel⟩
theorem ok_take {f : Addr} {fd : FuncData} {mc : Addr} (F : Fun K "take" "Wood.take" sWoodTake f fd) (cl : Cls K C) (na : NoAttr K C "top") (T2 : ExcT K mg "Missing" mc) (cStretchOf : Cal P w K mg base 3 "stretch_of" ["low", "high", "mark"] (SpD K ΦStr)) (cHasOne : Cal P w K mg base 1 "has_one" ["box", "stretch"] (SpD K ΦHas))
    (cWithout : Cal P w K mg base 204 "without" ["box", "stretch"] (SpD K (ΦWio 200))) : FnOk P w K mg base (CXN P w) 205 f fd ["self", "low", "high", "mark"] (SpE K C "top" (ΦTake mc)) := by
  refine okEXN F scWoodTake (fun x ds x' r h => ?_) (fun cdv A outer s H E Z p x ds x' r W hr tk h => ?_)
  · obtain ⟨_, _, _, rfl, _⟩ := h; rfl
  · obtain ⟨t, s, rfl, rfl, g, wd, h⟩ := h
    refine hx_set 4 (pd_fn cStretchOf (hr.mono (by decide)) (pdd_cons (pd_name 1 rfl) (pdd_cons (pd_name 2 rfl) (pdd_cons (pd_name 3 rfl) pdd_nil))) ⟨s, rfl, g, rfl⟩) ?_ scWoodTake.nd
    refine hx_if (pb_not (pb_val (pd_fn cHasOne (hr.mono (by decide)) (pdd_cons (pd_fld (pd_name 0 rfl) (.inl List.mem_cons_self) cl na) (pdd_cons (pd_name 4 rfl) pdd_nil)) ⟨t, s, rfl, rfl⟩))) (fun hb => ?_) (fun hb => ?_)
    · rw [T.has_mem wd.srt] at hb
      have hm : s ∉ t.toL := by simpa using hb
      rcases h with ⟨_, rfl, rfl⟩ | ⟨hn, _⟩
      · exact hx_raiseN T2 tk ⟨.inl List.mem_cons_self, rfl⟩
      · exact absurd hn hm
    · rw [T.has_mem wd.srt] at hb
      have hm : s ∈ t.toL := by simpa using hb
      rcases h with ⟨hn, _⟩ | ⟨_, rfl, rfl⟩
      · exact absurd hm hn
      · refine hx_of (h_nil (hx_of ?_))
        exact h_fld 0 (pd_name 0 rfl) rfl (.ins _) cl na (pd_fn cWithout (hr.mono (by decide)) (pdd_cons (pd_fld (pd_name 0 rfl) (.inl List.mem_cons_self) cl na) (pdd_cons (pd_name 4 rfl) pdd_nil)) ⟨t, s, rfl, wd.dep, wd.av, wd.srt, hm, rfl⟩) (h_nil ⟨.inl List.mem_cons_self, rfl⟩)
theorem scWoodInit : FnScope ["self"] ["self"] (defScope sWoodInit) := ⟨rfl, rfl, rfl, by decide +kernel, rfl, by decide +kernel, by decide +kernel⟩
theorem ok_init {f : Addr} {fd : FuncData} (F : Fun K "__init__" "Wood.__init__" sWoodInit f fd) (cl : Cls K C) (na : NoAttr K C "top") : FnOk P w K mg base CX0 1 f fd ["self"] (SpI K C "top" .none) := by
  refine okI F scWoodInit (fun cdv A outer s H E Z p dx hr => ?_)
  exact h_fld 0 (pd_name 0 rfl) rfl (.raw dx) cl na pd_non (h_nil (.inl List.mem_cons_self))
def ΦBoxes (x : PyData) (ds es : List PyData) : Prop := ∃ t : T, x = encT t ∧ ds = [] ∧ Wd t ∧ es = (t.tol 0).map encR
theorem scWoodBoxes : FnScope ["self"] ["self"] (defScope sWoodBoxes) := ⟨rfl, rfl, rfl, by decide +kernel, rfl, by decide +kernel, by decide +kernel⟩
theorem ok_boxes {f : Addr} {fd : FuncData} (F : Fun K "boxes" "Wood.boxes" sWoodBoxes f fd) (cl : Cls K C) (na : NoAttr K C "top") (cTold : Cal P w K mg base 201 "told" ["box", "depth"] (SpL K (ΦTold 200))) : FnOk P w K mg base CX0 202 f fd ["self"] (SpRL K C "top" ΦBoxes) := by
  refine okRL F scWoodBoxes (fun x ds es h => ?_) (fun cdv A outer s H E Z p dx v x ds es hr h => ?_)
  · obtain ⟨_, _, rfl, _⟩ := h; rfl
  · obtain ⟨t, rfl, rfl, wd, rfl⟩ := h
    have hl := wd.len
    exact h_retN (pn_fn cTold (hr.mono (by decide)) (pdd_cons (pd_fld (pd_name 0 rfl) (.inr ⟨_, _, List.mem_cons_self⟩) cl na) (pdd_cons pd_int pdd_nil)) ⟨t, 0, rfl, wd.dep, by omega, rfl⟩) fun p => ⟨List.mem_cons_of_mem _ List.mem_cons_self, p, rfl, List.mem_cons_self⟩

def ΦKeeps (x : PyData) (ds : List PyData) (r : PyData) : Prop := ∃ (t : T) (s : S3), x = encT t ∧ ds = [.int s.1, .int s.2.1, .int s.2.2] ∧ GoodS s ∧ Wd t ∧ r = .bool (decide (s ∈ t.toL))
theorem scWoodKeeps : FnScope ["self", "low", "high", "mark"] ["self", "low", "high", "mark"] (defScope sWoodKeeps) := ⟨rfl, rfl, rfl, by decide +kernel, rfl, by decide +kernel, by decide +kernel⟩
theorem ok_keeps {f : Addr} {fd : FuncData} (F : Fun K "keeps" "Wood.keeps" sWoodKeeps f fd) (cl : Cls K C) (na : NoAttr K C "top") (cStretchOf : Cal P w K mg base 3 "stretch_of" ["low", "high", "mark"] (SpD K ΦStr)) (cHasOne : Cal P w K mg base 1 "has_one" ["box", "stretch"] (SpD K ΦHas)) : FnOk P w K mg base CX0 4 f fd ["self", "low", "high", "mark"] (SpR K C "top" ΦKeeps) := by
  refine okR F scWoodKeeps (fun x ds es h => ?_) (fun cdv A outer s H E Z p dx v x ds es hr h => ?_)
  · obtain ⟨_, _, _, rfl, _⟩ := h; rfl
  · obtain ⟨t, s, rfl, rfl, g, wd, rfl⟩ := h
    rw [← T.has_mem wd.srt]
    exact h_ret (pd_fn cHasOne (hr.mono (by decide)) (pdd_cons (pd_fld (pd_name 0 rfl) (.inr ⟨_, _, List.mem_cons_self⟩) cl na) (pdd_cons (pd_fn cStretchOf (hr.mono (by decide)) (pdd_cons (pd_name 1 rfl) (pdd_cons (pd_name 2 rfl) (pdd_cons (pd_name 3 rfl) pdd_nil))) ⟨s, rfl, g, rfl⟩) pdd_nil)) ⟨t, s, rfl, rfl⟩) ⟨List.mem_cons_self, .d _⟩
def ΦListed (x : PyData) (ds es : List PyData) : Prop := ∃ t : T, x = encT t ∧ ds = [] ∧ Wd t ∧ es = t.toL.map encS
theorem scWoodListed : FnScope ["self", "box"] ["self"] (defScope sWoodListed) := ⟨rfl, rfl, rfl, by decide +kernel, rfl, by decide +kernel, by decide +kernel⟩
theorem ok_listed {f : Addr} {fd : FuncData} (F : Fun K "listed" "Wood.listed" sWoodListed f fd) (cl : Cls K C) (cBoxes : CalM CX0 P w K mg base 202 C "boxes" ["self"] (SpRL K C "top" ΦBoxes)) : FnOk P w K mg base CX0 203 f fd ["self"] (SpRL K C "top" ΦListed) := by
  refine okRL F scWoodListed (fun x ds es h => ?_) (fun cdv A outer s H E Z p dx v x ds es hr h => ?_)
  · obtain ⟨_, _, rfl, _⟩ := h; rfl
  · obtain ⟨t, rfl, rfl, wd, rfl⟩ := h
    have hl := wd.len
    have e : t.toL.map encS = (t.tol 0).map (fun r => encS r.1) := by
      rw [← T.tol_fst t 0, List.map_map]
      rfl
    rw [e]
    refine h_retN (pn_lc0 encR (t.tol 0) (fun r => encS r.1) 1 (pit_list (pd_of_n (pn_meth0 cBoxes cl (hr.mono (by decide)) (pd_name 0 rfl) (.inr ⟨_, _, List.mem_cons_self⟩) ⟨t, rfl, rfl, wd, rfl⟩))) scWoodListed.nd (fun b hb _ _ _ _ _ _ => (pd_ix (pd_name 1 rfl) pd_int (by walk_at "ix"))) (small1000 (by rw [T.tol_len]; omega)) (fun _ _ _ _ _ => pg_name (i := 1) scWoodListed.nd rfl (Or.inl rfl))) fun p => ⟨List.mem_cons_of_mem _ List.mem_cons_self, p, rfl, List.mem_cons_self⟩
end
end L3
set_option Elab.async false
set_option linter.all false
set_option autoImplicit false
set_option maxRecDepth 100000
set_option maxHeartbeats 4000000
namespace L3
open PySem PySem.Spec L2
local macro_rules | `(tactic| walk_at "bin") => `(tactic| first | exact bin_add | exact bin_sub | exact bin_fdiv ⟨by decide, by decide⟩ | exact bin_mod (by decide) | exact bin_pow ⟨by decide, by decide, by decide⟩ | exact bin_mul (mul_small (by decide)) | exact bin_mul (by with_reducible assumption) | exact bin_catL (.d _) (.d _) (by assumption))
local macro_rules | `(tactic| walk_at "mem") => `(tactic| first | exact List.mem_cons_self | exact List.mem_cons_of_mem _ List.mem_cons_self | exact List.mem_cons_of_mem _ (List.mem_cons_of_mem _ List.mem_cons_self) | exact List.mem_cons_of_mem _ (List.mem_cons_of_mem _ (List.mem_cons_of_mem _ List.mem_cons_self)) | exact List.mem_cons_of_mem _ (List.mem_cons_of_mem _ (List.mem_cons_of_mem _ (List.mem_cons_of_mem _ List.mem_cons_self))) | assumption)
local macro_rules | `(tactic| walk_at "asw") => `(tactic| first | exact .d _ | exact .o (by walk_at "mem") | exact .v _)
local macro_rules | `(tactic| walk_at "asl") => `(tactic| first | exact .d _ | exact .o (by walk_at "mem"))
local macro_rules | `(tactic| walk_at "len") => `(tactic| first | exact .l _ | exact .t _ | exact .o (by walk_at "mem") | exact .s _)
local macro_rules | `(tactic| walk_at "ix") => `(tactic| first | exact .t rfl | exact .l rfl | exact .l (by assumption) | exact .o (by walk_at "mem") rfl | exact .o (by walk_at "mem") (by assumption))
local macro_rules | `(tactic| walk_at "cmp") => `(tactic| first | exact cmp_eqI | exact cmp_neI | exact cmp_le | exact cmp_lt | exact cmp_ge | exact cmp_gt | exact cmp_eqB | exact cmp_neB | exact cmp_eqS | exact cmp_neS | exact cmp_isN | exact cmp_notN | exact cmp_isnotB)
local macro_rules | `(tactic| walk_at "kit") => `(tactic| first | exact kit_ii | exact kit_bb | exact kit_tt | exact kit_ll | exact kit_ib | exact kit_bi | exact kit_it | exact kit_ni | exact kit_si | exact kit_ti | exact kit_li)
/-! ### met -/
def metT : T → Int → Int → List S3 × Int
  | .nil, _, _ => ([], 0)
  | .node l s r _ m, lo, hi => if decide (m < lo) = true then ([], 0) else if decide (hi < s.1) = true then ((metT l lo hi).1, (metT l lo hi).2 + 1) else ((metT l lo hi).1 ++ (if decide (lo ≤ s.2.1) = true then [s] else []) ++ (metT r lo hi).1, (metT l lo hi).2 + 1 + (metT r lo hi).2)
def meetsQ (lo hi : Int) (x : S3) : Bool := decide (x.1 ≤ hi) && decide (lo ≤ x.2.1)
theorem metT_len : ∀ (t : T) (lo hi : Int), (metT t lo hi).1.length ≤ t.toL.length
  | .nil, _, _ => Nat.le_refl _
  | .node l s r h m, lo, hi => by
    have h1 := metT_len l lo hi
    have h2 := metT_len r lo hi
    have e : (T.node l s r h m).toL.length = l.toL.length + 1 + r.toL.length := by
      show (l.toL ++ s :: r.toL).length = _
      rw [List.length_append, List.length_cons]
      omega
    rw [e]
    unfold metT
    split
    · exact Nat.zero_le _
    · split
      · show (metT l lo hi).1.length ≤ _
        omega
      · show ((metT l lo hi).1 ++ _ ++ (metT r lo hi).1).length ≤ _
        rw [List.length_append, List.length_append]
        split
        · simp; omega
        · simp; omega
theorem metT_is : ∀ {t : T} {lo hi : Int}, T.Av t → Srt t.toL → (metT t lo hi).1 = t.toL.filter (meetsQ lo hi)
  | .nil, _, _, _, _ => rfl
  | .node l s r h m, lo, hi, av, q => by
    obtain ⟨s1, s2, hL, hR⟩ := srt_mid q
    have rm := rch_max av rfl
    obtain ⟨a1, a2, _⟩ := id av
    have i1 := metT_is (lo := lo) (hi := hi) a1 s1
    have i2 := metT_is (lo := lo) (hi := hi) a2 s2
    show _ = (l.toL ++ s :: r.toL).filter (meetsQ lo hi)
    unfold metT
    split
    · rename_i c
      have c := of_decide_eq_true c
      have : (l.toL ++ s :: r.toL).filter (meetsQ lo hi) = [] := fil_no fun x hx => by
        have h1 : x.2.1 ≤ m := rm.1 x hx
        unfold meetsQ
        rw [decide_eq_false (show ¬ lo ≤ x.2.1 by omega), Bool.and_false]
      rw [this]
    · split
      · rename_i c
        have c := of_decide_eq_true c
        have : (s :: r.toL).filter (meetsQ lo hi) = [] := fil_no fun x hx => by
          have h1 : s.1 ≤ x.1 := by
            rcases List.mem_cons.mp hx with rfl | hx
            · exact Int.le_refl _
            · have h2 := hR x hx
              unfold sLtP at h2
              omega
          unfold meetsQ
          rw [decide_eq_false (show ¬ x.1 ≤ hi by omega), Bool.false_and]
        rw [List.filter_append, this, List.append_nil]
        exact i1
      · rename_i c
        have c : ¬ hi < s.1 := fun z => c (decide_eq_true z)
        rw [List.filter_append, List.filter_cons]
        show (metT l lo hi).1 ++ (if decide (lo ≤ s.2.1) = true then [s] else []) ++ (metT r lo hi).1 = _
        rw [i1, i2, List.append_assoc]
        have e : meetsQ lo hi s = decide (lo ≤ s.2.1) := by
          unfold meetsQ
          rw [decide_eq_true (show s.1 ≤ hi by omega), Bool.true_and]
        rw [e]
        split <;> rfl
section
variable {P : Program} {w : World} {K : PySem.W.Frag} {mg : Str → Option Value} {base : Heap} {C : Addr}
def ΦMet (k : Nat) (ds es : List PyData) (n : Int) : Prop := ∃ (t : T) (lo hi : Int), ds = [encT t, .int lo, .int hi] ∧ t.dep ≤ k ∧ t.toL.length ≤ 1000 ∧ es = (metT t lo hi).1.map encS ∧ n = (metT t lo hi).2
theorem scMet : FnScope ["box", "low", "high", "left", "own", "right"] ["box", "low", "high"] (defScope sMet) := ⟨rfl, rfl, rfl, by decide +kernel, rfl, by decide +kernel, by decide +kernel⟩
theorem ok_met {f : Addr} {fd : FuncData} (F : Fun K "met" "met" sMet f fd) (hg : mg "met" = some (.ref f)) (hk : PySem.W.keepIn K (.ref f) = true) (hbi : Binds K fd ["box", "low", "high"] []) : ∀ n, FnOk P w K mg base CX0 (1 + n) f fd ["box", "low", "high"] (SpM K (ΦMet n)) := by
  have step : ∀ n, (∀ m, n = m + 1 → Cal P w K mg base (1 + m) "met" ["box", "low", "high"] (SpM K (ΦMet m))) → FnOk P w K mg base CX0 (n + 1) f fd ["box", "low", "high"] (SpM K (ΦMet n)) := fun n ih => by
    refine okM F scMet (fun ds es n h => ?_) (fun cdv A outer s H E Z ds es num hr h => ?_)
    · obtain ⟨_, _, _, rfl, _⟩ := h; rfl
    · obtain ⟨t, lo, hi, rfl, hd, hz, rfl, rfl⟩ := h
      cases t with
      | nil =>
        refine h_if (b := true || false) (pb_bo (pbo_cons (pb_cmp (pw_of (pd_name 0 rfl) (.d _)) (pw_of pd_non (.d _)) (cmp_isT (t := .nil)) (nomark _)) fun h => absurd h (by decide))) (fun hb => ?_) (fun hb => absurd hb (by decide))
        exact h_retPN (pn_lst pdd_nil) pd_int fun a p hne => ⟨a, p, rfl, hne, List.mem_cons_of_mem _ List.mem_cons_self, List.mem_cons_self⟩
      | node l y r h m =>
        have hd' : max l.dep r.dep + 1 ≤ n := hd
        have hz' : (l.toL ++ y :: r.toL).length ≤ 1000 := hz
        rw [List.length_append, List.length_cons] at hz'
        have z1 := metT_len l lo hi
        have z2 := metT_len r lo hi
        obtain ⟨m', rfl⟩ : ∃ m', n = m' + 1 := ⟨n - 1, by omega⟩
        have cMet := ih m' rfl
        have hrn : Room (1 + m') _ := hr.mono (by omega)
        have neg : ∀ {c : Bool}, c = false → ¬ c = true := fun e => by rw [e]; exact Bool.false_ne_true
        refine h_if (pb_bo (pbo_cons (pb_cmp (pw_of (pd_name 0 rfl) (.d _)) (pw_of pd_non (.d _)) (cmp_isT (t := .node l y r h m)) (nomark _)) fun _ => (pbo_one (pb_cmp (pw_of (pd_ix (pd_name 0 rfl) pd_int (ix_mx rfl)) (.d _)) (pw_of (pd_name 1 rfl) (.d _)) cmp_lt (nomark _))))) (fun hb => ?_) (fun hb => ?_)
        · have hb : decide (m < lo) = true := hb
          have e : metT (.node l y r h m) lo hi = ([], 0) := by rw [metT, if_pos hb]
          rw [e]
          exact h_retPN (pn_lst pdd_nil) pd_int fun a p hne => ⟨a, p, rfl, hne, List.mem_cons_of_mem _ List.mem_cons_self, List.mem_cons_self⟩
        have hb : decide (m < lo) = false := hb
        refine h_nil (h_setM 3 cMet hrn (pdd_cons (pd_ix (pd_name 0 rfl) pd_int (ix_lf rfl)) (pdd_cons (pd_name 1 rfl) (pdd_cons (pd_name 2 rfl) pdd_nil))) ⟨l, lo, hi, rfl, by omega, by omega, rfl, rfl⟩ (fun a p hap => ?_) scMet.nd)
        refine h_if (pb_cmp (pw_of (pd_ix (pd_ix (pd_name 0 rfl) pd_int (ix_st rfl)) pd_int (.t rfl)) (.d _)) (pw_of (pd_name 2 rfl) (.d _)) cmp_gt (nomark _)) (fun hb2 => ?_) (fun hb2 => ?_)
        · have hb2 : decide (hi < y.1) = true := hb2
          have e : metT (.node l y r h m) lo hi = ((metT l lo hi).1, (metT l lo hi).2 + 1) := by rw [metT, if_neg (neg hb), if_pos hb2]
          rw [e]
          exact h_retPO (pd_raw0 (a := a) (n := (metT l lo hi).2) (pd_name 3 rfl) (List.mem_cons_of_mem _ List.mem_cons_self)) List.mem_cons_self (pd_bin (pd_raw1 (a := a) (n := (metT l lo hi).2) (pd_name 3 rfl) (List.mem_cons_of_mem _ List.mem_cons_self)) pd_int (by walk_at "bin")) fun p' hne => ⟨a, p', rfl, hne, List.mem_cons_of_mem _ List.mem_cons_self, List.mem_cons_self⟩
        have hb2 : decide (hi < y.1) = false := hb2
        have e : metT (.node l y r h m) lo hi = ((metT l lo hi).1 ++ (if decide (lo ≤ y.2.1) = true then [y] else []) ++ (metT r lo hi).1, (metT l lo hi).2 + 1 + (metT r lo hi).2) := by rw [metT, if_neg (neg hb), if_neg (neg hb2)]
        rw [e]
        refine h_nil (h_set 4 (pd_of_n (pn_lst pdd_nil)) ?_ scMet.nd)
        refine h_ifSet 4 (pb_cmp (pw_of (pd_ix (pd_ix (pd_name 0 rfl) pd_int (ix_st rfl)) pd_int (.t rfl)) (.d _)) (pw_of (pd_name 1 rfl) (.d _)) cmp_ge (nomark _)) rfl (fun _ => (pd_of_n (pn_lst (pdd_cons (pd_ix (pd_name 0 rfl) pd_int (ix_st rfl)) pdd_nil)))) ?_ scMet.nd
        have eI : (if decide (lo ≤ (T.node l y r h m).st.2.1) = true then PyData.list [encS (T.node l y r h m).st] else PyData.list []) = PyData.list ((if decide (lo ≤ y.2.1) = true then [y] else []).map encS) := by
          show (if decide (lo ≤ y.2.1) = true then PyData.list [encS y] else PyData.list []) = _
          split <;> rfl
        rw [eI]
        have zI : (if decide (lo ≤ y.2.1) = true then [y] else []).length ≤ 1 := by split <;> simp
        generalize (if decide (lo ≤ y.2.1) = true then [y] else []) = own1 at zI
        refine h_setM 5 cMet hrn (pdd_cons (pd_ix (pd_name 0 rfl) pd_int (ix_rt rfl)) (pdd_cons (pd_name 1 rfl) (pdd_cons (pd_name 2 rfl) pdd_nil))) ⟨r, lo, hi, rfl, by omega, by omega, rfl, rfl⟩ (fun a' p' hap' => ?_) scMet.nd
        have hz1 : ((metT l lo hi).1.map encS).length + (own1.map encS).length ≤ sizeLine := by
          rw [List.length_map, List.length_map]
          exact Nat.le_of_lt (small1000 (by omega))
        have hz2 : ((metT l lo hi).1.map encS ++ own1.map encS).length + ((metT r lo hi).1.map encS).length ≤ sizeLine := by
          rw [List.length_append, List.length_map, List.length_map, List.length_map]
          exact Nat.le_of_lt (small1000 (by omega))
        have eM : ((metT l lo hi).1 ++ own1 ++ (metT r lo hi).1).map encS = ((metT l lo hi).1.map encS ++ own1.map encS) ++ (metT r lo hi).1.map encS := by rw [List.map_append, List.map_append]
        show PH _ _ _ _ _ (retM (((metT l lo hi).1 ++ own1 ++ (metT r lo hi).1).map encS) ((metT l lo hi).2 + 1 + (metT r lo hi).2))
        rw [eM]
        have m1 : (p, Mo.raw (.tup [.ref a, .int (metT l lo hi).2])) ∈ [(a', Mo.lst ((metT r lo hi).1.map encS)), (p', .raw (.tup [.ref a', .int (metT r lo hi).2])), (a, .lst ((metT l lo hi).1.map encS)), (p, .raw (.tup [.ref a, .int (metT l lo hi).2]))] := by simp
        have m2 : (a, Mo.lst ((metT l lo hi).1.map encS)) ∈ [(a', Mo.lst ((metT r lo hi).1.map encS)), (p', .raw (.tup [.ref a', .int (metT r lo hi).2])), (a, .lst ((metT l lo hi).1.map encS)), (p, .raw (.tup [.ref a, .int (metT l lo hi).2]))] := by simp
        have m3 : (p', Mo.raw (.tup [.ref a', .int (metT r lo hi).2])) ∈ [(a', Mo.lst ((metT r lo hi).1.map encS)), (p', .raw (.tup [.ref a', .int (metT r lo hi).2])), (a, .lst ((metT l lo hi).1.map encS)), (p, .raw (.tup [.ref a, .int (metT l lo hi).2]))] := by simp
        exact h_retPN (pn_cat (pl_of (pd_bin (pd_raw0 (pd_name 3 rfl) m1) (pd_name 4 rfl) (bin_catL (.o m2) (.d _) hz1)) (.d _)) (pl_of (pd_raw0 (pd_name 5 rfl) m3) (.o List.mem_cons_self)) hz2) (pd_bin (pd_bin (pd_raw1 (pd_name 3 rfl) m1) pd_int (by walk_at "bin")) (pd_raw1 (pd_name 5 rfl) m3) (by walk_at "bin")) fun a p hne => ⟨a, p, rfl, hne, List.mem_cons_of_mem _ List.mem_cons_self, List.mem_cons_self⟩
  intro n
  induction n with
  | zero => exact step 0 fun m e => absurd e (by omega)
  | succ n ih =>
    have e : 1 + (n + 1) = n + 1 + 1 := by omega
    rw [e]
    exact step (n + 1) fun m e => by
      obtain rfl : n = m := by omega
      exact ⟨_, _, ih, hg, hk, hbi⟩
end
end L3
set_option Elab.async false
set_option linter.all false
set_option autoImplicit false
set_option maxRecDepth 100000
set_option maxHeartbeats 4000000
namespace L3
open PySem PySem.Spec L2
local macro_rules | `(tactic| walk_at "bin") => `(tactic| first | exact bin_add | exact bin_sub | exact bin_fdiv ⟨by decide, by decide⟩ | exact bin_mod (by decide) | exact bin_pow ⟨by decide, by decide, by decide⟩ | exact bin_mul (mul_small (by decide)) | exact bin_mul (by with_reducible assumption) | exact bin_catL (.d _) (.d _) (by assumption))
local macro_rules | `(tactic| walk_at "mem") => `(tactic| first | exact List.mem_cons_self | exact List.mem_cons_of_mem _ List.mem_cons_self | exact List.mem_cons_of_mem _ (List.mem_cons_of_mem _ List.mem_cons_self) | exact List.mem_cons_of_mem _ (List.mem_cons_of_mem _ (List.mem_cons_of_mem _ List.mem_cons_self)) | exact List.mem_cons_of_mem _ (List.mem_cons_of_mem _ (List.mem_cons_of_mem _ (List.mem_cons_of_mem _ List.mem_cons_self))) | assumption)
local macro_rules | `(tactic| walk_at "asw") => `(tactic| first | exact .d _ | exact .o (by walk_at "mem") | exact .v _)
local macro_rules | `(tactic| walk_at "asl") => `(tactic| first | exact .d _ | exact .o (by walk_at "mem"))
local macro_rules | `(tactic| walk_at "len") => `(tactic| first | exact .l _ | exact .t _ | exact .o (by walk_at "mem") | exact .s _)
local macro_rules | `(tactic| walk_at "ix") => `(tactic| first | exact .t rfl | exact .l rfl | exact .l (by assumption) | exact .o (by walk_at "mem") rfl | exact .o (by walk_at "mem") (by assumption))
local macro_rules | `(tactic| walk_at "cmp") => `(tactic| first | exact cmp_eqI | exact cmp_neI | exact cmp_le | exact cmp_lt | exact cmp_ge | exact cmp_gt | exact cmp_eqB | exact cmp_neB | exact cmp_eqS | exact cmp_neS | exact cmp_isN | exact cmp_notN | exact cmp_isnotB)
local macro_rules | `(tactic| walk_at "kit") => `(tactic| first | exact kit_ii | exact kit_bb | exact kit_tt | exact kit_ll | exact kit_ib | exact kit_bi | exact kit_it | exact kit_ni | exact kit_si | exact kit_ti | exact kit_li)
section
variable {P : Program} {w : World} {K : PySem.W.Frag} {mg : Str → Option Value} {base : Heap} {C : Addr}
def ΦMeeting (x : PyData) (ds es : List PyData) : Prop := ∃ (t : T) (lo hi : Int), x = encT t ∧ ds = [.int lo, .int hi] ∧ InR lo ∧ InR hi ∧ lo ≤ hi ∧ Wd t ∧ es = (t.toL.filter (meetsQ lo hi)).map encS
theorem scWoodMeeting : FnScope ["self", "low", "high"] ["self", "low", "high"] (defScope sWoodMeeting) := ⟨rfl, rfl, rfl, by decide +kernel, rfl, by decide +kernel, by decide +kernel⟩
theorem ok_meeting {f : Addr} {fd : FuncData} (F : Fun K "meeting" "Wood.meeting" sWoodMeeting f fd) (cl : Cls K C) (na : NoAttr K C "top") (cNeedPair : Cal P w K mg base 2 "need_pair" ["low", "high"] (SpD K ΦPair)) (cMet : Cal P w K mg base 201 "met" ["box", "low", "high"] (SpM K (ΦMet 200))) : FnOk P w K mg base CX0 202 f fd ["self", "low", "high"] (SpRL K C "top" ΦMeeting) := by
  refine okRL F scWoodMeeting (fun x ds es h => ?_) (fun cdv A outer s H E Z p dx v x ds es hr h => ?_)
  · obtain ⟨_, _, _, _, rfl, _⟩ := h; rfl
  · obtain ⟨t, lo, hi, rfl, rfl, i1, i2, i3, wd, rfl⟩ := h
    have hl := wd.len
    refine h_expr (pd_fn cNeedPair (hr.mono (by decide)) (pdd_cons (pd_name 1 rfl) (pdd_cons (pd_name 2 rfl) pdd_nil)) ⟨_, _, rfl, i1, i2, i3, rfl⟩) ?_
    rw [← metT_is wd.av wd.srt]
    exact h_retN (pn_met0 (n := (metT t lo hi).2) cMet (hr.mono (by decide)) (pdd_cons (pd_fld (pd_name 0 rfl) (.inr ⟨_, _, List.mem_cons_self⟩) cl na) (pdd_cons (pd_name 1 rfl) (pdd_cons (pd_name 2 rfl) pdd_nil))) ⟨t, lo, hi, rfl, wd.dep, by omega, rfl, rfl⟩) fun q => ⟨List.mem_cons_of_mem _ List.mem_cons_self, q, rfl, List.mem_cons_self⟩
def ΦHolding (x : PyData) (ds es : List PyData) : Prop := ∃ (t : T) (lo : Int), x = encT t ∧ ds = [.int lo] ∧ InR lo ∧ Wd t ∧ es = (t.toL.filter (meetsQ lo lo)).map encS
theorem scWoodHolding : FnScope ["self", "place"] ["self", "place"] (defScope sWoodHolding) := ⟨rfl, rfl, rfl, by decide +kernel, rfl, by decide +kernel, by decide +kernel⟩
theorem ok_holding {f : Addr} {fd : FuncData} (F : Fun K "holding" "Wood.holding" sWoodHolding f fd) (cl : Cls K C) (cMeeting : CalM CX0 P w K mg base 202 C "meeting" ["self", "low", "high"] (SpRL K C "top" ΦMeeting)) : FnOk P w K mg base CX0 203 f fd ["self", "place"] (SpRL K C "top" ΦHolding) := by
  refine okRL F scWoodHolding (fun x ds es h => ?_) (fun cdv A outer s H E Z p dx v x ds es hr h => ?_)
  · obtain ⟨_, _, _, rfl, _⟩ := h; rfl
  · obtain ⟨t, lo, rfl, rfl, i1, wd, rfl⟩ := h
    exact h_retN (pn_meth cMeeting cl (hr.mono (by decide)) (pd_name 0 rfl) (.inr ⟨_, _, List.mem_cons_self⟩) (pdd_cons (pd_name 1 rfl) (pdd_cons (pd_name 1 rfl) pdd_nil)) ⟨t, lo, lo, rfl, rfl, i1, i1, Int.le_refl _, wd, rfl⟩) fun q => ⟨List.mem_cons_of_mem _ List.mem_cons_self, q, rfl, List.mem_cons_self⟩
/-! ### Wood.looked -/
def ΦWLooked (x : PyData) (ds : List PyData) (r : PyData) : Prop := ∃ (t : T) (lo hi : Int), x = encT t ∧ ds = [.int lo, .int hi] ∧ InR lo ∧ InR hi ∧ lo ≤ hi ∧ Wd t ∧ r = .int (metT t lo hi).2
theorem scWoodLooked : FnScope ["self", "low", "high"] ["self", "low", "high"] (defScope sWoodLooked) := ⟨rfl, rfl, rfl, by decide +kernel, rfl, by decide +kernel, by decide +kernel⟩
theorem ok_wlooked {f : Addr} {fd : FuncData} (F : Fun K "looked" "Wood.looked" sWoodLooked f fd) (cl : Cls K C) (na : NoAttr K C "top") (cNeedPair : Cal P w K mg base 2 "need_pair" ["low", "high"] (SpD K ΦPair)) (cMet : Cal P w K mg base 201 "met" ["box", "low", "high"] (SpM K (ΦMet 200))) : FnOk P w K mg base CX0 202 f fd ["self", "low", "high"] (SpR K C "top" ΦWLooked) := by
  refine okR F scWoodLooked (fun x ds es h => ?_) (fun cdv A outer s H E Z p dx v x ds es hr h => ?_)
  · obtain ⟨_, _, _, _, rfl, _⟩ := h; rfl
  · obtain ⟨t, lo, hi, rfl, rfl, i1, i2, i3, wd, rfl⟩ := h
    have hl := wd.len
    refine h_expr (pd_fn cNeedPair (hr.mono (by decide)) (pdd_cons (pd_name 1 rfl) (pdd_cons (pd_name 2 rfl) pdd_nil)) ⟨_, _, rfl, i1, i2, i3, rfl⟩) ?_
    exact h_ret (pd_met1 (n := (metT t lo hi).2) cMet (hr.mono (by decide)) (pdd_cons (pd_fld (pd_name 0 rfl) (.inr ⟨_, _, List.mem_cons_self⟩) cl na) (pdd_cons (pd_name 1 rfl) (pdd_cons (pd_name 2 rfl) pdd_nil))) ⟨t, lo, hi, rfl, wd.dep, by omega, rfl, rfl⟩) ⟨List.mem_cons_self, .d _⟩
end
end L3
set_option Elab.async false
set_option linter.all false
set_option autoImplicit false
set_option maxRecDepth 100000
set_option maxHeartbeats 4000000
namespace L3
open PySem PySem.Spec L2
local macro_rules | `(tactic| walk_at "bin") => `(tactic| first | exact bin_add | exact bin_sub | exact bin_fdiv ⟨by decide, by decide⟩ | exact bin_mod (by decide) | exact bin_pow ⟨by decide, by decide, by decide⟩ | exact bin_mul (mul_small (by decide)) | exact bin_mul (by with_reducible assumption) | exact bin_catL (.d _) (.d _) (by assumption))
local macro_rules | `(tactic| walk_at "mem") => `(tactic| first | exact List.mem_cons_self | exact List.mem_cons_of_mem _ List.mem_cons_self | exact List.mem_cons_of_mem _ (List.mem_cons_of_mem _ List.mem_cons_self) | exact List.mem_cons_of_mem _ (List.mem_cons_of_mem _ (List.mem_cons_of_mem _ List.mem_cons_self)) | exact List.mem_cons_of_mem _ (List.mem_cons_of_mem _ (List.mem_cons_of_mem _ (List.mem_cons_of_mem _ List.mem_cons_self))) | assumption)
local macro_rules | `(tactic| walk_at "asw") => `(tactic| first | exact .d _ | exact .o (by walk_at "mem") | exact .v _)
local macro_rules | `(tactic| walk_at "asl") => `(tactic| first | exact .d _ | exact .o (by walk_at "mem"))
local macro_rules | `(tactic| walk_at "len") => `(tactic| first | exact .l _ | exact .t _ | exact .o (by walk_at "mem") | exact .s _)
local macro_rules | `(tactic| walk_at "ix") => `(tactic| first | exact .t rfl | exact .l rfl | exact .l (by assumption) | exact .o (by walk_at "mem") rfl | exact .o (by walk_at "mem") (by assumption))
local macro_rules | `(tactic| walk_at "cmp") => `(tactic| first | exact cmp_eqI | exact cmp_neI | exact cmp_le | exact cmp_lt | exact cmp_ge | exact cmp_gt | exact cmp_eqB | exact cmp_neB | exact cmp_eqS | exact cmp_neS | exact cmp_isN | exact cmp_notN | exact cmp_isnotB)
local macro_rules | `(tactic| walk_at "kit") => `(tactic| first | exact kit_ii | exact kit_bb | exact kit_tt | exact kit_ll | exact kit_ib | exact kit_bi | exact kit_it | exact kit_ni | exact kit_si | exact kit_ti | exact kit_li)
local macro_rules | `(tactic| walk_at "phi need_pair") => `(tactic| exact ⟨_, _, rfl, by assumption, by assumption, by assumption, rfl⟩)
section
variable {P : Program} {w : World} {K : PySem.W.Frag} {mg : Str → Option Value} {base : Heap}
/-! ### the gaps of a row -/
abbrev encP (p : Int × Int) : PyData := .tuple [.int p.1, .int p.2]
def lastGap (at' hi : Int) : List (Int × Int) := if decide (at' ≤ hi) = true then [(at', hi)] else []
def gapsFin : List S3 → Int → Int → List (Int × Int)
  | [], at', hi => lastGap at' hi
  | x :: r, at', hi => if decide (hi < x.1) = true then lastGap at' hi else (if decide (at' < x.1) = true then [(at', x.1 - 1)] else []) ++ gapsFin r (max at' (x.2.1 + 1)) hi
def lawGaps : List S3 → Int → Int → List (Int × Int)
  | [], lo, hi => lastGap lo hi
  | x :: r, lo, hi => (if (decide (lo < x.1) && decide (lo ≤ hi)) = true then [(lo, min (x.1 - 1) hi)] else []) ++ lawGaps r (max lo (x.2.1 + 1)) hi
theorem lawGaps_behind : ∀ (row : List S3) (lo hi : Int), hi < lo → lawGaps row lo hi = []
  | [], lo, hi, h => by unfold lawGaps lastGap; rw [if_neg (by simp; omega)]
  | x :: r, lo, hi, h => by
    unfold lawGaps
    rw [if_neg (by simp; omega), lawGaps_behind r _ hi (by omega)]
    rfl
theorem gaps_same : ∀ (row : List S3) (lo hi : Int), (∀ x ∈ row, x.1 ≤ x.2.1) → gapsFin row lo hi = lawGaps row lo hi
  | [], _, _, _ => rfl
  | x :: r, lo, hi, h => by
    have hx := h x List.mem_cons_self
    have ih := fun lo => gaps_same r lo hi fun y hy => h y (List.mem_cons_of_mem _ hy)
    unfold gapsFin lawGaps
    by_cases h1 : hi < x.1
    · rw [if_pos (by simp; omega), lawGaps_behind r _ hi (by omega), List.append_nil]
      unfold lastGap
      by_cases h2 : lo ≤ hi
      · rw [if_pos (by simp; omega), if_pos (by simp; omega)]
        rw [show min (x.1 - 1) hi = hi from by omega]
      · rw [if_neg (by simp; omega), if_neg (by simp; omega)]
    · rw [if_neg (by simp; omega), ih]
      by_cases h2 : lo < x.1
      · rw [if_pos (by simp; omega), if_pos (by simp; omega), show min (x.1 - 1) hi = x.1 - 1 from by omega]
      · rw [if_neg (by simp; omega), if_neg (by simp; omega)]
theorem lawGaps_len : ∀ (row : List S3) (lo hi : Int), (lawGaps row lo hi).length ≤ row.length + 1
  | [], lo, hi => by unfold lawGaps lastGap; split <;> simp
  | x :: r, lo, hi => by
    unfold lawGaps
    have := lawGaps_len r (max lo (x.2.1 + 1)) hi
    rw [List.length_append, List.length_cons]
    split <;> simp <;> omega
theorem rows_P (l : List (Int × Int)) : Rows (l.map encP) := fun x hx => by
  obtain ⟨p, _, rfl⟩ := List.mem_map.mp hx
  exact ⟨[p.1, p.2], rfl, by simp⟩
def ΦGapsOf (ds es : List PyData) : Prop := ∃ (row : List S3) (lo hi : Int), ds = [.list (row.map encS), .int lo, .int hi] ∧ row.length ≤ 1000 ∧ InR lo ∧ InR hi ∧ lo ≤ hi ∧ es = (gapsFin row lo hi).map encP
theorem scGapsOf : FnScope ["row", "low", "high", "found", "at", "one"] ["row", "low", "high"] (defScope sGapsOf) := ⟨rfl, rfl, rfl, by decide +kernel, rfl, by decide +kernel, by decide +kernel⟩
theorem ok_gapsOf {f : Addr} {fd : FuncData} (F : Fun K "gaps_of" "gaps_of" sGapsOf f fd) (cNeedPair : Cal P w K mg base 2 "need_pair" ["low", "high"] (SpD K ΦPair)) (mmax : mg "max" = none) : FnOk P w K mg base CX0 3 f fd ["row", "low", "high"] (SpL K ΦGapsOf) := by
  refine okL F scGapsOf (fun ds d h => ?_) (fun cdv A outer s H E Z ds es hr h => ?_)
  · obtain ⟨_, _, _, rfl, _⟩ := h; rfl
  · obtain ⟨row, lo, hi, rfl, hrow, hlo, hhi, hle, rfl⟩ := h
    refine h_expr (pd_fn cNeedPair (hr.mono (by decide)) (pdd_cons (pd_name 1 rfl) (pdd_cons (pd_name 2 rfl) pdd_nil)) (by walk_at "phi need_pair")) ?_
    refine h_setN 3 (pn_lst pdd_nil) (fun a3 => ?_) scGapsOf.nd
    refine h_set 4 (pd_name 1 rfl) ?_ scGapsOf.nd
    refine h_forM (fun own ρ => ∃ (fnd : List (Int × Int)) (at' : Int) (x5 : Sl), own = [(a3, .lst (fnd.map encP))] ∧ ρ = [.d (.list (row.map encS)), .d (.int lo), .d (.int hi), .v (.ref a3), .d (.int at'), x5] ∧ fnd.length ≤ 1000 ∧ fnd ++ lastGap at' hi = gapsFin row lo hi)
      (fun k own ρ => ∃ (fnd : List (Int × Int)) (at' : Int) (x5 : Sl), own = [(a3, .lst (fnd.map encP))] ∧ ρ = [.d (.list (row.map encS)), .d (.int lo), .d (.int hi), .v (.ref a3), .d (.int at'), x5] ∧ fnd.length ≤ k ∧ fnd ++ gapsFin (row.drop k) at' hi = gapsFin row lo hi)
      (pit_list (pd_name 0 rfl)) _ (fun d _ => (tg_name 5 scGapsOf.nd)) ⟨[], lo, _, rfl, rfl, Nat.le_refl _, rfl⟩ (fun F k own' ρ' d hk j => ?_) (fun own' ρ' j => ?_) ?_
    · obtain ⟨hk', rfl, hd⟩ := drop_at hk
      obtain ⟨fnd, at', x5, rfl, rfl, hf, he⟩ := j
      rw [hd] at he
      generalize row[k] = one at he
      rw [gapsFin] at he
      refine h_if (pb_cmp (pw_of (pd_ix (pd_name 5 rfl) pd_int (by walk_at "ix")) (by walk_at "asw")) (pw_of (pd_name 2 rfl) (by walk_at "asw")) (by walk_at "cmp") (nomark _)) (fun hb => ?_) (fun hb => ?_)
      · rw [if_pos hb] at he
        exact h_break ⟨fnd, at', _, rfl, rfl, by omega, he⟩
      · rw [if_neg (by rw [hb]; exact Bool.false_ne_true)] at he
        refine h_nil (h_if (pb_cmp (pw_of (pd_ix (pd_name 5 rfl) pd_int (by walk_at "ix")) (by walk_at "asw")) (pw_of (pd_name 4 rfl) (by walk_at "asw")) (by walk_at "cmp") (nomark _)) (fun hb2 => ?_) (fun hb2 => ?_))
        · rw [if_pos hb2] at he
          refine h_app 0 (pd_name 3 rfl) rfl (pd_tup (pdd_cons (pd_name 4 rfl) (pdd_cons (pd_bin (pd_ix (pd_name 5 rfl) pd_int (by walk_at "ix")) pd_int (by walk_at "bin")) pdd_nil))) (by rw [List.length_map]; exact small1000 (by omega)) ?_ (pe_app)
          refine h_nil (h_set 4 (pd_max2 (pd_name 4 rfl) (pd_bin (pd_ix (pd_name 5 rfl) pd_int (by walk_at "ix")) pd_int (by walk_at "bin")) (by assumption)) ?_ scGapsOf.nd)
          exact h_nil ⟨fnd ++ [(at', one.1 - 1)], _, _, by rw [List.map_append]; rfl, rfl, by rw [List.length_append, List.length_singleton]; omega, by rw [List.append_assoc]; exact he⟩
        · rw [if_neg (by rw [hb2]; exact Bool.false_ne_true)] at he
          refine h_nil (h_set 4 (pd_max2 (pd_name 4 rfl) (pd_bin (pd_ix (pd_name 5 rfl) pd_int (by walk_at "ix")) pd_int (by walk_at "bin")) (by assumption)) ?_ scGapsOf.nd)
          exact h_nil ⟨fnd, _, _, rfl, rfl, by omega, he⟩
    · obtain ⟨fnd, at', x5, rfl, rfl, hf, he⟩ := j
      rw [List.length_map, List.drop_length] at he
      rw [List.length_map] at hf
      exact ⟨fnd, at', _, rfl, rfl, by omega, he⟩
    rintro _ _ ⟨fnd, at', x5, rfl, rfl, hf, he⟩
    unfold lastGap at he
    refine h_if (pb_cmp (pw_of (pd_name 4 rfl) (by walk_at "asw")) (pw_of (pd_name 2 rfl) (by walk_at "asw")) (by walk_at "cmp") (nomark _)) (fun hb => ?_) (fun hb => ?_)
    · rw [if_pos hb] at he
      refine h_app 0 (pd_name 3 rfl) rfl (pd_tup (pdd_cons (pd_name 4 rfl) (pdd_cons (pd_name 2 rfl) pdd_nil))) (by rw [List.length_map]; exact small1000 hf) ?_ (pe_app)
      refine h_nil (h_ret (pd_name 3 rfl) ⟨_, rfl, ?_⟩)
      rw [← he, List.map_append]
      exact List.mem_cons_self
    · rw [if_neg (by rw [hb]; exact Bool.false_ne_true), List.append_nil] at he
      refine h_nil (h_ret (pd_name 3 rfl) ⟨_, rfl, ?_⟩)
      rw [← he]
      exact List.mem_cons_self
end
end L3
set_option Elab.async false
set_option linter.all false
set_option autoImplicit false
set_option maxRecDepth 100000
set_option maxHeartbeats 4000000
namespace L3
open PySem PySem.Spec L2
local macro_rules | `(tactic| walk_at "bin") => `(tactic| first | exact bin_add | exact bin_sub | exact bin_fdiv ⟨by decide, by decide⟩ | exact bin_mod (by decide) | exact bin_pow ⟨by decide, by decide, by decide⟩ | exact bin_mul (mul_small (by decide)) | exact bin_mul (by with_reducible assumption) | exact bin_catL (.d _) (.d _) (by assumption))
local macro_rules | `(tactic| walk_at "mem") => `(tactic| first | exact List.mem_cons_self | exact List.mem_cons_of_mem _ List.mem_cons_self | exact List.mem_cons_of_mem _ (List.mem_cons_of_mem _ List.mem_cons_self) | exact List.mem_cons_of_mem _ (List.mem_cons_of_mem _ (List.mem_cons_of_mem _ List.mem_cons_self)) | exact List.mem_cons_of_mem _ (List.mem_cons_of_mem _ (List.mem_cons_of_mem _ (List.mem_cons_of_mem _ List.mem_cons_self))) | assumption)
local macro_rules | `(tactic| walk_at "asw") => `(tactic| first | exact .d _ | exact .o (by walk_at "mem") | exact .v _)
local macro_rules | `(tactic| walk_at "asl") => `(tactic| first | exact .d _ | exact .o (by walk_at "mem"))
local macro_rules | `(tactic| walk_at "len") => `(tactic| first | exact .l _ | exact .t _ | exact .o (by walk_at "mem") | exact .s _)
local macro_rules | `(tactic| walk_at "ix") => `(tactic| first | exact .t rfl | exact .l rfl | exact .l (by assumption) | exact .o (by walk_at "mem") rfl | exact .o (by walk_at "mem") (by assumption))
local macro_rules | `(tactic| walk_at "cmp") => `(tactic| first | exact cmp_eqI | exact cmp_neI | exact cmp_le | exact cmp_lt | exact cmp_ge | exact cmp_gt | exact cmp_eqB | exact cmp_neB | exact cmp_eqS | exact cmp_neS | exact cmp_isN | exact cmp_notN | exact cmp_isnotB)
local macro_rules | `(tactic| walk_at "kit") => `(tactic| first | exact kit_ii | exact kit_bb | exact kit_tt | exact kit_ll | exact kit_ib | exact kit_bi | exact kit_it | exact kit_ni | exact kit_si | exact kit_ti | exact kit_li)
local macro_rules | `(tactic| walk_at "phi need_pair") => `(tactic| exact ⟨_, _, rfl, by assumption, by assumption, by assumption, rfl⟩)
section
variable {P : Program} {w : World} {K : PySem.W.Frag} {mg : Str → Option Value} {base : Heap}
/-! ### the deepest place of a row -/
def holdsP (p : Int) (x : S3) : Bool := decide (x.1 ≤ p) && decide (p ≤ x.2.1)
def cnt (row : List S3) (p : Int) : Int := ((row.filter (holdsP p)).length : Nat)
def inQ (lo hi : Int) (x : S3) : Bool := decide (lo < x.1) && decide (x.1 ≤ hi)
def deepStep (row : List S3) (lo hi : Int) (b : Int × Int) (x : S3) : Int × Int := if inQ lo hi x = true then (if decide (b.1 < cnt row x.1) = true then (cnt row x.1, x.1) else b) else b
def deepest (row : List S3) (lo hi : Int) : Int × Int := row.foldl (deepStep row lo hi) (cnt row lo, lo)
structure Deep (row : List S3) (lo hi : Int) (pre : List S3) (b : Int × Int) : Prop where
  is : b.1 = cnt row b.2
  dlo : lo ≤ b.2
  dhi : b.2 ≤ hi
  at' : b.2 = lo ∨ ∃ x ∈ pre, x.1 = b.2
  best : ∀ p, (p = lo ∨ ∃ x ∈ pre, x.1 = p ∧ lo < p ∧ p ≤ hi) → cnt row p < b.1 ∨ (cnt row p = b.1 ∧ b.2 ≤ p)
theorem deep_step {row pre : List S3} {lo hi : Int} {b : Int × Int} (h : Deep row lo hi pre b) (x : S3) (hs : ∀ y ∈ pre, y.1 ≤ x.1) : Deep row lo hi (pre ++ [x]) (deepStep row lo hi b x) := by
  have old : ∀ p, (p = lo ∨ ∃ y ∈ pre ++ [x], y.1 = p ∧ lo < p ∧ p ≤ hi) → (p = lo ∨ ∃ y ∈ pre, y.1 = p ∧ lo < p ∧ p ≤ hi) ∨ (p = x.1 ∧ lo < p ∧ p ≤ hi) := fun p hp => by
    rcases hp with z | ⟨y, hy, e⟩
    · exact .inl (.inl z)
    · rcases List.mem_append.mp hy with q | q
      · exact .inl (.inr ⟨y, q, e⟩)
      · rw [List.mem_singleton] at q
        subst q
        exact .inr ⟨e.1.symm, e.2⟩
  have keep : b.2 = lo ∨ ∃ y ∈ pre ++ [x], y.1 = b.2 := by
    rcases h.at' with z | ⟨y, hy, e⟩
    · exact .inl z
    · exact .inr ⟨y, List.mem_append_left _ hy, e⟩
  unfold deepStep
  split
  · rename_i hq
    have hq1 := (Bool.and_eq_true _ _ ▸ hq : _ ∧ _)
    have q1 := of_decide_eq_true hq1.1
    have q2 := of_decide_eq_true hq1.2
    split
    · rename_i hm
      have hm := of_decide_eq_true hm
      refine ⟨rfl, by show lo ≤ x.1; omega, q2, .inr ⟨x, List.mem_append_right _ List.mem_cons_self, rfl⟩, fun p hp => ?_⟩
      rcases old p hp with z | ⟨rfl, _⟩
      · have := h.best p z
        exact .inl (by show cnt row p < cnt row x.1; omega)
      · exact .inr ⟨rfl, Int.le_refl _⟩
    · rename_i hm
      have hm : ¬ b.1 < cnt row x.1 := fun z => hm (decide_eq_true z)
      refine ⟨h.is, h.dlo, h.dhi, keep, fun p hp => ?_⟩
      rcases old p hp with z | ⟨rfl, _⟩
      · exact h.best p z
      · have hb : b.2 ≤ x.1 := by
          rcases h.at' with z | ⟨y, hy, e⟩
          · omega
          · rw [← e]; exact hs y hy
        omega
  · rename_i hq
    refine ⟨h.is, h.dlo, h.dhi, keep, fun p hp => ?_⟩
    rcases old p hp with z | ⟨rfl, e1, e2⟩
    · exact h.best p z
    · exact absurd (show inQ lo hi x = true by unfold inQ; rw [decide_eq_true e1, decide_eq_true e2]; rfl) hq
theorem deep_all {row : List S3} {lo hi : Int} : ∀ (rest pre : List S3) (b : Int × Int), Deep row lo hi pre b → (∀ y ∈ pre, ∀ x ∈ rest, y.1 ≤ x.1) → rest.Pairwise (fun a b => sLe a b = true) → Deep row lo hi (pre ++ rest) (rest.foldl (deepStep row lo hi) b)
  | [], pre, b, h, _, _ => by rw [List.append_nil]; exact h
  | x :: rest, pre, b, h, h2, h3 => by
    rw [List.pairwise_cons] at h3
    have := deep_all rest (pre ++ [x]) _ (deep_step h x fun y hy => h2 y hy x List.mem_cons_self) (fun y hy z hz => by
      rcases List.mem_append.mp hy with q | q
      · exact h2 y q z (List.mem_cons_of_mem _ hz)
      · rw [List.mem_singleton] at q
        subst q
        have := (sLe_iff _ _).mp (h3.1 z hz)
        omega) h3.2
    rw [List.append_assoc] at this
    exact this
theorem deepest_deep {row : List S3} {lo hi : Int} (h : lo ≤ hi) (hs : row.Pairwise fun a b => sLe a b = true) : Deep row lo hi row (deepest row lo hi) :=
  deep_all row [] (cnt row lo, lo) ⟨rfl, Int.le_refl _, h, .inl rfl, fun p hp => by
    rcases hp with rfl | ⟨x, hx, _⟩
    · exact .inr ⟨rfl, Int.le_refl _⟩
    · exact absurd hx (by simp)⟩ (fun y hy => absurd hy (by simp)) hs
def ΦMany (ds : List PyData) (d : PyData) : Prop := ∃ (row : List S3) (p : Int), ds = [.list (row.map encS), .int p] ∧ row.length ≤ 1000 ∧ d = .int (cnt row p)
theorem scManyAt : FnScope ["row", "place", "one"] ["row", "place"] (defScope sManyAt) := ⟨rfl, rfl, rfl, by decide +kernel, rfl, by decide +kernel, by decide +kernel⟩
theorem ok_manyAt {f : Addr} {fd : FuncData} (F : Fun K "many_at" "many_at" sManyAt f fd) (mlen : mg "len" = none) : FnOk P w K mg base CX0 1 f fd ["row", "place"] (SpD K ΦMany) := by
  refine okD F scManyAt (fun ds d h => ?_) (fun cdv A outer s H E Z ds d hr h => ?_)
  · obtain ⟨_, _, rfl, _⟩ := h; rfl
  · obtain ⟨row, p, rfl, hrow, rfl⟩ := h
    refine h_ret (pd_len (pd_of_n (pn_lc encS row (holdsP p) encS 2 (pit_list (pd_name 0 rfl)) scManyAt.nd (by rfl) (fun _ _ _ _ _ => pg_name (i := 2) scManyAt.nd rfl (Or.inl rfl)) (fun b hb _ _ _ _ _ _ => (pbs_one (pb_chain (pw_of (pd_ix (pd_name 2 rfl) pd_int (by walk_at "ix")) (by walk_at "asw")) (pw_of (pd_name 1 rfl) (by walk_at "asw")) (fun _ => (pw_of (pd_ix (pd_name 2 rfl) pd_int (by walk_at "ix")) (by walk_at "asw"))) (by walk_at "cmp") (by walk_at "cmp")))) (fun b hb ht _ _ _ _ _ _ => (pd_name 2 rfl)) (small1000 hrow))) (by walk_at "len") (by assumption)) ?_
    rw [List.length_map]
    exact .d _
def ΦDeep (ds : List PyData) (d : PyData) : Prop := ∃ (row : List S3) (lo hi : Int), ds = [.list (row.map encS), .int lo, .int hi] ∧ row.length ≤ 1000 ∧ InR lo ∧ InR hi ∧ lo ≤ hi ∧ d = .tuple [.int (deepest row lo hi).1, .int (deepest row lo hi).2]
theorem scDeepestOf : FnScope ["row", "low", "high", "best", "one", "many"] ["row", "low", "high"] (defScope sDeepestOf) := ⟨rfl, rfl, rfl, by decide +kernel, rfl, by decide +kernel, by decide +kernel⟩
theorem ok_deepestOf {f : Addr} {fd : FuncData} (F : Fun K "deepest_of" "deepest_of" sDeepestOf f fd) (cNeedPair : Cal P w K mg base 2 "need_pair" ["low", "high"] (SpD K ΦPair)) (cManyAt : Cal P w K mg base 1 "many_at" ["row", "place"] (SpD K ΦMany)) : FnOk P w K mg base CX0 3 f fd ["row", "low", "high"] (SpD K ΦDeep) := by
  refine okD F scDeepestOf (fun ds d h => ?_) (fun cdv A outer s H E Z ds d hr h => ?_)
  · obtain ⟨_, _, _, rfl, _⟩ := h; rfl
  · obtain ⟨row, lo, hi, rfl, hrow, hlo, hhi, hle, rfl⟩ := h
    refine h_expr (pd_fn cNeedPair (hr.mono (by decide)) (pdd_cons (pd_name 1 rfl) (pdd_cons (pd_name 2 rfl) pdd_nil)) (by walk_at "phi need_pair")) ?_
    refine h_set 3 (pd_tup (pdd_cons (pd_fn cManyAt (hr.mono (by decide)) (pdd_cons (pd_name 0 rfl) (pdd_cons (pd_name 1 rfl) pdd_nil)) ⟨_, _, rfl, hrow, rfl⟩) (pdd_cons (pd_name 1 rfl) pdd_nil))) ?_ scDeepestOf.nd
    refine h_for (fun k own ρ => own = [] ∧ ∃ (b : Int × Int) (x4 x5 : Sl), ρ = [.d (.list (row.map encS)), .d (.int lo), .d (.int hi), .d (.tuple [.int b.1, .int b.2]), x4, x5] ∧ (row.drop k).foldl (deepStep row lo hi) b = deepest row lo hi)
      (pit_list (pd_name 0 rfl)) _ (fun d _ => (tg_name 4 scDeepestOf.nd)) ⟨rfl, (cnt row lo, lo), _, _, rfl, rfl⟩ (fun F k own' ρ' d hk j => ?_) (fun own' ρ' j => ?_)
    · obtain ⟨hk', rfl, hd⟩ := drop_at hk
      obtain ⟨rfl, b, x4, x5, rfl, he⟩ := j
      rw [hd, List.foldl_cons] at he
      generalize row[k] = one at he
      refine h_if (pb_chain (pw_of (pd_name 1 rfl) (by walk_at "asw")) (pw_of (pd_ix (pd_name 4 rfl) pd_int (by walk_at "ix")) (by walk_at "asw")) (fun _ => (pw_of (pd_name 2 rfl) (by walk_at "asw"))) (by walk_at "cmp") (by walk_at "cmp")) (fun hb => ?_) (fun hb => ?_)
      · refine h_set 5 (pd_fn cManyAt (hr.mono (by decide)) (pdd_cons (pd_name 0 rfl) (pdd_cons (pd_ix (pd_name 4 rfl) pd_int (by walk_at "ix")) pdd_nil)) ⟨_, _, rfl, hrow, rfl⟩) ?_ scDeepestOf.nd
        have hq : inQ lo hi one = true := hb
        refine h_if (pb_cmp (pw_of (pd_name 5 rfl) (by walk_at "asw")) (pw_of (pd_ix (pd_name 3 rfl) pd_int (by walk_at "ix")) (by walk_at "asw")) (by walk_at "cmp") (nomark _)) (fun hb2 => ?_) (fun hb2 => ?_)
        · refine h_set 3 (pd_tup (pdd_cons (pd_name 5 rfl) (pdd_cons (pd_ix (pd_name 4 rfl) pd_int (by walk_at "ix")) pdd_nil))) ?_ scDeepestOf.nd
          have e : deepStep row lo hi b one = (cnt row one.1, one.1) := by unfold deepStep; rw [if_pos hq, if_pos hb2]
          rw [e] at he
          exact h_nil (h_nil (h_nil ⟨rfl, _, _, _, rfl, he⟩))
        · have e : deepStep row lo hi b one = b := by unfold deepStep; rw [if_pos hq, if_neg (by rw [hb2]; exact Bool.false_ne_true)]
          rw [e] at he
          exact h_nil (h_nil (h_nil ⟨rfl, _, _, _, rfl, he⟩))
      · have hq : inQ lo hi one = false := hb
        have e : deepStep row lo hi b one = b := by unfold deepStep; rw [if_neg (by rw [hq]; exact Bool.false_ne_true)]
        rw [e] at he
        exact h_nil (h_nil ⟨rfl, _, _, _, rfl, he⟩)
    · obtain ⟨rfl, b, x4, x5, rfl, he⟩ := j
      rw [List.length_map, List.drop_length] at he
      rw [← he]
      exact h_ret (pd_name 3 rfl) (.d _)
end
end L3
set_option Elab.async false
set_option linter.all false
set_option autoImplicit false
set_option maxRecDepth 100000
set_option maxHeartbeats 4000000
namespace L3
open PySem PySem.Spec L2
local macro_rules | `(tactic| walk_at "bin") => `(tactic| first | exact bin_add | exact bin_sub | exact bin_fdiv ⟨by decide, by decide⟩ | exact bin_mod (by decide) | exact bin_pow ⟨by decide, by decide, by decide⟩ | exact bin_mul (mul_small (by decide)) | exact bin_mul (by with_reducible assumption) | exact bin_catL (.d _) (.d _) (by assumption))
local macro_rules | `(tactic| walk_at "mem") => `(tactic| first | exact List.mem_cons_self | exact List.mem_cons_of_mem _ List.mem_cons_self | exact List.mem_cons_of_mem _ (List.mem_cons_of_mem _ List.mem_cons_self) | exact List.mem_cons_of_mem _ (List.mem_cons_of_mem _ (List.mem_cons_of_mem _ List.mem_cons_self)) | exact List.mem_cons_of_mem _ (List.mem_cons_of_mem _ (List.mem_cons_of_mem _ (List.mem_cons_of_mem _ List.mem_cons_self))) | assumption)
local macro_rules | `(tactic| walk_at "asw") => `(tactic| first | exact .d _ | exact .o (by walk_at "mem") | exact .v _)
local macro_rules | `(tactic| walk_at "asl") => `(tactic| first | exact .d _ | exact .o (by walk_at "mem"))
local macro_rules | `(tactic| walk_at "len") => `(tactic| first | exact .l _ | exact .t _ | exact .o (by walk_at "mem") | exact .s _)
local macro_rules | `(tactic| walk_at "ix") => `(tactic| first | exact .t rfl | exact .l rfl | exact .l (by assumption) | exact .o (by walk_at "mem") rfl | exact .o (by walk_at "mem") (by assumption))
local macro_rules | `(tactic| walk_at "cmp") => `(tactic| first | exact cmp_eqI | exact cmp_neI | exact cmp_le | exact cmp_lt | exact cmp_ge | exact cmp_gt | exact cmp_eqB | exact cmp_neB | exact cmp_eqS | exact cmp_neS | exact cmp_isN | exact cmp_notN | exact cmp_isnotB)
local macro_rules | `(tactic| walk_at "kit") => `(tactic| first | exact kit_ii | exact kit_bb | exact kit_tt | exact kit_ll | exact kit_ib | exact kit_bi | exact kit_it | exact kit_ni | exact kit_si | exact kit_ti | exact kit_li)
section
variable {P : Program} {w : World} {K : PySem.W.Frag} {mg : Str → Option Value} {base : Heap} {C : Addr}
/-! ### the wood's own -/
def ΦWGaps (x : PyData) (ds es : List PyData) : Prop := ∃ (t : T) (lo hi : Int), x = encT t ∧ ds = [.int lo, .int hi] ∧ InR lo ∧ InR hi ∧ lo ≤ hi ∧ Wd t ∧ es = (gapsFin t.toL lo hi).map encP
theorem scWoodGaps : FnScope ["self", "low", "high"] ["self", "low", "high"] (defScope sWoodGaps) := ⟨rfl, rfl, rfl, by decide +kernel, rfl, by decide +kernel, by decide +kernel⟩
theorem ok_wgaps {f : Addr} {fd : FuncData} (F : Fun K "gaps" "Wood.gaps" sWoodGaps f fd) (cl : Cls K C) (cListed : CalM CX0 P w K mg base 203 C "listed" ["self"] (SpRL K C "top" ΦListed)) (cGapsOf : Cal P w K mg base 3 "gaps_of" ["row", "low", "high"] (SpL K ΦGapsOf)) : FnOk P w K mg base CX0 204 f fd ["self", "low", "high"] (SpRL K C "top" ΦWGaps) := by
  refine okRL F scWoodGaps (fun x ds es h => ?_) (fun cdv A outer s H E Z p dx v x ds es hr h => ?_)
  · obtain ⟨_, _, _, _, rfl, _⟩ := h; rfl
  · obtain ⟨t, lo, hi, rfl, rfl, i1, i2, i3, wd, rfl⟩ := h
    have hl := wd.len
    exact h_retN (pn_fn cGapsOf (hr.mono (by decide)) (pdd_cons (pd_of_n (pn_meth0 cListed cl (hr.mono (by decide)) (pd_name 0 rfl) (.inr ⟨_, _, List.mem_cons_self⟩) ⟨t, rfl, rfl, wd, rfl⟩)) (pdd_cons (pd_name 1 rfl) (pdd_cons (pd_name 2 rfl) pdd_nil))) ⟨_, _, _, rfl, by omega, i1, i2, i3, rfl⟩) fun q => ⟨List.mem_cons_of_mem _ List.mem_cons_self, q, rfl, List.mem_cons_self⟩
def ΦWDeep (x : PyData) (ds : List PyData) (r : PyData) : Prop := ∃ (t : T) (lo hi : Int), x = encT t ∧ ds = [.int lo, .int hi] ∧ InR lo ∧ InR hi ∧ lo ≤ hi ∧ Wd t ∧ r = .tuple [.int (deepest t.toL lo hi).1, .int (deepest t.toL lo hi).2]
theorem scWoodDeepest : FnScope ["self", "low", "high"] ["self", "low", "high"] (defScope sWoodDeepest) := ⟨rfl, rfl, rfl, by decide +kernel, rfl, by decide +kernel, by decide +kernel⟩
theorem ok_wdeepest {f : Addr} {fd : FuncData} (F : Fun K "deepest" "Wood.deepest" sWoodDeepest f fd) (cl : Cls K C) (cListed : CalM CX0 P w K mg base 203 C "listed" ["self"] (SpRL K C "top" ΦListed)) (cDeepestOf : Cal P w K mg base 3 "deepest_of" ["row", "low", "high"] (SpD K ΦDeep)) : FnOk P w K mg base CX0 204 f fd ["self", "low", "high"] (SpR K C "top" ΦWDeep) := by
  refine okR F scWoodDeepest (fun x ds es h => ?_) (fun cdv A outer s H E Z p dx v x ds es hr h => ?_)
  · obtain ⟨_, _, _, _, rfl, _⟩ := h; rfl
  · obtain ⟨t, lo, hi, rfl, rfl, i1, i2, i3, wd, rfl⟩ := h
    have hl := wd.len
    exact h_ret (pd_fn cDeepestOf (hr.mono (by decide)) (pdd_cons (pd_of_n (pn_meth0 cListed cl (hr.mono (by decide)) (pd_name 0 rfl) (.inr ⟨_, _, List.mem_cons_self⟩) ⟨t, rfl, rfl, wd, rfl⟩)) (pdd_cons (pd_name 1 rfl) (pdd_cons (pd_name 2 rfl) pdd_nil))) ⟨_, _, _, rfl, by omega, i1, i2, i3, rfl⟩) ⟨List.mem_cons_self, .d _⟩
/-! ### what is no stretch, no low and high: refused -/
theorem px_of_pd {X : Cx} {W : WX} {Z : Fz} {own : Own} {ρ : List Sl} {e : Expr} {d : PyData} (h : PD X Z own ρ e (.d d)) : PX X W Z own ρ e (fun own' d' => own' = own ∧ d' = d) (fun _ _ => False) := fun σ H R Q q1 _ => h σ H R _ fun v H' s hv => q1 own d v H' ⟨rfl, rfl⟩ (R.mono s) hv
def badS (lo hi mk : PyData) : Bool := badP lo hi || !isNum mk
def ΦStrB (bc : Addr) (ds : List PyData) (cc : Addr) : Prop := ∃ lo hi mk : PyData, ds = [lo, hi, mk] ∧ Thing lo ∧ Thing hi ∧ Thing mk ∧ badS lo hi mk = true ∧ cc = bc
theorem ok_strB {f : Addr} {fd : FuncData} {bc : Addr} (F : Fun K "stretch_of" "stretch_of" sStretchOf f fd) (B : ExcT K mg "BadStretch" bc) (cIsNumber : Cal P w K mg base 1 "is_number" ["value"] (SpD K ΦNum)) (cNeedPair : Cal P w K mg base 2 "need_pair" ["low", "high"] (SpD K ΦPair)) (cPairB : CalX (CXN P w) P w K mg base 2 "need_pair" ["low", "high"] (SpX K (ΦPairB bc))) : FnOk P w K mg base (CXN P w) 3 f fd ["low", "high", "mark"] (SpX K (ΦStrB bc)) := by
  refine okXN F scStretchOf (fun ds d h => ?_) (fun cdv A outer s H E Z ds cc W hr tk h => ?_)
  · obtain ⟨_, _, _, rfl, _⟩ := h; rfl
  · obtain ⟨lo, hi, mk, rfl, t1, t2, t3, hb0, rfl⟩ := h
    cases hp : badP lo hi with
    | true => exact hx_exprX (px_of_pr (pr_call cPairB (fun σ => L2N.passAt tk σ) (hr.mono (by decide)) (pdd_cons (pd_name 0 rfl) (pdd_cons (pd_name 1 rfl) pdd_nil)) ⟨lo, hi, rfl, t1, t2, hp, rfl⟩)) (fun _ _ h => h.elim) (fun own' c h => h.2)
    | false =>
      obtain ⟨a, b, rfl, rfl, ra, rb, hab⟩ := good_pair hp
      refine hx_exprX (px_of_pd (pd_fn cNeedPair (hr.mono (by decide)) (pdd_cons (pd_name 0 rfl) (pdd_cons (pd_name 1 rfl) pdd_nil)) ⟨a, b, rfl, ra, rb, hab, rfl⟩)) (fun own' d h => ?_) (fun _ _ h => h.elim)
      obtain ⟨rfl, _⟩ := h
      refine hx_if (pb_not (pb_val (pd_fn cIsNumber (hr.mono (by decide)) (pdd_cons (pd_name 2 rfl) pdd_nil) ⟨_, rfl, t3, rfl⟩))) (fun hb => hx_raiseN B tk rfl) (fun hb => ?_)
      unfold badS at hb0
      rw [hp, hb] at hb0
      exact absurd hb0 (by decide)
def ΦRowB (bc : Addr) (ds : List PyData) (cc : Addr) : Prop := ∃ row lo hi : PyData, ds = [row, lo, hi] ∧ Thing lo ∧ Thing hi ∧ badP lo hi = true ∧ cc = bc
theorem ok_gapsOfB {f : Addr} {fd : FuncData} {bc : Addr} (F : Fun K "gaps_of" "gaps_of" sGapsOf f fd) (cPairB : CalX (CXN P w) P w K mg base 2 "need_pair" ["low", "high"] (SpX K (ΦPairB bc))) : FnOk P w K mg base (CXN P w) 3 f fd ["row", "low", "high"] (SpX K (ΦRowB bc)) := by
  refine okXN F scGapsOf (fun ds d h => ?_) (fun cdv A outer s H E Z ds cc W hr tk h => ?_)
  · obtain ⟨_, _, _, rfl, _⟩ := h; rfl
  · obtain ⟨row, lo, hi, rfl, t1, t2, hb0, rfl⟩ := h
    exact hx_exprX (px_of_pr (pr_call cPairB (fun σ => L2N.passAt tk σ) (hr.mono (by decide)) (pdd_cons (pd_name 1 rfl) (pdd_cons (pd_name 2 rfl) pdd_nil)) ⟨lo, hi, rfl, t1, t2, hb0, rfl⟩)) (fun _ _ h => h.elim) (fun own' c h => h.2)
theorem ok_deepestOfB {f : Addr} {fd : FuncData} {bc : Addr} (F : Fun K "deepest_of" "deepest_of" sDeepestOf f fd) (cPairB : CalX (CXN P w) P w K mg base 2 "need_pair" ["low", "high"] (SpX K (ΦPairB bc))) : FnOk P w K mg base (CXN P w) 3 f fd ["row", "low", "high"] (SpX K (ΦRowB bc)) := by
  refine okXN F scDeepestOf (fun ds d h => ?_) (fun cdv A outer s H E Z ds cc W hr tk h => ?_)
  · obtain ⟨_, _, _, rfl, _⟩ := h; rfl
  · obtain ⟨row, lo, hi, rfl, t1, t2, hb0, rfl⟩ := h
    exact hx_exprX (px_of_pr (pr_call cPairB (fun σ => L2N.passAt tk σ) (hr.mono (by decide)) (pdd_cons (pd_name 1 rfl) (pdd_cons (pd_name 2 rfl) pdd_nil)) ⟨lo, hi, rfl, t1, t2, hb0, rfl⟩)) (fun _ _ h => h.elim) (fun own' c h => h.2)
/-- methods from a low to a high -/
def ΦAskB (bc : Addr) (x : PyData) (ds : List PyData) (x' : PyData) (r : PyData ⊕ Addr) : Prop := ∃ (t : T) (lo hi : PyData), x = encT t ∧ ds = [lo, hi] ∧ Thing lo ∧ Thing hi ∧ badP lo hi = true ∧ Wd t ∧ x' = x ∧ r = .inr bc
theorem ok_meetingB {f : Addr} {fd : FuncData} {bc : Addr} (F : Fun K "meeting" "Wood.meeting" sWoodMeeting f fd) (cPairB : CalX (CXN P w) P w K mg base 2 "need_pair" ["low", "high"] (SpX K (ΦPairB bc))) : FnOk P w K mg base (CXN P w) 3 f fd ["self", "low", "high"] (SpE K C "top" (ΦAskB bc)) := by
  refine okEXN F scWoodMeeting (fun x ds x' r h => ?_) (fun cdv A outer s H E Z p x ds x' r W hr tk h => ?_)
  · obtain ⟨_, _, _, _, rfl, _⟩ := h; rfl
  · obtain ⟨t, lo, hi, rfl, rfl, t1, t2, hb0, wd, rfl, rfl⟩ := h
    refine hx_exprX (px_of_pr (pr_call cPairB (fun σ => L2N.passAt tk σ) (hr.mono (by decide)) (pdd_cons (pd_name 1 rfl) (pdd_cons (pd_name 2 rfl) pdd_nil)) ⟨lo, hi, rfl, t1, t2, hb0, rfl⟩)) (fun _ _ h => h.elim) (fun own' c h => ?_)
    obtain ⟨rfl, rfl⟩ := h
    exact ⟨.inl List.mem_cons_self, rfl⟩
theorem ok_lookedB {f : Addr} {fd : FuncData} {bc : Addr} (F : Fun K "looked" "Wood.looked" sWoodLooked f fd) (cPairB : CalX (CXN P w) P w K mg base 2 "need_pair" ["low", "high"] (SpX K (ΦPairB bc))) : FnOk P w K mg base (CXN P w) 3 f fd ["self", "low", "high"] (SpE K C "top" (ΦAskB bc)) := by
  refine okEXN F scWoodLooked (fun x ds x' r h => ?_) (fun cdv A outer s H E Z p x ds x' r W hr tk h => ?_)
  · obtain ⟨_, _, _, _, rfl, _⟩ := h; rfl
  · obtain ⟨t, lo, hi, rfl, rfl, t1, t2, hb0, wd, rfl, rfl⟩ := h
    refine hx_exprX (px_of_pr (pr_call cPairB (fun σ => L2N.passAt tk σ) (hr.mono (by decide)) (pdd_cons (pd_name 1 rfl) (pdd_cons (pd_name 2 rfl) pdd_nil)) ⟨lo, hi, rfl, t1, t2, hb0, rfl⟩)) (fun _ _ h => h.elim) (fun own' c h => ?_)
    obtain ⟨rfl, rfl⟩ := h
    exact ⟨.inl List.mem_cons_self, rfl⟩
def ΦHoldB (bc : Addr) (x : PyData) (ds : List PyData) (x' : PyData) (r : PyData ⊕ Addr) : Prop := ∃ (t : T) (lo : PyData), x = encT t ∧ ds = [lo] ∧ Thing lo ∧ isNum lo = false ∧ Wd t ∧ x' = x ∧ r = .inr bc
theorem ok_holdingB {f : Addr} {fd : FuncData} {bc : Addr} (F : Fun K "holding" "Wood.holding" sWoodHolding f fd) (cl : Cls K C) (cMeetingB : CalM (CXN P w) P w K mg base 3 C "meeting" ["self", "low", "high"] (SpE K C "top" (ΦAskB bc))) : FnOk P w K mg base (CXN P w) 4 f fd ["self", "place"] (SpE K C "top" (ΦHoldB bc)) := by
  refine okEXN F scWoodHolding (fun x ds x' r h => ?_) (fun cdv A outer s H E Z p x ds x' r W hr tk h => ?_)
  · obtain ⟨_, _, _, rfl, _⟩ := h; rfl
  · obtain ⟨t, lo, rfl, rfl, t1, hb0, wd, rfl, rfl⟩ := h
    refine hx_retX (px_meth cMeetingB (fun σ => L2N.passAt tk σ) cl hr 0 (pd_name 0 rfl) rfl (.inl List.mem_cons_self) (pdd_cons (pd_name 1 rfl) (pdd_cons (pd_name 1 rfl) pdd_nil)) ⟨t, lo, lo, rfl, rfl, t1, t1, by unfold badP; rw [hb0]; rfl, wd, rfl, rfl⟩) (fun own' d h => ?_) (fun own' c h => ?_)
    · cases h.2
    · obtain ⟨rfl, h⟩ := h
      cases h
      exact ⟨.inl List.mem_cons_self, rfl⟩
theorem ok_wgapsB {f : Addr} {fd : FuncData} {bc : Addr} (F : Fun K "gaps" "Wood.gaps" sWoodGaps f fd) (cl : Cls K C) (cListed : CalM CX0 P w K mg base 203 C "listed" ["self"] (SpRL K C "top" ΦListed)) (cGapsOfB : CalX (CXN P w) P w K mg base 3 "gaps_of" ["row", "low", "high"] (SpX K (ΦRowB bc))) : FnOk P w K mg base (CXN P w) 204 f fd ["self", "low", "high"] (SpE K C "top" (ΦAskB bc)) := by
  refine okEXN F scWoodGaps (fun x ds x' r h => ?_) (fun cdv A outer s H E Z p x ds x' r W hr tk h => ?_)
  · obtain ⟨_, _, _, _, rfl, _⟩ := h; rfl
  · obtain ⟨t, lo, hi, rfl, rfl, t1, t2, hb0, wd, rfl, rfl⟩ := h
    refine hx_retX (px_of_pr (pr_call cGapsOfB (fun σ => L2N.passAt tk σ) (hr.mono (by decide)) (pdd_cons (pd_of_n (pn_meth0 cListed cl hr (pd_name 0 rfl) (.inl List.mem_cons_self) ⟨t, rfl, rfl, wd, rfl⟩)) (pdd_cons (pd_name 1 rfl) (pdd_cons (pd_name 2 rfl) pdd_nil))) ⟨_, lo, hi, rfl, t1, t2, hb0, rfl⟩)) (fun _ _ h => h.elim) (fun own' c h => ?_)
    obtain ⟨rfl, rfl⟩ := h
    exact ⟨.inl List.mem_cons_self, rfl⟩
theorem ok_wdeepestB {f : Addr} {fd : FuncData} {bc : Addr} (F : Fun K "deepest" "Wood.deepest" sWoodDeepest f fd) (cl : Cls K C) (cListed : CalM CX0 P w K mg base 203 C "listed" ["self"] (SpRL K C "top" ΦListed)) (cDeepestOfB : CalX (CXN P w) P w K mg base 3 "deepest_of" ["row", "low", "high"] (SpX K (ΦRowB bc))) : FnOk P w K mg base (CXN P w) 204 f fd ["self", "low", "high"] (SpE K C "top" (ΦAskB bc)) := by
  refine okEXN F scWoodDeepest (fun x ds x' r h => ?_) (fun cdv A outer s H E Z p x ds x' r W hr tk h => ?_)
  · obtain ⟨_, _, _, _, rfl, _⟩ := h; rfl
  · obtain ⟨t, lo, hi, rfl, rfl, t1, t2, hb0, wd, rfl, rfl⟩ := h
    refine hx_retX (px_of_pr (pr_call cDeepestOfB (fun σ => L2N.passAt tk σ) (hr.mono (by decide)) (pdd_cons (pd_of_n (pn_meth0 cListed cl hr (pd_name 0 rfl) (.inl List.mem_cons_self) ⟨t, rfl, rfl, wd, rfl⟩)) (pdd_cons (pd_name 1 rfl) (pdd_cons (pd_name 2 rfl) pdd_nil))) ⟨_, lo, hi, rfl, t1, t2, hb0, rfl⟩)) (fun _ _ h => h.elim) (fun own' c h => ?_)
    obtain ⟨rfl, rfl⟩ := h
    exact ⟨.inl List.mem_cons_self, rfl⟩
/-- methods of a stretch -/
def ΦKeepB (bc : Addr) (x : PyData) (ds : List PyData) (x' : PyData) (r : PyData ⊕ Addr) : Prop := ∃ (t : T) (lo hi mk : PyData), x = encT t ∧ ds = [lo, hi, mk] ∧ Thing lo ∧ Thing hi ∧ Thing mk ∧ badS lo hi mk = true ∧ x' = x ∧ r = .inr bc
theorem ok_keepsB {f : Addr} {fd : FuncData} {bc : Addr} (F : Fun K "keeps" "Wood.keeps" sWoodKeeps f fd) (cl : Cls K C) (na : NoAttr K C "top") (cStrB : CalX (CXN P w) P w K mg base 3 "stretch_of" ["low", "high", "mark"] (SpX K (ΦStrB bc))) (cHasOne : Cal P w K mg base 1 "has_one" ["box", "stretch"] (SpD K ΦHas)) : FnOk P w K mg base (CXN P w) 4 f fd ["self", "low", "high", "mark"] (SpE K C "top" (ΦKeepB bc)) := by
  refine okEXN F scWoodKeeps (fun x ds x' r h => ?_) (fun cdv A outer s H E Z p x ds x' r W hr tk h => ?_)
  · obtain ⟨_, _, _, _, _, rfl, _⟩ := h; rfl
  · obtain ⟨t, lo, hi, mk, rfl, rfl, t1, t2, t3, hb0, rfl, rfl⟩ := h
    refine hx_retX (px_of_pr (pr_callA cHasOne (hr.mono (by decide)) (pra_tail (pd_fld (pd_name 0 rfl) (.inl List.mem_cons_self) cl na) (pra_head (pr_call cStrB (fun σ => L2N.passAt tk σ) hr (pdd_cons (pd_name 1 rfl) (pdd_cons (pd_name 2 rfl) (pdd_cons (pd_name 3 rfl) pdd_nil))) ⟨lo, hi, mk, rfl, t1, t2, t3, hb0, rfl⟩))))) (fun _ _ h => h.elim) (fun own' c h => ?_)
    obtain ⟨rfl, rfl⟩ := h
    exact ⟨.inl List.mem_cons_self, rfl⟩
theorem ok_putB {f : Addr} {fd : FuncData} {bc : Addr} (F : Fun K "put" "Wood.put" sWoodPut f fd) (cStrB : CalX (CXN P w) P w K mg base 3 "stretch_of" ["low", "high", "mark"] (SpX K (ΦStrB bc))) : FnOk P w K mg base (CXN P w) 4 f fd ["self", "low", "high", "mark"] (SpE K C "top" (ΦKeepB bc)) := by
  refine okEXN F scWoodPut (fun x ds x' r h => ?_) (fun cdv A outer s H E Z p x ds x' r W hr tk h => ?_)
  · obtain ⟨_, _, _, _, _, rfl, _⟩ := h; rfl
  · obtain ⟨t, lo, hi, mk, rfl, rfl, t1, t2, t3, hb0, rfl, rfl⟩ := h
    refine hx_setX 4 (px_of_pr (pr_call cStrB (fun σ => L2N.passAt tk σ) hr (pdd_cons (pd_name 1 rfl) (pdd_cons (pd_name 2 rfl) (pdd_cons (pd_name 3 rfl) pdd_nil))) ⟨lo, hi, mk, rfl, t1, t2, t3, hb0, rfl⟩)) (fun _ _ h => h.elim) (fun own' c h => ?_) scWoodPut.nd
    obtain ⟨rfl, rfl⟩ := h
    exact ⟨.inl List.mem_cons_self, rfl⟩
theorem ok_takeB {f : Addr} {fd : FuncData} {bc : Addr} (F : Fun K "take" "Wood.take" sWoodTake f fd) (cStrB : CalX (CXN P w) P w K mg base 3 "stretch_of" ["low", "high", "mark"] (SpX K (ΦStrB bc))) : FnOk P w K mg base (CXN P w) 4 f fd ["self", "low", "high", "mark"] (SpE K C "top" (ΦKeepB bc)) := by
  refine okEXN F scWoodTake (fun x ds x' r h => ?_) (fun cdv A outer s H E Z p x ds x' r W hr tk h => ?_)
  · obtain ⟨_, _, _, _, _, rfl, _⟩ := h; rfl
  · obtain ⟨t, lo, hi, mk, rfl, rfl, t1, t2, t3, hb0, rfl, rfl⟩ := h
    refine hx_setX 4 (px_of_pr (pr_call cStrB (fun σ => L2N.passAt tk σ) hr (pdd_cons (pd_name 1 rfl) (pdd_cons (pd_name 2 rfl) (pdd_cons (pd_name 3 rfl) pdd_nil))) ⟨lo, hi, mk, rfl, t1, t2, t3, hb0, rfl⟩)) (fun _ _ h => h.elim) (fun own' c h => ?_) scWoodTake.nd
    obtain ⟨rfl, rfl⟩ := h
    exact ⟨.inl List.mem_cons_self, rfl⟩
end
end L3
set_option Elab.async false
set_option linter.all false
set_option autoImplicit false
set_option maxRecDepth 100000
set_option maxHeartbeats 4000000
namespace L3
open PySem PySem.Spec L2
local macro_rules | `(tactic| walk_at "bin") => `(tactic| first | exact bin_add | exact bin_sub | exact bin_fdiv ⟨by decide, by decide⟩ | exact bin_mod (by decide) | exact bin_pow ⟨by decide, by decide, by decide⟩ | exact bin_mul (mul_small (by decide)) | exact bin_mul (by with_reducible assumption) | exact bin_catL (.d _) (.d _) (by assumption))
local macro_rules | `(tactic| walk_at "mem") => `(tactic| first | exact List.mem_cons_self | exact List.mem_cons_of_mem _ List.mem_cons_self | exact List.mem_cons_of_mem _ (List.mem_cons_of_mem _ List.mem_cons_self) | exact List.mem_cons_of_mem _ (List.mem_cons_of_mem _ (List.mem_cons_of_mem _ List.mem_cons_self)) | exact List.mem_cons_of_mem _ (List.mem_cons_of_mem _ (List.mem_cons_of_mem _ (List.mem_cons_of_mem _ List.mem_cons_self))) | assumption)
local macro_rules | `(tactic| walk_at "asw") => `(tactic| first | exact .d _ | exact .o (by walk_at "mem") | exact .v _)
local macro_rules | `(tactic| walk_at "asl") => `(tactic| first | exact .d _ | exact .o (by walk_at "mem"))
local macro_rules | `(tactic| walk_at "len") => `(tactic| first | exact .l _ | exact .t _ | exact .o (by walk_at "mem") | exact .s _)
local macro_rules | `(tactic| walk_at "ix") => `(tactic| first | exact .t rfl | exact .l rfl | exact .l (by assumption) | exact .o (by walk_at "mem") rfl | exact .o (by walk_at "mem") (by assumption))
local macro_rules | `(tactic| walk_at "cmp") => `(tactic| first | exact cmp_eqI | exact cmp_neI | exact cmp_le | exact cmp_lt | exact cmp_ge | exact cmp_gt | exact cmp_eqB | exact cmp_neB | exact cmp_eqS | exact cmp_neS | exact cmp_isN | exact cmp_notN | exact cmp_isnotB)
local macro_rules | `(tactic| walk_at "kit") => `(tactic| first | exact kit_ii | exact kit_bb | exact kit_tt | exact kit_ll | exact kit_ib | exact kit_bi | exact kit_it | exact kit_ni | exact kit_si | exact kit_ti | exact kit_li)
section
variable {P : Program} {w : World} {K : PySem.W.Frag} {mg : Str → Option Value} {base : Heap} {C : Addr}
/-! ### things -/
abbrev L8 : List PyData := [.int (10 ^ (60 : Int).toNat), .int (0 - 10 ^ (60 : Int).toNat), .bool true, .bool false, .none, .str (Str.ofString "7"), .tuple [.int 1], .list [.int 2]]
abbrev L4 : List PyData := [.int (10 ^ (60 : Int).toNat - 1), .int (1 - 10 ^ (60 : Int).toNat), .int (10 ^ (59 : Int).toNat), .int (0 - 10 ^ (59 : Int).toNat)]
def thingD (c : Int) : PyData := if decide (c % 5 = 0) = true then L8.getD (c / 5 % 8).toNat .none else if decide (c % 5 = 1) = true then L4.getD (c / 5 % 4).toNat .none else .int (c / 5 % 19 - 9)
theorem getD_all {Q : PyData → Prop} {l : List PyData} {d : PyData} (h : ∀ x ∈ l, Q x) (hd : Q d) (j : Nat) : Q (l.getD j d) := by
  by_cases hj : j < l.length
  · simp only [List.getD, List.getElem?_eq_getElem hj]
    exact h _ (List.getElem_mem hj)
  · simp only [List.getD, List.getElem?_eq_none (Nat.le_of_not_lt hj)]
    exact hd
theorem thing_is (c : Int) : Thing (thingD c) := by
  unfold thingD
  split
  · refine getD_all (fun x hx => ?_) .non _
    simp only [L8, List.mem_cons, List.not_mem_nil, or_false] at hx
    rcases hx with rfl | rfl | rfl | rfl | rfl | rfl | rfl | rfl
    · exact .int _
    · exact .int _
    · exact .bool _
    · exact .bool _
    · exact .non
    · exact .str _
    · exact .tup _
    · exact .lst _
  · split
    · refine getD_all (fun x hx => ?_) .non _
      simp only [L4, List.mem_cons, List.not_mem_nil, or_false] at hx
      rcases hx with rfl | rfl | rfl | rfl <;> exact .int _
    · exact .int _
theorem atI_getD {l : List PyData} {i : Int} (h0 : 0 ≤ i) (h1 : i < (l.length : Nat)) : atI l i = some (l.getD i.toNat .none) := by
  have e : i = ((i.toNat : Nat) : Int) := by omega
  have hl : i.toNat < l.length := by omega
  rw [e]
  refine atI_nat ?_
  rw [show (((i.toNat : Nat) : Int)).toNat = i.toNat by omega]
  simp [List.getD, List.getElem?_eq_getElem hl]
def ΦThing (ds : List PyData) (d : PyData) : Prop := ∃ c : Int, ds = [.int c] ∧ d = thingD c
theorem scThing : FnScope ["_law_cell"] ["_law_cell"] (defScope sThing) := ⟨rfl, rfl, rfl, by decide +kernel, rfl, by decide +kernel, by decide +kernel⟩
theorem ok_thing {f : Addr} {fd : FuncData} (F : Fun K "_law_thing" "_law_thing" sThing f fd) : FnOk P w K mg base CX0 1 f fd ["_law_cell"] (SpD K ΦThing) := by
  refine okD F scThing (fun ds d h => ?_) (fun cdv A outer s H E Z ds d hr h => ?_)
  · obtain ⟨_, rfl, _⟩ := h; rfl
  · obtain ⟨c, rfl, rfl⟩ := h
    refine h_if (pb_cmp (pw_of (pd_bin (pd_name 0 rfl) pd_int (by walk_at "bin")) (.d _)) (pw_of pd_int (.d _)) cmp_eqI (nomark _)) (fun hb => ?_) (fun hb => ?_)
    · rw [show thingD c = _ from if_pos hb]
      exact h_ret (pd_ix (pd_of_n (pn_lst (pdd_cons (pd_bin pd_int pd_int (by walk_at "bin")) (pdd_cons (pd_bin pd_int (pd_bin pd_int pd_int (by walk_at "bin")) (by walk_at "bin")) (pdd_cons pd_bl (pdd_cons pd_bl (pdd_cons pd_non (pdd_cons pd_str (pdd_cons (pd_tup (pdd_cons pd_int pdd_nil)) (pdd_cons (pd_of_n (pn_lst (pdd_cons pd_int pdd_nil))) pdd_nil)))))))))) (pd_bin (pd_bin (pd_name 0 rfl) pd_int (by walk_at "bin")) pd_int (by walk_at "bin")) (.l (atI_getD (l := L8) (by omega) (by show _ < (8 : Int); omega)))) (.d _)
    refine h_nil (h_if (pb_cmp (pw_of (pd_bin (pd_name 0 rfl) pd_int (by walk_at "bin")) (.d _)) (pw_of pd_int (.d _)) cmp_eqI (nomark _)) (fun hb2 => ?_) (fun hb2 => ?_))
    · rw [show thingD c = _ from (if_neg (by rw [hb]; exact Bool.false_ne_true)).trans (if_pos hb2)]
      exact h_ret (pd_ix (pd_of_n (pn_lst (pdd_cons (pd_bin (pd_bin pd_int pd_int (by walk_at "bin")) pd_int (by walk_at "bin")) (pdd_cons (pd_bin pd_int (pd_bin pd_int pd_int (by walk_at "bin")) (by walk_at "bin")) (pdd_cons (pd_bin pd_int pd_int (by walk_at "bin")) (pdd_cons (pd_bin pd_int (pd_bin pd_int pd_int (by walk_at "bin")) (by walk_at "bin")) pdd_nil)))))) (pd_bin (pd_bin (pd_name 0 rfl) pd_int (by walk_at "bin")) pd_int (by walk_at "bin")) (.l (atI_getD (l := L4) (by omega) (by show _ < (4 : Int); omega)))) (.d _)
    · rw [show thingD c = _ from (if_neg (by rw [hb]; exact Bool.false_ne_true)).trans (if_neg (by rw [hb2]; exact Bool.false_ne_true))]
      exact h_nil (h_ret (pd_bin (pd_bin (pd_bin (pd_name 0 rfl) pd_int (by walk_at "bin")) pd_int (by walk_at "bin")) pd_int (by walk_at "bin")) (.d _))
/-! ### the law's own word of a number, of what is good -/
theorem num60 (n : Int) : (decide (0 - 10 ^ (60 : Int).toNat < n) && decide (n < 10 ^ (60 : Int).toNat)) = isNum (.int n) := by
  show _ = (decide (-MOSTI ≤ n) && decide (n ≤ MOSTI))
  rw [e60]
  unfold MOSTI
  rw [← Bool.decide_and, ← Bool.decide_and]
  exact decide_eq_decide.mpr (by omega)
theorem scNumber : FnScope ["_law_thing_here"] ["_law_thing_here"] (defScope sNumber) := ⟨rfl, rfl, rfl, by decide +kernel, rfl, by decide +kernel, by decide +kernel⟩
theorem ok_number {f : Addr} {fd : FuncData} (F : Fun K "_law_number" "_law_number" sNumber f fd) (misi : mg "isinstance" = none) (mint : mg "int" = none) (mbool : mg "bool" = none) : FnOk P w K mg base CX0 1 f fd ["_law_thing_here"] (SpD K ΦNum) := by
  refine okD F scNumber (fun ds d h => ?_) (fun cdv A outer s H E Z ds d hr h => ?_)
  · obtain ⟨_, rfl, _⟩ := h; rfl
  · obtain ⟨x, rfl, th, rfl⟩ := h
    cases th with
    | int n =>
      refine h_ret (pda_and (pd_isi (pw_of (pd_name 0 rfl) (.d _)) kit_ii (by assumption) (by assumption) boot_int) fun _ => (pda_and (pd_not (pd_isi (pw_of (pd_name 0 rfl) (.d _)) kit_ib (by assumption) (by assumption) boot_bool)) fun _ => (pda_one (pd_chain (pw_of (pd_bin pd_int (pd_bin pd_int pd_int (by walk_at "bin")) (by walk_at "bin")) (.d _)) (pw_of (pd_name 0 rfl) (.d _)) (fun _ => (pw_of (pd_bin pd_int pd_int (by walk_at "bin")) (.d _))) cmp_lt cmp_lt)))) ?_
      rw [num60]
      exact .d _
    | bool b => exact h_ret (pda_and (pd_isi (pw_of (pd_name 0 rfl) (.d _)) kit_bi (by assumption) (by assumption) boot_int) fun _ => (pda_and (q := false) (pd_not (pd_isi (pw_of (pd_name 0 rfl) (.d _)) kit_bb (by assumption) (by assumption) boot_bool)) fun h => absurd h (by decide))) (.d _)
    | non => exact h_ret (pda_and (q := false) (pd_isi (pw_of (pd_name 0 rfl) (.d _)) kit_ni (by assumption) (by assumption) boot_int) fun h => absurd h (by decide)) (.d _)
    | str _ => exact h_ret (pda_and (q := false) (pd_isi (pw_of (pd_name 0 rfl) (.d _)) kit_si (by assumption) (by assumption) boot_int) fun h => absurd h (by decide)) (.d _)
    | tup _ => exact h_ret (pda_and (q := false) (pd_isi (pw_of (pd_name 0 rfl) (.d _)) kit_ti (by assumption) (by assumption) boot_int) fun h => absurd h (by decide)) (.d _)
    | lst _ => exact h_ret (pda_and (q := false) (pd_isi (pw_of (pd_name 0 rfl) (.d _)) kit_li (by assumption) (by assumption) boot_int) fun h => absurd h (by decide)) (.d _)
def goodB (c : Int) (lo hi mk : PyData) : Bool := if decide (c = 0) = true then isNum lo else if badP lo hi = true then false else (decide (c < 7) || isNum mk)
theorem good_mid {c : Int} {lo hi mk : PyData} (h0 : c ≠ 0) (h7 : c < 7) : goodB c lo hi mk = !badP lo hi := by
  unfold goodB
  rw [if_neg (by simpa using h0), decide_eq_true h7]
  cases badP lo hi <;> rfl
theorem good_hi {c : Int} {lo hi mk : PyData} (h7 : 7 ≤ c) : goodB c lo hi mk = !badS lo hi mk := by
  unfold goodB badS
  rw [if_neg (by simp; omega), decide_eq_false (show ¬ c < 7 by omega)]
  cases badP lo hi <;> simp
theorem good_mid_t {c : Int} {lo hi mk : PyData} (h : goodB c lo hi mk = true) (h0 : c ≠ 0) (h7 : c < 7) : badP lo hi = false := by rw [good_mid h0 h7] at h; simpa using h
theorem good_mid_f {c : Int} {lo hi mk : PyData} (h : goodB c lo hi mk = false) (h0 : c ≠ 0) (h7 : c < 7) : badP lo hi = true := by rw [good_mid h0 h7] at h; simpa using h
theorem good_hi_t {c : Int} {lo hi mk : PyData} (h : goodB c lo hi mk = true) (h7 : 7 ≤ c) : badS lo hi mk = false := by rw [good_hi h7] at h; simpa using h
theorem good_hi_f {c : Int} {lo hi mk : PyData} (h : goodB c lo hi mk = false) (h7 : 7 ≤ c) : badS lo hi mk = true := by rw [good_hi h7] at h; simpa using h
theorem good_str {lo hi mk : PyData} (h : badS lo hi mk = false) : ∃ s : S3, lo = .int s.1 ∧ hi = .int s.2.1 ∧ mk = .int s.2.2 ∧ GoodS s := by
  unfold badS at h
  rw [Bool.or_eq_false_iff, Bool.not_eq_false'] at h
  obtain ⟨a, b, rfl, rfl, ra, rb, hab⟩ := good_pair h.1
  obtain ⟨m, rfl, rm⟩ := num_in h.2
  exact ⟨(a, b, m), rfl, rfl, rfl, ra, rb, rm, hab⟩
def ΦGood (ds : List PyData) (d : PyData) : Prop := ∃ (c : Int) (lo hi mk : PyData), ds = [.int c, lo, hi, mk] ∧ Thing lo ∧ Thing hi ∧ Thing mk ∧ d = .bool (goodB c lo hi mk)
theorem scGood : FnScope ["_law_call", "_law_low", "_law_high", "_law_mark"] ["_law_call", "_law_low", "_law_high", "_law_mark"] (defScope sGood) := ⟨rfl, rfl, rfl, by decide +kernel, rfl, by decide +kernel, by decide +kernel⟩
theorem ok_good {f : Addr} {fd : FuncData} (F : Fun K "_law_good" "_law_good" sGood f fd) (cNumber : Cal P w K mg base 1 "_law_number" ["_law_thing_here"] (SpD K ΦNum)) : FnOk P w K mg base CX0 2 f fd ["_law_call", "_law_low", "_law_high", "_law_mark"] (SpD K ΦGood) := by
  refine okD F scGood (fun ds d h => ?_) (fun cdv A outer s H E Z ds d hr h => ?_)
  · obtain ⟨_, _, _, _, rfl, _⟩ := h; rfl
  · obtain ⟨c, lo, hi, mk, rfl, t1, t2, t3, rfl⟩ := h
    refine h_if (pb_cmp (pw_of (pd_name 0 rfl) (.d _)) (pw_of pd_int (.d _)) cmp_eqI (nomark _)) (fun hb => ?_) (fun hb => ?_)
    · rw [show goodB c lo hi mk = isNum lo from if_pos hb]
      exact h_ret (pd_fn cNumber (hr.mono (by decide)) (pdd_cons (pd_name 1 rfl) pdd_nil) ⟨_, rfl, t1, rfl⟩) (.d _)
    refine h_nil (h_if (b := badP lo hi) (pb_bo (pbo_cons (pb_not (pb_val (pd_fn cNumber (hr.mono (by decide)) (pdd_cons (pd_name 1 rfl) pdd_nil) ⟨_, rfl, t1, rfl⟩))) fun h1 => (pbo_cons (pb_not (pb_val (pd_fn cNumber (hr.mono (by decide)) (pdd_cons (pd_name 2 rfl) pdd_nil) ⟨_, rfl, t2, rfl⟩))) fun h2 => (pbo_one (p := gtD lo hi) ?_)))) (fun hb2 => ?_) (fun hb2 => ?_))
    · obtain ⟨a, rfl, _⟩ := num_in (by simpa using h1)
      obtain ⟨b, rfl, _⟩ := num_in (by simpa using h2)
      exact pb_cmp (pw_of (pd_name 1 rfl) (.d _)) (pw_of (pd_name 2 rfl) (.d _)) cmp_gt (nomark _)
    · rw [show goodB c lo hi mk = false from (if_neg (by rw [hb]; exact Bool.false_ne_true)).trans (if_pos hb2)]
      exact h_ret pd_bl (.d _)
    · rw [show goodB c lo hi mk = (decide (c < 7) || isNum mk) from (if_neg (by rw [hb]; exact Bool.false_ne_true)).trans (if_neg (by rw [hb2]; exact Bool.false_ne_true))]
      exact h_nil (h_ret (pda_or (pd_cmp (pw_of (pd_name 0 rfl) (.d _)) (pw_of pd_int (.d _)) cmp_lt (nomark _)) fun _ => (pda_one (pd_fn cNumber (hr.mono (by decide)) (pdd_cons (pd_name 3 rfl) pdd_nil) ⟨_, rfl, t3, rfl⟩))) (.d _))
/-! ### what is called -/
def toI : PyData → Int
  | .int n => n
  | _ => 0
abbrev sOf (lo hi mk : PyData) : S3 := (toI lo, toI hi, toI mk)
def toldD (t : T) (c a b m : Int) : PyData :=
  if c = 0 then .list ((t.toL.filter (meetsQ a a)).map encS)
  else if c = 1 then .list ((t.toL.filter (meetsQ a b)).map encS)
  else if c = 2 then .int (metT t a b).2
  else if c = 3 then .list ((gapsFin t.toL a b).map encP)
  else if c = 4 then encP (deepest t.toL a b)
  else if c = 5 then .list ((gapsFin [(0, 0, 0)] a b).map encP)
  else if c = 6 then encP (deepest [(0, 0, 0)] a b)
  else if c = 7 then encS (a, b, m)
  else .bool (decide (((a, b, m) : S3) ∈ t.toL))
/-- the tree behind the call, and what comes or is raised -/
def outC (bc tc mc : Addr) (t : T) (c : Int) (lo hi mk : PyData) : T × (PyData ⊕ Addr) :=
  if goodB c lo hi mk = false then (t, .inr bc)
  else if c = 9 then (if sOf lo hi mk ∈ t.toL then (t, .inr tc) else (t.wit (sOf lo hi mk), .inl .none))
  else if c = 10 then (if sOf lo hi mk ∈ t.toL then (t.wio (sOf lo hi mk), .inl .none) else (t, .inr mc))
  else (t, .inl (toldD t c (toI lo) (toI hi) (toI mk)))
section
variable {bc tc mc : Addr} {t : T} {c : Int} {lo hi mk : PyData}
theorem outC_bad (h : goodB c lo hi mk = false) : outC bc tc mc t c lo hi mk = (t, .inr bc) := if_pos h
theorem outC_mid (h : goodB c lo hi mk = true) (h9 : c ≠ 9) (h10 : c ≠ 10) : outC bc tc mc t c lo hi mk = (t, .inl (toldD t c (toI lo) (toI hi) (toI mk))) := (if_neg (by rw [h]; exact fun z => nomatch z)).trans ((if_neg h9).trans (if_neg h10))
theorem outC_put (h : goodB 9 lo hi mk = true) : outC bc tc mc t 9 lo hi mk = (if sOf lo hi mk ∈ t.toL then (t, .inr tc) else (t.wit (sOf lo hi mk), .inl .none)) := (if_neg (by rw [h]; exact fun z => nomatch z)).trans (if_pos rfl)
theorem outC_take (h : goodB 10 lo hi mk = true) : outC bc tc mc t 10 lo hi mk = (if sOf lo hi mk ∈ t.toL then (t.wio (sOf lo hi mk), .inl .none) else (t, .inr mc)) := (if_neg (by rw [h]; exact fun z => nomatch z)).trans ((if_neg (by decide)).trans (if_pos rfl))
end
def ΦCalled (bc tc mc : Addr) (x : PyData) (ds : List PyData) (x' : PyData) (r : PyData ⊕ Addr) : Prop := ∃ (t : T) (c : Int) (lo hi mk : PyData), x = encT t ∧ ds = [.int c, lo, hi, mk] ∧ 0 ≤ c ∧ c ≤ 10 ∧ Thing lo ∧ Thing hi ∧ Thing mk ∧ Wd t ∧ x' = encT (outC bc tc mc t c lo hi mk).1 ∧ r = (outC bc tc mc t c lo hi mk).2
theorem scCalled : FnScope ["_law_wood", "_law_call", "_law_low", "_law_high", "_law_mark"] ["_law_wood", "_law_call", "_law_low", "_law_high", "_law_mark"] (defScope sCalled) := ⟨rfl, rfl, rfl, by decide +kernel, rfl, by decide +kernel, by decide +kernel⟩
theorem ok_called {f : Addr} {fd : FuncData} {bc tc mc : Addr} (F : Fun K "_law_called" "_law_called" sCalled f fd) (cl : Cls K C)
    (cHolding : CalM CX0 P w K mg base 203 C "holding" ["self", "place"] (SpRL K C "top" ΦHolding)) (cHoldingB : CalM (CXN P w) P w K mg base 4 C "holding" ["self", "place"] (SpE K C "top" (ΦHoldB bc)))
    (cMeeting : CalM CX0 P w K mg base 202 C "meeting" ["self", "low", "high"] (SpRL K C "top" ΦMeeting)) (cMeetingB : CalM (CXN P w) P w K mg base 3 C "meeting" ["self", "low", "high"] (SpE K C "top" (ΦAskB bc)))
    (cLooked : CalM CX0 P w K mg base 202 C "looked" ["self", "low", "high"] (SpR K C "top" ΦWLooked)) (cLookedB : CalM (CXN P w) P w K mg base 3 C "looked" ["self", "low", "high"] (SpE K C "top" (ΦAskB bc)))
    (cGaps : CalM CX0 P w K mg base 204 C "gaps" ["self", "low", "high"] (SpRL K C "top" ΦWGaps)) (cGapsB : CalM (CXN P w) P w K mg base 204 C "gaps" ["self", "low", "high"] (SpE K C "top" (ΦAskB bc)))
    (cDeepest : CalM CX0 P w K mg base 204 C "deepest" ["self", "low", "high"] (SpR K C "top" ΦWDeep)) (cDeepestB : CalM (CXN P w) P w K mg base 204 C "deepest" ["self", "low", "high"] (SpE K C "top" (ΦAskB bc)))
    (cGapsOf : Cal P w K mg base 3 "gaps_of" ["row", "low", "high"] (SpL K ΦGapsOf)) (cGapsOfB : CalX (CXN P w) P w K mg base 3 "gaps_of" ["row", "low", "high"] (SpX K (ΦRowB bc)))
    (cDeepestOf : Cal P w K mg base 3 "deepest_of" ["row", "low", "high"] (SpD K ΦDeep)) (cDeepestOfB : CalX (CXN P w) P w K mg base 3 "deepest_of" ["row", "low", "high"] (SpX K (ΦRowB bc)))
    (cStr : Cal P w K mg base 3 "stretch_of" ["low", "high", "mark"] (SpD K ΦStr)) (cStrB : CalX (CXN P w) P w K mg base 3 "stretch_of" ["low", "high", "mark"] (SpX K (ΦStrB bc)))
    (cKeeps : CalM CX0 P w K mg base 4 C "keeps" ["self", "low", "high", "mark"] (SpR K C "top" ΦKeeps)) (cKeepsB : CalM (CXN P w) P w K mg base 4 C "keeps" ["self", "low", "high", "mark"] (SpE K C "top" (ΦKeepB bc)))
    (cPut : CalM (CXN P w) P w K mg base 205 C "put" ["self", "low", "high", "mark"] (SpE K C "top" (ΦPut tc))) (cPutB : CalM (CXN P w) P w K mg base 4 C "put" ["self", "low", "high", "mark"] (SpE K C "top" (ΦKeepB bc)))
    (cTake : CalM (CXN P w) P w K mg base 205 C "take" ["self", "low", "high", "mark"] (SpE K C "top" (ΦTake mc))) (cTakeB : CalM (CXN P w) P w K mg base 4 C "take" ["self", "low", "high", "mark"] (SpE K C "top" (ΦKeepB bc))) :
    FnOk P w K mg base (CXN P w) 206 f fd ["_law_wood", "_law_call", "_law_low", "_law_high", "_law_mark"] (SpE K C "top" (ΦCalled bc tc mc)) := by
  refine okEXN F scCalled (fun x ds x' r h => ?_) (fun cdv A outer s H E Z p x ds x' r W hr tk h => ?_)
  · obtain ⟨_, _, _, _, _, _, rfl, _⟩ := h; rfl
  · obtain ⟨t, c, lo, hi, mk, rfl, rfl, c0, c10, t1, t2, t3, wd, rfl, rfl⟩ := h
    refine hx_if (pb_cmp (pw_of (pd_name 1 rfl) (.d _)) (pw_of pd_int (.d _)) cmp_eqI (nomark _)) (fun hb => ?_) (fun hb => ?_)
    · obtain rfl := of_decide_eq_true hb
      cases hg : goodB 0 lo hi mk with
      | false =>
        rw [outC_bad hg]
        exact hx_retX (px_meth cHoldingB (fun σ => L2N.passAt tk σ) cl (hr.mono (by decide)) 0 (pd_name 0 rfl) rfl (.inl List.mem_cons_self) (pdd_cons (pd_name 2 rfl) pdd_nil) ⟨t, lo, rfl, rfl, t1, hg, wd, rfl, rfl⟩) (fun own' d h => nomatch h.2) (fun own' c h => by
        obtain ⟨rfl, h⟩ := h
        cases h
        exact ⟨.inl List.mem_cons_self, rfl⟩)
      | true =>
        rw [outC_mid hg (by decide) (by decide)]
        obtain ⟨a, rfl, ra⟩ := num_in (show isNum lo = true from hg)
        exact hx_of (h_ret (pd_of_n (pn_meth cHolding cl (hr.mono (by decide)) (pd_name 0 rfl) (.inl List.mem_cons_self) (pdd_cons (pd_name 2 rfl) pdd_nil) ⟨t, a, rfl, rfl, ra, wd, rfl⟩)) ⟨.inl List.mem_cons_self, _, rfl, .d _⟩)
    have n0 := of_decide_eq_false hb
    refine hx_of (h_nil ?_)
    refine hx_if (pb_cmp (pw_of (pd_name 1 rfl) (.d _)) (pw_of pd_int (.d _)) cmp_eqI (nomark _)) (fun hb => ?_) (fun hb => ?_)
    · obtain rfl := of_decide_eq_true hb
      cases hg : goodB 1 lo hi mk with
      | false =>
        have hbad := good_mid_f hg (by decide) (by decide)
        rw [outC_bad hg]
        exact hx_retX (px_meth cMeetingB (fun σ => L2N.passAt tk σ) cl (hr.mono (by decide)) 0 (pd_name 0 rfl) rfl (.inl List.mem_cons_self) (pdd_cons (pd_name 2 rfl) (pdd_cons (pd_name 3 rfl) pdd_nil)) ⟨t, lo, hi, rfl, rfl, t1, t2, hbad, wd, rfl, rfl⟩) (fun own' d h => nomatch h.2) (fun own' c h => by
        obtain ⟨rfl, h⟩ := h
        cases h
        exact ⟨.inl List.mem_cons_self, rfl⟩)
      | true =>
        rw [outC_mid hg (by decide) (by decide)]
        obtain ⟨a, b, rfl, rfl, ra, rb, hab⟩ := good_pair (good_mid_t hg (by decide) (by decide))
        exact hx_of (h_ret (pd_of_n (pn_meth cMeeting cl (hr.mono (by decide)) (pd_name 0 rfl) (.inl List.mem_cons_self) (pdd_cons (pd_name 2 rfl) (pdd_cons (pd_name 3 rfl) pdd_nil)) ⟨t, a, b, rfl, rfl, ra, rb, hab, wd, rfl⟩)) ⟨.inl List.mem_cons_self, _, rfl, .d _⟩)
    have n1 := of_decide_eq_false hb
    refine hx_of (h_nil ?_)
    refine hx_if (pb_cmp (pw_of (pd_name 1 rfl) (.d _)) (pw_of pd_int (.d _)) cmp_eqI (nomark _)) (fun hb => ?_) (fun hb => ?_)
    · obtain rfl := of_decide_eq_true hb
      cases hg : goodB 2 lo hi mk with
      | false =>
        have hbad := good_mid_f hg (by decide) (by decide)
        rw [outC_bad hg]
        exact hx_retX (px_meth cLookedB (fun σ => L2N.passAt tk σ) cl (hr.mono (by decide)) 0 (pd_name 0 rfl) rfl (.inl List.mem_cons_self) (pdd_cons (pd_name 2 rfl) (pdd_cons (pd_name 3 rfl) pdd_nil)) ⟨t, lo, hi, rfl, rfl, t1, t2, hbad, wd, rfl, rfl⟩) (fun own' d h => nomatch h.2) (fun own' c h => by
        obtain ⟨rfl, h⟩ := h
        cases h
        exact ⟨.inl List.mem_cons_self, rfl⟩)
      | true =>
        rw [outC_mid hg (by decide) (by decide)]
        obtain ⟨a, b, rfl, rfl, ra, rb, hab⟩ := good_pair (good_mid_t hg (by decide) (by decide))
        exact hx_of (h_ret (pd_meth cLooked cl (hr.mono (by decide)) (pd_name 0 rfl) (.inl List.mem_cons_self) (pdd_cons (pd_name 2 rfl) (pdd_cons (pd_name 3 rfl) pdd_nil)) ⟨t, a, b, rfl, rfl, ra, rb, hab, wd, rfl⟩) ⟨.inl List.mem_cons_self, _, rfl, .d _⟩)
    have n2 := of_decide_eq_false hb
    refine hx_of (h_nil ?_)
    refine hx_if (pb_cmp (pw_of (pd_name 1 rfl) (.d _)) (pw_of pd_int (.d _)) cmp_eqI (nomark _)) (fun hb => ?_) (fun hb => ?_)
    · obtain rfl := of_decide_eq_true hb
      cases hg : goodB 3 lo hi mk with
      | false =>
        have hbad := good_mid_f hg (by decide) (by decide)
        rw [outC_bad hg]
        exact hx_retX (px_meth cGapsB (fun σ => L2N.passAt tk σ) cl (hr.mono (by decide)) 0 (pd_name 0 rfl) rfl (.inl List.mem_cons_self) (pdd_cons (pd_name 2 rfl) (pdd_cons (pd_name 3 rfl) pdd_nil)) ⟨t, lo, hi, rfl, rfl, t1, t2, hbad, wd, rfl, rfl⟩) (fun own' d h => nomatch h.2) (fun own' c h => by
        obtain ⟨rfl, h⟩ := h
        cases h
        exact ⟨.inl List.mem_cons_self, rfl⟩)
      | true =>
        rw [outC_mid hg (by decide) (by decide)]
        obtain ⟨a, b, rfl, rfl, ra, rb, hab⟩ := good_pair (good_mid_t hg (by decide) (by decide))
        exact hx_of (h_ret (pd_of_n (pn_meth cGaps cl (hr.mono (by decide)) (pd_name 0 rfl) (.inl List.mem_cons_self) (pdd_cons (pd_name 2 rfl) (pdd_cons (pd_name 3 rfl) pdd_nil)) ⟨t, a, b, rfl, rfl, ra, rb, hab, wd, rfl⟩)) ⟨.inl List.mem_cons_self, _, rfl, .d _⟩)
    have n3 := of_decide_eq_false hb
    refine hx_of (h_nil ?_)
    refine hx_if (pb_cmp (pw_of (pd_name 1 rfl) (.d _)) (pw_of pd_int (.d _)) cmp_eqI (nomark _)) (fun hb => ?_) (fun hb => ?_)
    · obtain rfl := of_decide_eq_true hb
      cases hg : goodB 4 lo hi mk with
      | false =>
        have hbad := good_mid_f hg (by decide) (by decide)
        rw [outC_bad hg]
        exact hx_retX (px_meth cDeepestB (fun σ => L2N.passAt tk σ) cl (hr.mono (by decide)) 0 (pd_name 0 rfl) rfl (.inl List.mem_cons_self) (pdd_cons (pd_name 2 rfl) (pdd_cons (pd_name 3 rfl) pdd_nil)) ⟨t, lo, hi, rfl, rfl, t1, t2, hbad, wd, rfl, rfl⟩) (fun own' d h => nomatch h.2) (fun own' c h => by
        obtain ⟨rfl, h⟩ := h
        cases h
        exact ⟨.inl List.mem_cons_self, rfl⟩)
      | true =>
        rw [outC_mid hg (by decide) (by decide)]
        obtain ⟨a, b, rfl, rfl, ra, rb, hab⟩ := good_pair (good_mid_t hg (by decide) (by decide))
        exact hx_of (h_ret (pd_meth cDeepest cl (hr.mono (by decide)) (pd_name 0 rfl) (.inl List.mem_cons_self) (pdd_cons (pd_name 2 rfl) (pdd_cons (pd_name 3 rfl) pdd_nil)) ⟨t, a, b, rfl, rfl, ra, rb, hab, wd, rfl⟩) ⟨.inl List.mem_cons_self, _, rfl, .d _⟩)
    have n4 := of_decide_eq_false hb
    refine hx_of (h_nil ?_)
    refine hx_if (pb_cmp (pw_of (pd_name 1 rfl) (.d _)) (pw_of pd_int (.d _)) cmp_eqI (nomark _)) (fun hb => ?_) (fun hb => ?_)
    · obtain rfl := of_decide_eq_true hb
      cases hg : goodB 5 lo hi mk with
      | false =>
        have hbad := good_mid_f hg (by decide) (by decide)
        rw [outC_bad hg]
        exact hx_retX (px_of_pr (pr_call cGapsOfB (fun σ => L2N.passAt tk σ) (hr.mono (by decide)) (pdd_cons (pd_of_n (pn_lst (pdd_cons (pd_tup (pdd_cons pd_int (pdd_cons pd_int (pdd_cons pd_int pdd_nil)))) pdd_nil))) (pdd_cons (pd_name 2 rfl) (pdd_cons (pd_name 3 rfl) pdd_nil))) ⟨_, lo, hi, rfl, t1, t2, hbad, rfl⟩)) (fun _ _ h => h.elim) (fun own' c h => by
        obtain ⟨rfl, rfl⟩ := h
        exact ⟨.inl List.mem_cons_self, rfl⟩)
      | true =>
        rw [outC_mid hg (by decide) (by decide)]
        obtain ⟨a, b, rfl, rfl, ra, rb, hab⟩ := good_pair (good_mid_t hg (by decide) (by decide))
        exact hx_of (h_ret (pd_of_n (pn_fn cGapsOf (hr.mono (by decide)) (pdd_cons (pd_of_n (pn_lst (pdd_cons (pd_tup (pdd_cons pd_int (pdd_cons pd_int (pdd_cons pd_int pdd_nil)))) pdd_nil))) (pdd_cons (pd_name 2 rfl) (pdd_cons (pd_name 3 rfl) pdd_nil))) ⟨[(0, 0, 0)], a, b, rfl, by simp, ra, rb, hab, rfl⟩)) ⟨.inl List.mem_cons_self, _, rfl, .d _⟩)
    have n5 := of_decide_eq_false hb
    refine hx_of (h_nil ?_)
    refine hx_if (pb_cmp (pw_of (pd_name 1 rfl) (.d _)) (pw_of pd_int (.d _)) cmp_eqI (nomark _)) (fun hb => ?_) (fun hb => ?_)
    · obtain rfl := of_decide_eq_true hb
      cases hg : goodB 6 lo hi mk with
      | false =>
        have hbad := good_mid_f hg (by decide) (by decide)
        rw [outC_bad hg]
        exact hx_retX (px_of_pr (pr_call cDeepestOfB (fun σ => L2N.passAt tk σ) (hr.mono (by decide)) (pdd_cons (pd_of_n (pn_lst (pdd_cons (pd_tup (pdd_cons pd_int (pdd_cons pd_int (pdd_cons pd_int pdd_nil)))) pdd_nil))) (pdd_cons (pd_name 2 rfl) (pdd_cons (pd_name 3 rfl) pdd_nil))) ⟨_, lo, hi, rfl, t1, t2, hbad, rfl⟩)) (fun _ _ h => h.elim) (fun own' c h => by
        obtain ⟨rfl, rfl⟩ := h
        exact ⟨.inl List.mem_cons_self, rfl⟩)
      | true =>
        rw [outC_mid hg (by decide) (by decide)]
        obtain ⟨a, b, rfl, rfl, ra, rb, hab⟩ := good_pair (good_mid_t hg (by decide) (by decide))
        exact hx_of (h_ret (pd_fn cDeepestOf (hr.mono (by decide)) (pdd_cons (pd_of_n (pn_lst (pdd_cons (pd_tup (pdd_cons pd_int (pdd_cons pd_int (pdd_cons pd_int pdd_nil)))) pdd_nil))) (pdd_cons (pd_name 2 rfl) (pdd_cons (pd_name 3 rfl) pdd_nil))) ⟨[(0, 0, 0)], a, b, rfl, by simp, ra, rb, hab, rfl⟩) ⟨.inl List.mem_cons_self, _, rfl, .d _⟩)
    have n6 := of_decide_eq_false hb
    refine hx_of (h_nil ?_)
    refine hx_if (pb_cmp (pw_of (pd_name 1 rfl) (.d _)) (pw_of pd_int (.d _)) cmp_eqI (nomark _)) (fun hb => ?_) (fun hb => ?_)
    · obtain rfl := of_decide_eq_true hb
      cases hg : goodB 7 lo hi mk with
      | false =>
        have hbad := good_hi_f hg (by decide)
        rw [outC_bad hg]
        exact hx_retX (px_of_pr (pr_call cStrB (fun σ => L2N.passAt tk σ) (hr.mono (by decide)) (pdd_cons (pd_name 2 rfl) (pdd_cons (pd_name 3 rfl) (pdd_cons (pd_name 4 rfl) pdd_nil))) ⟨lo, hi, mk, rfl, t1, t2, t3, hbad, rfl⟩)) (fun _ _ h => h.elim) (fun own' c h => by
        obtain ⟨rfl, rfl⟩ := h
        exact ⟨.inl List.mem_cons_self, rfl⟩)
      | true =>
        rw [outC_mid hg (by decide) (by decide)]
        obtain ⟨s, rfl, rfl, rfl, gs⟩ := good_str (good_hi_t hg (by decide))
        exact hx_of (h_ret (pd_fn cStr (hr.mono (by decide)) (pdd_cons (pd_name 2 rfl) (pdd_cons (pd_name 3 rfl) (pdd_cons (pd_name 4 rfl) pdd_nil))) ⟨s, rfl, gs, rfl⟩) ⟨.inl List.mem_cons_self, _, rfl, .d _⟩)
    have n7 := of_decide_eq_false hb
    refine hx_of (h_nil ?_)
    refine hx_if (pb_cmp (pw_of (pd_name 1 rfl) (.d _)) (pw_of pd_int (.d _)) cmp_eqI (nomark _)) (fun hb => ?_) (fun hb => ?_)
    · obtain rfl := of_decide_eq_true hb
      cases hg : goodB 8 lo hi mk with
      | false =>
        have hbad := good_hi_f hg (by decide)
        rw [outC_bad hg]
        exact hx_retX (px_meth cKeepsB (fun σ => L2N.passAt tk σ) cl (hr.mono (by decide)) 0 (pd_name 0 rfl) rfl (.inl List.mem_cons_self) (pdd_cons (pd_name 2 rfl) (pdd_cons (pd_name 3 rfl) (pdd_cons (pd_name 4 rfl) pdd_nil))) ⟨t, lo, hi, mk, rfl, rfl, t1, t2, t3, hbad, rfl, rfl⟩) (fun own' d h => nomatch h.2) (fun own' c h => by
        obtain ⟨rfl, h⟩ := h
        cases h
        exact ⟨.inl List.mem_cons_self, rfl⟩)
      | true =>
        rw [outC_mid hg (by decide) (by decide)]
        obtain ⟨s, rfl, rfl, rfl, gs⟩ := good_str (good_hi_t hg (by decide))
        exact hx_of (h_ret (pd_meth cKeeps cl (hr.mono (by decide)) (pd_name 0 rfl) (.inl List.mem_cons_self) (pdd_cons (pd_name 2 rfl) (pdd_cons (pd_name 3 rfl) (pdd_cons (pd_name 4 rfl) pdd_nil))) ⟨t, s, rfl, rfl, gs, wd, rfl⟩) ⟨.inl List.mem_cons_self, _, rfl, .d _⟩)
    have n8 := of_decide_eq_false hb
    refine hx_of (h_nil ?_)
    refine hx_if (pb_cmp (pw_of (pd_name 1 rfl) (.d _)) (pw_of pd_int (.d _)) cmp_eqI (nomark _)) (fun hb => ?_) (fun hb => ?_)
    · obtain rfl := of_decide_eq_true hb
      cases hg : goodB 9 lo hi mk with
      | false =>
        have hbad := good_hi_f hg (by decide)
        rw [outC_bad hg]
        exact hx_retX (px_meth cPutB (fun σ => L2N.passAt tk σ) cl (hr.mono (by decide)) 0 (pd_name 0 rfl) rfl (.inl List.mem_cons_self) (pdd_cons (pd_name 2 rfl) (pdd_cons (pd_name 3 rfl) (pdd_cons (pd_name 4 rfl) pdd_nil))) ⟨t, lo, hi, mk, rfl, rfl, t1, t2, t3, hbad, rfl, rfl⟩) (fun own' d h => nomatch h.2) (fun own' c h => by
        obtain ⟨rfl, h⟩ := h
        cases h
        exact ⟨.inl List.mem_cons_self, rfl⟩)
      | true =>
        obtain ⟨s, rfl, rfl, rfl, gs⟩ := good_str (good_hi_t hg (by decide))
        rw [outC_put hg]
        generalize ho : (if sOf (.int s.1) (.int s.2.1) (.int s.2.2) ∈ t.toL then ((t, .inr tc) : T × (PyData ⊕ Addr)) else (t.wit (sOf (.int s.1) (.int s.2.1) (.int s.2.2)), .inl .none)) = o
        have hd : (s ∈ t.toL ∧ encT o.1 = encT t ∧ o.2 = .inr tc) ∨ (s ∉ t.toL ∧ encT o.1 = encT (t.wit s) ∧ o.2 = .inl .none) := by
          by_cases hm : s ∈ t.toL
          · rw [if_pos (show sOf (.int s.1) (.int s.2.1) (.int s.2.2) ∈ t.toL from hm)] at ho
            subst ho
            exact .inl ⟨hm, rfl, rfl⟩
          · rw [if_neg (show ¬ sOf (.int s.1) (.int s.2.1) (.int s.2.2) ∈ t.toL from hm)] at ho
            subst ho
            exact .inr ⟨hm, rfl, rfl⟩
        exact hx_retX (px_meth cPut (fun σ => L2N.passAt tk σ) cl (hr.mono (by decide)) 0 (pd_name 0 rfl) rfl (.inl List.mem_cons_self) (pdd_cons (pd_name 2 rfl) (pdd_cons (pd_name 3 rfl) (pdd_cons (pd_name 4 rfl) pdd_nil))) ⟨t, s, rfl, rfl, gs, wd, hd⟩) (fun own' d h => by
            obtain ⟨rfl, h⟩ := h
            exact ⟨.inl List.mem_cons_self, _, h, .d _⟩) (fun own' c h => by
            obtain ⟨rfl, h⟩ := h
            exact ⟨.inl List.mem_cons_self, h⟩)
    have n9 := of_decide_eq_false hb
    refine hx_of (h_nil ?_)
    obtain rfl : c = 10 := by omega
    cases hg : goodB 10 lo hi mk with
    | false =>
        have hbad := good_hi_f hg (by decide)
        rw [outC_bad hg]
        exact hx_retX (px_meth cTakeB (fun σ => L2N.passAt tk σ) cl (hr.mono (by decide)) 0 (pd_name 0 rfl) rfl (.inl List.mem_cons_self) (pdd_cons (pd_name 2 rfl) (pdd_cons (pd_name 3 rfl) (pdd_cons (pd_name 4 rfl) pdd_nil))) ⟨t, lo, hi, mk, rfl, rfl, t1, t2, t3, hbad, rfl, rfl⟩) (fun own' d h => nomatch h.2) (fun own' c h => by
        obtain ⟨rfl, h⟩ := h
        cases h
        exact ⟨.inl List.mem_cons_self, rfl⟩)
    | true =>
        obtain ⟨s, rfl, rfl, rfl, gs⟩ := good_str (good_hi_t hg (by decide))
        rw [outC_take hg]
        generalize ho : (if sOf (.int s.1) (.int s.2.1) (.int s.2.2) ∈ t.toL then ((t.wio (sOf (.int s.1) (.int s.2.1) (.int s.2.2)), .inl .none) : T × (PyData ⊕ Addr)) else (t, .inr mc)) = o
        have hd : (s ∉ t.toL ∧ encT o.1 = encT t ∧ o.2 = .inr mc) ∨ (s ∈ t.toL ∧ encT o.1 = encT (t.wio s) ∧ o.2 = .inl .none) := by
          by_cases hm : s ∈ t.toL
          · rw [if_pos (show sOf (.int s.1) (.int s.2.1) (.int s.2.2) ∈ t.toL from hm)] at ho
            subst ho
            exact .inr ⟨hm, rfl, rfl⟩
          · rw [if_neg (show ¬ sOf (.int s.1) (.int s.2.1) (.int s.2.2) ∈ t.toL from hm)] at ho
            subst ho
            exact .inl ⟨hm, rfl, rfl⟩
        exact hx_retX (px_meth cTake (fun σ => L2N.passAt tk σ) cl (hr.mono (by decide)) 0 (pd_name 0 rfl) rfl (.inl List.mem_cons_self) (pdd_cons (pd_name 2 rfl) (pdd_cons (pd_name 3 rfl) (pdd_cons (pd_name 4 rfl) pdd_nil))) ⟨t, s, rfl, rfl, gs, wd, hd⟩) (fun own' d h => by
            obtain ⟨rfl, h⟩ := h
            exact ⟨.inl List.mem_cons_self, _, h, .d _⟩) (fun own' c h => by
            obtain ⟨rfl, h⟩ := h
            exact ⟨.inl List.mem_cons_self, h⟩)
end
end L3
set_option Elab.async false
set_option linter.all false
set_option autoImplicit false
set_option maxRecDepth 100000
set_option maxHeartbeats 4000000
namespace L3
open PySem PySem.Spec L2
local macro_rules | `(tactic| walk_at "bin") => `(tactic| first | exact bin_add | exact bin_sub | exact bin_fdiv ⟨by decide, by decide⟩ | exact bin_mod (by decide) | exact bin_pow ⟨by decide, by decide, by decide⟩ | exact bin_mul (mul_small (by decide)) | exact bin_mul (by with_reducible assumption) | exact bin_catL (.d _) (.d _) (by assumption))
local macro_rules | `(tactic| walk_at "mem") => `(tactic| first | exact List.mem_cons_self | exact List.mem_cons_of_mem _ List.mem_cons_self | exact List.mem_cons_of_mem _ (List.mem_cons_of_mem _ List.mem_cons_self) | exact List.mem_cons_of_mem _ (List.mem_cons_of_mem _ (List.mem_cons_of_mem _ List.mem_cons_self)) | exact List.mem_cons_of_mem _ (List.mem_cons_of_mem _ (List.mem_cons_of_mem _ (List.mem_cons_of_mem _ List.mem_cons_self))) | assumption)
local macro_rules | `(tactic| walk_at "asw") => `(tactic| first | exact .d _ | exact .o (by walk_at "mem") | exact .v _)
local macro_rules | `(tactic| walk_at "asl") => `(tactic| first | exact .d _ | exact .o (by walk_at "mem"))
local macro_rules | `(tactic| walk_at "len") => `(tactic| first | exact .l _ | exact .t _ | exact .o (by walk_at "mem") | exact .s _)
local macro_rules | `(tactic| walk_at "ix") => `(tactic| first | exact .t rfl | exact .l rfl | exact .l (by assumption) | exact .o (by walk_at "mem") rfl | exact .o (by walk_at "mem") (by assumption))
local macro_rules | `(tactic| walk_at "cmp") => `(tactic| first | exact cmp_eqI | exact cmp_neI | exact cmp_le | exact cmp_lt | exact cmp_ge | exact cmp_gt | exact cmp_eqB | exact cmp_neB | exact cmp_eqS | exact cmp_neS | exact cmp_isN | exact cmp_notN | exact cmp_isnotB)
local macro_rules | `(tactic| walk_at "kit") => `(tactic| first | exact kit_ii | exact kit_bb | exact kit_tt | exact kit_ll | exact kit_ib | exact kit_bi | exact kit_it | exact kit_ni | exact kit_si | exact kit_ti | exact kit_li)
section
variable {P : Program} {w : World} {K : PySem.W.Frag} {mg : Str → Option Value} {base : Heap} {C : Addr}
/-- what the top has written of the errors: SpanError at sc, BadStretch at bc, Twice at tc, Missing at mc -/
structure ErrB (K : PySem.W.Frag) (mg : Str → Option Value) (sc bc tc mc : Addr) : Prop where
  gS : mg "SpanError" = some (.ref sc)
  B : ExcT K mg "BadStretch" bc
  T : ExcT K mg "Twice" tc
  M : ExcT K mg "Missing" mc
  xB : PySem.W.exmOne K (.ref bc) (.ref sc) = some true
  xT : PySem.W.exmOne K (.ref tc) (.ref sc) = some true
  xM : PySem.W.exmOne K (.ref mc) (.ref sc) = some true
  cB : ExcC K bc
  cT : ExcC K tc
  cM : ExcC K mc
  kBB : PySem.W.kitOne K (.ref bc) (.ref bc) = some true
  kBT : PySem.W.kitOne K (.ref bc) (.ref tc) = some false
  kBM : PySem.W.kitOne K (.ref bc) (.ref mc) = some false
  kBV : PySem.W.kitOne K (.ref bc) (.type "ValueError") = some true
  kTB : PySem.W.kitOne K (.ref tc) (.ref bc) = some false
  kTT : PySem.W.kitOne K (.ref tc) (.ref tc) = some true
  kTM : PySem.W.kitOne K (.ref tc) (.ref mc) = some false
  kTV : PySem.W.kitOne K (.ref tc) (.type "ValueError") = some true
  kMB : PySem.W.kitOne K (.ref mc) (.ref bc) = some false
  kMT : PySem.W.kitOne K (.ref mc) (.ref tc) = some false
  kMM : PySem.W.kitOne K (.ref mc) (.ref mc) = some true
  kMV : PySem.W.kitOne K (.ref mc) (.type "ValueError") = some true
theorem kit_yes {t : Addr} : PySem.W.kitOne K (.ref t) (.ref t) = some true := by
  unfold PySem.W.kitOne
  rw [if_pos (by simp)]
theorem kit_no {t c : Addr} (h0 : PySem.W.subIn K (.ref t) (.ref t) = some true) (hd : PySem.W.hasDictIn K c = true) (ty : PySem.W.typeIn K (.ref c) = some (.type "type")) (h : PySem.W.subIn K (.ref t) (.ref c) = some false) : PySem.W.kitOne K (.ref t) (.ref c) = some false := by
  have ne : ((Value.ref t : Value) == .ref c) = false := by
    rw [Bool.eq_false_iff]
    intro e
    have e' : (Value.ref t : Value) = .ref c := beq_iff_eq.mp e
    rw [← e', h0] at h
    cases h
  have e2 : ((PySem.W.clsIn K c).isSome && PySem.W.typeIn K (.ref c) == some (.type "type")) = true := by
    obtain ⟨cd, hc, _⟩ := PySem.W.any_some hd
    rw [hc, ty]
    rfl
  unfold PySem.W.kitOne
  rw [if_neg (by rw [ne]; exact Bool.false_ne_true)]
  unfold PySem.W.kitCls
  dsimp only
  rw [if_pos e2]
  exact h
theorem kit_ve {t : Addr} (h : PySem.W.subIn K (.ref t) (.type "ValueError") = some true) : PySem.W.kitOne K (.ref t) (.type "ValueError") = some true := by
  unfold PySem.W.kitOne
  rw [if_neg (fun z => by cases (beq_iff_eq.mp z))]
  unfold PySem.W.kitCls
  dsimp only
  rw [if_pos (by decide +kernel)]
  exact h
/-! ### what an error is named -/
def Nm (b1 b2 b3 : Bool) (u : Str) : Prop := (b1 = true ∧ b2 = false ∧ b3 = false ∧ u = "bad") ∨ (b1 = false ∧ b2 = true ∧ b3 = false ∧ u = "twice") ∨ (b1 = false ∧ b2 = false ∧ b3 = true ∧ u = "missing")
def ΦNamed (K : PySem.W.Frag) (bc tc mc : Addr) (p : Addr × Obj) (d : PyData) : Prop := ∃ (D : Addr) (b1 b2 b3 : Bool) (u : Str), ExcC K D ∧ (p.2.cls = .ref D ∧ p.2.dict = none) ∧ (∃ vs, p.2.data = .fields vs) ∧
  PySem.W.kitOne K (.ref D) (.ref bc) = some b1 ∧ PySem.W.kitOne K (.ref D) (.ref tc) = some b2 ∧ PySem.W.kitOne K (.ref D) (.ref mc) = some b3 ∧ PySem.W.kitOne K (.ref D) (.type "ValueError") = some true ∧ Nm b1 b2 b3 u ∧ d = .str u
theorem scNamed : FnScope ["_law_e", "_law_names", "_law_one"] ["_law_e"] (defScope sNamed) := ⟨rfl, rfl, rfl, by decide +kernel, rfl, by decide +kernel, by decide +kernel⟩
theorem ok_named {f : Addr} {fd : FuncData} {sc bc tc mc : Addr} (F : Fun K "_law_named" "_law_named" sNamed f fd) (EB : ErrB K mg sc bc tc mc) (misi : mg "isinstance" = none) (mlen : mg "len" = none) (mve : mg "ValueError" = none) : FnP P w K mg base 1 f fd ["_law_e"] (SpP K (ΦNamed K bc tc mc)) := by
  refine okP F scNamed fun cdv A outer s H E Z p d hot hr h => ?_
  obtain ⟨D, b1, b2, b3, u, cD, hz, hf, k1, k2, k3, k4, nm, rfl⟩ := h
  refine h_set 1 (pd_of_n (pn_lst (pdd_cons (pd_isP cD List.mem_cons_self hz hf (pd_name 0 rfl) (pd_glob (v := .ref _) rfl EB.B.g rfl) (fun _ h => h) k1 misi) (pdd_cons (pd_isP cD List.mem_cons_self hz hf (pd_name 0 rfl) (pd_glob (v := .ref _) rfl EB.T.g rfl) (fun _ h => h) k2 misi) (pdd_cons (pd_isP cD List.mem_cons_self hz hf (pd_name 0 rfl) (pd_glob (v := .ref _) rfl EB.M.g rfl) (fun _ h => h) k3 misi) pdd_nil))))) ?_ scNamed.nd
  have hone : ([b1, b2, b3].filter fun b => b).length = 1 := by
    rcases nm with ⟨rfl, rfl, rfl, _⟩ | ⟨rfl, rfl, rfl, _⟩ | ⟨rfl, rfl, rfl, _⟩ <;> rfl
  refine h_if (pb_bo (pbo_cons (pb_cmp (pw_of (pd_len (pd_of_n (pn_lcP PyData.bool [b1, b2, b3] (fun b => b) PyData.bool 2 hot List.mem_cons_self (pd_name 1 rfl) scNamed.nd (by rfl) (fun _ _ _ _ _ => pg_name (i := 2) scNamed.nd rfl (Or.inl rfl)) (fun b hb _ _ _ _ _ _ => (pbs_one (pb_val (pd_name 2 rfl)))) (fun b hb ht _ _ _ _ _ _ => (pd_name 2 rfl)) (small1000 (by simp)))) (.l _) (by assumption)) (.d _)) (pw_of pd_int (.d _)) cmp_neI (nomark _)) fun _ => (pbo_one (pb_not (pb_val (pd_isP cD List.mem_cons_self hz hf (pd_name 0 rfl) (pd_ty rfl mve boot_ve) (fun _ h => h) k4 misi)))))) (fun hb => ?_) (fun hb => ?_)
  · rw [List.length_map, hone] at hb
    exact absurd hb (by decide)
  rcases nm with ⟨rfl, rfl, rfl, rfl⟩ | ⟨rfl, rfl, rfl, rfl⟩ | ⟨rfl, rfl, rfl, rfl⟩
  · exact h_nil (h_ret (pd_ix (pd_of_n (pn_lst (pdd_cons pd_str (pdd_cons pd_str (pdd_cons pd_str pdd_nil))))) (pd_index (bs := [true, false, false]) (j := 0) (pd_name 1 rfl) pd_bl rfl (fun m hm => by omega) pe_index) (.l rfl)) (.d _))
  · exact h_nil (h_ret (pd_ix (pd_of_n (pn_lst (pdd_cons pd_str (pdd_cons pd_str (pdd_cons pd_str pdd_nil))))) (pd_index (bs := [false, true, false]) (j := 1) (pd_name 1 rfl) pd_bl rfl (fun m hm => by
      obtain rfl : m = 0 := by omega
      decide) pe_index) (.l rfl)) (.d _))
  · exact h_nil (h_ret (pd_ix (pd_of_n (pn_lst (pdd_cons pd_str (pdd_cons pd_str (pdd_cons pd_str pdd_nil))))) (pd_index (bs := [false, false, true]) (j := 2) (pd_name 1 rfl) pd_bl rfl (fun m hm => by
      rcases (by omega : m = 0 ∨ m = 1) with rfl | rfl
      · decide
      · decide) pe_index) (.l rfl)) (.d _))
/-! ### the word of a call -/
def wordC (t : T) (c : Int) (lo hi mk : PyData) : Str :=
  if goodB c lo hi mk = false then "bad" else if c = 9 ∧ sOf lo hi mk ∈ t.toL then "twice" else if c = 10 ∧ sOf lo hi mk ∉ t.toL then "missing" else "done"
theorem outC_word (bc tc mc : Addr) (t : T) {c : Int} (lo hi mk : PyData) (h0 : 0 ≤ c) (h10 : c ≤ 10) :
    (∃ d, (outC bc tc mc t c lo hi mk).2 = .inl d ∧ wordC t c lo hi mk = "done" ∧ (c = 7 → ∃ s : S3, lo = .int s.1 ∧ hi = .int s.2.1 ∧ mk = .int s.2.2 ∧ GoodS s ∧ d = encS s) ∧ (8 < c → d = .none)) ∨
    ((outC bc tc mc t c lo hi mk).2 = .inr bc ∧ wordC t c lo hi mk = "bad") ∨ ((outC bc tc mc t c lo hi mk).2 = .inr tc ∧ wordC t c lo hi mk = "twice") ∨ ((outC bc tc mc t c lo hi mk).2 = .inr mc ∧ wordC t c lo hi mk = "missing") := by
  cases hg : goodB c lo hi mk with
  | false => exact .inr (.inl ⟨by rw [outC_bad hg], if_pos hg⟩)
  | true =>
    have hn : ¬ goodB c lo hi mk = false := by rw [hg]; exact fun z => nomatch z
    by_cases h9 : c = 9
    · subst h9
      rw [outC_put hg]
      by_cases hm : sOf lo hi mk ∈ t.toL
      · exact .inr (.inr (.inl ⟨by rw [if_pos hm], (if_neg hn).trans (if_pos ⟨rfl, hm⟩)⟩))
      · exact .inl ⟨.none, by rw [if_neg hm], (if_neg hn).trans ((if_neg (fun z => hm z.2)).trans (if_neg (fun z => absurd z.1 (by decide)))), fun z => absurd z (by decide), fun _ => rfl⟩
    by_cases h10' : c = 10
    · subst h10'
      rw [outC_take hg]
      by_cases hm : sOf lo hi mk ∈ t.toL
      · exact .inl ⟨.none, by rw [if_pos hm], (if_neg hn).trans ((if_neg (fun z => absurd z.1 (by decide))).trans (if_neg (fun z => z.2 hm))), fun z => absurd z (by decide), fun _ => rfl⟩
      · exact .inr (.inr (.inr ⟨by rw [if_neg hm], (if_neg hn).trans ((if_neg (fun z => absurd z.1 (by decide))).trans (if_pos ⟨rfl, hm⟩))⟩))
    rw [outC_mid hg h9 h10']
    refine .inl ⟨_, rfl, (if_neg hn).trans ((if_neg (fun z => h9 z.1)).trans (if_neg (fun z => h10' z.1))), fun h7 => ?_, fun z => by omega⟩
    subst h7
    obtain ⟨s, rfl, rfl, rfl, gs⟩ := good_str (good_hi_t hg (by decide))
    exact ⟨s, rfl, rfl, rfl, gs, rfl⟩
def ΦWord (bc tc mc : Addr) (x : PyData) (ds : List PyData) (x' : PyData) (r : PyData ⊕ Addr) : Prop := ∃ (t : T) (c : Int) (lo hi mk : PyData), x = encT t ∧ ds = [.int c, lo, hi, mk] ∧ 0 ≤ c ∧ c ≤ 10 ∧ Thing lo ∧ Thing hi ∧ Thing mk ∧ Wd t ∧ x' = encT (outC bc tc mc t c lo hi mk).1 ∧ r = .inl (.str (wordC t c lo hi mk))
theorem scWord : FnScope ["_law_wood", "_law_call", "_law_low", "_law_high", "_law_mark", "_law_found", "_law_e", "_law_same"] ["_law_wood", "_law_call", "_law_low", "_law_high", "_law_mark"] (defScope sWord) := ⟨rfl, rfl, rfl, by decide +kernel, rfl, by decide +kernel, by decide +kernel⟩
theorem ok_word {f : Addr} {fd : FuncData} {sc bc tc mc : Addr} (F : Fun K "_law_word" "_law_word" sWord f fd) (EB : ErrB K mg sc bc tc mc) (cCalled : CalX (CXN P w) P w K mg base 206 "_law_called" ["_law_wood", "_law_call", "_law_low", "_law_high", "_law_mark"] (SpE K C "top" (ΦCalled bc tc mc))) (cNamed : CalP P w K mg base 1 "_law_named" ["_law_e"] (SpP K (ΦNamed K bc tc mc)))
    (cNumber : Cal P w K mg base 1 "_law_number" ["_law_thing_here"] (SpD K ΦNum)) (misi : mg "isinstance" = none) (mint : mg "int" = none) (mtup : mg "tuple" = none) (mlen : mg "len" = none) : FnOk P w K mg base CX0 207 f fd ["_law_wood", "_law_call", "_law_low", "_law_high", "_law_mark"] (SpE K C "top" (ΦWord bc tc mc)) := by
  refine okE F scWord (fun x ds x' r h => ?_) (fun cdv A outer s H E Z p x ds x' r hr h => ?_)
  · obtain ⟨_, _, _, _, _, _, rfl, _⟩ := h; rfl
  · obtain ⟨t, c, lo, hi, mk, rfl, rfl, c0, c10, t1, t2, t3, wd, rfl, rfl⟩ := h
    have ow := outC_word bc tc mc t lo hi mk c0 c10
    have pc : ΦCalled bc tc mc (encT t) [.int c, lo, hi, mk] (encT (outC bc tc mc t c lo hi mk).1) (outC bc tc mc t c lo hi mk).2 := ⟨t, c, lo, hi, mk, rfl, rfl, c0, c10, t1, t2, t3, wd, rfl, rfl⟩
    generalize outC bc tc mc t c lo hi mk = o at ow pc ⊢
    refine h_tryAsN (cc := .ref sc) (xps := fun own ρ c' => own = [(p, .ins C "top" (encT o.1))] ∧ ρ = [.v (.ref p), .d (.int c), .d lo, .d hi, .d mk, .no, .no, .no] ∧ o.2 = .inr c') 6 ⟨rfl, by decide, .inl EB.gS⟩ (fun W pn xe tk => ?_) (fun own' ρ' c' hx => ?_) scWord.nd
    · refine hx_setX 5 (px_onO cCalled (fun σ => L2N.passAt tk σ) hr 0 (pd_name 0 rfl) rfl (.inl List.mem_cons_self) (pdd_cons (pd_name 1 rfl) (pdd_cons (pd_name 2 rfl) (pdd_cons (pd_name 3 rfl) (pdd_cons (pd_name 4 rfl) pdd_nil)))) pc) (fun own' d hp => ?_) (fun own' c' hp => ⟨hp.1, rfl, hp.2⟩) scWord.nd
      obtain ⟨rfl, hd⟩ := hp
      rcases ow with ⟨d', hd', ew, h7, h8⟩ | ⟨z, _⟩ | ⟨z, _⟩ | ⟨z, _⟩
      · rw [hd] at hd'
        cases hd'
        rw [ew]
        refine hx_of (h_nil ?_)
        refine h_if (pb_cmp (pw_of (pd_name 1 rfl) (.d _)) (pw_of pd_int (.d _)) cmp_eqI (nomark _)) (fun hb => ?_) (fun hb => ?_)
        · obtain ⟨s3, rfl, rfl, rfl, gs, rfl⟩ := h7 (of_decide_eq_true hb)
          refine h_set 7 (pda_and (pd_isi (pw_of (pd_name 5 rfl) (.d _)) kit_tt (by assumption) (by assumption) boot_tuple) fun _ => (pda_and (pd_cmp (pw_of (pd_len (pd_name 5 rfl) (.t _) (by assumption)) (.d _)) (pw_of pd_int (.d _)) cmp_eqI (nomark _)) fun _ => (pda_one (pd_cmp (pw_of (pd_name 5 rfl) (.d _)) (pw_of (pd_tup (pdd_cons (pd_name 2 rfl) (pdd_cons (pd_name 3 rfl) (pdd_cons (pd_name 4 rfl) pdd_nil)))) (.d _)) (cmp_eqSS (a := s3) (b := s3) hr) (nomark _))))) ?_ scWord.nd
          rw [decide_eq_true (show s3 = s3 from rfl)]
          refine h_ret (pd_bin pd_str (pd_intB (pda_and (p := true) (pd_name 7 rfl) fun _ => (pda_and (pd_fn cNumber (hr.mono (by decide)) (pdd_cons (pd_ix (pd_name 5 rfl) pd_int (.t rfl)) pdd_nil) ⟨_, rfl, .int _, rfl⟩) fun _ => (pda_and (pd_fn cNumber (hr.mono (by decide)) (pdd_cons (pd_ix (pd_name 5 rfl) pd_int (.t rfl)) pdd_nil) ⟨_, rfl, .int _, rfl⟩) fun _ => (pda_one (pd_fn cNumber (hr.mono (by decide)) (pdd_cons (pd_ix (pd_name 5 rfl) pd_int (.t rfl)) pdd_nil) ⟨_, rfl, .int _, rfl⟩))))) (by assumption)) bin_mulS) ?_
          rw [isNum_in gs.lo, isNum_in gs.hi, isNum_in gs.mrk]
          exact ⟨.inl List.mem_cons_self, _, rfl, .d _⟩
        refine h_nil (h_if (pb_cmp (pw_of (pd_name 1 rfl) (.d _)) (pw_of pd_int (.d _)) cmp_gt (nomark _)) (fun hb2 => ?_) (fun hb2 => ?_))
        · obtain rfl := h8 (of_decide_eq_true hb2)
          exact h_ret (pd_bin pd_str (pd_intB (pd_cmp (pw_of (pd_name 5 rfl) (.d _)) (pw_of pd_non (.d _)) cmp_isN (nomark _)) (by assumption)) bin_mulS) ⟨.inl List.mem_cons_self, _, rfl, .d _⟩
        · exact h_nil (h_ret pd_str ⟨.inl List.mem_cons_self, _, rfl, .d _⟩)
      · rw [hd] at z; cases z
      · rw [hd] at z; cases z
      · rw [hd] at z; cases z
    · obtain ⟨rfl, rfl, ho⟩ := hx
      have key : ∃ (b1 b2 b3 : Bool), ExcC K c' ∧ PySem.W.exmOne K (.ref c') (.ref sc) = some true ∧ PySem.W.kitOne K (.ref c') (.ref bc) = some b1 ∧ PySem.W.kitOne K (.ref c') (.ref tc) = some b2 ∧ PySem.W.kitOne K (.ref c') (.ref mc) = some b3 ∧ PySem.W.kitOne K (.ref c') (.type "ValueError") = some true ∧ Nm b1 b2 b3 (wordC t c lo hi mk) := by
        rcases ow with ⟨d', hd', _⟩ | ⟨z, ew⟩ | ⟨z, ew⟩ | ⟨z, ew⟩
        · rw [ho] at hd'; cases hd'
        · rw [ho] at z; cases z
          exact ⟨_, _, _, EB.cB, EB.xB, EB.kBB, EB.kBT, EB.kBM, EB.kBV, .inl ⟨rfl, rfl, rfl, ew⟩⟩
        · rw [ho] at z; cases z
          exact ⟨_, _, _, EB.cT, EB.xT, EB.kTB, EB.kTT, EB.kTM, EB.kTV, .inr (.inl ⟨rfl, rfl, rfl, ew⟩)⟩
        · rw [ho] at z; cases z
          exact ⟨_, _, _, EB.cM, EB.xM, EB.kMB, EB.kMT, EB.kMM, EB.kMV, .inr (.inr ⟨rfl, rfl, rfl, ew⟩)⟩
      obtain ⟨b1, b2, b3, cD, xD, k1, k2, k3, k4, nm⟩ := key
      refine ⟨xD, fun a oe pn hz hf => ?_⟩
      have hot : L2H.Hot1 (A.mark (some (.ref a))) (a, oe) := by
        obtain ⟨vs, hv⟩ := hf
        exact ⟨rfl, vs, hv, hz.2.2 vs hv⟩
      have hrH := L2H.roomH_of (hr.mono (show 1 ≤ 206 by decide))
      exact h_ret (pd_callP (p := (a, oe)) cNamed ⟨hrH.dp, hrH.un⟩ ⟨rfl, hot.2⟩ List.mem_cons_self (pd_name 6 rfl) rfl ⟨c', b1, b2, b3, _, cD, ⟨hz.1, hz.2.1⟩, hf, k1, k2, k3, k4, nm, rfl⟩) ⟨.inl List.mem_cons_self, _, rfl, .d _⟩
end
end L3
set_option Elab.async false
set_option linter.all false
set_option autoImplicit false
set_option maxRecDepth 100000
set_option maxHeartbeats 4000000
namespace L3
open PySem PySem.Spec L2
local macro_rules | `(tactic| walk_at "bin") => `(tactic| first | exact bin_add | exact bin_sub | exact bin_fdiv ⟨by decide, by decide⟩ | exact bin_mod (by decide) | exact bin_pow ⟨by decide, by decide, by decide⟩ | exact bin_mul (mul_small (by decide)) | exact bin_mul (by with_reducible assumption) | exact bin_catL (.d _) (.d _) (by assumption))
local macro_rules | `(tactic| walk_at "mem") => `(tactic| first | exact List.mem_cons_self | exact List.mem_cons_of_mem _ List.mem_cons_self | exact List.mem_cons_of_mem _ (List.mem_cons_of_mem _ List.mem_cons_self) | exact List.mem_cons_of_mem _ (List.mem_cons_of_mem _ (List.mem_cons_of_mem _ List.mem_cons_self)) | exact List.mem_cons_of_mem _ (List.mem_cons_of_mem _ (List.mem_cons_of_mem _ (List.mem_cons_of_mem _ List.mem_cons_self))) | assumption)
local macro_rules | `(tactic| walk_at "asw") => `(tactic| first | exact .d _ | exact .o (by walk_at "mem") | exact .v _)
local macro_rules | `(tactic| walk_at "asl") => `(tactic| first | exact .d _ | exact .o (by walk_at "mem"))
local macro_rules | `(tactic| walk_at "len") => `(tactic| first | exact .l _ | exact .t _ | exact .o (by walk_at "mem") | exact .s _)
local macro_rules | `(tactic| walk_at "ix") => `(tactic| first | exact .t rfl | exact .l rfl | exact .l (by assumption) | exact .o (by walk_at "mem") rfl | exact .o (by walk_at "mem") (by assumption))
local macro_rules | `(tactic| walk_at "cmp") => `(tactic| first | exact cmp_eqI | exact cmp_neI | exact cmp_le | exact cmp_lt | exact cmp_ge | exact cmp_gt | exact cmp_eqB | exact cmp_neB | exact cmp_eqS | exact cmp_neS | exact cmp_isN | exact cmp_notN | exact cmp_isnotB)
local macro_rules | `(tactic| walk_at "kit") => `(tactic| first | exact kit_ii | exact kit_bb | exact kit_tt | exact kit_ll | exact kit_ib | exact kit_bi | exact kit_it | exact kit_ni | exact kit_si | exact kit_ti | exact kit_li)
section
variable {P : Program} {w : World} {K : PySem.W.Frag} {mg : Str → Option Value} {base : Heap} {C : Addr}
/-! ### the wood of the law -/
abbrev K0 : List S3 := [(0, 0, 0), (2, 5, 1)]
def treeN : Nat → T
  | 0 => .nil
  | 1 => T.wit .nil (0, 0, 0)
  | _ => T.wit (T.wit .nil (0, 0, 0)) (2, 5, 1)
theorem good0 : GoodS (0, 0, 0) := ⟨⟨by decide, by decide⟩, ⟨by decide, by decide⟩, ⟨by decide, by decide⟩, by decide⟩
theorem good1 : GoodS (2, 5, 1) := ⟨⟨by decide, by decide⟩, ⟨by decide, by decide⟩, ⟨by decide, by decide⟩, by decide⟩
theorem tree1 : Wd (treeN 1) ∧ (treeN 1).toL = [(0, 0, 0)] := by
  have hs : Srt (T.toL .nil) := List.Pairwise.nil
  have hm : ((0, 0, 0) : S3) ∉ T.toL .nil := by simp [T.toL]
  obtain ⟨a, b, _⟩ := T.wit_ok (t := .nil) trivial hs hm
  have e : (treeN 1).toL = [(0, 0, 0)] := b.trans (by unfold insS; simp [T.toL])
  exact ⟨⟨a, by rw [e]; exact List.pairwise_singleton _ _, by rw [e]; decide⟩, e⟩
theorem tree2 : Wd (treeN 2) ∧ (treeN 2).toL = K0 := by
  obtain ⟨w1, e1⟩ := tree1
  have hm : ((2, 5, 1) : S3) ∉ (treeN 1).toL := by rw [e1]; decide
  obtain ⟨a, b, _⟩ := T.wit_ok w1.av w1.srt hm
  have hs := srt_ins w1.srt hm
  rw [← b] at hs
  have e : (treeN 2).toL = K0 := b.trans (by rw [e1]; unfold insS; decide)
  exact ⟨⟨a, hs, by show (treeN 2).toL.length ≤ 200; rw [e]; decide⟩, e⟩
/-- what is kept behind the call -/
def K1 (b : Bool) (s : S3) : List S3 := if b = true then insS s K0 else K0
def isDone (t : T) (k c : Int) (lo hi mk : PyData) : Bool := decide (wordC t c lo hi mk = Str.ofString "done") && decide (c = k)
theorem done_good {t : T} {c : Int} {lo hi mk : PyData} (h : wordC t c lo hi mk = Str.ofString "done") : goodB c lo hi mk = true := by
  cases hg : goodB c lo hi mk with
  | true => rfl
  | false =>
    have e : wordC t c lo hi mk = "bad" := if_pos hg
    rw [e] at h
    exact absurd h (by decide)
theorem outC_tree (bc tc mc : Addr) {t : T} {c : Int} {lo hi mk : PyData} (wd : Wd t) (hl : t.toL = K0) :
    Wd (outC bc tc mc t c lo hi mk).1 ∧ (outC bc tc mc t c lo hi mk).1.toL = (if isDone t 10 c lo hi mk = true then remS (sOf lo hi mk) K0 else K1 (isDone t 9 c lo hi mk) (sOf lo hi mk)) := by
  have stay : wordC t c lo hi mk ≠ "done" → K0 = (if isDone t 10 c lo hi mk = true then remS (sOf lo hi mk) K0 else K1 (isDone t 9 c lo hi mk) (sOf lo hi mk)) := fun h => by
    have e : decide (wordC t c lo hi mk = Str.ofString "done") = false := decide_eq_false h
    unfold isDone K1
    rw [e]
    rfl
  have hk0 : Srt K0 := by rw [← hl]; exact wd.srt
  cases hg : goodB c lo hi mk with
  | false =>
    rw [outC_bad hg]
    have ew : wordC t c lo hi mk = "bad" := if_pos hg
    exact ⟨wd, hl.trans (stay (by rw [ew]; decide))⟩
  | true =>
    have hn : ¬ goodB c lo hi mk = false := by rw [hg]; exact fun z => nomatch z
    by_cases h9 : c = 9
    · subst h9
      rw [outC_put hg]
      by_cases hm : sOf lo hi mk ∈ t.toL
      · rw [if_pos hm]
        have ew : wordC t 9 lo hi mk = "twice" := (if_neg hn).trans (if_pos ⟨rfl, hm⟩)
        exact ⟨wd, hl.trans (stay (by rw [ew]; decide))⟩
      · rw [if_neg hm]
        have ew : wordC t 9 lo hi mk = "done" := (if_neg hn).trans ((if_neg (fun z => hm z.2)).trans (if_neg (fun z => absurd z.1 (by decide))))
        obtain ⟨a, b, _⟩ := T.wit_ok wd.av wd.srt hm
        have hs := srt_ins wd.srt hm
        rw [← b] at hs
        refine ⟨⟨a, hs, by show (T.wit t (sOf lo hi mk)).toL.length ≤ 200; rw [b, len_ins, hl]; decide⟩, ?_⟩
        show (T.wit t (sOf lo hi mk)).toL = _
        rw [b, hl]
        unfold isDone K1
        rw [ew]
        rfl
    by_cases h10 : c = 10
    · subst h10
      rw [outC_take hg]
      by_cases hm : sOf lo hi mk ∈ t.toL
      · rw [if_pos hm]
        have ew : wordC t 10 lo hi mk = "done" := (if_neg hn).trans ((if_neg (fun z => absurd z.1 (by decide))).trans (if_neg (fun z => z.2 hm)))
        obtain ⟨a, b, _⟩ := T.wio_ok wd.av wd.srt hm
        have hs : Srt (remS (sOf lo hi mk) t.toL) := srt_rem wd.srt
        rw [← b] at hs
        have hle := len_rem (sOf lo hi mk) t.toL
        have hk : t.toL.length = 2 := by rw [hl]; rfl
        refine ⟨⟨a, hs, by show (T.wio t (sOf lo hi mk)).toL.length ≤ 200; rw [b]; omega⟩, ?_⟩
        show (T.wio t (sOf lo hi mk)).toL = _
        rw [b, hl]
        unfold isDone K1
        rw [ew]
        rfl
      · rw [if_neg hm]
        have ew : wordC t 10 lo hi mk = "missing" := (if_neg hn).trans ((if_neg (fun z => absurd z.1 (by decide))).trans (if_pos ⟨rfl, hm⟩))
        exact ⟨wd, hl.trans (stay (by rw [ew]; decide))⟩
    rw [outC_mid hg h9 h10]
    refine ⟨wd, hl.trans ?_⟩
    unfold isDone K1
    rw [decide_eq_false h9, decide_eq_false h10, Bool.and_false]
    rfl
theorem k0_at (c : Int) : ∃ s : S3, atI (K0.map encS) (c % 2) = some (encS s) := by
  rcases (by omega : c % 2 = 0 ∨ c % 2 = 1) with h | h
  · exact ⟨(0, 0, 0), by rw [h]; rfl⟩
  · exact ⟨(2, 5, 1), by rw [h]; rfl⟩
/-! ### the law -/
def ΦLaw (ds : List PyData) (d : PyData) : Prop := ∃ ns : List Int, ds = [scrD ns] ∧ ns.length ≤ 63 ∧ (∀ n ∈ ns, Builtin.Int.intBits n ≤ 1048576) ∧ d = .bool true
theorem scLaw : FnScope ["_law_script", "_law_kept", "_law_wood", "_law_one", "_law_low", "_law_high", "_law_mark", "_law_call", "_law_due"] ["_law_script"] (defScope sLaw) := ⟨rfl, rfl, rfl, by decide +kernel, rfl, by decide +kernel, by decide +kernel⟩
theorem ok_law {f g : Addr} {fd gd : FuncData} {bc tc mc : Addr} (F : Fun K "law" "law" sLaw f fd) (M : Mk K C g) (I : FnOk P w K mg base CX0 1 g gd ["self"] (SpI K C "top" .none)) (bI : Binds K gd ["self"] []) (gW : mg "Wood" = some (.ref C)) (cl : Cls K C)
    (cAt : Cal P w K mg base 1 "_law_at" ["_law_script", "_law_place"] (SpD K ΦAt)) (cThing : Cal P w K mg base 1 "_law_thing" ["_law_cell"] (SpD K ΦThing)) (cNumber : Cal P w K mg base 1 "_law_number" ["_law_thing_here"] (SpD K ΦNum)) (cGood : Cal P w K mg base 2 "_law_good" ["_law_call", "_law_low", "_law_high", "_law_mark"] (SpD K ΦGood))
    (cPut : CalM (CXN P w) P w K mg base 205 C "put" ["self", "low", "high", "mark"] (SpE K C "top" (ΦPut tc))) (cListed : CalM CX0 P w K mg base 203 C "listed" ["self"] (SpRL K C "top" ΦListed))
    (cWord : CalX CX0 P w K mg base 207 "_law_word" ["_law_wood", "_law_call", "_law_low", "_law_high", "_law_mark"] (SpE K C "top" (ΦWord bc tc mc))) (msorted : mg "sorted" = none) : FnOk P w K mg base CX0 208 f fd ["_law_script"] (SpD K ΦLaw) := by
  refine okD F scLaw (fun ds d h => ?_) (fun cdv A outer s H E Z ds d hr h => ?_)
  · obtain ⟨_, rfl, _⟩ := h; rfl
  · obtain ⟨ns, rfl, hl, hbits, rfl⟩ := h
    have hr1 := hr.mono (show 1 ≤ 207 by decide)
    have pat : ∀ j : Nat, ΦAt [scrD ns, .int (j : Nat)] (.int (cell ns j)) := fun j => ⟨ns, j, rfl, by omega, rfl⟩
    refine h_set 1 (r := .d (.list (K0.map encS))) (pd_of_n (pn_lst (pdd_cons (pd_tup (pdd_cons pd_int (pdd_cons pd_int (pdd_cons pd_int pdd_nil)))) (pdd_cons (pd_tup (pdd_cons pd_int (pdd_cons pd_int (pdd_cons pd_int pdd_nil)))) pdd_nil)))) ?_ scLaw.nd
    refine h_make 2 M I rfl (hr.mono (by decide)) gW bI (fun p => ?_) scLaw.nd
    refine h_for (fun k own ρ => own = [(p, .ins C "top" (encT (treeN k)))] ∧ ∃ x3 : Sl, ρ = [.d (scrD ns), .d (.list (K0.map encS)), .v (.ref p), x3, .no, .no, .no, .no, .no]) (pit_list (pd_name 1 rfl)) _ (fun d _ => (tg_name 3 scLaw.nd)) ⟨rfl, _, rfl⟩ (fun F k own' ρ' d hk j => ?_) (fun own' ρ' j => ?_)
    · obtain ⟨rfl, x3, rfl⟩ := j
      match k, hk with
      | 0, hk =>
        cases hk
        refine h_exprF (px_meth cPut passF cl (hr.mono (by decide)) 0 (pd_name 2 rfl) rfl (.inl List.mem_cons_self) (pdd_cons (pd_ix (pd_name 3 rfl) pd_int (.t rfl)) (pdd_cons (pd_ix (pd_name 3 rfl) pd_int (.t rfl)) (pdd_cons (pd_ix (pd_name 3 rfl) pd_int (.t rfl)) pdd_nil))) ⟨.nil, (0, 0, 0), rfl, rfl, good0, wd_nil, .inr ⟨by simp [T.toL], rfl, rfl⟩⟩) (fun own' c h => nomatch h.2) (fun own' d h => ?_)
        obtain ⟨rfl, _⟩ := h
        exact h_nil ⟨rfl, _, rfl⟩
      | 1, hk =>
        cases hk
        refine h_exprF (px_meth cPut passF cl (hr.mono (by decide)) 0 (pd_name 2 rfl) rfl (.inl List.mem_cons_self) (pdd_cons (pd_ix (pd_name 3 rfl) pd_int (.t rfl)) (pdd_cons (pd_ix (pd_name 3 rfl) pd_int (.t rfl)) (pdd_cons (pd_ix (pd_name 3 rfl) pd_int (.t rfl)) pdd_nil))) ⟨treeN 1, (2, 5, 1), rfl, rfl, good1, tree1.1, .inr ⟨by rw [tree1.2]; decide, rfl, rfl⟩⟩) (fun own' c h => nomatch h.2) (fun own' d h => ?_)
        obtain ⟨rfl, _⟩ := h
        exact h_nil ⟨rfl, _, rfl⟩
      | _ + 2, hk => cases hk
    obtain ⟨rfl, x3, rfl⟩ := j
    obtain ⟨wd, htl⟩ := tree2
    rw [show treeN (K0.map encS).length = treeN 2 from rfl]
    generalize treeN 2 = t at wd htl
    -- low, high, mark
    refine h_set 4 (pd_fn cThing hr1 (pdd_cons (pd_fn cAt hr1 (pdd_cons (pd_name 0 rfl) (pdd_cons pd_int pdd_nil)) (pat 0)) pdd_nil) ⟨_, rfl, rfl⟩) ?_ scLaw.nd
    refine h_set 5 (pd_fn cThing hr1 (pdd_cons (pd_fn cAt hr1 (pdd_cons (pd_name 0 rfl) (pdd_cons pd_int pdd_nil)) (pat 1)) pdd_nil) ⟨_, rfl, rfl⟩) ?_ scLaw.nd
    refine h_set 6 (pd_fn cThing hr1 (pdd_cons (pd_fn cAt hr1 (pdd_cons (pd_name 0 rfl) (pdd_cons pd_int pdd_nil)) (pat 2)) pdd_nil) ⟨_, rfl, rfl⟩) ?_ scLaw.nd
    have q1 := thing_is (cell ns 0)
    have q2 := thing_is (cell ns 1)
    have q3 := thing_is (cell ns 2)
    generalize thingD (cell ns 0) = lo at q1
    generalize thingD (cell ns 1) = hi at q2
    generalize thingD (cell ns 2) = mk at q3
    obtain ⟨k0, hk0⟩ := k0_at (cell ns 4)
    refine h_ifM (fun own ρ => own = [(p, .ins C "top" (encT t))] ∧ ∃ lo hi mk : PyData, Thing lo ∧ Thing hi ∧ Thing mk ∧ ρ = [.d (scrD ns), .d (.list (K0.map encS)), .v (.ref p), x3, .d lo, .d hi, .d mk, .no, .no]) (pb_cmp (pw_of (pd_bin (pd_bin (pd_fn cAt hr1 (pdd_cons (pd_name 0 rfl) (pdd_cons pd_int pdd_nil)) (pat 3)) pd_int (by walk_at "bin")) pd_int (by walk_at "bin")) (.d _)) (pw_of pd_int (.d _)) cmp_eqI (nomark _)) (fun hb => ?_) (fun hb => ?_) ?_
    · refine h_asg (pd_ix (pd_name 1 rfl) (pd_bin (pd_fn cAt hr1 (pdd_cons (pd_name 0 rfl) (pdd_cons pd_int pdd_nil)) (pat 4)) pd_int (by walk_at "bin")) (.l hk0)) (tg_tup (tgs_cons (tg_name 4 scLaw.nd) (tgs_cons (tg_name 5 scLaw.nd) (tgs_cons (tg_name 6 scLaw.nd) tgs_nil)))) ?_
      exact h_nil ⟨rfl, _, _, _, .int _, .int _, .int _, rfl⟩
    · exact h_nil ⟨rfl, _, _, _, q1, q2, q3, rfl⟩
    clear q1 q2 q3 lo hi mk
    rintro _ _ ⟨rfl, lo, hi, mk, q1, q2, q3, rfl⟩
    refine h_ifM (fun own ρ => own = [(p, .ins C "top" (encT t))] ∧ ∃ lo hi mk : PyData, Thing lo ∧ Thing hi ∧ Thing mk ∧ ρ = [.d (scrD ns), .d (.list (K0.map encS)), .v (.ref p), x3, .d lo, .d hi, .d mk, .no, .no]) (pb_bo (pba_cons (pb_cmp (pw_of (pd_bin (pd_bin (pd_fn cAt hr1 (pdd_cons (pd_name 0 rfl) (pdd_cons pd_int pdd_nil)) (pat 3)) pd_int (by walk_at "bin")) pd_int (by walk_at "bin")) (.d _)) (pw_of pd_int (.d _)) cmp_eqI (nomark _)) fun _ => (pba_one (pb_val (pd_fn cNumber hr1 (pdd_cons (pd_name 4 rfl) pdd_nil) ⟨_, rfl, q1, rfl⟩))))) (fun hb => ?_) (fun hb => ?_) ?_
    · exact h_set 5 (pd_name 4 rfl) (h_nil ⟨rfl, _, _, _, q1, q1, q3, rfl⟩) scLaw.nd
    · exact h_nil ⟨rfl, _, _, _, q1, q2, q3, rfl⟩
    clear q1 q2 q3 lo hi mk
    rintro _ _ ⟨rfl, lo, hi, mk, q1, q2, q3, rfl⟩
    refine h_set 7 (pd_bin (pd_fn cAt hr1 (pdd_cons (pd_name 0 rfl) (pdd_cons pd_int pdd_nil)) (pat 3)) pd_int (by walk_at "bin")) ?_ scLaw.nd
    have c0 : 0 ≤ cell ns 3 % 11 := by omega
    have c10 : cell ns 3 % 11 ≤ 10 := by omega
    generalize hc : cell ns 3 % 11 = c at c0 c10
    refine h_ifM (fun own ρ => own = [(p, .ins C "top" (encT t))] ∧ ∃ (lo hi mk : PyData) (c : Int), Thing lo ∧ Thing hi ∧ Thing mk ∧ 0 ≤ c ∧ c ≤ 10 ∧ ρ = [.d (scrD ns), .d (.list (K0.map encS)), .v (.ref p), x3, .d lo, .d hi, .d mk, .d (.int c), .no]) (pb_cmp (pw_of (pd_bin (pd_bin (pd_fn cAt hr1 (pdd_cons (pd_name 0 rfl) (pdd_cons pd_int pdd_nil)) (pat 3)) pd_int (by walk_at "bin")) pd_int (by walk_at "bin")) (.d _)) (pw_of pd_int (.d _)) cmp_eqI (nomark _)) (fun hb => ?_) (fun hb => ?_) ?_
    · refine h_asg (d := .tuple [.int k0.1, .int k0.2.1, thingD (5 * cell ns 2)]) (pd_bin (pd_sliceT (pd_ix (pd_name 1 rfl) (pd_bin (pd_fn cAt hr1 (pdd_cons (pd_name 0 rfl) (pdd_cons pd_int pdd_nil)) (pat 4)) pd_int (by walk_at "bin")) (.l hk0)) .none (.some pd_int) (show ¬ (HT.sIx 3 0 none = 0 ∧ HT.sIx 3 3 (some 2) = 3) by decide)) (pd_tup (pdd_cons (pd_fn cThing hr1 (pdd_cons (pd_bin pd_int (pd_fn cAt hr1 (pdd_cons (pd_name 0 rfl) (pdd_cons pd_int pdd_nil)) (pat 2)) (bin_mul (mul_smallL (by decide)))) pdd_nil) ⟨_, rfl, rfl⟩) pdd_nil)) (bin_catT (by simp [cutD, HT.sIx]) (by simp) (sz1000 rfl))) (tg_tup (tgs_cons (tg_name 4 scLaw.nd) (tgs_cons (tg_name 5 scLaw.nd) (tgs_cons (tg_name 6 scLaw.nd) tgs_nil)))) ?_
      refine h_set 7 (pd_bin pd_int (pd_bin (pd_name 7 rfl) pd_int (by walk_at "bin")) (by walk_at "bin")) ?_ scLaw.nd
      exact h_nil ⟨rfl, _, _, _, _, .int _, .int _, thing_is _, by omega, by omega, rfl⟩
    · exact h_nil ⟨rfl, _, _, _, _, q1, q2, q3, c0, c10, rfl⟩
    clear q1 q2 q3 lo hi mk hc c0 c10 c
    rintro _ _ ⟨rfl, lo, hi, mk, c, q1, q2, q3, c0, c10, rfl⟩
    -- what is due
    refine h_set 8 pd_str ?_ scLaw.nd
    have hmem : ∀ s : S3, (s ∈ t.toL ↔ s ∈ K0) := fun s => by rw [htl]
    refine h_ifM (fun own ρ => own = [(p, .ins C "top" (encT t))] ∧ ρ = [.d (scrD ns), .d (.list (K0.map encS)), .v (.ref p), x3, .d lo, .d hi, .d mk, .d (.int c), .d (.str (wordC t c lo hi mk))]) (pb_not (pb_val (pd_fn cGood (hr.mono (by decide)) (pdd_cons (pd_name 7 rfl) (pdd_cons (pd_name 4 rfl) (pdd_cons (pd_name 5 rfl) (pdd_cons (pd_name 6 rfl) pdd_nil)))) ⟨c, lo, hi, mk, rfl, q1, q2, q3, rfl⟩))) (fun hb => ?_) (fun hb => ?_) ?_
    · rw [show wordC t c lo hi mk = "bad" from if_pos (by simpa using hb)]
      exact h_set 8 pd_str (h_nil ⟨rfl, rfl⟩) scLaw.nd
    · have hg : goodB c lo hi mk = true := by simpa using hb
      have hn : ¬ goodB c lo hi mk = false := by rw [hg]; exact fun z => nomatch z
      refine h_if (pb_bo (pba_cons (pb_cmp (pw_of (pd_name 7 rfl) (.d _)) (pw_of pd_int (.d _)) cmp_eqI (nomark _)) fun h9 => (pba_one (p := decide (sOf lo hi mk ∈ K0)) ?_))) (fun hb2 => ?_) (fun hb2 => ?_)
      · obtain rfl := of_decide_eq_true h9
        obtain ⟨s3, rfl, rfl, rfl, gs⟩ := good_str (good_hi_t hg (by decide))
        exact pb_cmp (pw_of (pd_tup (pdd_cons (pd_name 4 rfl) (pdd_cons (pd_name 5 rfl) (pdd_cons (pd_name 6 rfl) pdd_nil)))) (.d _)) (pw_of (pd_name 1 rfl) (.d _)) (cmp_inS (a := s3) hr) (by rfl)
      · rw [Bool.and_eq_true] at hb2
        rw [show wordC t c lo hi mk = "twice" from (if_neg hn).trans (if_pos ⟨of_decide_eq_true hb2.1, (hmem _).mpr (of_decide_eq_true hb2.2)⟩)]
        exact h_set 8 pd_str (h_nil (h_nil ⟨rfl, rfl⟩)) scLaw.nd
      have n9 : ¬ (c = 9 ∧ sOf lo hi mk ∈ t.toL) := fun z => by
        rw [decide_eq_true z.1, decide_eq_true ((hmem _).mp z.2)] at hb2
        exact absurd hb2 (by decide)
      refine h_if (pb_bo (pba_cons (pb_cmp (pw_of (pd_name 7 rfl) (.d _)) (pw_of pd_int (.d _)) cmp_eqI (nomark _)) fun h10 => (pba_one (p := !decide (sOf lo hi mk ∈ K0)) ?_))) (fun hb3 => ?_) (fun hb3 => ?_)
      · obtain rfl := of_decide_eq_true h10
        obtain ⟨s3, rfl, rfl, rfl, gs⟩ := good_str (good_hi_t hg (by decide))
        exact pb_cmp (pw_of (pd_tup (pdd_cons (pd_name 4 rfl) (pdd_cons (pd_name 5 rfl) (pdd_cons (pd_name 6 rfl) pdd_nil)))) (.d _)) (pw_of (pd_name 1 rfl) (.d _)) (cmp_notInS (a := s3) hr) (by rfl)
      · rw [Bool.and_eq_true] at hb3
        have hm : sOf lo hi mk ∉ K0 := by
          have z := hb3.2
          rwa [Bool.not_eq_true', decide_eq_false_iff_not] at z
        rw [show wordC t c lo hi mk = "missing" from (if_neg hn).trans ((if_neg n9).trans (if_pos ⟨of_decide_eq_true hb3.1, fun z => hm ((hmem _).mp z)⟩))]
        exact h_set 8 pd_str (h_nil (h_nil (h_nil ⟨rfl, rfl⟩))) scLaw.nd
      · have n10 : ¬ (c = 10 ∧ sOf lo hi mk ∉ t.toL) := fun z => by
          rw [decide_eq_true z.1, decide_eq_false (fun y => z.2 ((hmem _).mpr y))] at hb3
          exact absurd hb3 (by decide)
        rw [show wordC t c lo hi mk = "done" from (if_neg hn).trans ((if_neg n9).trans (if_neg n10))]
        exact h_nil (h_nil (h_nil ⟨rfl, rfl⟩))
    rintro _ _ ⟨rfl, rfl⟩
    refine h_ifX (pb := fun own' b => own' = [(p, .ins C "top" (encT (outC bc tc mc t c lo hi mk).1))] ∧ b = false) (pbx_cmp (px_onO cWord pass00 hr 0 (pd_name 2 rfl) rfl (.inl List.mem_cons_self) (pdd_cons (pd_name 7 rfl) (pdd_cons (pd_name 4 rfl) (pdd_cons (pd_name 5 rfl) (pdd_cons (pd_name 6 rfl) pdd_nil)))) ⟨t, c, lo, hi, mk, rfl, rfl, c0, c10, q1, q2, q3, wd, rfl, rfl⟩) (fun own' d hp => ?_) (nomark _)) (fun own' hp => absurd hp.2 (by decide)) (fun own' hp => ?_)
    · obtain ⟨rfl, hd⟩ := hp
      cases hd
      exact ⟨_, _, pw_of (pd_name 8 rfl) (.d _), cmp_neS, rfl, by rw [decide_eq_true rfl]; rfl⟩
    obtain ⟨rfl, _⟩ := hp
    obtain ⟨wd', hto⟩ := outC_tree bc tc mc (c := c) (lo := lo) (hi := hi) (mk := mk) wd htl
    generalize (outC bc tc mc t c lo hi mk).1 = t' at wd' hto
    -- what is kept
    have hk0s : Srt K0 := by rw [← htl]; exact wd.srt
    refine h_nil (h_ifM (fun own ρ => own = [(p, .ins C "top" (encT t'))] ∧ ρ = [.d (scrD ns), .d (.list ((K1 (isDone t 9 c lo hi mk) (sOf lo hi mk)).map encS)), .v (.ref p), x3, .d lo, .d hi, .d mk, .d (.int c), .d (.str (wordC t c lo hi mk))]) (pb_bo (pba_cons (pb_cmp (pw_of (pd_name 8 rfl) (.d _)) (pw_of pd_str (.d _)) cmp_eqS (nomark _)) fun _ => (pba_one (pb_cmp (pw_of (pd_name 7 rfl) (.d _)) (pw_of pd_int (.d _)) cmp_eqI (nomark _))))) (fun hb => ?_) (fun hb => ?_) ?_)
    · rw [show isDone t 9 c lo hi mk = true from hb, show K1 true (sOf lo hi mk) = insS (sOf lo hi mk) K0 from if_pos rfl]
      rw [Bool.and_eq_true] at hb
      have hw := of_decide_eq_true hb.1
      have hg := done_good hw
      obtain rfl := of_decide_eq_true hb.2
      obtain ⟨s3, rfl, rfl, rfl, gs⟩ := good_str (good_hi_t hg (by decide))
      have hx : s3 ∉ K0 := fun z => by
        have e : wordC t 9 (.int s3.1) (.int s3.2.1) (.int s3.2.2) = "twice" := (if_neg (by rw [hg]; exact fun z => nomatch z)).trans (if_pos ⟨rfl, (hmem _).mpr z⟩)
        rw [e] at hw
        exact absurd hw (by decide)
      rw [show insS (sOf (.int s3.1) (.int s3.2.1) (.int s3.2.2)) K0 = (K0 ++ [s3]).mergeSort sLe from (sort_ins hk0s hx).symm, ← dataLe_S]
      have hz : (K0.map encS).length + [encS s3].length ≤ sizeLine := sz1000 rfl
      refine h_set 1 (pd_of_n (pn_sorted (enc := encS) (bs := K0 ++ [s3]) (pl_of (r := .d (.list (K0.map encS ++ [encS s3]))) (pd_bin (pd_name 1 rfl) (pd_of_n (pn_lst (pdd_cons (pd_tup (pdd_cons (pd_name 4 rfl) (pdd_cons (pd_name 5 rfl) (pdd_cons (pd_name 6 rfl) pdd_nil)))) pdd_nil))) (bin_catL (.d _) (.d _) hz)) (by rw [List.map_append]; exact .d _)) hr (alike_S _) (sortable_S _) (fun b _ => fl_shaped (k := 1) (fl_S b) (by decide)) (by assumption))) ?_ scLaw.nd
      exact h_nil ⟨rfl, rfl⟩
    · rw [show isDone t 9 c lo hi mk = false from hb]
      exact h_nil ⟨rfl, rfl⟩
    rintro _ _ ⟨rfl, rfl⟩
    refine h_ifM (fun own ρ => own = [(p, .ins C "top" (encT t'))] ∧ ρ = [.d (scrD ns), .d (.list (t'.toL.map encS)), .v (.ref p), x3, .d lo, .d hi, .d mk, .d (.int c), .d (.str (wordC t c lo hi mk))]) (pb_bo (pba_cons (pb_cmp (pw_of (pd_name 8 rfl) (.d _)) (pw_of pd_str (.d _)) cmp_eqS (nomark _)) fun _ => (pba_one (pb_cmp (pw_of (pd_name 7 rfl) (.d _)) (pw_of pd_int (.d _)) cmp_eqI (nomark _))))) (fun hb => ?_) (fun hb => ?_) ?_
    · rw [hto, if_pos (show isDone t 10 c lo hi mk = true from hb)]
      rw [Bool.and_eq_true] at hb
      have hg := done_good (of_decide_eq_true hb.1)
      obtain rfl := of_decide_eq_true hb.2
      obtain ⟨s3, rfl, rfl, rfl, gs⟩ := good_str (good_hi_t hg (by decide))
      rw [show K1 (isDone t 9 10 (.int s3.1) (.int s3.2.1) (.int s3.2.2)) (sOf (.int s3.1) (.int s3.2.1) (.int s3.2.2)) = K0 from if_neg (by unfold isDone; rw [show decide ((10 : Int) = 9) = false from rfl, Bool.and_false]; exact Bool.false_ne_true)]
      exact h_setLc encS K0 (fun y => !decide (y = s3)) encS 1 3 (pit_list (pd_name 1 rfl)) (fun b hb _ _ _ _ _ _ => (pbs_one (pb_cmp (pw_of (pd_name 3 rfl) (.d _)) (pw_of (pd_tup (pdd_cons (pd_name 4 rfl) (pdd_cons (pd_name 5 rfl) (pdd_cons (pd_name 6 rfl) pdd_nil)))) (.d _)) (cmp_neSS (a := b) (b := s3) hr) (nomark _)))) (fun b hb ht _ _ _ _ _ _ => (pd_name 3 rfl)) (small1000 (by decide)) (h_nil ⟨rfl, rfl⟩) scLaw.nd (fun _ _ _ _ _ => pg_name (i := 3) scLaw.nd rfl (Or.inl rfl))
    · rw [hto, if_neg (by rw [show isDone t 10 c lo hi mk = false from hb]; exact Bool.false_ne_true)]
      exact h_nil ⟨rfl, rfl⟩
    rintro _ _ ⟨rfl, rfl⟩
    refine h_ret (pd_cmp (pw_of (pd_of_n (pn_meth0 cListed cl (hr.mono (by decide)) (pd_name 2 rfl) (.inl List.mem_cons_self) ⟨t', rfl, rfl, wd', rfl⟩)) (.d _)) (pw_of (pd_name 1 rfl) (.d _)) (cmp_eqSs hr) (nomark _)) ?_
    rw [decide_eq_true rfl]
    exact .d _
end
end L3
set_option Elab.async false
set_option linter.all false
set_option maxRecDepth 100000
set_option maxHeartbeats 4000000
namespace L3
open PySem PySem.Spec L2
/-! ### what the top has written, the head -/
theorem all_mk {l : PySem.W.OpenLaw} {w : World} {K : PySem.W.Frag} {h : Heap} {mg : Str → Option Value} {fa cW cS cB cT cM fIsNumber fNeedPair fStretchOf fAt fHeightOf fBoxOf fBalanced fHasOne fWithOne fLeastOf fWithout fTold fMet fWoodInit fWoodPut fWoodTake fWoodBoxes fWoodKeeps fWoodListed fWoodMeeting fWoodHolding fWoodLooked fGapsOf fManyAt fDeepestOf fWoodGaps fWoodDeepest fThing fNumber fGood fCalled fNamed fWord fLaw : Addr} (X : K.In h) (G : h.Ns mainGlobals mg) (hfa : mg "law" = some (.ref fa))
    {odIsNumber anIsNumber : Option Addr} {slIsNumber : Array (Option Value)} {ocIsNumber kVIsNumber dcIsNumber pmIsNumber cdIsNumber ctIsNumber : Value}
    {odNeedPair anNeedPair : Option Addr} {slNeedPair : Array (Option Value)} {ocNeedPair kVNeedPair dcNeedPair pmNeedPair cdNeedPair ctNeedPair : Value}
    {odStretchOf anStretchOf : Option Addr} {slStretchOf : Array (Option Value)} {ocStretchOf kVStretchOf dcStretchOf pmStretchOf cdStretchOf ctStretchOf : Value}
    {odAt anAt : Option Addr} {slAt : Array (Option Value)} {ocAt kVAt dcAt pmAt cdAt ctAt : Value}
    {odHeightOf anHeightOf : Option Addr} {slHeightOf : Array (Option Value)} {ocHeightOf kVHeightOf dcHeightOf pmHeightOf cdHeightOf ctHeightOf : Value}
    {odBoxOf anBoxOf : Option Addr} {slBoxOf : Array (Option Value)} {ocBoxOf kVBoxOf dcBoxOf pmBoxOf cdBoxOf ctBoxOf : Value}
    {odBalanced anBalanced : Option Addr} {slBalanced : Array (Option Value)} {ocBalanced kVBalanced dcBalanced pmBalanced cdBalanced ctBalanced : Value}
    {odHasOne anHasOne : Option Addr} {slHasOne : Array (Option Value)} {ocHasOne kVHasOne dcHasOne pmHasOne cdHasOne ctHasOne : Value}
    {odWithOne anWithOne : Option Addr} {slWithOne : Array (Option Value)} {ocWithOne kVWithOne dcWithOne pmWithOne cdWithOne ctWithOne : Value}
    {odLeastOf anLeastOf : Option Addr} {slLeastOf : Array (Option Value)} {ocLeastOf kVLeastOf dcLeastOf pmLeastOf cdLeastOf ctLeastOf : Value}
    {odWithout anWithout : Option Addr} {slWithout : Array (Option Value)} {ocWithout kVWithout dcWithout pmWithout cdWithout ctWithout : Value}
    {odTold anTold : Option Addr} {slTold : Array (Option Value)} {ocTold kVTold dcTold pmTold cdTold ctTold : Value}
    {odMet anMet : Option Addr} {slMet : Array (Option Value)} {ocMet kVMet dcMet pmMet cdMet ctMet : Value}
    {odWoodInit anWoodInit : Option Addr} {slWoodInit : Array (Option Value)} {ocWoodInit kVWoodInit dcWoodInit pmWoodInit cdWoodInit ctWoodInit : Value}
    {odWoodPut anWoodPut : Option Addr} {slWoodPut : Array (Option Value)} {ocWoodPut kVWoodPut dcWoodPut pmWoodPut cdWoodPut ctWoodPut : Value}
    {odWoodTake anWoodTake : Option Addr} {slWoodTake : Array (Option Value)} {ocWoodTake kVWoodTake dcWoodTake pmWoodTake cdWoodTake ctWoodTake : Value}
    {odWoodBoxes anWoodBoxes : Option Addr} {slWoodBoxes : Array (Option Value)} {ocWoodBoxes kVWoodBoxes dcWoodBoxes pmWoodBoxes cdWoodBoxes ctWoodBoxes : Value}
    {odWoodKeeps anWoodKeeps : Option Addr} {slWoodKeeps : Array (Option Value)} {ocWoodKeeps kVWoodKeeps dcWoodKeeps pmWoodKeeps cdWoodKeeps ctWoodKeeps : Value}
    {odWoodListed anWoodListed : Option Addr} {slWoodListed : Array (Option Value)} {ocWoodListed kVWoodListed dcWoodListed pmWoodListed cdWoodListed ctWoodListed : Value}
    {odWoodMeeting anWoodMeeting : Option Addr} {slWoodMeeting : Array (Option Value)} {ocWoodMeeting kVWoodMeeting dcWoodMeeting pmWoodMeeting cdWoodMeeting ctWoodMeeting : Value}
    {odWoodHolding anWoodHolding : Option Addr} {slWoodHolding : Array (Option Value)} {ocWoodHolding kVWoodHolding dcWoodHolding pmWoodHolding cdWoodHolding ctWoodHolding : Value}
    {odWoodLooked anWoodLooked : Option Addr} {slWoodLooked : Array (Option Value)} {ocWoodLooked kVWoodLooked dcWoodLooked pmWoodLooked cdWoodLooked ctWoodLooked : Value}
    {odGapsOf anGapsOf : Option Addr} {slGapsOf : Array (Option Value)} {ocGapsOf kVGapsOf dcGapsOf pmGapsOf cdGapsOf ctGapsOf : Value}
    {odManyAt anManyAt : Option Addr} {slManyAt : Array (Option Value)} {ocManyAt kVManyAt dcManyAt pmManyAt cdManyAt ctManyAt : Value}
    {odDeepestOf anDeepestOf : Option Addr} {slDeepestOf : Array (Option Value)} {ocDeepestOf kVDeepestOf dcDeepestOf pmDeepestOf cdDeepestOf ctDeepestOf : Value}
    {odWoodGaps anWoodGaps : Option Addr} {slWoodGaps : Array (Option Value)} {ocWoodGaps kVWoodGaps dcWoodGaps pmWoodGaps cdWoodGaps ctWoodGaps : Value}
    {odWoodDeepest anWoodDeepest : Option Addr} {slWoodDeepest : Array (Option Value)} {ocWoodDeepest kVWoodDeepest dcWoodDeepest pmWoodDeepest cdWoodDeepest ctWoodDeepest : Value}
    {odThing anThing : Option Addr} {slThing : Array (Option Value)} {ocThing kVThing dcThing pmThing cdThing ctThing : Value}
    {odNumber anNumber : Option Addr} {slNumber : Array (Option Value)} {ocNumber kVNumber dcNumber pmNumber cdNumber ctNumber : Value}
    {odGood anGood : Option Addr} {slGood : Array (Option Value)} {ocGood kVGood dcGood pmGood cdGood ctGood : Value}
    {odCalled anCalled : Option Addr} {slCalled : Array (Option Value)} {ocCalled kVCalled dcCalled pmCalled cdCalled ctCalled : Value}
    {odNamed anNamed : Option Addr} {slNamed : Array (Option Value)} {ocNamed kVNamed dcNamed pmNamed cdNamed ctNamed : Value}
    {odWord anWord : Option Addr} {slWord : Array (Option Value)} {ocWord kVWord dcWord pmWord cdWord ctWord : Value}
    {odLaw anLaw : Option Addr} {slLaw : Array (Option Value)} {ocLaw kVLaw dcLaw pmLaw cdLaw ctLaw : Value}
    {tMOST : Tok}
    (acW : PySem.W.nsIn K mainGlobals "Wood" = some (some (.ref cW)))
    (pgcW : PySem.W.plainGet K cW Str.empty = true)
    (hdcW : PySem.W.hasDictIn K cW = true)
    (pocW : PySem.W.plainOver K cW = true)
    (sacW : PySem.W.findIn K (.ref cW) "__setattr__" = some (some (.builtin "object.__setattr__")))
    (nacW : PySem.W.findIn K (.ref cW) "top" = some none)
    (mkcW : PySem.W.makesIn K cW = true)
    (kkcW : PySem.W.keepIn K (.ref cW) = true)
    (acS : PySem.W.nsIn K mainGlobals "SpanError" = some (some (.ref cS)))
    (hdcS : PySem.W.hasDictIn K cS = true)
    (tycS : PySem.W.typeIn K (.ref cS) = some (.type "type"))
    (sbcS : PySem.W.subIn K (.ref cS) (.type "BaseException") = some true)
    (acB : PySem.W.nsIn K mainGlobals "BadStretch" = some (some (.ref cB)))
    (hdcB : PySem.W.hasDictIn K cB = true)
    (tycB : PySem.W.typeIn K (.ref cB) = some (.type "type"))
    (sbcB : PySem.W.subIn K (.ref cB) (.type "BaseException") = some true)
    (kpcB : PySem.W.keepIn K (.ref cB) = true)
    (excB : PySem.W.excIn K cB [.type "ValueError", .type "Exception", .type "BaseException", .type "object"] "ValueError.__new__" = true)
    (vecB : PySem.W.subIn K (.ref cB) (.type "ValueError") = some true)
    (hgcB : PySem.W.findIn K (.ref cB) "__getattribute__" = some (some (.builtin "BaseException.__getattribute__")))
    (hkcB : PySem.W.findIn K (.ref cB) "__getattr__" = some none)
    (hacB : PySem.W.findIn K (.ref cB) "__class__" = some (some (.builtin "object.__class__")))
    (hmcB : PySem.W.mroIn K cB (.type "object") = some true)
    (acT : PySem.W.nsIn K mainGlobals "Twice" = some (some (.ref cT)))
    (hdcT : PySem.W.hasDictIn K cT = true)
    (tycT : PySem.W.typeIn K (.ref cT) = some (.type "type"))
    (sbcT : PySem.W.subIn K (.ref cT) (.type "BaseException") = some true)
    (kpcT : PySem.W.keepIn K (.ref cT) = true)
    (excT : PySem.W.excIn K cT [.type "ValueError", .type "Exception", .type "BaseException", .type "object"] "ValueError.__new__" = true)
    (vecT : PySem.W.subIn K (.ref cT) (.type "ValueError") = some true)
    (hgcT : PySem.W.findIn K (.ref cT) "__getattribute__" = some (some (.builtin "BaseException.__getattribute__")))
    (hkcT : PySem.W.findIn K (.ref cT) "__getattr__" = some none)
    (hacT : PySem.W.findIn K (.ref cT) "__class__" = some (some (.builtin "object.__class__")))
    (hmcT : PySem.W.mroIn K cT (.type "object") = some true)
    (acM : PySem.W.nsIn K mainGlobals "Missing" = some (some (.ref cM)))
    (hdcM : PySem.W.hasDictIn K cM = true)
    (tycM : PySem.W.typeIn K (.ref cM) = some (.type "type"))
    (sbcM : PySem.W.subIn K (.ref cM) (.type "BaseException") = some true)
    (kpcM : PySem.W.keepIn K (.ref cM) = true)
    (excM : PySem.W.excIn K cM [.type "ValueError", .type "Exception", .type "BaseException", .type "object"] "ValueError.__new__" = true)
    (vecM : PySem.W.subIn K (.ref cM) (.type "ValueError") = some true)
    (hgcM : PySem.W.findIn K (.ref cM) "__getattribute__" = some (some (.builtin "BaseException.__getattribute__")))
    (hkcM : PySem.W.findIn K (.ref cM) "__getattr__" = some none)
    (hacM : PySem.W.findIn K (.ref cM) "__class__" = some (some (.builtin "object.__class__")))
    (hmcM : PySem.W.mroIn K cM (.type "object") = some true)
    (hn0 : PySem.W.specialIn K (.builtin "object.__class__") "__get__" = some (some (.builtin "getset_descriptor.__get__")))
    (ht0 : PySem.W.takesIn K (.builtin "object.__class__") = some true)
    (scBcS : PySem.W.subIn K (.ref cB) (.ref cS) = some true)
    (scBcB : PySem.W.subIn K (.ref cB) (.ref cB) = some true)
    (scBcT : PySem.W.subIn K (.ref cB) (.ref cT) = some false)
    (scBcM : PySem.W.subIn K (.ref cB) (.ref cM) = some false)
    (scTcS : PySem.W.subIn K (.ref cT) (.ref cS) = some true)
    (scTcB : PySem.W.subIn K (.ref cT) (.ref cB) = some false)
    (scTcT : PySem.W.subIn K (.ref cT) (.ref cT) = some true)
    (scTcM : PySem.W.subIn K (.ref cT) (.ref cM) = some false)
    (scMcS : PySem.W.subIn K (.ref cM) (.ref cS) = some true)
    (scMcB : PySem.W.subIn K (.ref cM) (.ref cB) = some false)
    (scMcT : PySem.W.subIn K (.ref cM) (.ref cT) = some false)
    (scMcM : PySem.W.subIn K (.ref cM) (.ref cM) = some true)
    (aIsNumber : PySem.W.nsIn K mainGlobals "is_number" = some (some (.ref fIsNumber)))
    (lIsNumber : K.lookup fIsNumber = some ⟨ocIsNumber, odIsNumber, .func (PySem.W.fnOf "is_number" "is_number" (defArgs sIsNumber) (defBody sIsNumber) (defScope sIsNumber) .none kVIsNumber dcIsNumber pmIsNumber anIsNumber cdIsNumber ctIsNumber), slIsNumber⟩)
    (cIsNumber : PySem.W.codeIn K cdIsNumber "is_number" = true)
    (kIsNumber : PySem.W.keepIn K (.ref fIsNumber) = true)
    (aNeedPair : PySem.W.nsIn K mainGlobals "need_pair" = some (some (.ref fNeedPair)))
    (lNeedPair : K.lookup fNeedPair = some ⟨ocNeedPair, odNeedPair, .func (PySem.W.fnOf "need_pair" "need_pair" (defArgs sNeedPair) (defBody sNeedPair) (defScope sNeedPair) .none kVNeedPair dcNeedPair pmNeedPair anNeedPair cdNeedPair ctNeedPair), slNeedPair⟩)
    (cNeedPair : PySem.W.codeIn K cdNeedPair "need_pair" = true)
    (kNeedPair : PySem.W.keepIn K (.ref fNeedPair) = true)
    (aStretchOf : PySem.W.nsIn K mainGlobals "stretch_of" = some (some (.ref fStretchOf)))
    (lStretchOf : K.lookup fStretchOf = some ⟨ocStretchOf, odStretchOf, .func (PySem.W.fnOf "stretch_of" "stretch_of" (defArgs sStretchOf) (defBody sStretchOf) (defScope sStretchOf) .none kVStretchOf dcStretchOf pmStretchOf anStretchOf cdStretchOf ctStretchOf), slStretchOf⟩)
    (cStretchOf : PySem.W.codeIn K cdStretchOf "stretch_of" = true)
    (kStretchOf : PySem.W.keepIn K (.ref fStretchOf) = true)
    (aAt : PySem.W.nsIn K mainGlobals "_law_at" = some (some (.ref fAt)))
    (lAt : K.lookup fAt = some ⟨ocAt, odAt, .func (PySem.W.fnOf "_law_at" "_law_at" (defArgs sAt) (defBody sAt) (defScope sAt) .none kVAt dcAt pmAt anAt cdAt ctAt), slAt⟩)
    (cAt : PySem.W.codeIn K cdAt "_law_at" = true)
    (kAt : PySem.W.keepIn K (.ref fAt) = true)
    (aHeightOf : PySem.W.nsIn K mainGlobals "height_of" = some (some (.ref fHeightOf)))
    (lHeightOf : K.lookup fHeightOf = some ⟨ocHeightOf, odHeightOf, .func (PySem.W.fnOf "height_of" "height_of" (defArgs sHeightOf) (defBody sHeightOf) (defScope sHeightOf) .none kVHeightOf dcHeightOf pmHeightOf anHeightOf cdHeightOf ctHeightOf), slHeightOf⟩)
    (cHeightOf : PySem.W.codeIn K cdHeightOf "height_of" = true)
    (kHeightOf : PySem.W.keepIn K (.ref fHeightOf) = true)
    (aBoxOf : PySem.W.nsIn K mainGlobals "box_of" = some (some (.ref fBoxOf)))
    (lBoxOf : K.lookup fBoxOf = some ⟨ocBoxOf, odBoxOf, .func (PySem.W.fnOf "box_of" "box_of" (defArgs sBoxOf) (defBody sBoxOf) (defScope sBoxOf) .none kVBoxOf dcBoxOf pmBoxOf anBoxOf cdBoxOf ctBoxOf), slBoxOf⟩)
    (cBoxOf : PySem.W.codeIn K cdBoxOf "box_of" = true)
    (kBoxOf : PySem.W.keepIn K (.ref fBoxOf) = true)
    (aBalanced : PySem.W.nsIn K mainGlobals "balanced" = some (some (.ref fBalanced)))
    (lBalanced : K.lookup fBalanced = some ⟨ocBalanced, odBalanced, .func (PySem.W.fnOf "balanced" "balanced" (defArgs sBalanced) (defBody sBalanced) (defScope sBalanced) .none kVBalanced dcBalanced pmBalanced anBalanced cdBalanced ctBalanced), slBalanced⟩)
    (cBalanced : PySem.W.codeIn K cdBalanced "balanced" = true)
    (kBalanced : PySem.W.keepIn K (.ref fBalanced) = true)
    (aHasOne : PySem.W.nsIn K mainGlobals "has_one" = some (some (.ref fHasOne)))
    (lHasOne : K.lookup fHasOne = some ⟨ocHasOne, odHasOne, .func (PySem.W.fnOf "has_one" "has_one" (defArgs sHasOne) (defBody sHasOne) (defScope sHasOne) .none kVHasOne dcHasOne pmHasOne anHasOne cdHasOne ctHasOne), slHasOne⟩)
    (cHasOne : PySem.W.codeIn K cdHasOne "has_one" = true)
    (kHasOne : PySem.W.keepIn K (.ref fHasOne) = true)
    (aWithOne : PySem.W.nsIn K mainGlobals "with_one" = some (some (.ref fWithOne)))
    (lWithOne : K.lookup fWithOne = some ⟨ocWithOne, odWithOne, .func (PySem.W.fnOf "with_one" "with_one" (defArgs sWithOne) (defBody sWithOne) (defScope sWithOne) .none kVWithOne dcWithOne pmWithOne anWithOne cdWithOne ctWithOne), slWithOne⟩)
    (cWithOne : PySem.W.codeIn K cdWithOne "with_one" = true)
    (kWithOne : PySem.W.keepIn K (.ref fWithOne) = true)
    (aLeastOf : PySem.W.nsIn K mainGlobals "least_of" = some (some (.ref fLeastOf)))
    (lLeastOf : K.lookup fLeastOf = some ⟨ocLeastOf, odLeastOf, .func (PySem.W.fnOf "least_of" "least_of" (defArgs sLeastOf) (defBody sLeastOf) (defScope sLeastOf) .none kVLeastOf dcLeastOf pmLeastOf anLeastOf cdLeastOf ctLeastOf), slLeastOf⟩)
    (cLeastOf : PySem.W.codeIn K cdLeastOf "least_of" = true)
    (kLeastOf : PySem.W.keepIn K (.ref fLeastOf) = true)
    (aWithout : PySem.W.nsIn K mainGlobals "without" = some (some (.ref fWithout)))
    (lWithout : K.lookup fWithout = some ⟨ocWithout, odWithout, .func (PySem.W.fnOf "without" "without" (defArgs sWithout) (defBody sWithout) (defScope sWithout) .none kVWithout dcWithout pmWithout anWithout cdWithout ctWithout), slWithout⟩)
    (cWithout : PySem.W.codeIn K cdWithout "without" = true)
    (kWithout : PySem.W.keepIn K (.ref fWithout) = true)
    (aTold : PySem.W.nsIn K mainGlobals "told" = some (some (.ref fTold)))
    (lTold : K.lookup fTold = some ⟨ocTold, odTold, .func (PySem.W.fnOf "told" "told" (defArgs sTold) (defBody sTold) (defScope sTold) .none kVTold dcTold pmTold anTold cdTold ctTold), slTold⟩)
    (cTold : PySem.W.codeIn K cdTold "told" = true)
    (kTold : PySem.W.keepIn K (.ref fTold) = true)
    (aMet : PySem.W.nsIn K mainGlobals "met" = some (some (.ref fMet)))
    (lMet : K.lookup fMet = some ⟨ocMet, odMet, .func (PySem.W.fnOf "met" "met" (defArgs sMet) (defBody sMet) (defScope sMet) .none kVMet dcMet pmMet anMet cdMet ctMet), slMet⟩)
    (cMet : PySem.W.codeIn K cdMet "met" = true)
    (kMet : PySem.W.keepIn K (.ref fMet) = true)
    (aWoodInit : PySem.W.findIn K (.ref cW) "__init__" = some (some (.ref fWoodInit)))
    (lWoodInit : K.lookup fWoodInit = some ⟨ocWoodInit, odWoodInit, .func (PySem.W.fnOf "__init__" "Wood.__init__" (defArgs sWoodInit) (defBody sWoodInit) (defScope sWoodInit) .none kVWoodInit dcWoodInit pmWoodInit anWoodInit cdWoodInit ctWoodInit), slWoodInit⟩)
    (cWoodInit : PySem.W.codeIn K cdWoodInit "Wood.__init__" = true)
    (kWoodInit : PySem.W.keepIn K (.ref fWoodInit) = true)
    (iWoodInit : PySem.W.isFn K (.ref fWoodInit) = true)
    (aWoodPut : PySem.W.findIn K (.ref cW) "put" = some (some (.ref fWoodPut)))
    (lWoodPut : K.lookup fWoodPut = some ⟨ocWoodPut, odWoodPut, .func (PySem.W.fnOf "put" "Wood.put" (defArgs sWoodPut) (defBody sWoodPut) (defScope sWoodPut) .none kVWoodPut dcWoodPut pmWoodPut anWoodPut cdWoodPut ctWoodPut), slWoodPut⟩)
    (cWoodPut : PySem.W.codeIn K cdWoodPut "Wood.put" = true)
    (kWoodPut : PySem.W.keepIn K (.ref fWoodPut) = true)
    (iWoodPut : PySem.W.isFn K (.ref fWoodPut) = true)
    (aWoodTake : PySem.W.findIn K (.ref cW) "take" = some (some (.ref fWoodTake)))
    (lWoodTake : K.lookup fWoodTake = some ⟨ocWoodTake, odWoodTake, .func (PySem.W.fnOf "take" "Wood.take" (defArgs sWoodTake) (defBody sWoodTake) (defScope sWoodTake) .none kVWoodTake dcWoodTake pmWoodTake anWoodTake cdWoodTake ctWoodTake), slWoodTake⟩)
    (cWoodTake : PySem.W.codeIn K cdWoodTake "Wood.take" = true)
    (kWoodTake : PySem.W.keepIn K (.ref fWoodTake) = true)
    (iWoodTake : PySem.W.isFn K (.ref fWoodTake) = true)
    (aWoodBoxes : PySem.W.findIn K (.ref cW) "boxes" = some (some (.ref fWoodBoxes)))
    (lWoodBoxes : K.lookup fWoodBoxes = some ⟨ocWoodBoxes, odWoodBoxes, .func (PySem.W.fnOf "boxes" "Wood.boxes" (defArgs sWoodBoxes) (defBody sWoodBoxes) (defScope sWoodBoxes) .none kVWoodBoxes dcWoodBoxes pmWoodBoxes anWoodBoxes cdWoodBoxes ctWoodBoxes), slWoodBoxes⟩)
    (cWoodBoxes : PySem.W.codeIn K cdWoodBoxes "Wood.boxes" = true)
    (kWoodBoxes : PySem.W.keepIn K (.ref fWoodBoxes) = true)
    (iWoodBoxes : PySem.W.isFn K (.ref fWoodBoxes) = true)
    (aWoodKeeps : PySem.W.findIn K (.ref cW) "keeps" = some (some (.ref fWoodKeeps)))
    (lWoodKeeps : K.lookup fWoodKeeps = some ⟨ocWoodKeeps, odWoodKeeps, .func (PySem.W.fnOf "keeps" "Wood.keeps" (defArgs sWoodKeeps) (defBody sWoodKeeps) (defScope sWoodKeeps) .none kVWoodKeeps dcWoodKeeps pmWoodKeeps anWoodKeeps cdWoodKeeps ctWoodKeeps), slWoodKeeps⟩)
    (cWoodKeeps : PySem.W.codeIn K cdWoodKeeps "Wood.keeps" = true)
    (kWoodKeeps : PySem.W.keepIn K (.ref fWoodKeeps) = true)
    (iWoodKeeps : PySem.W.isFn K (.ref fWoodKeeps) = true)
    (aWoodListed : PySem.W.findIn K (.ref cW) "listed" = some (some (.ref fWoodListed)))
    (lWoodListed : K.lookup fWoodListed = some ⟨ocWoodListed, odWoodListed, .func (PySem.W.fnOf "listed" "Wood.listed" (defArgs sWoodListed) (defBody sWoodListed) (defScope sWoodListed) .none kVWoodListed dcWoodListed pmWoodListed anWoodListed cdWoodListed ctWoodListed), slWoodListed⟩)
    (cWoodListed : PySem.W.codeIn K cdWoodListed "Wood.listed" = true)
    (kWoodListed : PySem.W.keepIn K (.ref fWoodListed) = true)
    (iWoodListed : PySem.W.isFn K (.ref fWoodListed) = true)
    (aWoodMeeting : PySem.W.findIn K (.ref cW) "meeting" = some (some (.ref fWoodMeeting)))
    (lWoodMeeting : K.lookup fWoodMeeting = some ⟨ocWoodMeeting, odWoodMeeting, .func (PySem.W.fnOf "meeting" "Wood.meeting" (defArgs sWoodMeeting) (defBody sWoodMeeting) (defScope sWoodMeeting) .none kVWoodMeeting dcWoodMeeting pmWoodMeeting anWoodMeeting cdWoodMeeting ctWoodMeeting), slWoodMeeting⟩)
    (cWoodMeeting : PySem.W.codeIn K cdWoodMeeting "Wood.meeting" = true)
    (kWoodMeeting : PySem.W.keepIn K (.ref fWoodMeeting) = true)
    (iWoodMeeting : PySem.W.isFn K (.ref fWoodMeeting) = true)
    (aWoodHolding : PySem.W.findIn K (.ref cW) "holding" = some (some (.ref fWoodHolding)))
    (lWoodHolding : K.lookup fWoodHolding = some ⟨ocWoodHolding, odWoodHolding, .func (PySem.W.fnOf "holding" "Wood.holding" (defArgs sWoodHolding) (defBody sWoodHolding) (defScope sWoodHolding) .none kVWoodHolding dcWoodHolding pmWoodHolding anWoodHolding cdWoodHolding ctWoodHolding), slWoodHolding⟩)
    (cWoodHolding : PySem.W.codeIn K cdWoodHolding "Wood.holding" = true)
    (kWoodHolding : PySem.W.keepIn K (.ref fWoodHolding) = true)
    (iWoodHolding : PySem.W.isFn K (.ref fWoodHolding) = true)
    (aWoodLooked : PySem.W.findIn K (.ref cW) "looked" = some (some (.ref fWoodLooked)))
    (lWoodLooked : K.lookup fWoodLooked = some ⟨ocWoodLooked, odWoodLooked, .func (PySem.W.fnOf "looked" "Wood.looked" (defArgs sWoodLooked) (defBody sWoodLooked) (defScope sWoodLooked) .none kVWoodLooked dcWoodLooked pmWoodLooked anWoodLooked cdWoodLooked ctWoodLooked), slWoodLooked⟩)
    (cWoodLooked : PySem.W.codeIn K cdWoodLooked "Wood.looked" = true)
    (kWoodLooked : PySem.W.keepIn K (.ref fWoodLooked) = true)
    (iWoodLooked : PySem.W.isFn K (.ref fWoodLooked) = true)
    (aGapsOf : PySem.W.nsIn K mainGlobals "gaps_of" = some (some (.ref fGapsOf)))
    (lGapsOf : K.lookup fGapsOf = some ⟨ocGapsOf, odGapsOf, .func (PySem.W.fnOf "gaps_of" "gaps_of" (defArgs sGapsOf) (defBody sGapsOf) (defScope sGapsOf) .none kVGapsOf dcGapsOf pmGapsOf anGapsOf cdGapsOf ctGapsOf), slGapsOf⟩)
    (cGapsOf : PySem.W.codeIn K cdGapsOf "gaps_of" = true)
    (kGapsOf : PySem.W.keepIn K (.ref fGapsOf) = true)
    (aManyAt : PySem.W.nsIn K mainGlobals "many_at" = some (some (.ref fManyAt)))
    (lManyAt : K.lookup fManyAt = some ⟨ocManyAt, odManyAt, .func (PySem.W.fnOf "many_at" "many_at" (defArgs sManyAt) (defBody sManyAt) (defScope sManyAt) .none kVManyAt dcManyAt pmManyAt anManyAt cdManyAt ctManyAt), slManyAt⟩)
    (cManyAt : PySem.W.codeIn K cdManyAt "many_at" = true)
    (kManyAt : PySem.W.keepIn K (.ref fManyAt) = true)
    (aDeepestOf : PySem.W.nsIn K mainGlobals "deepest_of" = some (some (.ref fDeepestOf)))
    (lDeepestOf : K.lookup fDeepestOf = some ⟨ocDeepestOf, odDeepestOf, .func (PySem.W.fnOf "deepest_of" "deepest_of" (defArgs sDeepestOf) (defBody sDeepestOf) (defScope sDeepestOf) .none kVDeepestOf dcDeepestOf pmDeepestOf anDeepestOf cdDeepestOf ctDeepestOf), slDeepestOf⟩)
    (cDeepestOf : PySem.W.codeIn K cdDeepestOf "deepest_of" = true)
    (kDeepestOf : PySem.W.keepIn K (.ref fDeepestOf) = true)
    (aWoodGaps : PySem.W.findIn K (.ref cW) "gaps" = some (some (.ref fWoodGaps)))
    (lWoodGaps : K.lookup fWoodGaps = some ⟨ocWoodGaps, odWoodGaps, .func (PySem.W.fnOf "gaps" "Wood.gaps" (defArgs sWoodGaps) (defBody sWoodGaps) (defScope sWoodGaps) .none kVWoodGaps dcWoodGaps pmWoodGaps anWoodGaps cdWoodGaps ctWoodGaps), slWoodGaps⟩)
    (cWoodGaps : PySem.W.codeIn K cdWoodGaps "Wood.gaps" = true)
    (kWoodGaps : PySem.W.keepIn K (.ref fWoodGaps) = true)
    (iWoodGaps : PySem.W.isFn K (.ref fWoodGaps) = true)
    (aWoodDeepest : PySem.W.findIn K (.ref cW) "deepest" = some (some (.ref fWoodDeepest)))
    (lWoodDeepest : K.lookup fWoodDeepest = some ⟨ocWoodDeepest, odWoodDeepest, .func (PySem.W.fnOf "deepest" "Wood.deepest" (defArgs sWoodDeepest) (defBody sWoodDeepest) (defScope sWoodDeepest) .none kVWoodDeepest dcWoodDeepest pmWoodDeepest anWoodDeepest cdWoodDeepest ctWoodDeepest), slWoodDeepest⟩)
    (cWoodDeepest : PySem.W.codeIn K cdWoodDeepest "Wood.deepest" = true)
    (kWoodDeepest : PySem.W.keepIn K (.ref fWoodDeepest) = true)
    (iWoodDeepest : PySem.W.isFn K (.ref fWoodDeepest) = true)
    (aThing : PySem.W.nsIn K mainGlobals "_law_thing" = some (some (.ref fThing)))
    (lThing : K.lookup fThing = some ⟨ocThing, odThing, .func (PySem.W.fnOf "_law_thing" "_law_thing" (defArgs sThing) (defBody sThing) (defScope sThing) .none kVThing dcThing pmThing anThing cdThing ctThing), slThing⟩)
    (cThing : PySem.W.codeIn K cdThing "_law_thing" = true)
    (kThing : PySem.W.keepIn K (.ref fThing) = true)
    (aNumber : PySem.W.nsIn K mainGlobals "_law_number" = some (some (.ref fNumber)))
    (lNumber : K.lookup fNumber = some ⟨ocNumber, odNumber, .func (PySem.W.fnOf "_law_number" "_law_number" (defArgs sNumber) (defBody sNumber) (defScope sNumber) .none kVNumber dcNumber pmNumber anNumber cdNumber ctNumber), slNumber⟩)
    (cNumber : PySem.W.codeIn K cdNumber "_law_number" = true)
    (kNumber : PySem.W.keepIn K (.ref fNumber) = true)
    (aGood : PySem.W.nsIn K mainGlobals "_law_good" = some (some (.ref fGood)))
    (lGood : K.lookup fGood = some ⟨ocGood, odGood, .func (PySem.W.fnOf "_law_good" "_law_good" (defArgs sGood) (defBody sGood) (defScope sGood) .none kVGood dcGood pmGood anGood cdGood ctGood), slGood⟩)
    (cGood : PySem.W.codeIn K cdGood "_law_good" = true)
    (kGood : PySem.W.keepIn K (.ref fGood) = true)
    (aCalled : PySem.W.nsIn K mainGlobals "_law_called" = some (some (.ref fCalled)))
    (lCalled : K.lookup fCalled = some ⟨ocCalled, odCalled, .func (PySem.W.fnOf "_law_called" "_law_called" (defArgs sCalled) (defBody sCalled) (defScope sCalled) .none kVCalled dcCalled pmCalled anCalled cdCalled ctCalled), slCalled⟩)
    (cCalled : PySem.W.codeIn K cdCalled "_law_called" = true)
    (kCalled : PySem.W.keepIn K (.ref fCalled) = true)
    (aNamed : PySem.W.nsIn K mainGlobals "_law_named" = some (some (.ref fNamed)))
    (lNamed : K.lookup fNamed = some ⟨ocNamed, odNamed, .func (PySem.W.fnOf "_law_named" "_law_named" (defArgs sNamed) (defBody sNamed) (defScope sNamed) .none kVNamed dcNamed pmNamed anNamed cdNamed ctNamed), slNamed⟩)
    (cNamed : PySem.W.codeIn K cdNamed "_law_named" = true)
    (kNamed : PySem.W.keepIn K (.ref fNamed) = true)
    (aWord : PySem.W.nsIn K mainGlobals "_law_word" = some (some (.ref fWord)))
    (lWord : K.lookup fWord = some ⟨ocWord, odWord, .func (PySem.W.fnOf "_law_word" "_law_word" (defArgs sWord) (defBody sWord) (defScope sWord) .none kVWord dcWord pmWord anWord cdWord ctWord), slWord⟩)
    (cWord : PySem.W.codeIn K cdWord "_law_word" = true)
    (kWord : PySem.W.keepIn K (.ref fWord) = true)
    (aLaw : PySem.W.nsIn K mainGlobals "law" = some (some (.ref fLaw)))
    (lLaw : K.lookup fLaw = some ⟨ocLaw, odLaw, .func (PySem.W.fnOf "law" "law" (defArgs sLaw) (defBody sLaw) (defScope sLaw) .none kVLaw dcLaw pmLaw anLaw cdLaw ctLaw), slLaw⟩)
    (cLaw : PySem.W.codeIn K cdLaw "law" = true)
    (kLaw : PySem.W.keepIn K (.ref fLaw) = true)
    (zisinstance : PySem.W.nsIn K mainGlobals "isinstance" = some none)
    (zint : PySem.W.nsIn K mainGlobals "int" = some none)
    (zbool : PySem.W.nsIn K mainGlobals "bool" = some none)
    (ztuple : PySem.W.nsIn K mainGlobals "tuple" = some none)
    (zlen : PySem.W.nsIn K mainGlobals "len" = some none)
    (zsorted : PySem.W.nsIn K mainGlobals "sorted" = some none)
    (zmax : PySem.W.nsIn K mainGlobals "max" = some none)
    (zValueError : PySem.W.nsIn K mainGlobals "ValueError" = some none)
    (qMOST : PySem.W.nsIn K mainGlobals "MOST" = some (some (.int MOSTI tMOST)))
    : ∃ fd : FuncData, (∀ (s : Shared) (v : Value), BindsTo s fd ⟨[v], []⟩ [("_law_script", v)]) ∧ ∀ base : Heap, K.In base → base.Ns mainGlobals mg → FnOk l.prog w K mg base CX0 208 fa fd ["_law_script"] (SpD K ΦLaw) := by
  have e := hfa.symm.trans (PySem.W.mg_of X G aLaw)
  cases e
  have gcW := PySem.W.mg_of X G acW
  have clcW : Cls K cW := ⟨pgcW, hdcW, pocW, sacW⟩
  have gcS := PySem.W.mg_of X G acS
  have gcB := PySem.W.mg_of X G acB
  have TcB : ExcT K mg "BadStretch" cB := ⟨gcB, excB, kpcB, sbcB, tycB⟩
  have CcB : ExcC K cB := ⟨hgcB, hkcB, sbcB, hdcB, hacB, hn0, ht0, hmcB⟩
  have gcT := PySem.W.mg_of X G acT
  have TcT : ExcT K mg "Twice" cT := ⟨gcT, excT, kpcT, sbcT, tycT⟩
  have CcT : ExcC K cT := ⟨hgcT, hkcT, sbcT, hdcT, hacT, hn0, ht0, hmcT⟩
  have gcM := PySem.W.mg_of X G acM
  have TcM : ExcT K mg "Missing" cM := ⟨gcM, excM, kpcM, sbcM, tycM⟩
  have CcM : ExcC K cM := ⟨hgcM, hkcM, sbcM, hdcM, hacM, hn0, ht0, hmcM⟩
  have FIsNumber := fun_mk (st := sIsNumber) lIsNumber cIsNumber kIsNumber
  have bIsNumber := FIsNumber.binds (ps := ["value"]) fun _ _ _ _ _ _ us hl => match us, hl with | [_], _ => rfl
  have gIsNumber := PySem.W.mg_of X G aIsNumber
  have FNeedPair := fun_mk (st := sNeedPair) lNeedPair cNeedPair kNeedPair
  have bNeedPair := FNeedPair.binds (ps := ["low", "high"]) fun _ _ _ _ _ _ us hl => match us, hl with | [_, _], _ => rfl
  have gNeedPair := PySem.W.mg_of X G aNeedPair
  have FStretchOf := fun_mk (st := sStretchOf) lStretchOf cStretchOf kStretchOf
  have bStretchOf := FStretchOf.binds (ps := ["low", "high", "mark"]) fun _ _ _ _ _ _ us hl => match us, hl with | [_, _, _], _ => rfl
  have gStretchOf := PySem.W.mg_of X G aStretchOf
  have FAt := fun_mk (st := sAt) lAt cAt kAt
  have bAt := FAt.binds (ps := ["_law_script", "_law_place"]) fun _ _ _ _ _ _ us hl => match us, hl with | [_, _], _ => rfl
  have gAt := PySem.W.mg_of X G aAt
  have FHeightOf := fun_mk (st := sHeightOf) lHeightOf cHeightOf kHeightOf
  have bHeightOf := FHeightOf.binds (ps := ["box"]) fun _ _ _ _ _ _ us hl => match us, hl with | [_], _ => rfl
  have gHeightOf := PySem.W.mg_of X G aHeightOf
  have FBoxOf := fun_mk (st := sBoxOf) lBoxOf cBoxOf kBoxOf
  have bBoxOf := FBoxOf.binds (ps := ["left", "stretch", "right"]) fun _ _ _ _ _ _ us hl => match us, hl with | [_, _, _], _ => rfl
  have gBoxOf := PySem.W.mg_of X G aBoxOf
  have FBalanced := fun_mk (st := sBalanced) lBalanced cBalanced kBalanced
  have bBalanced := FBalanced.binds (ps := ["left", "stretch", "right"]) fun _ _ _ _ _ _ us hl => match us, hl with | [_, _, _], _ => rfl
  have gBalanced := PySem.W.mg_of X G aBalanced
  have FHasOne := fun_mk (st := sHasOne) lHasOne cHasOne kHasOne
  have bHasOne := FHasOne.binds (ps := ["box", "stretch"]) fun _ _ _ _ _ _ us hl => match us, hl with | [_, _], _ => rfl
  have gHasOne := PySem.W.mg_of X G aHasOne
  have FWithOne := fun_mk (st := sWithOne) lWithOne cWithOne kWithOne
  have bWithOne := FWithOne.binds (ps := ["box", "stretch"]) fun _ _ _ _ _ _ us hl => match us, hl with | [_, _], _ => rfl
  have gWithOne := PySem.W.mg_of X G aWithOne
  have FLeastOf := fun_mk (st := sLeastOf) lLeastOf cLeastOf kLeastOf
  have bLeastOf := FLeastOf.binds (ps := ["box"]) fun _ _ _ _ _ _ us hl => match us, hl with | [_], _ => rfl
  have gLeastOf := PySem.W.mg_of X G aLeastOf
  have FWithout := fun_mk (st := sWithout) lWithout cWithout kWithout
  have bWithout := FWithout.binds (ps := ["box", "stretch"]) fun _ _ _ _ _ _ us hl => match us, hl with | [_, _], _ => rfl
  have gWithout := PySem.W.mg_of X G aWithout
  have FTold := fun_mk (st := sTold) lTold cTold kTold
  have bTold := FTold.binds (ps := ["box", "depth"]) fun _ _ _ _ _ _ us hl => match us, hl with | [_, _], _ => rfl
  have gTold := PySem.W.mg_of X G aTold
  have FMet := fun_mk (st := sMet) lMet cMet kMet
  have bMet := FMet.binds (ps := ["box", "low", "high"]) fun _ _ _ _ _ _ us hl => match us, hl with | [_, _, _], _ => rfl
  have gMet := PySem.W.mg_of X G aMet
  have FWoodInit := fun_mk (st := sWoodInit) lWoodInit cWoodInit kWoodInit
  have bWoodInit := FWoodInit.binds (ps := ["self"]) fun _ _ _ _ _ _ us hl => match us, hl with | [_], _ => rfl
  have FWoodPut := fun_mk (st := sWoodPut) lWoodPut cWoodPut kWoodPut
  have bWoodPut := FWoodPut.binds (ps := ["self", "low", "high", "mark"]) fun _ _ _ _ _ _ us hl => match us, hl with | [_, _, _, _], _ => rfl
  have FWoodTake := fun_mk (st := sWoodTake) lWoodTake cWoodTake kWoodTake
  have bWoodTake := FWoodTake.binds (ps := ["self", "low", "high", "mark"]) fun _ _ _ _ _ _ us hl => match us, hl with | [_, _, _, _], _ => rfl
  have FWoodBoxes := fun_mk (st := sWoodBoxes) lWoodBoxes cWoodBoxes kWoodBoxes
  have bWoodBoxes := FWoodBoxes.binds (ps := ["self"]) fun _ _ _ _ _ _ us hl => match us, hl with | [_], _ => rfl
  have FWoodKeeps := fun_mk (st := sWoodKeeps) lWoodKeeps cWoodKeeps kWoodKeeps
  have bWoodKeeps := FWoodKeeps.binds (ps := ["self", "low", "high", "mark"]) fun _ _ _ _ _ _ us hl => match us, hl with | [_, _, _, _], _ => rfl
  have FWoodListed := fun_mk (st := sWoodListed) lWoodListed cWoodListed kWoodListed
  have bWoodListed := FWoodListed.binds (ps := ["self"]) fun _ _ _ _ _ _ us hl => match us, hl with | [_], _ => rfl
  have FWoodMeeting := fun_mk (st := sWoodMeeting) lWoodMeeting cWoodMeeting kWoodMeeting
  have bWoodMeeting := FWoodMeeting.binds (ps := ["self", "low", "high"]) fun _ _ _ _ _ _ us hl => match us, hl with | [_, _, _], _ => rfl
  have FWoodHolding := fun_mk (st := sWoodHolding) lWoodHolding cWoodHolding kWoodHolding
  have bWoodHolding := FWoodHolding.binds (ps := ["self", "place"]) fun _ _ _ _ _ _ us hl => match us, hl with | [_, _], _ => rfl
  have FWoodLooked := fun_mk (st := sWoodLooked) lWoodLooked cWoodLooked kWoodLooked
  have bWoodLooked := FWoodLooked.binds (ps := ["self", "low", "high"]) fun _ _ _ _ _ _ us hl => match us, hl with | [_, _, _], _ => rfl
  have FGapsOf := fun_mk (st := sGapsOf) lGapsOf cGapsOf kGapsOf
  have bGapsOf := FGapsOf.binds (ps := ["row", "low", "high"]) fun _ _ _ _ _ _ us hl => match us, hl with | [_, _, _], _ => rfl
  have gGapsOf := PySem.W.mg_of X G aGapsOf
  have FManyAt := fun_mk (st := sManyAt) lManyAt cManyAt kManyAt
  have bManyAt := FManyAt.binds (ps := ["row", "place"]) fun _ _ _ _ _ _ us hl => match us, hl with | [_, _], _ => rfl
  have gManyAt := PySem.W.mg_of X G aManyAt
  have FDeepestOf := fun_mk (st := sDeepestOf) lDeepestOf cDeepestOf kDeepestOf
  have bDeepestOf := FDeepestOf.binds (ps := ["row", "low", "high"]) fun _ _ _ _ _ _ us hl => match us, hl with | [_, _, _], _ => rfl
  have gDeepestOf := PySem.W.mg_of X G aDeepestOf
  have FWoodGaps := fun_mk (st := sWoodGaps) lWoodGaps cWoodGaps kWoodGaps
  have bWoodGaps := FWoodGaps.binds (ps := ["self", "low", "high"]) fun _ _ _ _ _ _ us hl => match us, hl with | [_, _, _], _ => rfl
  have FWoodDeepest := fun_mk (st := sWoodDeepest) lWoodDeepest cWoodDeepest kWoodDeepest
  have bWoodDeepest := FWoodDeepest.binds (ps := ["self", "low", "high"]) fun _ _ _ _ _ _ us hl => match us, hl with | [_, _, _], _ => rfl
  have FThing := fun_mk (st := sThing) lThing cThing kThing
  have bThing := FThing.binds (ps := ["_law_cell"]) fun _ _ _ _ _ _ us hl => match us, hl with | [_], _ => rfl
  have gThing := PySem.W.mg_of X G aThing
  have FNumber := fun_mk (st := sNumber) lNumber cNumber kNumber
  have bNumber := FNumber.binds (ps := ["_law_thing_here"]) fun _ _ _ _ _ _ us hl => match us, hl with | [_], _ => rfl
  have gNumber := PySem.W.mg_of X G aNumber
  have FGood := fun_mk (st := sGood) lGood cGood kGood
  have bGood := FGood.binds (ps := ["_law_call", "_law_low", "_law_high", "_law_mark"]) fun _ _ _ _ _ _ us hl => match us, hl with | [_, _, _, _], _ => rfl
  have gGood := PySem.W.mg_of X G aGood
  have FCalled := fun_mk (st := sCalled) lCalled cCalled kCalled
  have bCalled := FCalled.binds (ps := ["_law_wood", "_law_call", "_law_low", "_law_high", "_law_mark"]) fun _ _ _ _ _ _ us hl => match us, hl with | [_, _, _, _, _], _ => rfl
  have gCalled := PySem.W.mg_of X G aCalled
  have FNamed := fun_mk (st := sNamed) lNamed cNamed kNamed
  have bNamed := FNamed.binds (ps := ["_law_e"]) fun _ _ _ _ _ _ us hl => match us, hl with | [_], _ => rfl
  have gNamed := PySem.W.mg_of X G aNamed
  have FWord := fun_mk (st := sWord) lWord cWord kWord
  have bWord := FWord.binds (ps := ["_law_wood", "_law_call", "_law_low", "_law_high", "_law_mark"]) fun _ _ _ _ _ _ us hl => match us, hl with | [_, _, _, _, _], _ => rfl
  have gWord := PySem.W.mg_of X G aWord
  have FLaw := fun_mk (st := sLaw) lLaw cLaw kLaw
  have misinstance := PySem.W.mg_none_of X G zisinstance
  have mint := PySem.W.mg_none_of X G zint
  have mbool := PySem.W.mg_none_of X G zbool
  have mtuple := PySem.W.mg_none_of X G ztuple
  have mlen := PySem.W.mg_none_of X G zlen
  have msorted := PySem.W.mg_none_of X G zsorted
  have mmax := PySem.W.mg_none_of X G zmax
  have mValueError := PySem.W.mg_none_of X G zValueError
  have mMOST := PySem.W.mg_of X G qMOST
  refine ⟨PySem.W.fnOf "law" "law" (defArgs sLaw) (defBody sLaw) (defScope sLaw) .none kVLaw dcLaw pmLaw anLaw cdLaw ctLaw, fun s v => .of_eq rfl, fun base _ _ => ?_⟩
  have EB : ErrB K mg cS cB cT cM := { gS := gcS, B := TcB, T := TcT, M := TcM, xB := PySem.W.exm_ref sbcS hdcS tycS scBcS, xT := PySem.W.exm_ref sbcS hdcS tycS scTcS, xM := PySem.W.exm_ref sbcS hdcS tycS scMcS, cB := CcB, cT := CcT, cM := CcM, kBB := kit_yes, kBT := kit_no scBcB hdcT tycT scBcT, kBM := kit_no scBcB hdcM tycM scBcM, kBV := kit_ve vecB, kTB := kit_no scTcT hdcB tycB scTcB, kTT := kit_yes, kTM := kit_no scTcT hdcM tycM scTcM, kTV := kit_ve vecT, kMB := kit_no scMcM hdcB tycB scMcB, kMT := kit_no scMcM hdcT tycT scMcT, kMM := kit_yes, kMV := kit_ve vecM }
  have yIsNumber : Cal l.prog w K mg base 1 "is_number" ["value"] (SpD K ΦNum) := ⟨_, _, ok_isNumber FIsNumber misinstance mint mbool mMOST, gIsNumber, kIsNumber, bIsNumber⟩
  have yNeedPair : Cal l.prog w K mg base 2 "need_pair" ["low", "high"] (SpD K ΦPair) := ⟨_, _, ok_needPair FNeedPair yIsNumber, gNeedPair, kNeedPair, bNeedPair⟩
  have xPair : CalX (CXN l.prog w) l.prog w K mg base 2 "need_pair" ["low", "high"] (SpX K (ΦPairB cB)) := ⟨_, _, ok_pairB FNeedPair TcB yIsNumber, gNeedPair, kNeedPair, bNeedPair⟩
  have yStretchOf : Cal l.prog w K mg base 3 "stretch_of" ["low", "high", "mark"] (SpD K ΦStr) := ⟨_, _, ok_stretchOf FStretchOf yNeedPair yIsNumber, gStretchOf, kStretchOf, bStretchOf⟩
  have xStr : CalX (CXN l.prog w) l.prog w K mg base 3 "stretch_of" ["low", "high", "mark"] (SpX K (ΦStrB cB)) := ⟨_, _, ok_strB FStretchOf TcB yIsNumber yNeedPair xPair, gStretchOf, kStretchOf, bStretchOf⟩
  have yAt : Cal l.prog w K mg base 1 "_law_at" ["_law_script", "_law_place"] (SpD K ΦAt) := ⟨_, _, ok_at FAt, gAt, kAt, bAt⟩
  have yHeightOf : Cal l.prog w K mg base 1 "height_of" ["box"] (SpD K ΦHt) := ⟨_, _, ok_heightOf FHeightOf, gHeightOf, kHeightOf, bHeightOf⟩
  have yBoxOf : Cal l.prog w K mg base 2 "box_of" ["left", "stretch", "right"] (SpD K ΦBox) := ⟨_, _, ok_boxOf FBoxOf yHeightOf mmax, gBoxOf, kBoxOf, bBoxOf⟩
  have yBalanced : Cal l.prog w K mg base 3 "balanced" ["left", "stretch", "right"] (SpD K ΦBal) := ⟨_, _, ok_balanced FBalanced yHeightOf yBoxOf, gBalanced, kBalanced, bBalanced⟩
  have yHasOne : Cal l.prog w K mg base 1 "has_one" ["box", "stretch"] (SpD K ΦHas) := ⟨_, _, ok_hasOne FHasOne, gHasOne, kHasOne, bHasOne⟩
  have yWithOne : Cal l.prog w K mg base 204 "with_one" ["box", "stretch"] (SpD K (ΦWit 200)) := ⟨_, _, ok_withOne FWithOne gWithOne kWithOne bWithOne yBoxOf yBalanced 200, gWithOne, kWithOne, bWithOne⟩
  have yLeastOf : Cal l.prog w K mg base 1 "least_of" ["box"] (SpD K ΦLea) := ⟨_, _, ok_leastOf FLeastOf, gLeastOf, kLeastOf, bLeastOf⟩
  have yWithout : Cal l.prog w K mg base 204 "without" ["box", "stretch"] (SpD K (ΦWio 200)) := ⟨_, _, ok_without FWithout gWithout kWithout bWithout yLeastOf yBalanced 200, gWithout, kWithout, bWithout⟩
  have yTold : Cal l.prog w K mg base 201 "told" ["box", "depth"] (SpL K (ΦTold 200)) := ⟨_, _, ok_told FTold gTold kTold bTold 200, gTold, kTold, bTold⟩
  have yMet : Cal l.prog w K mg base 201 "met" ["box", "low", "high"] (SpM K (ΦMet 200)) := ⟨_, _, ok_met FMet gMet kMet bMet 200, gMet, kMet, bMet⟩
  have yWoodPut : CalM (CXN l.prog w) l.prog w K mg base 205 cW "put" ["self", "low", "high", "mark"] (SpE K cW "top" (ΦPut cT)) := ⟨_, _, ok_put FWoodPut clcW nacW TcT yStretchOf yHasOne yWithOne, ⟨aWoodPut, iWoodPut, kWoodPut⟩, bWoodPut⟩
  have yWoodTake : CalM (CXN l.prog w) l.prog w K mg base 205 cW "take" ["self", "low", "high", "mark"] (SpE K cW "top" (ΦTake cM)) := ⟨_, _, ok_take FWoodTake clcW nacW TcM yStretchOf yHasOne yWithout, ⟨aWoodTake, iWoodTake, kWoodTake⟩, bWoodTake⟩
  have xPut : CalM (CXN l.prog w) l.prog w K mg base 4 cW "put" ["self", "low", "high", "mark"] (SpE K cW "top" (ΦKeepB cB)) := ⟨_, _, ok_putB FWoodPut xStr, ⟨aWoodPut, iWoodPut, kWoodPut⟩, bWoodPut⟩
  have xTake : CalM (CXN l.prog w) l.prog w K mg base 4 cW "take" ["self", "low", "high", "mark"] (SpE K cW "top" (ΦKeepB cB)) := ⟨_, _, ok_takeB FWoodTake xStr, ⟨aWoodTake, iWoodTake, kWoodTake⟩, bWoodTake⟩
  have yWoodBoxes : CalM CX0 l.prog w K mg base 202 cW "boxes" ["self"] (SpRL K cW "top" ΦBoxes) := ⟨_, _, ok_boxes FWoodBoxes clcW nacW yTold, ⟨aWoodBoxes, iWoodBoxes, kWoodBoxes⟩, bWoodBoxes⟩
  have yWoodKeeps : CalM CX0 l.prog w K mg base 4 cW "keeps" ["self", "low", "high", "mark"] (SpR K cW "top" ΦKeeps) := ⟨_, _, ok_keeps FWoodKeeps clcW nacW yStretchOf yHasOne, ⟨aWoodKeeps, iWoodKeeps, kWoodKeeps⟩, bWoodKeeps⟩
  have xKeeps : CalM (CXN l.prog w) l.prog w K mg base 4 cW "keeps" ["self", "low", "high", "mark"] (SpE K cW "top" (ΦKeepB cB)) := ⟨_, _, ok_keepsB FWoodKeeps clcW nacW xStr yHasOne, ⟨aWoodKeeps, iWoodKeeps, kWoodKeeps⟩, bWoodKeeps⟩
  have yWoodListed : CalM CX0 l.prog w K mg base 203 cW "listed" ["self"] (SpRL K cW "top" ΦListed) := ⟨_, _, ok_listed FWoodListed clcW yWoodBoxes, ⟨aWoodListed, iWoodListed, kWoodListed⟩, bWoodListed⟩
  have yWoodMeeting : CalM CX0 l.prog w K mg base 202 cW "meeting" ["self", "low", "high"] (SpRL K cW "top" ΦMeeting) := ⟨_, _, ok_meeting FWoodMeeting clcW nacW yNeedPair yMet, ⟨aWoodMeeting, iWoodMeeting, kWoodMeeting⟩, bWoodMeeting⟩
  have xMeeting : CalM (CXN l.prog w) l.prog w K mg base 3 cW "meeting" ["self", "low", "high"] (SpE K cW "top" (ΦAskB cB)) := ⟨_, _, ok_meetingB FWoodMeeting xPair, ⟨aWoodMeeting, iWoodMeeting, kWoodMeeting⟩, bWoodMeeting⟩
  have yWoodHolding : CalM CX0 l.prog w K mg base 203 cW "holding" ["self", "place"] (SpRL K cW "top" ΦHolding) := ⟨_, _, ok_holding FWoodHolding clcW yWoodMeeting, ⟨aWoodHolding, iWoodHolding, kWoodHolding⟩, bWoodHolding⟩
  have xHolding : CalM (CXN l.prog w) l.prog w K mg base 4 cW "holding" ["self", "place"] (SpE K cW "top" (ΦHoldB cB)) := ⟨_, _, ok_holdingB FWoodHolding clcW xMeeting, ⟨aWoodHolding, iWoodHolding, kWoodHolding⟩, bWoodHolding⟩
  have yWoodLooked : CalM CX0 l.prog w K mg base 202 cW "looked" ["self", "low", "high"] (SpR K cW "top" ΦWLooked) := ⟨_, _, ok_wlooked FWoodLooked clcW nacW yNeedPair yMet, ⟨aWoodLooked, iWoodLooked, kWoodLooked⟩, bWoodLooked⟩
  have xLooked : CalM (CXN l.prog w) l.prog w K mg base 3 cW "looked" ["self", "low", "high"] (SpE K cW "top" (ΦAskB cB)) := ⟨_, _, ok_lookedB FWoodLooked xPair, ⟨aWoodLooked, iWoodLooked, kWoodLooked⟩, bWoodLooked⟩
  have yGapsOf : Cal l.prog w K mg base 3 "gaps_of" ["row", "low", "high"] (SpL K ΦGapsOf) := ⟨_, _, ok_gapsOf FGapsOf yNeedPair mmax, gGapsOf, kGapsOf, bGapsOf⟩
  have xGapsOf : CalX (CXN l.prog w) l.prog w K mg base 3 "gaps_of" ["row", "low", "high"] (SpX K (ΦRowB cB)) := ⟨_, _, ok_gapsOfB FGapsOf xPair, gGapsOf, kGapsOf, bGapsOf⟩
  have yManyAt : Cal l.prog w K mg base 1 "many_at" ["row", "place"] (SpD K ΦMany) := ⟨_, _, ok_manyAt FManyAt mlen, gManyAt, kManyAt, bManyAt⟩
  have yDeepestOf : Cal l.prog w K mg base 3 "deepest_of" ["row", "low", "high"] (SpD K ΦDeep) := ⟨_, _, ok_deepestOf FDeepestOf yNeedPair yManyAt, gDeepestOf, kDeepestOf, bDeepestOf⟩
  have xDeepestOf : CalX (CXN l.prog w) l.prog w K mg base 3 "deepest_of" ["row", "low", "high"] (SpX K (ΦRowB cB)) := ⟨_, _, ok_deepestOfB FDeepestOf xPair, gDeepestOf, kDeepestOf, bDeepestOf⟩
  have yWoodGaps : CalM CX0 l.prog w K mg base 204 cW "gaps" ["self", "low", "high"] (SpRL K cW "top" ΦWGaps) := ⟨_, _, ok_wgaps FWoodGaps clcW yWoodListed yGapsOf, ⟨aWoodGaps, iWoodGaps, kWoodGaps⟩, bWoodGaps⟩
  have xGaps : CalM (CXN l.prog w) l.prog w K mg base 204 cW "gaps" ["self", "low", "high"] (SpE K cW "top" (ΦAskB cB)) := ⟨_, _, ok_wgapsB FWoodGaps clcW yWoodListed xGapsOf, ⟨aWoodGaps, iWoodGaps, kWoodGaps⟩, bWoodGaps⟩
  have yWoodDeepest : CalM CX0 l.prog w K mg base 204 cW "deepest" ["self", "low", "high"] (SpR K cW "top" ΦWDeep) := ⟨_, _, ok_wdeepest FWoodDeepest clcW yWoodListed yDeepestOf, ⟨aWoodDeepest, iWoodDeepest, kWoodDeepest⟩, bWoodDeepest⟩
  have xDeepest : CalM (CXN l.prog w) l.prog w K mg base 204 cW "deepest" ["self", "low", "high"] (SpE K cW "top" (ΦAskB cB)) := ⟨_, _, ok_wdeepestB FWoodDeepest clcW yWoodListed xDeepestOf, ⟨aWoodDeepest, iWoodDeepest, kWoodDeepest⟩, bWoodDeepest⟩
  have yThing : Cal l.prog w K mg base 1 "_law_thing" ["_law_cell"] (SpD K ΦThing) := ⟨_, _, ok_thing FThing, gThing, kThing, bThing⟩
  have yNumber : Cal l.prog w K mg base 1 "_law_number" ["_law_thing_here"] (SpD K ΦNum) := ⟨_, _, ok_number FNumber misinstance mint mbool, gNumber, kNumber, bNumber⟩
  have yGood : Cal l.prog w K mg base 2 "_law_good" ["_law_call", "_law_low", "_law_high", "_law_mark"] (SpD K ΦGood) := ⟨_, _, ok_good FGood yNumber, gGood, kGood, bGood⟩
  have yCalled : CalX (CXN l.prog w) l.prog w K mg base 206 "_law_called" ["_law_wood", "_law_call", "_law_low", "_law_high", "_law_mark"] (SpE K cW "top" (ΦCalled cB cT cM)) := ⟨_, _, ok_called FCalled clcW yWoodHolding xHolding yWoodMeeting xMeeting yWoodLooked xLooked yWoodGaps xGaps yWoodDeepest xDeepest yGapsOf xGapsOf yDeepestOf xDeepestOf yStretchOf xStr yWoodKeeps xKeeps yWoodPut xPut yWoodTake xTake, gCalled, kCalled, bCalled⟩
  have yNamed : CalP l.prog w K mg base 1 "_law_named" ["_law_e"] (SpP K (ΦNamed K cB cT cM)) := ⟨_, _, ok_named FNamed EB misinstance mlen mValueError, gNamed, kNamed, bNamed⟩
  have yWord : CalX CX0 l.prog w K mg base 207 "_law_word" ["_law_wood", "_law_call", "_law_low", "_law_high", "_law_mark"] (SpE K cW "top" (ΦWord cB cT cM)) := ⟨_, _, ok_word FWord EB yCalled yNamed yNumber misinstance mint mtuple mlen, gWord, kWord, bWord⟩
  exact ok_law FLaw ⟨mkcW, aWoodInit, iWoodInit, kkcW⟩ (ok_init FWoodInit clcW nacW) bWoodInit gcW clcW yAt yThing yNumber yGood yWoodPut yWoodListed yWord msorted
theorem walk {l : PySem.W.OpenLaw} {q : Program} {loose : List Str} {XP : (Str → Option Value) → Heap → Prop} {YP : World → Heap → Prop} {d : DefRec} {K : Params → PySem.W.Frag} (hn : l.most = some 63) (hdf : d.params.defaults = [])
    (hY : ∀ (w : World) (h : Heap), YP w h → (K w.params).In h)
    (F : ∀ (w : World) (mg : Str → Option Value) (fa : Addr) (h : Heap), (K w.params).In h → h.Ns mainGlobals mg → mg d.name = some (.ref fa) →
      ∃ fd : FuncData, (∀ (s : Shared) (u : Value), BindsTo s fd ⟨[u], []⟩ [("_law_script", u)]) ∧ ∀ base : Heap, (K w.params).In base → base.Ns mainGlobals mg → FnOk l.prog w (K w.params) mg base CX0 208 fa fd ["_law_script"] (SpD (K w.params) ΦLaw)) :
    PySem.W.WalkO q loose XP YP l.row.toRowW d [] (fun f vs => PySem.call f vs) :=
  L2.walk_ofB (n := 63) (k := 208) (x := "_law_script") (CX := fun _ => CX0) (sp := fun w => SpD (K w.params) ΦLaw) hn (by decide) hdf ⟨rfl, by decide, by decide⟩ hY F
    (fun w H a ns hl hb _ hS => ⟨[], [scrD ns], .bool true, (fun a ha => absurd ha (by simp)), by rw [cut_nil]; exact .cons (.scr hS rfl) .nil, ⟨ns, rfl, hl, hb, rfl⟩, fun v H' s hv => by cases hv; rfl⟩) fun _ _ _ _ _ z => z
end L3

open PySem PySem.W PyProof.Rows
set_option maxRecDepth 100000 in
set_option maxHeartbeats 0 in
theorem PySem.Challenge.cw_spanforest_k02_what_is_no_stretch_holds : PySem.Challenge.rw_spanforest_k02_what_is_no_stretch.Holds := by
  w_on; o_law; k_head; (case hw => w_witness2)
  k_fill
  refine L3.walk (l := PySem.Challenge.rw_spanforest_k02_what_is_no_stretch) rfl rfl (fun w h Y => PySem.W.kIn_of Y) ?F
  case F =>
    intro w mg fa h KX G hmg
    refine' L3.all_mk KX G hmg ?acW ?pgcW ?hdcW ?pocW ?sacW ?nacW ?mkcW ?kkcW ?acS ?hdcS ?tycS ?sbcS ?acB ?hdcB ?tycB ?sbcB ?kpcB ?excB ?vecB ?hgcB ?hkcB ?hacB ?hmcB ?acT ?hdcT ?tycT ?sbcT ?kpcT ?excT ?vecT ?hgcT ?hkcT ?hacT ?hmcT ?acM ?hdcM ?tycM ?sbcM ?kpcM ?excM ?vecM ?hgcM ?hkcM ?hacM ?hmcM ?hn0 ?ht0 ?scBcS ?scBcB ?scBcT ?scBcM ?scTcS ?scTcB ?scTcT ?scTcM ?scMcS ?scMcB ?scMcT ?scMcM ?aIsNumber ?lIsNumber ?cIsNumber ?kIsNumber ?aNeedPair ?lNeedPair ?cNeedPair ?kNeedPair ?aStretchOf ?lStretchOf ?cStretchOf ?kStretchOf ?aAt ?lAt ?cAt ?kAt ?aHeightOf ?lHeightOf ?cHeightOf ?kHeightOf ?aBoxOf ?lBoxOf ?cBoxOf ?kBoxOf ?aBalanced ?lBalanced ?cBalanced ?kBalanced ?aHasOne ?lHasOne ?cHasOne ?kHasOne ?aWithOne ?lWithOne ?cWithOne ?kWithOne ?aLeastOf ?lLeastOf ?cLeastOf ?kLeastOf ?aWithout ?lWithout ?cWithout ?kWithout ?aTold ?lTold ?cTold ?kTold ?aMet ?lMet ?cMet ?kMet ?aWoodInit ?lWoodInit ?cWoodInit ?kWoodInit ?iWoodInit ?aWoodPut ?lWoodPut ?cWoodPut ?kWoodPut ?iWoodPut ?aWoodTake ?lWoodTake ?cWoodTake ?kWoodTake ?iWoodTake ?aWoodBoxes ?lWoodBoxes ?cWoodBoxes ?kWoodBoxes ?iWoodBoxes ?aWoodKeeps ?lWoodKeeps ?cWoodKeeps ?kWoodKeeps ?iWoodKeeps ?aWoodListed ?lWoodListed ?cWoodListed ?kWoodListed ?iWoodListed ?aWoodMeeting ?lWoodMeeting ?cWoodMeeting ?kWoodMeeting ?iWoodMeeting ?aWoodHolding ?lWoodHolding ?cWoodHolding ?kWoodHolding ?iWoodHolding ?aWoodLooked ?lWoodLooked ?cWoodLooked ?kWoodLooked ?iWoodLooked ?aGapsOf ?lGapsOf ?cGapsOf ?kGapsOf ?aManyAt ?lManyAt ?cManyAt ?kManyAt ?aDeepestOf ?lDeepestOf ?cDeepestOf ?kDeepestOf ?aWoodGaps ?lWoodGaps ?cWoodGaps ?kWoodGaps ?iWoodGaps ?aWoodDeepest ?lWoodDeepest ?cWoodDeepest ?kWoodDeepest ?iWoodDeepest ?aThing ?lThing ?cThing ?kThing ?aNumber ?lNumber ?cNumber ?kNumber ?aGood ?lGood ?cGood ?kGood ?aCalled ?lCalled ?cCalled ?kCalled ?aNamed ?lNamed ?cNamed ?kNamed ?aWord ?lWord ?cWord ?kWord ?aLaw ?lLaw ?cLaw ?kLaw ?zisinstance ?zint ?zbool ?ztuple ?zlen ?zsorted ?zmax ?zValueError ?qMOST
    (case acW => k_is)
    (case pgcW => k_is)
    (case hdcW => k_is)
    (case pocW => k_is)
    (case sacW => k_is)
    (case nacW => k_is)
    (case mkcW => k_is)
    (case kkcW => k_is)
    (case acS => k_is)
    (case hdcS => k_is)
    (case tycS => k_is)
    (case sbcS => k_is)
    (case acB => k_is)
    (case hdcB => k_is)
    (case tycB => k_is)
    (case sbcB => k_is)
    (case kpcB => k_is)
    (case excB => k_exc)
    (case vecB => k_is)
    (case hgcB => k_is)
    (case hkcB => k_is)
    (case hacB => k_is)
    (case hmcB => k_is)
    (case acT => k_is)
    (case hdcT => k_is)
    (case tycT => k_is)
    (case sbcT => k_is)
    (case kpcT => k_is)
    (case excT => k_exc)
    (case vecT => k_is)
    (case hgcT => k_is)
    (case hkcT => k_is)
    (case hacT => k_is)
    (case hmcT => k_is)
    (case acM => k_is)
    (case hdcM => k_is)
    (case tycM => k_is)
    (case sbcM => k_is)
    (case kpcM => k_is)
    (case excM => k_exc)
    (case vecM => k_is)
    (case hgcM => k_is)
    (case hkcM => k_is)
    (case hacM => k_is)
    (case hmcM => k_is)
    (case hn0 => k_is)
    (case ht0 => k_is)
    (case scBcS => k_is)
    (case scBcB => k_is)
    (case scBcT => k_is)
    (case scBcM => k_is)
    (case scTcS => k_is)
    (case scTcB => k_is)
    (case scTcT => k_is)
    (case scTcM => k_is)
    (case scMcS => k_is)
    (case scMcB => k_is)
    (case scMcT => k_is)
    (case scMcM => k_is)
    (case aIsNumber => k_is)
    (case lIsNumber => k_is)
    (case cIsNumber => k_is)
    (case kIsNumber => k_is)
    (case aNeedPair => k_is)
    (case lNeedPair => k_is)
    (case cNeedPair => k_is)
    (case kNeedPair => k_is)
    (case aStretchOf => k_is)
    (case lStretchOf => k_is)
    (case cStretchOf => k_is)
    (case kStretchOf => k_is)
    (case aAt => k_is)
    (case lAt => k_is)
    (case cAt => k_is)
    (case kAt => k_is)
    (case aHeightOf => k_is)
    (case lHeightOf => k_is)
    (case cHeightOf => k_is)
    (case kHeightOf => k_is)
    (case aBoxOf => k_is)
    (case lBoxOf => k_is)
    (case cBoxOf => k_is)
    (case kBoxOf => k_is)
    (case aBalanced => k_is)
    (case lBalanced => k_is)
    (case cBalanced => k_is)
    (case kBalanced => k_is)
    (case aHasOne => k_is)
    (case lHasOne => k_is)
    (case cHasOne => k_is)
    (case kHasOne => k_is)
    (case aWithOne => k_is)
    (case lWithOne => k_is)
    (case cWithOne => k_is)
    (case kWithOne => k_is)
    (case aLeastOf => k_is)
    (case lLeastOf => k_is)
    (case cLeastOf => k_is)
    (case kLeastOf => k_is)
    (case aWithout => k_is)
    (case lWithout => k_is)
    (case cWithout => k_is)
    (case kWithout => k_is)
    (case aTold => k_is)
    (case lTold => k_is)
    (case cTold => k_is)
    (case kTold => k_is)
    (case aMet => k_is)
    (case lMet => k_is)
    (case cMet => k_is)
    (case kMet => k_is)
    (case aWoodInit => k_is)
    (case lWoodInit => k_is)
    (case cWoodInit => k_is)
    (case kWoodInit => k_is)
    (case iWoodInit => k_is)
    (case aWoodPut => k_is)
    (case lWoodPut => k_is)
    (case cWoodPut => k_is)
    (case kWoodPut => k_is)
    (case iWoodPut => k_is)
    (case aWoodTake => k_is)
    (case lWoodTake => k_is)
    (case cWoodTake => k_is)
    (case kWoodTake => k_is)
    (case iWoodTake => k_is)
    (case aWoodBoxes => k_is)
    (case lWoodBoxes => k_is)
    (case cWoodBoxes => k_is)
    (case kWoodBoxes => k_is)
    (case iWoodBoxes => k_is)
    (case aWoodKeeps => k_is)
    (case lWoodKeeps => k_is)
    (case cWoodKeeps => k_is)
    (case kWoodKeeps => k_is)
    (case iWoodKeeps => k_is)
    (case aWoodListed => k_is)
    (case lWoodListed => k_is)
    (case cWoodListed => k_is)
    (case kWoodListed => k_is)
    (case iWoodListed => k_is)
    (case aWoodMeeting => k_is)
    (case lWoodMeeting => k_is)
    (case cWoodMeeting => k_is)
    (case kWoodMeeting => k_is)
    (case iWoodMeeting => k_is)
    (case aWoodHolding => k_is)
    (case lWoodHolding => k_is)
    (case cWoodHolding => k_is)
    (case kWoodHolding => k_is)
    (case iWoodHolding => k_is)
    (case aWoodLooked => k_is)
    (case lWoodLooked => k_is)
    (case cWoodLooked => k_is)
    (case kWoodLooked => k_is)
    (case iWoodLooked => k_is)
    (case aGapsOf => k_is)
    (case lGapsOf => k_is)
    (case cGapsOf => k_is)
    (case kGapsOf => k_is)
    (case aManyAt => k_is)
    (case lManyAt => k_is)
    (case cManyAt => k_is)
    (case kManyAt => k_is)
    (case aDeepestOf => k_is)
    (case lDeepestOf => k_is)
    (case cDeepestOf => k_is)
    (case kDeepestOf => k_is)
    (case aWoodGaps => k_is)
    (case lWoodGaps => k_is)
    (case cWoodGaps => k_is)
    (case kWoodGaps => k_is)
    (case iWoodGaps => k_is)
    (case aWoodDeepest => k_is)
    (case lWoodDeepest => k_is)
    (case cWoodDeepest => k_is)
    (case kWoodDeepest => k_is)
    (case iWoodDeepest => k_is)
    (case aThing => k_is)
    (case lThing => k_is)
    (case cThing => k_is)
    (case kThing => k_is)
    (case aNumber => k_is)
    (case lNumber => k_is)
    (case cNumber => k_is)
    (case kNumber => k_is)
    (case aGood => k_is)
    (case lGood => k_is)
    (case cGood => k_is)
    (case kGood => k_is)
    (case aCalled => k_is)
    (case lCalled => k_is)
    (case cCalled => k_is)
    (case kCalled => k_is)
    (case aNamed => k_is)
    (case lNamed => k_is)
    (case cNamed => k_is)
    (case kNamed => k_is)
    (case aWord => k_is)
    (case lWord => k_is)
    (case cWord => k_is)
    (case kWord => k_is)
    (case aLaw => k_is)
    (case lLaw => k_is)
    (case cLaw => k_is)
    (case kLaw => k_is)
    (case zisinstance => k_is)
    (case zint => k_is)
    (case zbool => k_is)
    (case ztuple => k_is)
    (case zlen => k_is)
    (case zsorted => k_is)
    (case zmax => k_is)
    (case zValueError => k_is)
    (case qMOST => k_is)
#print axioms PySem.Challenge.cw_spanforest_k02_what_is_no_stretch_holds
