import PyProof.Rows.All
import Wide.All
import OpenK.AllK
import Wide.FinOn
import HandS.Base
import HandS.Call
import HandS.List
import HandS.Comp
import HandS.Ends
import HandS.Dict
import HandS.Iter
import HandS.Text
import HandS.Words
import HandS.WordsList
import HandS.Lambda
import HandS.Defaults
import HandS.Wide
import HandS.TupAny
import HandS.IsInst
import HandS.NoneIn
import HandS.WordsExc
import HandS.Zip
import HandS.Hot
import HandS.HotCalls
import HandS.Zip0
import KE.GoesEnumKw
import KE.GoesMore
import HandS.HeadHook2
import PyProof.NoPylong
import PyProof.P3Eq
import HandS.Exc
import HandS.ExcOwn
import HandS.ExcIs
import HandS.CallSlots
import KE.KStateDown
import HandS.More
import HandS.Head0
import HandS.Head1
import HandS.Head2
import HandS.HeadEnd
import HandS.HeadHook1
import PySem.Challenge.RW_lullworks_k02_sums_and_products_of_parts
set_option Elab.async false
set_option linter.all false
set_option maxRecDepth 100000
set_option maxHeartbeats 4000000
set_option autoImplicit false
/-! Lw, part A: data over the layer HandS: what is visible, owned lists, expressions that evaluate to data. -/
namespace Lw
open PySem L2

abbrev Tb := List (Addr × Str)

/-! ### what stays -/
def isTbl : HO → Bool
  | .tbl _ => true
  | _ => false
/-- what is no table stays -/
def Kp (H H' : Hp) : Prop := ∀ b o, H b = some o → isTbl o = false → H' b = some o
theorem Kp.refl (H : Hp) : Kp H H := fun _ _ h _ => h
theorem Kp.trans {H H1 H2 : Hp} (a : Kp H H1) (b : Kp H1 H2) : Kp H H2 := fun c o h n => b c o (a c o h n) n
/-- nothing but a table stands there -/
def Fresh (H : Hp) (p : Addr) : Prop := ∀ o, H p = some o → isTbl o = true
theorem Fresh.of {H : Hp} {p : Addr} (h : H p = none) : Fresh H p := fun o e => by rw [h] at e; cases e
theorem Fresh.back {H H' : Hp} {p : Addr} (h : Fresh H' p) (e : Kp H H') : Fresh H p := fun o q => by
  cases t : isTbl o with
  | true => rfl
  | false => exact (h o (e p o q t)).symm.trans t |>.symm
theorem Kp.sql {K : PySem.W.Frag} {H H' : Hp} {a : Addr} {xs : List V} (e : Kp H H') (h : SqL K H a xs) : SqL K H' a xs := by
  rcases h with (h | ⟨o, h⟩) | h
  · exact .inl (.inl (e _ _ h rfl))
  · exact .inl (.inr ⟨o, e _ _ h rfl⟩)
  · exact .inr h
theorem Kp.sqt {K : PySem.W.Frag} {H H' : Hp} {a : Addr} {xs : List V} (e : Kp H H') (h : SqT K H a xs) : SqT K H' a xs := by
  rcases h with (h | ⟨o, h⟩) | h
  · exact .inl (.inl (e _ _ h rfl))
  · exact .inl (.inr ⟨o, e _ _ h rfl⟩)
  · exact .inr h
/-! ### data: none, bools, ints, texts, tracked lists, tuples -/
mutual
inductive Dt (K : PySem.W.Frag) (H : Hp) : V → PyData → Prop
  | non : Dt K H .non .none
  | bl (b : Bool) : Dt K H (.bl b) (.bool b)
  | int (i : Int) : Dt K H (.int i) (.int i)
  | str (x : Str) : Dt K H (.str x) (.str x)
  | lst {a : Addr} {xs : List V} {ds : List PyData} : H a = some (.lst xs) → DtAll K H xs ds → Dt K H (.ref a) (.list ds)
  | tup {a : Addr} {xs : List V} {ds : List PyData} : SqT K H a xs → DtAll K H xs ds → Dt K H (.ref a) (.tuple ds)
inductive DtAll (K : PySem.W.Frag) (H : Hp) : List V → List PyData → Prop
  | nil : DtAll K H [] []
  | cons {v : V} {vs : List V} {d : PyData} {ds : List PyData} : Dt K H v d → DtAll K H vs ds → DtAll K H (v :: vs) (d :: ds)
end
section
variable {K : PySem.W.Frag} {H : Hp}
mutual
theorem dt_dp : ∀ (d : PyData) (v : V), Dt K H v d → Dp K H v d
  | .none, v, h => by cases h; exact .non
  | .bool b, v, h => by cases h; exact .bl b
  | .int i, v, h => by cases h; exact .int i
  | .str x, v, h => by cases h; exact .str x
  | .list ds, v, h => by
    cases h with
    | lst hs ha => exact .lst (SqL.of hs) (dt_dpAll ds _ ha)
  | .tuple ds, v, h => by
    cases h with
    | tup hs ha => exact .tup hs (dt_dpAll ds _ ha)
  | .dict kvs, v, h => by cases h
theorem dt_dpAll : ∀ (ds : List PyData) (vs : List V), DtAll K H vs ds → DpAll K H vs ds
  | [], vs, h => by cases h; exact .nil
  | d :: ds, vs, h => by
    cases h with
    | cons h1 h2 => exact .cons (dt_dp d _ h1) (dt_dpAll ds _ h2)
end
end
section
variable {K : PySem.W.Frag} {H H' : Hp}
mutual
theorem dp_kp (e : Kp H H') : ∀ (d : PyData) (v : V), Dt K H v d → Dt K H' v d
  | .none, v, h => by cases h; exact .non
  | .bool b, v, h => by cases h; exact .bl b
  | .int i, v, h => by cases h; exact .int i
  | .str x, v, h => by cases h; exact .str x
  | .list ds, v, h => by
    cases h with
    | lst hs ha => exact .lst (e _ _ hs rfl) (dpAll_kp e ds _ ha)
  | .tuple ds, v, h => by
    cases h with
    | tup hs ha => exact .tup (e.sqt hs) (dpAll_kp e ds _ ha)
  | .dict kvs, v, h => by cases h
theorem dpAll_kp (e : Kp H H') : ∀ (ds : List PyData) (vs : List V), DtAll K H vs ds → DtAll K H' vs ds
  | [], vs, h => by cases h; exact .nil
  | d :: ds, vs, h => by
    cases h with
    | cons h1 h2 => exact .cons (dp_kp e d _ h1) (dpAll_kp e ds _ h2)
end
end
theorem Dt.kp {K : PySem.W.Frag} {H H' : Hp} {v : V} {d : PyData} (h : Dt K H v d) (e : Kp H H') : Dt K H' v d := dp_kp e d v h
theorem DtAll.kp {K : PySem.W.Frag} {H H' : Hp} {vs : List V} {ds : List PyData} (h : DtAll K H vs ds) (e : Kp H H') : DtAll K H' vs ds := dpAll_kp e ds vs h
section
variable {K : PySem.W.Frag} {H : Hp}
theorem DtAll.len : ∀ {vs : List V} {ds : List PyData}, DtAll K H vs ds → vs.length = ds.length := by
  intro vs
  induction vs with
  | nil => intro ds h; cases h; rfl
  | cons v vs ih => intro ds h; cases h with | cons h1 h2 => rw [List.length_cons, List.length_cons, ih h2]
theorem DtAll.get : ∀ {vs : List V} {ds : List PyData} {i : Nat} {d : PyData}, DtAll K H vs ds → ds[i]? = some d → ∃ v, vs[i]? = some v ∧ Dt K H v d := by
  intro vs
  induction vs with
  | nil => intro ds i d h e; cases h; simp at e
  | cons v vs ih =>
    intro ds i d h e
    cases h with
    | cons h1 h2 =>
      cases i with
      | zero => exact ⟨v, rfl, by cases e; exact h1⟩
      | succ i => exact ih h2 e
theorem DtAll.getV : ∀ {vs : List V} {ds : List PyData} {i : Nat} {v : V}, DtAll K H vs ds → vs[i]? = some v → ∃ d, ds[i]? = some d ∧ Dt K H v d := by
  intro vs
  induction vs with
  | nil => intro ds i d h e; simp at e
  | cons v vs ih =>
    intro ds i d h e
    cases h with
    | cons h1 h2 =>
      cases i with
      | zero => exact ⟨_, rfl, by cases e; exact h1⟩
      | succ i =>
        obtain ⟨d', h3, h4⟩ := ih h2 e
        exact ⟨d', h3, h4⟩
theorem DtAll.app : ∀ {vs ws : List V} {ds es : List PyData}, DtAll K H vs ds → DtAll K H ws es → DtAll K H (vs ++ ws) (ds ++ es) := by
  intro vs
  induction vs with
  | nil => intro ws ds es h1 h2; cases h1; exact h2
  | cons v vs ih => intro ws ds es h1 h2; cases h1 with | cons a b => exact .cons a (ih b h2)
theorem DtAll.take : ∀ {vs : List V} {ds : List PyData} (n : Nat), DtAll K H vs ds → DtAll K H (vs.take n) (ds.take n) := by
  intro vs
  induction vs with
  | nil => intro ds n h; cases h; simp; exact .nil
  | cons v vs ih =>
    intro ds n h
    cases h with
    | cons a b =>
      cases n with
      | zero => exact .nil
      | succ n => exact .cons a (ih n b)
theorem DtAll.drop : ∀ {vs : List V} {ds : List PyData} (n : Nat), DtAll K H vs ds → DtAll K H (vs.drop n) (ds.drop n) := by
  intro vs
  induction vs with
  | nil => intro ds n h; cases h; simp; exact .nil
  | cons v vs ih =>
    intro ds n h
    cases h with
    | cons a b =>
      cases n with
      | zero => exact .cons a b
      | succ n => exact ih n b
theorem DtAll.set : ∀ {vs : List V} {ds : List PyData} {v : V} {d : PyData} (n : Nat), DtAll K H vs ds → Dt K H v d → DtAll K H (vs.set n v) (ds.set n d) := by
  intro vs
  induction vs with
  | nil => intro ds v d n h1 h2; cases h1; simp; exact .nil
  | cons v vs ih =>
    intro ds w d n h h2
    cases h with
    | cons a b =>
      cases n with
      | zero => exact .cons h2 b
      | succ n => exact .cons a (ih n b h2)
theorem DtAll.eraseIdx : ∀ {vs : List V} {ds : List PyData} (n : Nat), DtAll K H vs ds → DtAll K H (vs.eraseIdx n) (ds.eraseIdx n) := by
  intro vs
  induction vs with
  | nil => intro ds n h; cases h; simp; exact .nil
  | cons v vs ih =>
    intro ds n h
    cases h with
    | cons a b =>
      cases n with
      | zero => exact b
      | succ n => exact .cons a (ih n b)
theorem DtAll.cut {vs : List V} {ds : List PyData} (h : DtAll K H vs ds) (lo hi : Option Int) : DtAll K H (cutV vs lo hi) ((ds.drop (HT.sIx ds.length 0 lo)).take (HT.sIx ds.length ds.length hi - HT.sIx ds.length 0 lo)) := by
  unfold cutV
  rw [h.len]
  exact (h.drop _).take _
theorem DtAll.ints : ∀ {ns : List Int}, DtAll K H (ns.map V.int) (ns.map PyData.int) := by
  intro ns
  induction ns with
  | nil => exact .nil
  | cons n ns ih => exact .cons (.int n) ih
theorem DtAll.ints_inv : ∀ {ns : List Int} {vs : List V}, DtAll K H vs (ns.map PyData.int) → vs = ns.map V.int := by
  intro ns
  induction ns with
  | nil => intro vs h; cases h; rfl
  | cons n ns ih => intro vs h; cases h with | cons a b => cases a; rw [ih b]; rfl
theorem DtAll.bls_inv : ∀ {ns : List Bool} {vs : List V}, DtAll K H vs (ns.map PyData.bool) → vs = ns.map V.bl := by
  intro ns
  induction ns with
  | nil => intro vs h; cases h; rfl
  | cons n ns ih => intro vs h; cases h with | cons a b => cases a; rw [ih b]; rfl
theorem DtAll.strs_inv : ∀ {ns : List Str} {vs : List V}, DtAll K H vs (ns.map PyData.str) → vs = ns.map V.str := by
  intro ns
  induction ns with
  | nil => intro vs h; cases h; rfl
  | cons n ns ih => intro vs h; cases h with | cons a b => cases a; rw [ih b]; rfl
end

/-! ### the extension with tables -/
structure Ext (T : Tb) (H H' : Hp) : Prop where
  kp : Kp H H'
  tb : LamX.Tabs T H → LamX.Tabs T H'
theorem Ext.refl (T : Tb) (H : Hp) : Ext T H H := ⟨.refl H, id⟩
theorem Ext.trans {T : Tb} {H H1 H2 : Hp} (a : Ext T H H1) (b : Ext T H1 H2) : Ext T H H2 := ⟨a.kp.trans b.kp, fun h => b.tb (a.tb h)⟩
theorem Ext.full {T : Tb} {H H' : Hp} (e : ∀ b o, H b = some o → H' b = some o) : Ext T H H' := ⟨fun b o h _ => e b o h, fun t => t.ext e⟩
theorem Ext.new {T : Tb} {H : Hp} {p : Addr} {o : HO} (h : H p = none) : Ext T H (upd H p o) := Ext.full fun b u e => by
  rw [upd_ne (ne_of_none e h)]
  exact e
/-- a list is rewritten: the tables don't see it -/
theorem tabs_lst {T : Tb} {H : Hp} {p : Addr} {xs ys : List V} (h : H p = some (.lst xs)) (t : LamX.Tabs T H) : LamX.Tabs T (upd H p (.lst ys)) := by
  intro q hq
  obtain ⟨ps, h1, h2, h3⟩ := t q hq
  refine ⟨ps, ?_, h2, fun pos cv hc => ?_⟩
  · rw [upd_ne (fun z => by rw [z, h] at h1; cases h1)]
    exact h1
  · obtain ⟨c, e, hc'⟩ := h3 pos cv hc
    refine ⟨c, e, ?_⟩
    rw [upd_ne (fun z => by rw [z, h] at hc'; cases hc')]
    exact hc'

/-! ### hidden addresses -/
def hide (H : Hp) (S : List Addr) : Hp := fun a => if a ∈ S then none else match H a with
  | some o => if isTbl o then none else some o
  | none => none
theorem hide_some {H : Hp} {S : List Addr} {a : Addr} {o : HO} : hide H S a = some o ↔ a ∉ S ∧ H a = some o ∧ isTbl o = false := by
  unfold hide
  by_cases h : a ∈ S
  · simp [h]
  · cases e : H a with
    | none => simp [h]
    | some u =>
      cases t : isTbl u with
      | true =>
        simp only [h, if_false]
        constructor
        · intro z; simp [t] at z
        · intro z
          obtain ⟨_, z1, z2⟩ := z
          cases z1
          rw [t] at z2; cases z2
      | false =>
        simp only [h, if_false]
        constructor
        · intro z
          simp [t] at z
          subst z
          exact ⟨fun z => z, rfl, t⟩
        · intro z
          obtain ⟨_, z1, z2⟩ := z
          cases z1
          simp [t]
theorem hide_kp (H : Hp) (S : List Addr) : Kp (hide H S) H := fun b o h _ => (hide_some.mp h).2.1
theorem Kp.hide {H H' : Hp} (e : Kp H H') (S : List Addr) : Kp (hide H S) (hide H' S) := fun b o h n => by
  obtain ⟨h1, h2, h3⟩ := hide_some.mp h
  exact hide_some.mpr ⟨h1, e b o h2 h3, h3⟩
theorem hide_sub {H : Hp} {S S' : List Addr} (h : ∀ a, a ∈ S' → a ∈ S) : Kp (hide H S) (hide H S') := fun b o e n => by
  obtain ⟨h1, h2, h3⟩ := hide_some.mp e
  exact hide_some.mpr ⟨fun z => h1 (h b z), h2, h3⟩
theorem hide_mem {H : Hp} {S : List Addr} {p : Addr} (h : p ∈ S) : hide H S p = none := by
  unfold hide; simp [h]
theorem hide_upd {H : Hp} {S : List Addr} {p : Addr} {o : HO} (h : p ∈ S) : hide (upd H p o) S = hide H S := by
  funext a
  unfold hide
  by_cases e : a ∈ S
  · simp [e]
  · have ne : a ≠ p := fun z => e (z ▸ h)
    simp only [e, if_false]
    rw [upd_ne ne]
theorem hide_none {H : Hp} {S : List Addr} {p : Addr} (h : Fresh H p) : hide H S p = none := by
  cases e : hide H S p with
  | none => rfl
  | some o =>
    obtain ⟨_, h2, h3⟩ := hide_some.mp e
    rw [h o h2] at h3; cases h3
theorem hide_new {H : Hp} {S : List Addr} {p : Addr} {o : HO} (h : Fresh H p) : hide (upd H p o) (p :: S) = hide H S := by
  funext a
  by_cases e : a = p
  · subst e
    rw [hide_none h]
    exact hide_mem (List.mem_cons_self ..)
  · unfold hide
    rw [upd_ne e]
    simp [e]
/-- the hidden ones are lists -/
def Lsts (H : Hp) (S : List Addr) : Prop := ∀ q ∈ S, ∃ xs, H q = some (.lst xs)
theorem Lsts.kp {H H' : Hp} {S : List Addr} (l : Lsts H S) (e : Kp H H') : Lsts H' S := fun q hq => let ⟨xs, h⟩ := l q hq; ⟨xs, e q _ h rfl⟩
theorem Lsts.not {H : Hp} {S : List Addr} {p : Addr} (l : Lsts H S) (h : Fresh H p) : p ∉ S := fun hp => by
  obtain ⟨xs, e⟩ := l p hp
  exact Bool.false_ne_true (h _ e)
/-- a new object is seen -/
theorem hide_at {H : Hp} {S : List Addr} {p : Addr} {o : HO} (l : Lsts H S) (h : Fresh H p) (n : isTbl o = false) : hide (upd H p o) S p = some o :=
  hide_some.mpr ⟨l.not h, upd_same, n⟩

/-! ### slots: what is known of a name -/
inductive Slot where
  | no
  | dat (d : PyData)
  | own (ds : List PyData)
  | scr (ds : List PyData)
  | raw (v : V)
/-- the state: H0 the heap at the entry (its objects stay), B what is seen for good, C what the caller hides, S what is hidden now -/
structure Gd (K : PySem.W.Frag) (T : Tb) (H0 B : Hp) (C : List Addr) (H : Hp) (S : List Addr) (σ : St) (ρ : List Slot) : Prop where
  ext : Ext T H0 H
  vis : Kp B H
  bno : ∀ b o, B b = some o → isTbl o = false
  hid : ∀ p ∈ S, B p = none
  lst : Lsts H S
  sub : ∀ c ∈ C, c ∈ S
  cl : Lsts H0 C
  len : σ.length = ρ.length
  dat : ∀ (i : Nat) (d : PyData), ρ[i]? = some (.dat d) → ∃ v, σ[i]? = some (some v) ∧ Dt K (hide H S) v d
  scr : ∀ (i : Nat) (ds : List PyData), ρ[i]? = some (.scr ds) → ∃ a xs, σ[i]? = some (some (.ref a)) ∧ SqL K (hide H S) a xs ∧ DtAll K (hide H S) xs ds
  own : ∀ (i : Nat) (ds : List PyData), ρ[i]? = some (.own ds) → ∃ p xs, σ[i]? = some (some (.ref p)) ∧ p ∈ S ∧ Fresh H0 p ∧ H p = some (.lst xs) ∧ DtAll K (hide H S) xs ds
  raw : ∀ (i : Nat) (v : V), ρ[i]? = some (.raw v) → σ[i]? = some (some v)
  sep : ∀ (i j : Nat) (ds es : List PyData) (p : Addr), ρ[i]? = some (.own ds) → ρ[j]? = some (.own es) → σ[i]? = some (some (.ref p)) → σ[j]? = some (some (.ref p)) → i = j
def Good (K : PySem.W.Frag) (T : Tb) (H0 B : Hp) (C : List Addr) (ρ : List Slot) (σ : St) (H : Hp) : Prop := ∃ S, Gd K T H0 B C H S σ ρ
section
variable {K : PySem.W.Frag} {T : Tb} {H0 B : Hp} {C : List Addr} {H H' : Hp} {S : List Addr} {σ : St} {ρ : List Slot}
theorem Gd.ex (g : Gd K T H0 B C H S σ ρ) (e : Ext T H H') : Gd K T H0 B C H' S σ ρ where
  ext := g.ext.trans e
  vis := g.vis.trans e.kp
  bno := g.bno
  hid := g.hid
  lst := g.lst.kp e.kp
  sub := g.sub
  cl := g.cl
  len := g.len
  dat := fun i d h => let ⟨v, h1, h2⟩ := g.dat i d h; ⟨v, h1, h2.kp (e.kp.hide S)⟩
  scr := fun i ds h => let ⟨a, xs, h1, h2, h3⟩ := g.scr i ds h; ⟨a, xs, h1, (e.kp.hide S).sql h2, h3.kp (e.kp.hide S)⟩
  own := fun i ds h => let ⟨p, xs, h1, h2, h3, h4, h5⟩ := g.own i ds h; ⟨p, xs, h1, h2, h3, e.kp p _ h4 rfl, h5.kp (e.kp.hide S)⟩
  raw := g.raw
  sep := g.sep
/-- what is seen for good is seen -/
theorem Gd.see (g : Gd K T H0 B C H S σ ρ) : Kp B (hide H S) := fun b o h n => hide_some.mpr ⟨fun z => (by rw [g.hid b z] at h; cases h), g.vis b o h n, n⟩
/-- a name gets data -/
theorem Gd.set (g : Gd K T H0 B C H S σ ρ) {i : Nat} {v : V} {d : PyData} (h : Dt K (hide H S) v d) : Gd K T H0 B C H S (σ.set i (some v)) (ρ.set i (.dat d)) where
  ext := g.ext
  vis := g.vis
  bno := g.bno
  hid := g.hid
  lst := g.lst
  sub := g.sub
  cl := g.cl
  len := by rw [List.length_set, List.length_set]; exact g.len
  dat := fun j d' e => by
    by_cases z : i = j
    · subst z
      have hl : i < ρ.length := by
        have := (List.getElem?_eq_some_iff.mp e).1
        rwa [List.length_set] at this
      rw [List.getElem?_set_self hl] at e
      cases e
      exact ⟨v, List.getElem?_set_self (g.len ▸ hl), h⟩
    · rw [List.getElem?_set_ne z] at e ⊢
      exact g.dat j d' e
  scr := fun j ds e => by
    by_cases z : i = j
    · subst z
      have hl : i < ρ.length := by
        have := (List.getElem?_eq_some_iff.mp e).1
        rwa [List.length_set] at this
      rw [List.getElem?_set_self hl] at e
      cases e
    · rw [List.getElem?_set_ne z] at e ⊢
      exact g.scr j ds e
  own := fun j ds e => by
    by_cases z : i = j
    · subst z
      have hl : i < ρ.length := by
        have := (List.getElem?_eq_some_iff.mp e).1
        rwa [List.length_set] at this
      rw [List.getElem?_set_self hl] at e
      cases e
    · rw [List.getElem?_set_ne z] at e ⊢
      exact g.own j ds e
  raw := fun j ds e => by
    by_cases z : i = j
    · subst z
      have hl : i < ρ.length := by
        have := (List.getElem?_eq_some_iff.mp e).1
        rwa [List.length_set] at this
      rw [List.getElem?_set_self hl] at e
      cases e
    · rw [List.getElem?_set_ne z] at e ⊢
      exact g.raw j ds e
  sep := fun a b ds es p ha hb sa sb => by
    have za : i ≠ a := fun z => by
      subst z
      have hl : i < ρ.length := by
        have := (List.getElem?_eq_some_iff.mp ha).1
        rwa [List.length_set] at this
      rw [List.getElem?_set_self hl] at ha
      cases ha
    have zb : i ≠ b := fun z => by
      subst z
      have hl : i < ρ.length := by
        have := (List.getElem?_eq_some_iff.mp hb).1
        rwa [List.length_set] at this
      rw [List.getElem?_set_self hl] at hb
      cases hb
    rw [List.getElem?_set_ne za] at ha sa
    rw [List.getElem?_set_ne zb] at hb sb
    exact g.sep a b ds es p ha hb sa sb
/-- what is known may be forgotten -/
inductive Le : List Slot → List Slot → Prop
  | nil : Le [] []
  | no {s : Slot} {a b : List Slot} : Le a b → Le (.no :: a) (s :: b)
  | eq {s : Slot} {a b : List Slot} : Le a b → Le (s :: a) (s :: b)
theorem Le.len {a b : List Slot} (h : Le a b) : a.length = b.length := by
  induction h with
  | nil => rfl
  | no _ ih => exact congrArg (· + 1) ih
  | eq _ ih => exact congrArg (· + 1) ih
theorem Le.refl : ∀ a : List Slot, Le a a
  | [] => .nil
  | _ :: a => .eq (Le.refl a)
theorem Le.get {a b : List Slot} (h : Le a b) : ∀ {i : Nat} {s : Slot}, a[i]? = some s → s ≠ .no → b[i]? = some s := by
  induction h with
  | nil => intro i s e n; simp at e
  | no _ ih =>
    intro i s e n
    cases i with
    | zero => cases e; exact absurd rfl n
    | succ i => exact ih e n
  | eq _ ih =>
    intro i s e n
    cases i with
    | zero => exact e
    | succ i => exact ih e n
theorem Gd.weak {ρ' : List Slot} (g : Gd K T H0 B C H S σ ρ) (l : Le ρ' ρ) : Gd K T H0 B C H S σ ρ' where
  ext := g.ext
  vis := g.vis
  bno := g.bno
  hid := g.hid
  lst := g.lst
  sub := g.sub
  cl := g.cl
  len := g.len.trans l.len.symm
  dat := fun i d e => g.dat i d (l.get e (fun z => by cases z))
  scr := fun i d e => g.scr i d (l.get e (fun z => by cases z))
  own := fun i d e => g.own i d (l.get e (fun z => by cases z))
  raw := fun i d e => g.raw i d (l.get e (fun z => by cases z))
  sep := fun i j ds es p hi hj => g.sep i j ds es p (l.get hi (fun z => by cases z)) (l.get hj (fun z => by cases z))
theorem Good.weak {ρ' : List Slot} (g : Good K T H0 B C ρ σ H) (l : Le ρ' ρ) : Good K T H0 B C ρ' σ H := let ⟨S, g⟩ := g; ⟨S, g.weak l⟩
/-- owned lists seen as data, all in sight -/
def Slot.view : Slot → Slot
  | .no => .no
  | .dat d => .dat d
  | .own ds => .dat (.list ds)
  | .scr ds => .scr ds
  | .raw v => .raw v
theorem Gd.view (g : Gd K T H0 B C H S σ ρ) : Gd K T H0 (hide H0 (List.range 0)) [] H [] σ (ρ.map Slot.view) where
  ext := g.ext
  vis := (hide_kp _ _).trans g.ext.kp
  bno := fun b o h => (hide_some.mp h).2.2
  hid := fun p hp => by cases hp
  lst := fun q hq => by cases hq
  sub := fun c hc => by cases hc
  cl := fun c hc => by cases hc
  len := by rw [List.length_map]; exact g.len
  dat := fun i d e => by
    rw [List.getElem?_map] at e
    cases h : ρ[i]? with
    | none => rw [h] at e; cases e
    | some s =>
      rw [h] at e
      cases s with
      | no => cases e
      | dat d' =>
        cases e
        obtain ⟨v, h1, h2⟩ := g.dat i _ h
        exact ⟨v, h1, h2.kp (hide_sub fun a ha => by cases ha)⟩
      | own ds =>
        cases e
        obtain ⟨p, xs, h1, h2, h3, h4, h5⟩ := g.own i _ h
        exact ⟨_, h1, (.lst (hide_some.mpr ⟨fun z => (by cases z), h4, rfl⟩) (h5.kp (hide_sub fun a ha => by cases ha)))⟩
      | scr ds => cases e
      | raw v => cases e
  scr := fun i ds e => by
    rw [List.getElem?_map] at e
    cases h : ρ[i]? with
    | none => rw [h] at e; cases e
    | some s =>
      rw [h] at e
      cases s with
      | no => cases e
      | dat d' => cases e
      | own ds => cases e
      | scr ds =>
        cases e
        obtain ⟨a, xs, h1, h2, h3⟩ := g.scr i _ h
        exact ⟨a, xs, h1, (hide_sub fun a ha => by cases ha).sql h2, h3.kp (hide_sub fun a ha => by cases ha)⟩
      | raw v => cases e
  raw := fun i v e => by
    rw [List.getElem?_map] at e
    cases h : ρ[i]? with
    | none => rw [h] at e; cases e
    | some s =>
      rw [h] at e
      cases s with
      | raw w => cases e; exact g.raw i _ h
      | no => cases e
      | dat d => cases e
      | own d => cases e
      | scr d => cases e
  own := fun i ds e => by
    rw [List.getElem?_map] at e
    cases h : ρ[i]? with
    | none => rw [h] at e; cases e
    | some s => rw [h] at e; cases s <;> cases e
  sep := fun i j ds es p e => by
    rw [List.getElem?_map] at e
    cases h : ρ[i]? with
    | none => rw [h] at e; cases e
    | some s => rw [h] at e; cases s <;> cases e
end
end Lw
set_option Elab.async false
set_option linter.all false
set_option maxRecDepth 100000
set_option maxHeartbeats 4000000
set_option autoImplicit false
/-! Lw, part B: expressions. -/
namespace Lw
open PySem L2
section
variable (K : PySem.W.Frag) (T : Tb)
/-- an expression evaluates to data -/
def Ev (te : TE) (ρ : List Slot) (d : PyData) : Prop := ∀ (H0 B : Hp) (C : List Addr) (H : Hp) (S : List Addr) (σ : St), Gd K T H0 B C H S σ ρ →
  ∀ Q : VK, (∀ v H2, Ext T H H2 → Dt K (hide H2 S) v d → Q v H2) → te σ H Q
/-- .. to a new list, nobody else's -/
def EvF (te : TE) (ρ : List Slot) (ds : List PyData) : Prop := ∀ (H0 B : Hp) (C : List Addr) (H : Hp) (S : List Addr) (σ : St), Gd K T H0 B C H S σ ρ →
  ∀ Q : VK, (∀ p xs H2, Ext T H H2 → Fresh H p → H2 p = some (.lst xs) → DtAll K (hide H2 (p :: S)) xs ds → Q (.ref p) H2) → te σ H Q
def EvT (tt : TT) (ρ : List Slot) (b : Bool) : Prop := ∀ (H0 B : Hp) (C : List Addr) (H : Hp) (S : List Addr) (σ : St), Gd K T H0 B C H S σ ρ →
  ∀ Q : Bool → Hp → Prop, (∀ H2, Ext T H H2 → Q b H2) → tt σ H Q
def EvA (ta : TA) (ρ : List Slot) (ds : List PyData) : Prop := ∀ (H0 B : Hp) (C : List Addr) (H : Hp) (S : List Addr) (σ : St), Gd K T H0 B C H S σ ρ →
  ∀ Q : List V → Hp → Prop, (∀ vs H2, Ext T H H2 → DtAll K (hide H2 S) vs ds → Q vs H2) → ta σ H Q
def EvP (to : TO) (ρ : List Slot) (o : Option Int) : Prop := ∀ (H0 B : Hp) (C : List Addr) (H : Hp) (S : List Addr) (σ : St), Gd K T H0 B C H S σ ρ →
  ∀ Q : Option Int → Hp → Prop, (∀ H2, Ext T H H2 → Q o H2) → to σ H Q
/-- an operation on data -/
def RV (r : R2) (x y z : PyData) : Prop := ∀ (H : Hp) (S : List Addr) (v u : V), Lsts H S → Dt K (hide H S) v x → Dt K (hide H S) u y →
  ∀ Q : VK, (∀ w H2, Ext T H H2 → Dt K (hide H2 S) w z → Q w H2) → r v u H Q
def RVF (r : R2) (x y : PyData) (zs : List PyData) : Prop := ∀ (H : Hp) (S : List Addr) (v u : V), Lsts H S → Dt K (hide H S) v x → Dt K (hide H S) u y →
  ∀ Q : VK, (∀ p xs H2, Ext T H H2 → Fresh H p → H2 p = some (.lst xs) → DtAll K (hide H2 (p :: S)) xs zs → Q (.ref p) H2) → r v u H Q
def RU (r : V → Hp → VK → Prop) (x z : PyData) : Prop := ∀ (H : Hp) (S : List Addr) (v : V), Lsts H S → Dt K (hide H S) v x →
  ∀ Q : VK, (∀ w H2, Ext T H H2 → Dt K (hide H2 S) w z → Q w H2) → r v H Q
/-- a call of a built-in on data -/
def RC (r : List V → Hp → VK → Prop) (xs : List PyData) (z : PyData) : Prop := ∀ (H : Hp) (S : List Addr) (vs : List V), Lsts H S → DtAll K (hide H S) vs xs →
  ∀ Q : VK, (∀ w H2, Ext T H H2 → Dt K (hide H2 S) w z → Q w H2) → r vs H Q
def RCF (r : List V → Hp → VK → Prop) (xs : List PyData) (zs : List PyData) : Prop := ∀ (H : Hp) (S : List Addr) (vs : List V), Lsts H S → DtAll K (hide H S) vs xs →
  ∀ Q : VK, (∀ p ys H2, Ext T H H2 → Fresh H p → H2 p = some (.lst ys) → DtAll K (hide H2 (p :: S)) ys zs → Q (.ref p) H2) → r vs H Q
/-- a slice of data -/
def RS (r : V → Option Int → Option Int → Hp → VK → Prop) (x : PyData) (lo hi : Option Int) (z : PyData) : Prop := ∀ (H : Hp) (S : List Addr) (v : V), Lsts H S → Dt K (hide H S) v x →
  ∀ Q : VK, (∀ w H2, Ext T H H2 → Dt K (hide H2 S) w z → Q w H2) → r v lo hi H Q
def RSF (r : V → Option Int → Option Int → Hp → VK → Prop) (x : PyData) (lo hi : Option Int) (zs : List PyData) : Prop := ∀ (H : Hp) (S : List Addr) (v : V), Lsts H S → Dt K (hide H S) v x →
  ∀ Q : VK, (∀ p ys H2, Ext T H H2 → Fresh H p → H2 p = some (.lst ys) → DtAll K (hide H2 (p :: S)) ys zs → Q (.ref p) H2) → r v lo hi H Q
end
section
variable {K : PySem.W.Frag} {T : Tb} {ρ : List Slot} {te ta tb tc : TE} {t u : TT} {x y z d : PyData} {r : R2}
theorem EvF.ev {ds : List PyData} (h : EvF K T te ρ ds) : Ev K T te ρ (.list ds) := fun H0 B C H S σ g Q hQ =>
  h H0 B C H S σ g Q fun p xs H2 e hp h2 ha => hQ _ H2 e (.lst (hide_some.mpr ⟨g.lst.not hp, h2, rfl⟩) (ha.kp (hide_sub fun a m => List.mem_cons_of_mem _ m)))
theorem RVF.rv {zs : List PyData} (h : RVF K T r x y zs) : RV K T r x y (.list zs) := fun H S v w l dv dw Q hQ =>
  h H S v w l dv dw Q fun p xs H2 e hp h2 ha => hQ _ H2 e (.lst (hide_some.mpr ⟨l.not hp, h2, rfl⟩) (ha.kp (hide_sub fun a m => List.mem_cons_of_mem _ m)))
theorem RCF.rc {r : List V → Hp → VK → Prop} {xs zs : List PyData} (h : RCF K T r xs zs) : RC K T r xs (.list zs) := fun H S v l dv Q hQ =>
  h H S v l dv Q fun p xs H2 e hp h2 ha => hQ _ H2 e (.lst (hide_some.mpr ⟨l.not hp, h2, rfl⟩) (ha.kp (hide_sub fun a m => List.mem_cons_of_mem _ m)))
theorem RSF.rs {r : V → Option Int → Option Int → Hp → VK → Prop} {lo hi : Option Int} {zs : List PyData} (h : RSF K T r x lo hi zs) : RS K T r x lo hi (.list zs) := fun H S v l dv Q hQ =>
  h H S v l dv Q fun p xs H2 e hp h2 ha => hQ _ H2 e (.lst (hide_some.mpr ⟨l.not hp, h2, rfl⟩) (ha.kp (hide_sub fun a m => List.mem_cons_of_mem _ m)))
/-! ### names, constants -/
theorem ev_var {i : Nat} (h : ρ[i]? = some (.dat d)) : Ev K T (tVar i) ρ d := fun H0 B C H S σ g Q hQ => by
  obtain ⟨v, h1, h2⟩ := g.dat i d h
  exact ⟨v, h1, hQ v H (.refl T H) h2⟩
theorem ev_int {i : Int} : Ev K T (tC (.int i)) ρ (.int i) := fun H0 B C H S σ g Q hQ => hQ _ H (.refl T H) (.int i)
theorem ev_bl {i : Bool} : Ev K T (tC (.bl i)) ρ (.bool i) := fun H0 B C H S σ g Q hQ => hQ _ H (.refl T H) (.bl i)
theorem ev_str {i : Str} : Ev K T (tC (.str i)) ρ (.str i) := fun H0 B C H S σ g Q hQ => hQ _ H (.refl T H) (.str i)
theorem ev_non : Ev K T (tC .non) ρ .none := fun H0 B C H S σ g Q hQ => hQ _ H (.refl T H) .non
/-- a constant of the module, by what stands there -/
theorem ev_con {v : V} (h : ∀ H, Dt K H v d) : Ev K T (tC v) ρ d := fun H0 B C H S σ g Q hQ => hQ _ H (.refl T H) (h _)
theorem ev_is {d' : PyData} (h : Ev K T te ρ d) (e : d = d') : Ev K T te ρ d' := e ▸ h
/-! ### operations -/
theorem ev_op (ha : Ev K T ta ρ x) (hb : Ev K T tb ρ y) (hr : RV K T r x y z) : Ev K T (tOp r ta tb) ρ z := fun H0 B C H S σ g Q hQ =>
  ha H0 B C H S σ g _ fun v H1 e1 d1 => hb H0 B C H1 S σ (g.ex e1) _ fun w H2 e2 d2 =>
    hr H2 S v w ((g.lst.kp e1.kp).kp e2.kp) (d1.kp (e2.kp.hide S)) d2 Q fun a H3 e3 d3 => hQ a H3 (e1.trans (e2.trans e3)) d3
theorem ef_op {zs : List PyData} (ha : Ev K T ta ρ x) (hb : Ev K T tb ρ y) (hr : RVF K T r x y zs) : EvF K T (tOp r ta tb) ρ zs := fun H0 B C H S σ g Q hQ =>
  ha H0 B C H S σ g _ fun v H1 e1 d1 => hb H0 B C H1 S σ (g.ex e1) _ fun w H2 e2 d2 =>
    hr H2 S v w ((g.lst.kp e1.kp).kp e2.kp) (d1.kp (e2.kp.hide S)) d2 Q fun p xs H3 e3 hp h3 d3 => hQ p xs H3 (e1.trans (e2.trans e3)) ((hp.back e2.kp).back e1.kp) h3 d3
theorem ev_un {r : V → Hp → VK → Prop} (ha : Ev K T ta ρ x) (hr : RU K T r x z) : Ev K T (tUn r ta) ρ z := fun H0 B C H S σ g Q hQ =>
  ha H0 B C H S σ g _ fun v H1 e1 d1 => hr H1 S v (g.lst.kp e1.kp) d1 Q fun a H3 e3 d3 => hQ a H3 (e1.trans e3) d3
/-! ### tests -/
theorem et_test {b : Bool} (h : Ev K T te ρ (.bool b)) : EvT K T (tTest te) ρ b := fun H0 B C H S σ g Q hQ =>
  h H0 B C H S σ g _ fun v H1 e1 d1 => by cases d1; exact ⟨b, rfl, hQ H1 e1⟩
theorem et_B {b : Bool} (h : Ev K T te ρ (.bool b)) : EvT K T (tB te) ρ b := fun H0 B C H S σ g Q hQ =>
  h H0 B C H S σ g _ fun v H1 e1 d1 => by cases d1; exact ⟨b, rfl, hQ H1 e1⟩
theorem et_and {a b : Bool} (h1 : EvT K T t ρ a) (h2 : a = true → EvT K T u ρ b) : EvT K T (tAnd t u) ρ (a && b) := fun H0 B C H S σ g Q hQ =>
  h1 H0 B C H S σ g _ fun H1 e1 => by
    cases a with
    | true => exact iteT (h2 rfl H0 B C H1 S σ (g.ex e1) _ fun H2 e2 => hQ H2 (e1.trans e2))
    | false => exact iteF (hQ H1 e1)
theorem et_or {a b : Bool} (h1 : EvT K T t ρ a) (h2 : a = false → EvT K T u ρ b) : EvT K T (tOr t u) ρ (a || b) := fun H0 B C H S σ g Q hQ =>
  h1 H0 B C H S σ g _ fun H1 e1 => by
    cases a with
    | true => exact iteT (hQ H1 e1)
    | false => exact iteF (h2 rfl H0 B C H1 S σ (g.ex e1) _ fun H2 e2 => hQ H2 (e1.trans e2))
theorem et_not {a : Bool} (h1 : EvT K T t ρ a) : EvT K T (tNot t) ρ (!a) := fun H0 B C H S σ g Q hQ => h1 H0 B C H S σ g _ fun H1 e1 => hQ H1 e1
theorem et_is {a b : Bool} (h : EvT K T t ρ a) (e : a = b) : EvT K T t ρ b := e ▸ h
theorem et_yes : EvT K T tYes ρ true := fun H0 B C H S σ g Q hQ => hQ H (.refl T H)
theorem ev_andV {a b : Bool} (h1 : Ev K T ta ρ (.bool a)) (h2 : a = true → Ev K T tb ρ (.bool b)) : Ev K T (tAndV ta tb) ρ (.bool (a && b)) := fun H0 B C H S σ g Q hQ =>
  h1 H0 B C H S σ g _ fun v H1 e1 d1 => by
    cases d1
    refine ⟨a, rfl, ?_⟩
    cases a with
    | true => exact iteT (h2 rfl H0 B C H1 S σ (g.ex e1) _ fun w H2 e2 d2 => hQ w H2 (e1.trans e2) d2)
    | false => exact iteF (hQ _ H1 e1 (.bl false))
theorem ev_orV {a b : Bool} (h1 : Ev K T ta ρ (.bool a)) (h2 : a = false → Ev K T tb ρ (.bool b)) : Ev K T (tOrV ta tb) ρ (.bool (a || b)) := fun H0 B C H S σ g Q hQ =>
  h1 H0 B C H S σ g _ fun v H1 e1 d1 => by
    cases d1
    refine ⟨a, rfl, ?_⟩
    cases a with
    | true => exact iteT (hQ _ H1 e1 (.bl true))
    | false => exact iteF (h2 rfl H0 B C H1 S σ (g.ex e1) _ fun w H2 e2 d2 => hQ w H2 (e1.trans e2) d2)
theorem ev_notV {a : Bool} (h1 : Ev K T ta ρ (.bool a)) : Ev K T (tNotV ta) ρ (.bool (!a)) := fun H0 B C H S σ g Q hQ =>
  h1 H0 B C H S σ g _ fun v H1 e1 d1 => by cases d1; exact ⟨a, rfl, hQ _ H1 e1 (.bl _)⟩
theorem ev_if {b : Bool} {d1 d2 : PyData} (h : EvT K T t ρ b) (h1 : b = true → Ev K T ta ρ d1) (h2 : b = false → Ev K T tb ρ d2) : Ev K T (tIf t ta tb) ρ (if b then d1 else d2) := fun H0 B C H S σ g Q hQ =>
  h H0 B C H S σ g _ fun H1 e1 => by
    cases b with
    | true => exact iteT (h1 rfl H0 B C H1 S σ (g.ex e1) _ fun w H2 e2 q2 => hQ w H2 (e1.trans e2) q2)
    | false => exact iteF (h2 rfl H0 B C H1 S σ (g.ex e1) _ fun w H2 e2 q2 => hQ w H2 (e1.trans e2) q2)
theorem ev_ifT {d1 : PyData} (h : EvT K T t ρ true) (h1 : Ev K T ta ρ d1) : Ev K T (tIf t ta tb) ρ d1 := fun H0 B C H S σ g Q hQ =>
  h H0 B C H S σ g _ fun H1 e1 => iteT (h1 H0 B C H1 S σ (g.ex e1) _ fun w H2 e2 q2 => hQ w H2 (e1.trans e2) q2)
theorem ev_ifF {d1 : PyData} (h : EvT K T t ρ false) (h1 : Ev K T tb ρ d1) : Ev K T (tIf t ta tb) ρ d1 := fun H0 B C H S σ g Q hQ =>
  h H0 B C H S σ g _ fun H1 e1 => iteF (h1 H0 B C H1 S σ (g.ex e1) _ fun w H2 e2 q2 => hQ w H2 (e1.trans e2) q2)
/-! ### arguments, displays -/
theorem ea_nil : EvA K T tNil ρ [] := fun H0 B C H S σ g Q hQ => hQ _ H (.refl T H) .nil
theorem ea_cons {tr : TA} {ds : List PyData} (h : Ev K T ta ρ x) (hr : EvA K T tr ρ ds) : EvA K T (tCons ta tr) ρ (x :: ds) := fun H0 B C H S σ g Q hQ =>
  h H0 B C H S σ g _ fun v H1 e1 d1 => hr H0 B C H1 S σ (g.ex e1) _ fun vs H2 e2 d2 => hQ _ H2 (e1.trans e2) (.cons (d1.kp (e2.kp.hide S)) d2)
theorem ev_tup {ta : TA} {ds : List PyData} (h : EvA K T ta ρ ds) (hl : ds.length ≤ 1000000) : Ev K T (tTup ta) ρ (.tuple ds) := fun H0 B C H S σ g Q hQ =>
  h H0 B C H S σ g _ fun vs H1 e1 d1 => ⟨Nat.le_trans (d1.len ▸ hl) (by decide), fun p hp => hQ _ _ (e1.trans (.new hp))
    (.tup (SqT.of (hide_at (g.lst.kp e1.kp) (.of hp) rfl)) (d1.kp ((Ext.new (T := T) hp).kp.hide S)))⟩
theorem ef_lst {ta : TA} {ds : List PyData} (h : EvA K T ta ρ ds) (hl : ds.length ≤ 1000000) : EvF K T (tLst ta) ρ ds := fun H0 B C H S σ g Q hQ =>
  h H0 B C H S σ g _ fun vs H1 e1 d1 => ⟨Nat.le_trans (d1.len ▸ hl) (by decide), fun p hp => hQ p vs _ (e1.trans (.new hp)) ((Fresh.of hp).back e1.kp) upd_same (by
    rw [hide_new (.of hp)]
    exact d1)⟩
theorem ev_lst {ta : TA} {ds : List PyData} (h : EvA K T ta ρ ds) (hl : ds.length ≤ 1000000) : Ev K T (tLst ta) ρ (.list ds) := (ef_lst h hl).ev
/-! ### slices -/
theorem ep_none : EvP K T tNoPart ρ none := fun H0 B C H S σ g Q hQ => hQ H (.refl T H)
theorem ep_some {i : Int} (h : Ev K T te ρ (.int i)) : EvP K T (tPart te) ρ (some i) := fun H0 B C H S σ g Q hQ =>
  h H0 B C H S σ g _ fun v H1 e1 d1 => by cases d1; exact ⟨i, rfl, hQ H1 e1⟩
theorem ev_sl {r : V → Option Int → Option Int → Hp → VK → Prop} {tl th : TO} {lo hi : Option Int} (h : Ev K T te ρ x) (h1 : EvP K T tl ρ lo) (h2 : EvP K T th ρ hi) (hr : RS K T r x lo hi z) : Ev K T (tSl r te tl th) ρ z := fun H0 B C H S σ g Q hQ =>
  h H0 B C H S σ g _ fun v H1 e1 d1 => h1 H0 B C H1 S σ (g.ex e1) _ fun H2 e2 => h2 H0 B C H2 S σ ((g.ex e1).ex e2) _ fun H3 e3 =>
    hr H3 S v (((g.lst.kp e1.kp).kp e2.kp).kp e3.kp) ((d1.kp (e2.kp.hide S)).kp (e3.kp.hide S)) Q fun a H4 e4 d4 => hQ a H4 (e1.trans (e2.trans (e3.trans e4))) d4
theorem ef_sl {r : V → Option Int → Option Int → Hp → VK → Prop} {tl th : TO} {lo hi : Option Int} {zs : List PyData} (h : Ev K T te ρ x) (h1 : EvP K T tl ρ lo) (h2 : EvP K T th ρ hi) (hr : RSF K T r x lo hi zs) : EvF K T (tSl r te tl th) ρ zs := fun H0 B C H S σ g Q hQ =>
  h H0 B C H S σ g _ fun v H1 e1 d1 => h1 H0 B C H1 S σ (g.ex e1) _ fun H2 e2 => h2 H0 B C H2 S σ ((g.ex e1).ex e2) _ fun H3 e3 =>
    hr H3 S v (((g.lst.kp e1.kp).kp e2.kp).kp e3.kp) ((d1.kp (e2.kp.hide S)).kp (e3.kp.hide S)) Q fun p xs H4 e4 hp h4 d4 => hQ p xs H4 (e1.trans (e2.trans (e3.trans e4))) (((hp.back e3.kp).back e2.kp).back e1.kp) h4 d4
/-! ### calls -/
theorem ev_cb {r : List V → Hp → VK → Prop} {ta : TA} {ds : List PyData} (h : EvA K T ta ρ ds) (hr : RC K T r ds z) : Ev K T (tCB r ta) ρ z := fun H0 B C H S σ g Q hQ =>
  h H0 B C H S σ g _ fun vs H1 e1 d1 => hr H1 S vs (g.lst.kp e1.kp) d1 Q fun a H2 e2 d2 => hQ a H2 (e1.trans e2) d2
theorem ef_cb {r : List V → Hp → VK → Prop} {ta : TA} {ds zs : List PyData} (h : EvA K T ta ρ ds) (hr : RCF K T r ds zs) : EvF K T (tCB r ta) ρ zs := fun H0 B C H S σ g Q hQ =>
  h H0 B C H S σ g _ fun vs H1 e1 d1 => hr H1 S vs (g.lst.kp e1.kp) d1 Q fun p xs H2 e2 hp h2 d2 => hQ p xs H2 (e1.trans e2) (hp.back e1.kp) h2 d2
/-- a def's promise over data: R ds r: called with ds it gives r -/
def spR (K : PySem.W.Frag) (T : Tb) (R : List PyData → PyData → Prop) : Sp := fun vs H Q _ => ∃ ds r S, Lsts H S ∧ DtAll K (hide H S) vs ds ∧ R ds r ∧
  ∀ v H', Ext T H H' → Dt K (hide H' S) v r → Q v H'
theorem ev_call {R : List PyData → PyData → Prop} {ta : TA} {ds : List PyData} {E : XK} (h : EvA K T ta ρ ds) (hR : R ds z) : Ev K T (tCall (spR K T R) [] E ta) ρ z := fun H0 B C H S σ g Q hQ =>
  h H0 B C H S σ g _ fun vs H1 e1 d1 => ⟨ds, z, S, g.lst.kp e1.kp, by rw [List.append_nil]; exact d1, hR, fun v H2 e2 d2 => hQ v H2 (e1.trans e2) d2⟩
theorem ev_callD {R : List PyData → PyData → Prop} {ta : TA} {ds es : List PyData} {dvs : List V} {E : XK} (h : EvA K T ta ρ ds) (hd : ∀ H, DtAll K H dvs es) (hR : R (ds ++ es) z) : Ev K T (tCall (spR K T R) dvs E ta) ρ z := fun H0 B C H S σ g Q hQ =>
  h H0 B C H S σ g _ fun vs H1 e1 d1 => ⟨ds ++ es, z, S, g.lst.kp e1.kp, d1.app (hd _), hR, fun v H2 e2 d2 => hQ v H2 (e1.trans e2) d2⟩
/-- what is a scalar is so whatever is hidden: owned lists may be read for it -/
def scalD : PyData → Bool
  | .list _ => false
  | .tuple _ => false
  | .dict _ => false
  | _ => true
theorem scal_any {H H' : Hp} {v : V} (hs : scalD d = true) (h : Dt K H v d) : Dt K H' v d := by
  cases h with
  | non => exact .non
  | bl b => exact .bl b
  | int i => exact .int i
  | str x => exact .str x
  | lst _ _ => cases hs
  | tup _ _ => cases hs
theorem ev_view (h : Ev K T te (ρ.map Slot.view) d) (hs : scalD d = true) : Ev K T te ρ d := fun H0 B C H S σ g Q hQ =>
  h H0 _ [] H [] σ g.view Q fun v H2 e2 d2 => hQ v H2 e2 (scal_any hs d2)
theorem et_view {b : Bool} (h : EvT K T t (ρ.map Slot.view) b) : EvT K T t ρ b := fun H0 B C H S σ g Q hQ => h H0 _ [] H [] σ g.view Q hQ
end

/-! ### operations on data -/
/-- + of ints, texts, lists, tuples -/
def rAddA (K : PySem.W.Frag) : R2 := fun x y H Q => rI0 (fun i j => .int (i + j)) x y H Q ∨ (∃ i j, x = .str i ∧ y = .str j ∧ i.length + j.length ≤ sizeLine ∧ Q (.str (i ++ j)) H) ∨ rCat x y H Q ∨ rCatA K x y H Q
theorem op_addA {X : Cx} : OpR X (binaryOp .Add) (rAddA X.K) := .or op_add (.or op_add_str (.or op_cat op_catA))
/-- * of ints; a list times an int -/
def rMulA : R2 := fun x y H Q => rI IntMulOk (fun i j => .int (i * j)) x y H Q ∨ rRep x y H Q
theorem op_mulX {X : Cx} : OpR X (binaryOp .Mult) (rI IntMulOk fun i j => .int (i * j)) := opI fun _ _ _ _ _ _ _ hc q => PyProof.Rows.mul_int q hc
theorem op_mulA {X : Cx} : OpR X (binaryOp .Mult) rMulA := .or op_mulX op_rep
def CFd (i j : Int) : Prop := j ≠ 0 ∧ Builtin.divisionGoesByPylong i j = false
theorem op_fdX {X : Cx} : OpR X (binaryOp .FloorDiv) (rI CFd fun i j => .int (i.fdiv j)) := opI fun _ _ _ _ _ _ _ hc q => PyProof.Rows.floordiv_int hc.1 q (.inl hc.2)
abbrev rSubA : R2 := rI0 fun i j => .int (i - j)
abbrev rFdA : R2 := rI CFd fun i j => .int (i.fdiv j)
abbrev rModA : R2 := rI (fun _ j => j ≠ 0) fun i j => .int (i.fmod j)
abbrev rPowA : R2 := rI CPow fun i j => .int (i ^ j.toNat)
abbrev rLtA : R2 := rI0 fun i j => .bl (decide (i < j))
abbrev rLeA : R2 := rI0 fun i j => .bl (decide (i ≤ j))
abbrev rGtA : R2 := rI0 fun i j => .bl (decide (j < i))
abbrev rGeA : R2 := rI0 fun i j => .bl (decide (j ≤ i))
abbrev rIsNA : R2 := fun x y H Q => y = .non ∧ Q (.bl (decide (x = .non))) H
abbrev rNotNA : R2 := fun x y H Q => y = .non ∧ Q (.bl (!decide (x = .non))) H
section
variable {K : PySem.W.Frag} {T : Tb} {x y z d : PyData} {i j : Int}
theorem rv_add : RV K T (rAddA K) (.int i) (.int j) (.int (i + j)) := fun H S v u l dv du Q hQ => by
  cases dv; cases du
  exact .inl ⟨i, j, rfl, rfl, hQ _ H (.refl T H) (.int _)⟩
theorem rv_addS {a b : Str} (hl : a.length + b.length ≤ 1000000) : RV K T (rAddA K) (.str a) (.str b) (.str (a ++ b)) := fun H S v u l dv du Q hQ => by
  cases dv; cases du
  exact .inr (.inl ⟨a, b, rfl, rfl, Nat.le_trans hl (by decide), hQ _ H (.refl T H) (.str _)⟩)
theorem hide_get {H : Hp} {S : List Addr} {a : Addr} {o : HO} (h : hide H S a = some o) : H a = some o := (hide_some.mp h).2.1
theorem rf_addL {xs ys : List PyData} (hl : xs.length + ys.length ≤ 1000000) : RVF K T (rAddA K) (.list xs) (.list ys) (xs ++ ys) := fun H S v u l dv du Q hQ => by
  cases dv with
  | lst h1 a1 =>
    cases du with
    | lst h2 a2 =>
      refine .inr (.inr (.inl ⟨_, _, _, _, rfl, rfl, hide_get h1, hide_get h2, by rw [a1.len, a2.len]; exact Nat.le_trans hl (by decide), fun p hp => ?_⟩))
      refine hQ p _ _ (.new hp) (.of hp) upd_same ?_
      rw [hide_new (.of hp)]
      exact a1.app a2
theorem sqt_hide {H : Hp} {S : List Addr} {a : Addr} {xs : List V} (h : SqT K (hide H S) a xs) : SqT K H a xs := (hide_kp H S).sqt h
theorem rv_addT {xs ys : List PyData} (hl : xs.length + ys.length ≤ 1000000) : RV K T (rAddA K) (.tuple xs) (.tuple ys) (.tuple (xs ++ ys)) := fun H S v u l dv du Q hQ => by
  cases dv with
  | tup h1 a1 =>
    cases du with
    | tup h2 a2 =>
      refine .inr (.inr (.inr ⟨_, _, _, _, rfl, rfl, sqt_hide h1, sqt_hide h2, by rw [a1.len, a2.len]; exact Nat.le_trans hl (by decide), fun e => ?_, fun e e2 => ?_, fun e e2 p hp => ?_⟩))
      · subst e
        cases a1
        exact hQ _ H (.refl T H) (.tup h2 a2)
      · subst e2
        cases a2
        rw [List.append_nil] at hQ
        exact hQ _ H (.refl T H) (.tup h1 a1)
      · exact hQ _ _ (.new hp) (.tup (SqT.of (hide_at l (.of hp) rfl)) ((a1.app a2).kp ((Ext.new (T := T) hp).kp.hide S)))
theorem rv_sub : RV K T rSubA (.int i) (.int j) (.int (i - j)) := fun H S v u l dv du Q hQ => by
  cases dv; cases du
  exact ⟨i, j, rfl, rfl, hQ _ H (.refl T H) (.int _)⟩
theorem rv_mul (h : IntMulOk i j) : RV K T rMulA (.int i) (.int j) (.int (i * j)) := fun H S v u l dv du Q hQ => by
  cases dv; cases du
  exact .inl ⟨i, j, rfl, rfl, h, hQ _ H (.refl T H) (.int _)⟩
theorem DtAll.rep {H : Hp} {vs : List V} {ds : List PyData} (h : DtAll K H vs ds) : ∀ n : Nat, DtAll K H (List.replicate n vs).flatten (List.replicate n ds).flatten
  | 0 => .nil
  | n + 1 => by
    rw [List.replicate_succ, List.replicate_succ, List.flatten_cons, List.flatten_cons]
    exact h.app (h.rep n)
theorem rf_rep {xs : List PyData} (h1 : -(2 ^ 63) ≤ j) (h2 : j < 2 ^ 63) (hl : xs.length * j.toNat ≤ 1000000) : RVF K T rMulA (.list xs) (.int j) (List.replicate j.toNat xs).flatten := fun H S v u l dv du Q hQ => by
  cases du
  cases dv with
  | lst h3 a1 =>
    refine .inr ⟨_, j, _, rfl, rfl, hide_get h3, h1, h2, by rw [a1.len]; exact Nat.le_trans hl (by decide), fun p hp => ?_⟩
    refine hQ p _ _ (.new hp) (.of hp) upd_same ?_
    rw [hide_new (.of hp)]
    exact a1.rep _
theorem rv_fd (h : CFd i j) : RV K T rFdA (.int i) (.int j) (.int (i.fdiv j)) := fun H S v u l dv du Q hQ => by
  cases dv; cases du
  exact ⟨i, j, rfl, rfl, h, hQ _ H (.refl T H) (.int _)⟩
theorem rv_mod (h : j ≠ 0) : RV K T rModA (.int i) (.int j) (.int (i.fmod j)) := fun H S v u l dv du Q hQ => by
  cases dv; cases du
  exact ⟨i, j, rfl, rfl, h, hQ _ H (.refl T H) (.int _)⟩
theorem rv_pow (h : CPow i j) : RV K T rPowA (.int i) (.int j) (.int (i ^ j.toNat)) := fun H S v u l dv du Q hQ => by
  cases dv; cases du
  exact ⟨i, j, rfl, rfl, h, hQ _ H (.refl T H) (.int _)⟩
theorem rv_lt : RV K T rLtA (.int i) (.int j) (.bool (decide (i < j))) := fun H S v u l dv du Q hQ => by
  cases dv; cases du
  exact ⟨i, j, rfl, rfl, hQ _ H (.refl T H) (.bl _)⟩
theorem rv_le : RV K T rLeA (.int i) (.int j) (.bool (decide (i ≤ j))) := fun H S v u l dv du Q hQ => by
  cases dv; cases du
  exact ⟨i, j, rfl, rfl, hQ _ H (.refl T H) (.bl _)⟩
theorem rv_gt : RV K T rGtA (.int i) (.int j) (.bool (decide (j < i))) := fun H S v u l dv du Q hQ => by
  cases dv; cases du
  exact ⟨i, j, rfl, rfl, hQ _ H (.refl T H) (.bl _)⟩
theorem rv_ge : RV K T rGeA (.int i) (.int j) (.bool (decide (j ≤ i))) := fun H S v u l dv du Q hQ => by
  cases dv; cases du
  exact ⟨i, j, rfl, rfl, hQ _ H (.refl T H) (.bl _)⟩
theorem rv_eq (hx : SeqAt.shaped x = true) (hy : SeqAt.shaped y = true) : RV K T (rEqD K) x y (.bool (PyData.eqv x y)) := fun H S v u l dv du Q hQ =>
  ⟨x, y, dt_dp _ _ (dv.kp (hide_kp H S)), dt_dp _ _ (du.kp (hide_kp H S)), hx, hy, hQ _ H (.refl T H) (.bl _)⟩
theorem rv_ne (hx : SeqAt.shaped x = true) (hy : SeqAt.shaped y = true) : RV K T (rNeD K) x y (.bool (!PyData.eqv x y)) := fun H S v u l dv du Q hQ =>
  ⟨x, y, dt_dp _ _ (dv.kp (hide_kp H S)), dt_dp _ _ (du.kp (hide_kp H S)), hx, hy, hQ _ H (.refl T H) (.bl _)⟩
def isNone : PyData → Bool
  | .none => true
  | _ => false
theorem dt_non {H : Hp} {v : V} (h : Dt K H v x) : decide (v = .non) = isNone x := by
  cases h <;> rfl
theorem rv_isN : RV K T rIsNA x .none (.bool (isNone x)) := fun H S v u l dv du Q hQ => by
  cases du
  refine ⟨rfl, ?_⟩
  rw [dt_non dv]
  exact hQ _ H (.refl T H) (.bl _)
theorem rv_notN : RV K T rNotNA x .none (.bool (!isNone x)) := fun H S v u l dv du Q hQ => by
  cases du
  refine ⟨rfl, ?_⟩
  rw [dt_non dv]
  exact hQ _ H (.refl T H) (.bl _)
/-! ### subscripts -/
theorem DtAll.at {H : Hp} {vs : List V} {ds : List PyData} (h : DtAll K H vs ds) (e : atI ds i = some d) : ∃ v, atI vs i = some v ∧ Dt K H v d := by
  unfold atI at e ⊢
  rw [h.len]
  cases q : ixN ds.length i with
  | none => rw [q] at e; cases e
  | some k =>
    rw [q] at e
    exact h.get e
theorem rv_ixT {ds : List PyData} (e : atI ds i = some d) : RV K T (rIx K) (.tuple ds) (.int i) d := fun H S v u l dv du Q hQ => by
  cases du
  cases dv with
  | tup h1 a1 =>
    obtain ⟨w, hw, dw⟩ := a1.at e
    exact .inr (.inl ⟨_, _, i, w, rfl, rfl, sqt_hide h1, hw, hQ w H (.refl T H) dw⟩)
theorem rv_ixL {ds : List PyData} (e : atI ds i = some d) : RV K T (rIx K) (.list ds) (.int i) d := fun H S v u l dv du Q hQ => by
  cases du
  cases dv with
  | lst h1 a1 =>
    obtain ⟨w, hw, dw⟩ := a1.at e
    exact .inl ⟨_, _, i, w, rfl, rfl, SqL.of (hide_get h1), hw, hQ w H (.refl T H) dw⟩
theorem rv_ixS {a : Str} {c : Nat} (hl : a.length ≤ 1000000) (e : atI a.cps.toList i = some c) : RV K T (rIx K) (.str a) (.int i) (.str ⟨#[c]⟩) := fun H S v u l dv du Q hQ => by
  cases du; cases dv
  exact .inr (.inr ⟨a, i, c, rfl, rfl, Nat.le_trans hl (by decide), e, hQ _ H (.refl T H) (.str _)⟩)
/-- an item of an owned list -/
theorem ev_ixO {ρ : List Slot} {tb : TE} {k : Nat} {ds : List PyData} (h : ρ[k]? = some (.own ds)) (hb : Ev K T tb ρ (.int i)) (e : atI ds i = some d) : Ev K T (tOp (rIx K) (tVar k) tb) ρ d := fun H0 B C H S σ g Q hQ => by
  obtain ⟨p, xs, h1, h2, h3, h4, h5⟩ := g.own k ds h
  refine ⟨.ref p, h1, ?_⟩
  refine hb H0 B C H S σ g _ fun v H1 e1 d1 => ?_
  cases d1
  obtain ⟨w, hw, dw⟩ := (h5.kp (e1.kp.hide S)).at e
  exact .inl ⟨p, xs, i, w, rfl, rfl, SqL.of (e1.kp p _ h4 rfl), hw, hQ w H1 e1 dw⟩
def cutD (ds : List PyData) (lo hi : Option Int) : List PyData := (ds.drop (HT.sIx ds.length 0 lo)).take (HT.sIx ds.length ds.length hi - HT.sIx ds.length 0 lo)
/-- slices of lists, tuples, texts -/
def rSlX (K : PySem.W.Frag) : V → Option Int → Option Int → Hp → VK → Prop := fun x lo hi H Q => rSlL K x lo hi H Q ∨ rSlA K x lo hi H Q
theorem sl_any {X : Cx} : SlR X (rSlX X.K) := SlR.or sl_list sl_tupA
theorem rf_slL {ds : List PyData} {lo hi : Option Int} : RSF K T (rSlX K) (.list ds) lo hi (cutD ds lo hi) := fun H S v l dv Q hQ => by
  cases dv with
  | lst h1 a1 =>
    refine .inl ⟨_, _, rfl, SqL.of (hide_get h1), fun p hp => ?_⟩
    refine hQ p _ _ (.new hp) (.of hp) upd_same ?_
    rw [hide_new (.of hp)]
    exact a1.cut lo hi
theorem rs_slT {ds : List PyData} {lo hi : Option Int} : RS K T (rSlX K) (.tuple ds) lo hi (.tuple (cutD ds lo hi)) := fun H S v l dv Q hQ => by
  cases dv with
  | tup h1 a1 =>
    refine .inr ⟨_, _, rfl, sqt_hide h1, fun e => ?_, fun e p hp => ?_⟩
    · refine hQ _ H (.refl T H) (.tup h1 ?_)
      have q := a1.cut lo hi
      unfold cutV at q
      rw [e.1, e.2] at q
      rw [List.drop_zero, Nat.sub_zero, List.take_length] at q
      exact q
    · exact hQ _ _ (.new hp) (.tup (SqT.of (hide_at l (.of hp) rfl)) ((a1.cut lo hi).kp ((Ext.new (T := T) hp).kp.hide S)))
/-! ### built-ins -/
abbrev rLenA (K : PySem.W.Frag) : List V → Hp → VK → Prop := fun xs H Q => ∃ x n, xs = [x] ∧ LenV K x H n ∧ Q (.int n) H
theorem rc_lenL {ds : List PyData} : RC K T (rLenA K) [.list ds] (.int ds.length) := fun H S vs l dv Q hQ => by
  cases dv with
  | cons d1 d2 =>
    cases d2
    cases d1 with
    | lst h1 a1 => exact ⟨_, ds.length, rfl, .inl ⟨_, SqL.of (hide_get h1), a1.len.symm⟩, hQ _ H (.refl T H) (.int _)⟩
theorem rc_lenT {ds : List PyData} : RC K T (rLenA K) [.tuple ds] (.int ds.length) := fun H S vs l dv Q hQ => by
  cases dv with
  | cons d1 d2 =>
    cases d2
    cases d1 with
    | tup h1 a1 => exact ⟨_, ds.length, rfl, .inr ⟨_, sqt_hide h1, a1.len.symm⟩, hQ _ H (.refl T H) (.int _)⟩
theorem rc_lenS {a : Str} (hl : a.length ≤ 1000000) : RC K T (rLenA K) [.str a] (.int a.length) := fun H S vs l dv Q hQ => by
  cases dv with
  | cons d1 d2 =>
    cases d2
    cases d1
    exact ⟨_, a.length, rfl, ⟨Nat.le_trans hl (by decide), rfl⟩, hQ _ H (.refl T H) (.int _)⟩
abbrev rAbsA : List V → Hp → VK → Prop := fun xs H Q => ∃ i, xs = [.int i] ∧ Q (.int (if i < 0 then -i else i)) H
theorem rc_abs : RC K T rAbsA [.int i] (.int (if i < 0 then -i else i)) := fun H S vs l dv Q hQ => by
  cases dv with
  | cons d1 d2 => cases d2; cases d1; exact ⟨i, rfl, hQ _ H (.refl T H) (.int _)⟩
abbrev rIntA : List V → Hp → VK → Prop := fun xs H Q => (∃ i, xs = [.int i] ∧ Q (.int i) H) ∨ ∃ k, xs = [.bl k] ∧ Q (.int (if k then 1 else 0)) H
theorem rc_intB {k : Bool} : RC K T rIntA [.bool k] (.int (if k then 1 else 0)) := fun H S vs l dv Q hQ => by
  cases dv with
  | cons d1 d2 => cases d2; cases d1; exact .inr ⟨k, rfl, hQ _ H (.refl T H) (.int _)⟩
theorem rc_intI : RC K T rIntA [.int i] (.int i) := fun H S vs l dv Q hQ => by
  cases dv with
  | cons d1 d2 => cases d2; cases d1; exact .inl ⟨i, rfl, hQ _ H (.refl T H) (.int _)⟩
abbrev rListA (K : PySem.W.Frag) : List V → Hp → VK → Prop := fun xs H Q => ∃ p ys, xs = [.ref p] ∧ (SqL K H p ys ∨ SqT K H p ys) ∧ ∀ l, H l = none → Q (.ref l) (upd H l (.lst ys))
theorem rf_listL {ds : List PyData} : RCF K T (rListA K) [.list ds] ds := fun H S vs l dv Q hQ => by
  cases dv with
  | cons d1 d2 =>
    cases d2
    cases d1 with
    | lst h1 a1 =>
      refine ⟨_, _, rfl, .inl (SqL.of (hide_get h1)), fun p hp => hQ p _ _ (.new hp) (.of hp) upd_same ?_⟩
      rw [hide_new (.of hp)]
      exact a1
theorem rf_listT {ds : List PyData} : RCF K T (rListA K) [.tuple ds] ds := fun H S vs l dv Q hQ => by
  cases dv with
  | cons d1 d2 =>
    cases d2
    cases d1 with
    | tup h1 a1 =>
      refine ⟨_, _, rfl, .inr (sqt_hide h1), fun p hp => hQ p _ _ (.new hp) (.of hp) upd_same ?_⟩
      rw [hide_new (.of hp)]
      exact a1
abbrev rTupleA (K : PySem.W.Frag) : List V → Hp → VK → Prop := fun xs H Q => ∃ p ys, xs = [.ref p] ∧ ((SqL K H p ys ∧ ∀ l, H l = none → Q (.ref l) (upd H l (.tup ys))) ∨ (SqT K H p ys ∧ Q (.ref p) H))
theorem rc_tupleL {ds : List PyData} : RC K T (rTupleA K) [.list ds] (.tuple ds) := fun H S vs l dv Q hQ => by
  cases dv with
  | cons d1 d2 =>
    cases d2
    cases d1 with
    | lst h1 a1 => exact ⟨_, _, rfl, .inl ⟨SqL.of (hide_get h1), fun p hp => hQ _ _ (.new hp) (.tup (SqT.of (hide_at l (.of hp) rfl)) (a1.kp ((Ext.new (T := T) hp).kp.hide S)))⟩⟩
theorem rc_tupleT {ds : List PyData} : RC K T (rTupleA K) [.tuple ds] (.tuple ds) := fun H S vs l dv Q hQ => by
  cases dv with
  | cons d1 d2 =>
    cases d2
    cases d1 with
    | tup h1 a1 => exact ⟨_, _, rfl, .inr ⟨sqt_hide h1, hQ _ H (.refl T H) (.tup h1 a1)⟩⟩
theorem rc_all {bs : List Bool} : RC K T (rAll K) [.list (bs.map PyData.bool)] (.bool (bs.all id)) := fun H S vs l dv Q hQ => by
  cases dv with
  | cons d1 d2 =>
    cases d2
    cases d1 with
    | lst h1 a1 =>
      have e := a1.bls_inv
      subst e
      exact ⟨_, bs, rfl, SqL.of (hide_get h1), hQ _ H (.refl T H) (.bl _)⟩
theorem rc_any {bs : List Bool} : RC K T (rAny K) [.list (bs.map PyData.bool)] (.bool (bs.any id)) := fun H S vs l dv Q hQ => by
  cases dv with
  | cons d1 d2 =>
    cases d2
    cases d1 with
    | lst h1 a1 =>
      have e := a1.bls_inv
      subst e
      exact ⟨_, bs, rfl, SqL.of (hide_get h1), hQ _ H (.refl T H) (.bl _)⟩
end
end Lw
set_option Elab.async false
set_option linter.all false
set_option maxRecDepth 100000
set_option maxHeartbeats 4000000
set_option autoImplicit false
/-! Lw, part C: statements, loops, comprehensions, defs. -/
namespace Lw
open PySem L2
section
variable {K : PySem.W.Frag} {T : Tb} {H0 B : Hp} {C : List Addr} {H H' : Hp} {S : List Addr} {σ : St} {ρ : List Slot}
theorem set_get {α : Type} {l : List α} {i : Nat} {a b : α} (h : (l.set i a)[i]? = some b) : a = b := by
  have hl : i < l.length := by
    have := (List.getElem?_eq_some_iff.mp h).1
    rwa [List.length_set] at this
  rw [List.getElem?_set_self hl] at h
  exact Option.some.inj h
theorem Gd.lt (g : Gd K T H0 B C H S σ ρ) {i : Nat} {s : Slot} (h : ρ[i]? = some s) : i < σ.length := by
  rw [g.len]
  exact (List.getElem?_eq_some_iff.mp h).1
theorem seen_new {H2 : Hp} {p : Addr} (e : Kp H H2) (hp : Fresh H p) : Kp (hide H S) (hide H2 (p :: S)) := fun b o h n => by
  obtain ⟨h1, h2, h3⟩ := hide_some.mp h
  refine hide_some.mpr ⟨fun z => ?_, e b o h2 h3, h3⟩
  rcases List.mem_cons.mp z with z | z
  · subst z
    rw [hp o h2] at h3
    cases h3
  · exact h1 z
theorem Gd.bnone (g : Gd K T H0 B C H S σ ρ) {p : Addr} (hp : Fresh H p) : B p = none := by
  cases e : B p with
  | none => rfl
  | some o =>
    have q := (hp.back g.vis) o e
    rw [g.bno p o e] at q
    cases q
/-- a name gets a new list of its own -/
theorem Gd.mine (g : Gd K T H0 B C H S σ ρ) {i : Nat} {p : Addr} {xs : List V} {ds : List PyData} (e : Ext T H H') (hp : Fresh H p) (h1 : H' p = some (.lst xs)) (h2 : DtAll K (hide H' (p :: S)) xs ds) :
    Gd K T H0 B C H' (p :: S) (σ.set i (some (.ref p))) (ρ.set i (.own ds)) where
  ext := g.ext.trans e
  vis := g.vis.trans e.kp
  bno := g.bno
  hid := fun q hq => by
    rcases List.mem_cons.mp hq with z | z
    · subst z; exact g.bnone hp
    · exact g.hid q z
  lst := fun q hq => by
    rcases List.mem_cons.mp hq with z | z
    · subst z; exact ⟨xs, h1⟩
    · exact g.lst.kp e.kp q z
  sub := fun c hc => List.mem_cons_of_mem _ (g.sub c hc)
  cl := g.cl
  len := by rw [List.length_set, List.length_set]; exact g.len
  dat := fun j d q => by
    by_cases z : i = j
    · subst z; cases set_get q
    · rw [List.getElem?_set_ne z] at q ⊢
      obtain ⟨v, a, b⟩ := g.dat j d q
      exact ⟨v, a, b.kp (seen_new e.kp hp)⟩
  scr := fun j es q => by
    by_cases z : i = j
    · subst z; cases set_get q
    · rw [List.getElem?_set_ne z] at q ⊢
      obtain ⟨a, ys, h1, h2, h3⟩ := g.scr j es q
      exact ⟨a, ys, h1, (seen_new e.kp hp).sql h2, h3.kp (seen_new e.kp hp)⟩
  raw := fun j v q => by
    by_cases z : i = j
    · subst z; cases set_get q
    · rw [List.getElem?_set_ne z] at q ⊢
      exact g.raw j v q
  own := fun j es q => by
    by_cases z : i = j
    · subst z
      have hl : i < σ.length := by
        rw [g.len]
        have := (List.getElem?_eq_some_iff.mp q).1
        rwa [List.length_set] at this
      cases set_get q
      exact ⟨p, xs, List.getElem?_set_self hl, List.mem_cons_self .., hp.back g.ext.kp, h1, h2⟩
    · rw [List.getElem?_set_ne z] at q ⊢
      obtain ⟨q', ys, a, b, c, d, f⟩ := g.own j es q
      exact ⟨q', ys, a, List.mem_cons_of_mem _ b, c, e.kp q' _ d rfl, f.kp (seen_new e.kp hp)⟩
  sep := fun a b ds' es q ha hb sa sb => by
    have key : ∀ (j : Nat) (es : List PyData), i ≠ j → (ρ.set i (.own ds))[j]? = some (.own es) → (σ.set i (some (.ref p)))[j]? = some (some (.ref p)) → False := fun j es z qa qs => by
      rw [List.getElem?_set_ne z] at qa qs
      obtain ⟨q', ys, a, b, c, d, f⟩ := g.own j es qa
      rw [qs] at a
      cases a
      exact Bool.false_ne_true (hp _ d)
    by_cases za : i = a
    · by_cases zb : i = b
      · exact za.symm.trans zb
      · subst za
        have := set_get sa
        cases this
        exact (key b es zb hb sb).elim
    · by_cases zb : i = b
      · subst zb
        have := set_get sb
        cases this
        exact (key a ds' za ha sa).elim
      · rw [List.getElem?_set_ne za] at ha sa
        rw [List.getElem?_set_ne zb] at hb sb
        exact g.sep a b ds' es q ha hb sa sb
/-- an owned list is rewritten -/
theorem Gd.write (g : Gd K T H0 B C H S σ ρ) {i : Nat} {p : Addr} {xs ys : List V} {ds es : List PyData} (h : ρ[i]? = some (.own ds)) (hs : σ[i]? = some (some (.ref p))) (hp : H p = some (.lst xs)) (hd : DtAll K (hide H S) ys es) :
    Gd K T H0 B C (upd H p (.lst ys)) S σ (ρ.set i (.own es)) := by
  obtain ⟨p', xs', a1, a2, a3, a4, a5⟩ := g.own i ds h
  rw [hs] at a1
  cases a1
  have eh : hide (upd H p (.lst ys)) S = hide H S := hide_upd a2
  have keep : ∀ b o, H b = some o → b ≠ p → (upd H p (.lst ys)) b = some o := fun b o e z => by rw [upd_ne z]; exact e
  exact {
    ext := ⟨fun b o e n => keep b o (g.ext.kp b o e n) (fun z => by subst z; rw [a3 o e] at n; cases n), fun t => tabs_lst hp (g.ext.tb t)⟩
    vis := fun b o e n => keep b o (g.vis b o e n) (fun z => by subst z; rw [g.hid _ a2] at e; cases e)
    bno := g.bno
    hid := g.hid
    lst := fun q hq => by
      by_cases z : q = p
      · subst z; exact ⟨ys, upd_same⟩
      · obtain ⟨zs, e⟩ := g.lst q hq
        exact ⟨zs, keep q _ e z⟩
    sub := g.sub
    cl := g.cl
    len := by rw [List.length_set]; exact g.len
    dat := fun j d q => by
      rw [eh]
      by_cases z : i = j
      · subst z; cases set_get q
      · rw [List.getElem?_set_ne z] at q
        exact g.dat j d q
    scr := fun j d q => by
      rw [eh]
      by_cases z : i = j
      · subst z; cases set_get q
      · rw [List.getElem?_set_ne z] at q
        exact g.scr j d q
    raw := fun j v q => by
      by_cases z : i = j
      · subst z; cases set_get q
      · rw [List.getElem?_set_ne z] at q
        exact g.raw j v q
    own := fun j fs q => by
      rw [eh]
      by_cases z : i = j
      · subst z
        cases set_get q
        exact ⟨p, ys, hs, a2, a3, upd_same, hd⟩
      · rw [List.getElem?_set_ne z] at q
        obtain ⟨q', zs, b1, b2, b3, b4, b5⟩ := g.own j fs q
        refine ⟨q', zs, b1, b2, b3, keep q' _ b4 (fun w => ?_), b5⟩
        subst w
        exact z (g.sep i j ds fs _ h q hs b1)
    sep := fun a b fs gs q ha hb sa sb => by
      have back : ∀ (j : Nat) (fs : List PyData), (ρ.set i (.own es))[j]? = some (.own fs) → ∃ fs', ρ[j]? = some (.own fs') := fun j fs q => by
        by_cases z : i = j
        · subst z; exact ⟨ds, h⟩
        · rw [List.getElem?_set_ne z] at q
          exact ⟨fs, q⟩
      obtain ⟨f1, q1⟩ := back a fs ha
      obtain ⟨f2, q2⟩ := back b gs hb
      exact g.sep a b f1 f2 q q1 q2 sa sb }
/-- an owned list is given out: data from now on -/
theorem Gd.freeze (g : Gd K T H0 B C H S σ ρ) {i : Nat} {ds : List PyData} (h : ρ[i]? = some (.own ds)) : ∃ S', Gd K T H0 B C H S' σ (ρ.set i (.dat (.list ds))) := by
  obtain ⟨p, xs, a1, a2, a3, a4, a5⟩ := g.own i ds h
  have hm : ∀ q, q ∈ S.filter (fun q => decide (q ≠ p)) ↔ q ∈ S ∧ q ≠ p := fun q => by
    rw [List.mem_filter]
    constructor
    · rintro ⟨x, y⟩; exact ⟨x, of_decide_eq_true y⟩
    · rintro ⟨x, y⟩; exact ⟨x, decide_eq_true y⟩
  have hk : Kp (hide H S) (hide H (S.filter fun q => decide (q ≠ p))) := hide_sub fun q hq => ((hm q).mp hq).1
  refine ⟨S.filter fun q => decide (q ≠ p), ?_⟩
  exact {
    ext := g.ext
    vis := g.vis
    bno := g.bno
    hid := fun q hq => g.hid q ((hm q).mp hq).1
    lst := fun q hq => g.lst q ((hm q).mp hq).1
    sub := fun c hc => (hm c).mpr ⟨g.sub c hc, fun z => by
      subst z
      obtain ⟨ys, e⟩ := g.cl _ hc
      exact Bool.false_ne_true (a3 _ e)⟩
    cl := g.cl
    len := by rw [List.length_set]; exact g.len
    dat := fun j d q => by
      by_cases z : i = j
      · subst z
        cases set_get q
        exact ⟨.ref p, a1, .lst (hide_some.mpr ⟨fun w => ((hm p).mp w).2 rfl, a4, rfl⟩) (a5.kp hk)⟩
      · rw [List.getElem?_set_ne z] at q
        obtain ⟨v, b1, b2⟩ := g.dat j d q
        exact ⟨v, b1, b2.kp hk⟩
    scr := fun j d q => by
      by_cases z : i = j
      · subst z; cases set_get q
      · rw [List.getElem?_set_ne z] at q
        obtain ⟨a, ys, h1, h2, h3⟩ := g.scr j d q
        exact ⟨a, ys, h1, hk.sql h2, h3.kp hk⟩
    raw := fun j v q => by
      by_cases z : i = j
      · subst z; cases set_get q
      · rw [List.getElem?_set_ne z] at q
        exact g.raw j v q
    own := fun j fs q => by
      by_cases z : i = j
      · subst z; cases set_get q
      · rw [List.getElem?_set_ne z] at q
        obtain ⟨q', zs, b1, b2, b3, b4, b5⟩ := g.own j fs q
        refine ⟨q', zs, b1, (hm q').mpr ⟨b2, fun w => ?_⟩, b3, b4, b5.kp hk⟩
        subst w
        exact z (g.sep i j ds fs _ h q a1 b1)
    sep := fun a b fs gs q ha hb sa sb => by
      have za : i ≠ a := fun z => by subst z; cases set_get ha
      have zb : i ≠ b := fun z => by subst z; cases set_get hb
      rw [List.getElem?_set_ne za] at ha
      rw [List.getElem?_set_ne zb] at hb
      exact g.sep a b fs gs q ha hb sa sb }
/-- another base of what is seen for good -/
theorem Gd.rebase (g : Gd K T H0 B C H S σ ρ) : Gd K T H0 (hide H S) C H S σ ρ where
  ext := g.ext
  vis := hide_kp H S
  bno := fun b o h => (hide_some.mp h).2.2
  hid := fun p hp => hide_mem hp
  lst := g.lst
  sub := g.sub
  cl := g.cl
  len := g.len
  dat := g.dat
  scr := g.scr
  raw := g.raw
  own := g.own
  sep := g.sep
theorem Gd.unbase {B' : Hp} (g : Gd K T H0 B' C H S σ ρ) (e : Kp B B') (hb : ∀ b o, B b = some o → isTbl o = false) : Gd K T H0 B C H S σ ρ where
  ext := g.ext
  vis := e.trans g.vis
  bno := hb
  hid := fun p hp => by
    cases q : B p with
    | none => rfl
    | some o =>
      have w := e p o q (hb p o q)
      rw [g.hid p hp] at w
      cases w
  lst := g.lst
  sub := g.sub
  cl := g.cl
  len := g.len
  dat := g.dat
  scr := g.scr
  raw := g.raw
  own := g.own
  sep := g.sep
end

/-! ### statements -/
def Tri (K : PySem.W.Frag) (T : Tb) (H0 B : Hp) (C : List Addr) (ρ : List Slot) (ts : TS) (D : Ends) : Prop := ∀ σ H, Good K T H0 B C ρ σ H → ts D σ H
/-- what may be returned -/
def Rt (K : PySem.W.Frag) (T : Tb) (H0 : Hp) (C : List Addr) (rt : VK) (d : PyData) : Prop := ∀ v H', Ext T H0 H' → Dt K (hide H' C) v d → rt v H'
section
variable {K : PySem.W.Frag} {T : Tb} {H0 B : Hp} {C : List Addr} {ρ : List Slot} {te ta tb : TE} {t : TT} {tu tw tz ts : TS} {D : Ends} {d : PyData} {i : Nat}
theorem s_seq (h : Tri K T H0 B C ρ tu { D with nx := tz D }) : Tri K T H0 B C ρ (tSeq tu tz) D := h
theorem s_to (h : Tri K T H0 B C ρ tz D) : Tri K T H0 B C ρ tNext { D with nx := tz D } := h
theorem s_asg (h : Ev K T te ρ d) (k : Tri K T H0 B C (ρ.set i (.dat d)) tNext D) : Tri K T H0 B C ρ (tAsg te (gName i)) D := fun σ H ⟨S, g⟩ =>
  h H0 B C H S σ g _ fun v H2 e dv => k _ _ ⟨S, (g.ex e).set dv⟩
theorem q_asg (h : Ev K T te ρ d) (k : Tri K T H0 B C (ρ.set i (.dat d)) tz D) : Tri K T H0 B C ρ (tSeq (tAsg te (gName i)) tz) D := s_seq (s_asg h (s_to k))
theorem s_own {ds : List PyData} (h : EvF K T te ρ ds) (k : Tri K T H0 B C (ρ.set i (.own ds)) tNext D) : Tri K T H0 B C ρ (tAsg te (gName i)) D := fun σ H ⟨S, g⟩ =>
  h H0 B C H S σ g _ fun p xs H2 e hp h1 h2 => k _ _ ⟨p :: S, g.mine e hp h1 h2⟩
theorem q_own {ds : List PyData} (h : EvF K T te ρ ds) (k : Tri K T H0 B C (ρ.set i (.own ds)) tz D) : Tri K T H0 B C ρ (tSeq (tAsg te (gName i)) tz) D := s_seq (s_own h (s_to k))
theorem s_ret (h : Ev K T te ρ d) (k : Rt K T H0 C D.rt d) : Tri K T H0 B C ρ (tRet te) D := fun σ H ⟨S, g⟩ =>
  h H0 B C H S σ g _ fun v H2 e dv => k v H2 (g.ext.trans e) (dv.kp (hide_sub g.sub))
theorem s_retN (k : Rt K T H0 C D.rt .none) : Tri K T H0 B C ρ tRetN D := fun σ H ⟨S, g⟩ => k .non H g.ext .non
theorem s_if {b : Bool} (h : EvT K T t ρ b) (h1 : b = true → Tri K T H0 B C ρ tu D) (h2 : b = false → Tri K T H0 B C ρ tw D) : Tri K T H0 B C ρ (tIfS t tu tw) D := fun σ H ⟨S, g⟩ =>
  h H0 B C H S σ g _ fun H2 e => by
    cases b with
    | true => exact iteT (h1 rfl σ H2 ⟨S, g.ex e⟩)
    | false => exact iteF (h2 rfl σ H2 ⟨S, g.ex e⟩)
theorem q_if {b : Bool} (h : EvT K T t ρ b) (h1 : b = true → Tri K T H0 B C ρ tu { D with nx := tz D }) (h2 : b = false → Tri K T H0 B C ρ tw { D with nx := tz D }) : Tri K T H0 B C ρ (tSeq (tIfS t tu tw) tz) D := s_seq (s_if h h1 h2)
/-- an if without else -/
theorem q_when {b : Bool} (h : EvT K T t ρ b) (h1 : b = true → Tri K T H0 B C ρ tu { D with nx := tz D }) (h2 : b = false → Tri K T H0 B C ρ tz D) : Tri K T H0 B C ρ (tSeq (tIfS t tu tNext) tz) D := s_seq (s_if h h1 fun e => s_to (h2 e))
/-- known ways -/
theorem q_ifT (h : EvT K T t ρ true) (h1 : Tri K T H0 B C ρ tu { D with nx := tz D }) : Tri K T H0 B C ρ (tSeq (tIfS t tu tw) tz) D := s_seq (s_if h (fun _ => h1) (fun z => by cases z))
theorem q_ifF (h : EvT K T t ρ false) (h1 : Tri K T H0 B C ρ tz D) : Tri K T H0 B C ρ (tSeq (tIfS t tu tNext) tz) D := s_seq (s_if h (fun z => by cases z) (fun _ => s_to h1))
theorem s_ifT (h : EvT K T t ρ true) (h1 : Tri K T H0 B C ρ tu D) : Tri K T H0 B C ρ (tIfS t tu tw) D := s_if h (fun _ => h1) (fun z => by cases z)
theorem s_ifF (h : EvT K T t ρ false) (h1 : Tri K T H0 B C ρ tw D) : Tri K T H0 B C ρ (tIfS t tu tw) D := s_if h (fun z => by cases z) (fun _ => h1)
theorem s_drop (h : Ev K T te ρ d) (k : Tri K T H0 B C ρ tNext D) : Tri K T H0 B C ρ (tDrop te) D := fun σ H ⟨S, g⟩ => h H0 B C H S σ g _ fun v H2 e dv => k _ _ ⟨S, g.ex e⟩
theorem q_drop (h : Ev K T te ρ d) (k : Tri K T H0 B C ρ tz D) : Tri K T H0 B C ρ (tSeq (tDrop te) tz) D := s_seq (s_drop h (s_to k))
theorem s_weak {ρ' : List Slot} (l : Le ρ' ρ) (k : Tri K T H0 B C ρ' ts D) : Tri K T H0 B C ρ ts D := fun σ H g => k σ H (g.weak l)
theorem s_freeze {ds : List PyData} (h : ρ[i]? = some (.own ds)) (k : Tri K T H0 B C (ρ.set i (.dat (.list ds))) ts D) : Tri K T H0 B C ρ ts D := fun σ H ⟨S, g⟩ => k σ H (g.freeze h)
/-- xs.append(e), xs owned -/
theorem s_app {ds : List PyData} (h : ρ[i]? = some (.own ds)) (he : Ev K T te ρ d) (hl : ds.length < 1000000) (k : Tri K T H0 B C (ρ.set i (.own (ds ++ [d]))) tNext D) :
    Tri K T H0 B C ρ (tDrop (tBM K "list" rAppend (tVar i) (tCons te tNil))) D := fun σ H ⟨S, g⟩ => by
  obtain ⟨p, xs, a1, a2, a3, a4, a5⟩ := g.own i ds h
  refine ⟨.ref p, a1, .inl ⟨rfl, xs, SqL.of a4⟩, ?_⟩
  refine he H0 B C H S σ g _ fun v H2 e dv => ?_
  have g2 := g.ex e
  have h2 : H2 p = some (.lst xs) := e.kp p _ a4 rfl
  refine ⟨p, xs, v, rfl, rfl, h2, by rw [a5.len]; exact Nat.lt_trans hl (by decide), ?_⟩
  exact k _ _ ⟨S, g2.write h a1 h2 ((a5.kp (e.kp.hide S)).app (.cons dv .nil))⟩
theorem q_app {ds : List PyData} (h : ρ[i]? = some (.own ds)) (he : Ev K T te ρ d) (hl : ds.length < 1000000) (k : Tri K T H0 B C (ρ.set i (.own (ds ++ [d]))) tz D) :
    Tri K T H0 B C ρ (tSeq (tDrop (tBM K "list" rAppend (tVar i) (tCons te tNil))) tz) D := s_seq (s_app h he hl (s_to k))
/-- xs[j] = e, xs owned -/
theorem s_put {ds : List PyData} {j : Int} {n : Nat} (h : ρ[i]? = some (.own ds)) (he : Ev K T te ρ d) (hj : Ev K T tb ρ (.int j)) (hn : ixN ds.length j = some n) (k : Tri K T H0 B C (ρ.set i (.own (ds.set n d))) tNext D) :
    Tri K T H0 B C ρ (tAsg te (gSub (tVar i) tb rSetL)) D := fun σ H ⟨S, g⟩ => by
  obtain ⟨p, xs, a1, a2, a3, a4, a5⟩ := g.own i ds h
  refine he H0 B C H S σ g _ fun v H2 e dv => ?_
  refine ⟨.ref p, a1, ?_⟩
  refine hj H0 B C H2 S σ (g.ex e) _ fun w H3 e3 dw => ?_
  cases dw
  have e13 := e.trans e3
  have h3 : H3 p = some (.lst xs) := e13.kp p _ a4 rfl
  refine ⟨p, xs, j, n, rfl, rfl, h3, by rw [a5.len]; exact hn, ?_⟩
  exact k _ _ ⟨S, (g.ex e13).write h a1 h3 ((a5.kp (e13.kp.hide S)).set n (dv.kp (e3.kp.hide S)))⟩
theorem q_put {ds : List PyData} {j : Int} {n : Nat} (h : ρ[i]? = some (.own ds)) (he : Ev K T te ρ d) (hj : Ev K T tb ρ (.int j)) (hn : ixN ds.length j = some n) (k : Tri K T H0 B C (ρ.set i (.own (ds.set n d))) tz D) :
    Tri K T H0 B C ρ (tSeq (tAsg te (gSub (tVar i) tb rSetL)) tz) D := s_seq (s_put h he hj hn (s_to k))
/-- a, b = x, y of plain names -/
theorem s_par {j : Nat} {tr : TA} {d1 d2 : PyData} (h : EvA K T tr ρ [d1, d2]) (k : Tri K T H0 B C ((ρ.set i (.dat d1)).set j (.dat d2)) tNext D) : Tri K T H0 B C ρ (tPar i j tr) D := fun σ H ⟨S, g⟩ =>
  h H0 B C H S σ g _ fun vs H2 e dv => by
    cases dv with
    | cons b1 b2 =>
      cases b2 with
      | cons b2 b3 =>
        cases b3
        exact ⟨_, _, rfl, k _ _ ⟨S, ((g.ex e).set b1).set b2⟩⟩
theorem q_par {j : Nat} {tr : TA} {d1 d2 : PyData} (h : EvA K T tr ρ [d1, d2]) (k : Tri K T H0 B C ((ρ.set i (.dat d1)).set j (.dat d2)) tz D) : Tri K T H0 B C ρ (tSeq (tPar i j tr) tz) D := s_seq (s_par h (s_to k))
/-- while, by a word of the slots and a measure -/
theorem s_while (I : Nat → List Slot → Prop) (m0 : Nat) (h0 : I m0 ρ)
    (hs : ∀ m ρ', I m ρ' → ∃ b, EvT K T t ρ' b ∧ (b = true → Tri K T H0 B C ρ' tu { D with nx := fun σ H => ∃ m' ρ2, m' < m ∧ I m' ρ2 ∧ Good K T H0 B C ρ2 σ H, ct := fun σ H => ∃ m' ρ2, m' < m ∧ I m' ρ2 ∧ Good K T H0 B C ρ2 σ H, bk := D.nx }) ∧ (b = false → Tri K T H0 B C ρ' tNext D)) :
    Tri K T H0 B C ρ (tWhile t tu) D := fun σ H g => by
  refine ⟨fun m σ H => ∃ ρ', I m ρ' ∧ Good K T H0 B C ρ' σ H, ⟨m0, ρ, h0, g⟩, ?_⟩
  rintro m σ H ⟨ρ', hI, S, g⟩
  obtain ⟨b, hb, h1, h2⟩ := hs m ρ' hI
  refine hb H0 B C H S σ g _ fun H2 e => ?_
  cases b with
  | true => exact iteT ⟨_, fun σ' H' ⟨m', ρ2, lt, i2, g2⟩ => ⟨m', lt, ρ2, i2, g2⟩, h1 rfl σ H2 ⟨S, g.ex e⟩⟩
  | false => exact iteF (h2 rfl σ H2 ⟨S, g.ex e⟩)
theorem q_while (I : Nat → List Slot → Prop) (m0 : Nat) (h0 : I m0 ρ)
    (hs : ∀ m ρ', I m ρ' → ∃ b, EvT K T t ρ' b ∧ (b = true → Tri K T H0 B C ρ' tu { D with nx := fun σ H => ∃ m' ρ2, m' < m ∧ I m' ρ2 ∧ Good K T H0 B C ρ2 σ H, ct := fun σ H => ∃ m' ρ2, m' < m ∧ I m' ρ2 ∧ Good K T H0 B C ρ2 σ H, bk := tz D }) ∧ (b = false → Tri K T H0 B C ρ' tz D)) :
    Tri K T H0 B C ρ (tSeq (tWhile t tu) tz) D := s_seq (s_while (D := { D with nx := tz D }) I m0 h0 hs)
end

/-! ### what is walked -/
section
variable (K : PySem.W.Frag) (T : Tb)
/-- the iterator gives these, while what is seen in B stays -/
def Feeds (J : It) (B : Hp) (items : List PyData) : Prop := ∀ (i : Nat) (H : Hp) (S : List Addr), Kp B (hide H S) → Lsts H S →
  (∀ d, items[i]? = some d → J.go i H ∧ ∀ x H2, J.yld i H x H2 → Ext T H H2 ∧ Dt K (hide H2 S) x d) ∧ (items.length ≤ i → J.stop i H)
def IterD (wi : TI) (ρ : List Slot) (items : List PyData) : Prop := ∀ (H0 B : Hp) (C : List Addr) (H : Hp) (S : List Addr) (σ : St), Gd K T H0 B C H S σ ρ →
  ∀ R : It → Hp → Prop, (∀ J H2, Ext T H H2 → Feeds K T J (hide H2 S) items → R J H2) → wi σ H R
/-- a target that takes d: js the slots it fills -/
def TgD (g : TG) (d : PyData) (js : List Nat) (f : List Slot → List Slot) : Prop := ∀ (H0 B : Hp) (C : List Addr) (H : Hp) (S : List Addr) (σ : St) (ρ : List Slot) (v : V), Gd K T H0 B C H S σ ρ → Dt K (hide H S) v d →
  ∀ Q : St → Hp → Prop, (∀ σ', Gd K T H0 B C H S σ' (f ρ) → (∀ vs : List Nat, (∀ j ∈ js, j ∈ vs) → wipe σ' vs = wipe σ vs) → Q σ' H) → g v σ H Q
def TgDs (g : TGs) (ds : List PyData) (js : List Nat) (f : List Slot → List Slot) : Prop := ∀ (H0 B : Hp) (C : List Addr) (H : Hp) (S : List Addr) (σ : St) (ρ : List Slot) (vs : List V), Gd K T H0 B C H S σ ρ → DtAll K (hide H S) vs ds →
  ∀ Q : St → Hp → Prop, (∀ σ', Gd K T H0 B C H S σ' (f ρ) → (∀ vs : List Nat, (∀ j ∈ js, j ∈ vs) → wipe σ' vs = wipe σ vs) → Q σ' H) → g vs σ H Q
end
theorem wipe_set {σ : St} {j : Nat} {o : Option V} : ∀ {vs : List Nat}, j ∈ vs → wipe (σ.set j o) vs = wipe σ vs
  | v :: vs, h => by
    show (wipe (σ.set j o) vs).set v none = (wipe σ vs).set v none
    by_cases m : j ∈ vs
    · rw [wipe_set m]
    · have e : j = v := by
        rcases List.mem_cons.mp h with z | z
        · exact z
        · exact (m z).elim
      subst e
      have key : ∀ ws : List Nat, j ∉ ws → wipe (σ.set j o) ws = (wipe σ ws).set j o := fun ws => by
        induction ws with
        | nil => intro _; rfl
        | cons w ws ih =>
          intro hn
          show (wipe (σ.set j o) ws).set w none = ((wipe σ ws).set w none).set j o
          rw [ih (fun z => hn (List.mem_cons_of_mem _ z))]
          exact List.set_comm _ _ (fun z => hn (z ▸ List.mem_cons_self ..))
      rw [key vs m, List.set_set]
section
variable {K : PySem.W.Frag} {T : Tb} {ρ : List Slot} {te ta tb : TE} {d : PyData} {i : Nat}
theorem tg_name : TgD K T (gName i) d [i] (fun ρ => ρ.set i (.dat d)) := fun H0 B C H S σ ρ v g dv Q hQ =>
  hQ _ (g.set dv) fun vs hv => wipe_set (hv i (List.mem_cons_self ..))
theorem tgs_nil : TgDs K T gNil [] [] (fun ρ => ρ) := fun H0 B C H S σ ρ vs g dv Q hQ => by
  cases dv
  exact ⟨rfl, hQ σ g fun vs hv => rfl⟩
theorem tgs_cons {t : TG} {u : TGs} {ds : List PyData} {js ks : List Nat} {f h : List Slot → List Slot} (h1 : TgD K T t d js f) (h2 : TgDs K T u ds ks h) : TgDs K T (gCons t u) (d :: ds) (js ++ ks) (fun ρ => h (f ρ)) := fun H0 B C H S σ ρ vs g dv Q hQ => by
  cases dv with
  | cons b1 b2 =>
    refine ⟨_, _, rfl, h1 H0 B C H S σ ρ _ g b1 _ fun σ' g' w' => ?_⟩
    refine h2 H0 B C H S σ' _ _ g' b2 _ fun σ2 g2 w2 => hQ σ2 g2 fun vs hv => ?_
    rw [w2 vs fun j hj => hv j (List.mem_append_right _ hj), w' vs fun j hj => hv j (List.mem_append_left _ hj)]
theorem tg_tup {u : TGs} {ds : List PyData} {js : List Nat} {f : List Slot → List Slot} {n : Nat} (h : TgDs K T u ds js f) (hn : ds.length = n) : TgD K T (gTup K n u) (.tuple ds) js f := fun H0 B C H S σ ρ v g dv Q hQ => by
  cases dv with
  | tup h1 a1 => exact ⟨_, _, rfl, sqt_hide h1, a1.len.trans hn, h H0 B C H S σ ρ _ g a1 Q hQ⟩
/-- a list, a tuple -/
def iSeq (K : PySem.W.Frag) (tl : TE) : TI := fun σ H R => tl σ H fun x H1 => ∃ a, x = .ref a ∧ ((∃ xs, SqL K H1 a xs ∧ R (Itl K a) H1) ∨ ∃ xs, SqT K H1 a xs ∧ R (Itt K a) H1)
theorem pi_seq {X : Cx} {tg l : Expr} {tl : TE} (hl : PE X l tl) : PI X tg l (iSeq X.K tl) := by
  refine ⟨fun pins s σ H R I h => ?_⟩
  refine thn (hl.run pins s σ H _ I h) fun v s1 ⟨x, H1, I1, r1, q1⟩ => ?_
  obtain ⟨a, e, q⟩ := q1
  subst e
  cases r1
  rcases q with ⟨xs, hq, q⟩ | ⟨xs, hq, q⟩
  · obtain ⟨its, rv, p, hz⟩ := I1.list hq
    refine wpAny_pyIter_list p.isList ?_
    refine ⟨s1.heap.objs.size, [s1.heap.objs.size], _, _, H1, rfl, I1.kept (t' := s1.toks) fun b o e => Heap.get?_push_of_some _ e, turn_list a _, ⟨_, Heap.get?_push_size _ rfl, rfl, rfl⟩, fun b hb => ?_, q⟩
    have e : b = s1.heap.objs.size := by simpa using hb
    subst e
    exact I1.fpOk (Nat.le_refl _) (I1.hok.fresh (Nat.le_refl _))
  · obtain ⟨its, rv, p, hz⟩ := I1.tuple hq
    refine wpAny_pyIter_tuple (show s1.heap.IsTuple a its.toArray from p) ?_
    refine ⟨s1.heap.objs.size, [s1.heap.objs.size], _, _, H1, rfl, I1.kept (t' := s1.toks) fun b o e => Heap.get?_push_of_some _ e, turn_tuple a _, ⟨_, Heap.get?_push_size _ rfl, rfl, rfl⟩, fun b hb => ?_, q⟩
    have e : b = s1.heap.objs.size := by simpa using hb
    subst e
    exact I1.fpOk (Nat.le_refl _) (I1.hok.fresh (Nat.le_refl _))
theorem it_list {ds : List PyData} (h : Ev K T te ρ (.list ds)) : IterD K T (iSeq K te) ρ ds := fun H0 B C H S σ g R hR => by
  refine h H0 B C H S σ g _ fun v H2 e dv => ?_
  cases dv with
  | lst h1 a1 =>
    refine ⟨_, rfl, .inl ⟨_, SqL.of (hide_get h1), hR _ _ e fun i H' S' k l => ?_⟩⟩
    have hq : SqL K H' _ _ := SqL.of (hide_get (k _ _ h1 rfl))
    refine ⟨fun d hd => ?_, fun hl => ⟨_, hq, by rw [a1.len]; exact hl⟩⟩
    obtain ⟨w, hw, dw⟩ := a1.get hd
    refine ⟨⟨_, w, hq, hw⟩, fun x H3 hy => ?_⟩
    obtain ⟨e3, hy⟩ := hy
    subst e3
    have := hy _ hq
    rw [hw] at this
    cases this
    exact ⟨.refl T _, dw.kp k⟩
theorem it_tup {ds : List PyData} (h : Ev K T te ρ (.tuple ds)) : IterD K T (iSeq K te) ρ ds := fun H0 B C H S σ g R hR => by
  refine h H0 B C H S σ g _ fun v H2 e dv => ?_
  cases dv with
  | tup h1 a1 =>
    refine ⟨_, rfl, .inr ⟨_, sqt_hide h1, hR _ _ e fun i H' S' k l => ?_⟩⟩
    have hq : SqT K H' _ _ := sqt_hide (k.sqt h1)
    refine ⟨fun d hd => ?_, fun hl => ⟨_, hq, by rw [a1.len]; exact hl⟩⟩
    obtain ⟨w, hw, dw⟩ := a1.get hd
    refine ⟨⟨_, w, hq, hw⟩, fun x H3 hy => ?_⟩
    obtain ⟨e3, hy⟩ := hy
    subst e3
    have := hy _ hq
    rw [hw] at this
    cases this
    exact ⟨.refl T _, dw.kp k⟩
/-- lo, lo + 1, .. (n of them) -/
def rgD (lo : Int) (n : Nat) : List PyData := (List.range n).map fun (k : Nat) => PyData.int (lo + k)
theorem rgD_len (lo : Int) (n : Nat) : (rgD lo n).length = n := by unfold rgD; simp
theorem rgD_get {lo : Int} {n i : Nat} {d : PyData} (h : (rgD lo n)[i]? = some d) : i < n ∧ d = .int (lo + i) := by
  unfold rgD at h
  rw [List.getElem?_map] at h
  cases e : (List.range n)[i]? with
  | none => rw [e] at h; cases h
  | some k =>
    rw [e] at h
    obtain ⟨h1, h2⟩ := List.getElem?_eq_some_iff.mp e
    rw [List.getElem_range] at h2
    subst h2
    rw [List.length_range] at h1
    exact ⟨h1, (Option.some.inj h).symm⟩
theorem feeds_range {lo : Int} {n : Nat} {B : Hp} : Feeds K T (Itr lo n) B (rgD lo n) := fun i H S k l => by
  refine ⟨fun d hd => ?_, fun hl => by rw [rgD_len] at hl; exact hl⟩
  obtain ⟨h1, h2⟩ := rgD_get hd
  refine ⟨h1, fun x H2 hy => ?_⟩
  obtain ⟨e, hx⟩ := hy
  subst e; subst hx; subst h2
  exact ⟨.refl T _, .int _⟩
theorem it_range1 {ta : TA} {j : Int} (h : EvA K T ta ρ [.int j]) (h1 : -(2 ^ 62) ≤ j) (h2 : j < 2 ^ 62) : IterD K T (iRng1 ta) ρ (rgD 0 j.toNat) := fun H0 B C H S σ g R hR =>
  h H0 B C H S σ g _ fun vs H2 e dv => by
    cases dv with
    | cons b1 b2 => cases b2; cases b1; exact ⟨j, rfl, h1, h2, hR _ _ e feeds_range⟩
theorem it_range2 {ta : TA} {a j : Int} (h : EvA K T ta ρ [.int a, .int j]) (h1 : -(2 ^ 62) ≤ a ∧ a < 2 ^ 62 ∧ -(2 ^ 62) ≤ j ∧ j < 2 ^ 62) : IterD K T (iRng2 ta) ρ (rgD a (j - a).toNat) := fun H0 B C H S σ g R hR =>
  h H0 B C H S σ g _ fun vs H2 e dv => by
    cases dv with
    | cons b1 b2 =>
      cases b2 with
      | cons b2 b3 => cases b3; cases b1; cases b2; exact ⟨a, j, rfl, h1, hR _ _ e feeds_range⟩
end

/-! ### for -/
section
variable {K : PySem.W.Frag} {T : Tb} {H0 B : Hp} {C : List Addr} {ρ : List Slot} {tb tz : TS} {D : Ends} {wi : TI} {g : TG} {items : List PyData}
/-- what holds between two turns -/
def Nxt (K : PySem.W.Frag) (T : Tb) (H0 B : Hp) (C : List Addr) (I : List Slot → Prop) : St → Hp → Prop := fun σ H => ∃ ρ', I ρ' ∧ Good K T H0 B C ρ' σ H
theorem s_nxt {I : List Slot → Prop} {D : Ends} {ρ' : List Slot} (h : I ρ') (l : Le ρ' ρ) (hD : D.nx = Nxt K T H0 B C I) : Tri K T H0 B C ρ tNext D := fun σ H gd => by
  show D.nx σ H
  rw [hD]
  exact ⟨ρ', h, gd.weak l⟩
theorem s_cont {I : List Slot → Prop} {D : Ends} {ρ' : List Slot} (h : I ρ') (l : Le ρ' ρ) (hD : D.ct = Nxt K T H0 B C I) : Tri K T H0 B C ρ tCont D := fun σ H gd => by
  show D.ct σ H
  rw [hD]
  exact ⟨ρ', h, gd.weak l⟩
theorem s_forG (hi : IterD K T wi ρ items) (I : Nat → List Slot → Prop) (h0 : I 0 ρ)
    (hs : ∀ (B' : Hp) (i : Nat) (d : PyData) (ρi : List Slot), Kp B B' → items[i]? = some d → I i ρi → ∃ js f, TgD K T g d js f ∧ Tri K T H0 B' C (f ρi) tb { D with nx := Nxt K T H0 B' C (I (i + 1)), ct := Nxt K T H0 B' C (I (i + 1)), bk := D.nx })
    (hd : ∀ ρn, I items.length ρn → Tri K T H0 B C ρn tNext D) : Tri K T H0 B C ρ (tFor wi g tb) D := fun σ H ⟨S, gd⟩ => by
  refine hi H0 B C H S σ gd _ fun J H2 e fd => ?_
  have g2 := (gd.ex e)
  have hB : Kp B (hide H2 S) := g2.see
  refine ⟨fun i m σ H => m = items.length - i ∧ i ≤ items.length ∧ Nxt K T H0 (hide H2 S) C (I i) σ H, ⟨items.length, by simp, Nat.zero_le _, ρ, h0, S, g2.rebase⟩, ?_⟩
  rintro i m σ H ⟨rfl, hil, ρi, hI, S', g'⟩
  obtain ⟨f1, f2⟩ := fd i H S' g'.see g'.lst
  by_cases hlt : i < items.length
  · obtain ⟨go, yl⟩ := f1 items[i] (List.getElem?_eq_getElem hlt)
    refine .inr ⟨go, Nxt K T H0 (hide H2 S) C (I (i + 1)), fun σ' H' n => ⟨items.length - (i + 1), by omega, rfl, hlt, n⟩, fun x H' hy => ?_⟩
    obtain ⟨ex, dx⟩ := yl x H' hy
    obtain ⟨js, f, tg, tr⟩ := hs (hide H2 S) i _ ρi hB (List.getElem?_eq_getElem hlt) hI
    exact tg H0 _ C H' S' σ ρi x (g'.ex ex) dx _ fun σ' gf _ => tr σ' H' ⟨S', gf⟩
  · have e1 : i = items.length := by omega
    subst e1
    exact .inl ⟨f2 (Nat.le_refl _), hd ρi hI σ H ⟨S', g'.unbase hB gd.bno⟩⟩
theorem q_forG (hi : IterD K T wi ρ items) (I : Nat → List Slot → Prop) (h0 : I 0 ρ)
    (hs : ∀ (B' : Hp) (i : Nat) (d : PyData) (ρi : List Slot), Kp B B' → items[i]? = some d → I i ρi → ∃ js f, TgD K T g d js f ∧ Tri K T H0 B' C (f ρi) tb { D with nx := Nxt K T H0 B' C (I (i + 1)), ct := Nxt K T H0 B' C (I (i + 1)), bk := tz D })
    (hd : ∀ ρn, I items.length ρn → Tri K T H0 B C ρn tz D) : Tri K T H0 B C ρ (tSeq (tFor wi g tb) tz) D := s_seq (s_forG (D := { D with nx := tz D }) hi I h0 hs hd)
/-- the slots behind i turns are told -/
theorem Le.set {a b : List Slot} (h : Le a b) : ∀ (j : Nat) (s : Slot), Le (a.set j s) (b.set j s) := by
  induction h with
  | nil => intro j s; exact .nil
  | no h ih =>
    intro j s
    cases j with
    | zero => exact .eq h
    | succ j => exact .no (ih j s)
  | eq h ih =>
    intro j s
    cases j with
    | zero => exact .eq h
    | succ j => exact .eq (ih j s)
theorem s_end {D : Ends} {ρ' : List Slot} (hD : D.nx = Nxt K T H0 B C (Le ρ')) (l : Le ρ' ρ) : Tri K T H0 B C ρ tNext D := s_nxt l (Le.refl _) hD
theorem s_endC {D : Ends} {ρ' : List Slot} (hD : D.ct = Nxt K T H0 B C (Le ρ')) (l : Le ρ' ρ) : Tri K T H0 B C ρ tCont D := s_cont l (Le.refl _) hD
theorem s_for {j : Nat} (hi : IterD K T wi ρ items) (R : Nat → List Slot) (h0 : Le (R 0) ρ)
    (hs : ∀ (B' : Hp) (i : Nat) (d : PyData), Kp B B' → items[i]? = some d → Tri K T H0 B' C ((R i).set j (.dat d)) tb { D with nx := Nxt K T H0 B' C (Le (R (i + 1))), ct := Nxt K T H0 B' C (Le (R (i + 1))), bk := D.nx })
    (hd : Tri K T H0 B C (R items.length) tNext D) : Tri K T H0 B C ρ (tFor wi (gName j) tb) D :=
  s_forG hi (fun i ρ' => Le (R i) ρ') h0 (fun B' i d ρi hB hd hI => ⟨[j], _, tg_name, s_weak (hI.set j _) (hs B' i d hB hd)⟩) fun ρn hI => s_weak hI hd
theorem q_for {j : Nat} (hi : IterD K T wi ρ items) (R : Nat → List Slot) (h0 : Le (R 0) ρ)
    (hs : ∀ (B' : Hp) (i : Nat) (d : PyData), Kp B B' → items[i]? = some d → Tri K T H0 B' C ((R i).set j (.dat d)) tb { D with nx := Nxt K T H0 B' C (Le (R (i + 1))), ct := Nxt K T H0 B' C (Le (R (i + 1))), bk := tz D })
    (hd : Tri K T H0 B C (R items.length) tz D) : Tri K T H0 B C ρ (tSeq (tFor wi (gName j) tb) tz) D := s_seq (s_for (D := { D with nx := tz D }) hi R h0 hs hd)
/-- any target: what it makes of the slots is told -/
theorem s_forT (hi : IterD K T wi ρ items) (R : Nat → List Slot) (h0 : Le (R 0) ρ)
    (hs : ∀ (B' : Hp) (i : Nat) (d : PyData), Kp B B' → items[i]? = some d → ∃ js f, TgD K T g d js f ∧ (∀ a b, Le a b → Le (f a) (f b)) ∧ Tri K T H0 B' C (f (R i)) tb { D with nx := Nxt K T H0 B' C (Le (R (i + 1))), ct := Nxt K T H0 B' C (Le (R (i + 1))), bk := D.nx })
    (hd : Tri K T H0 B C (R items.length) tNext D) : Tri K T H0 B C ρ (tFor wi g tb) D :=
  s_forG hi (fun i ρ' => Le (R i) ρ') h0 (fun B' i d ρi hB hd hI => let ⟨js, f, h1, h2, h3⟩ := hs B' i d hB hd; ⟨js, f, h1, s_weak (h2 _ _ hI) h3⟩) fun ρn hI => s_weak hI hd
theorem q_forT (hi : IterD K T wi ρ items) (R : Nat → List Slot) (h0 : Le (R 0) ρ)
    (hs : ∀ (B' : Hp) (i : Nat) (d : PyData), Kp B B' → items[i]? = some d → ∃ js f, TgD K T g d js f ∧ (∀ a b, Le a b → Le (f a) (f b)) ∧ Tri K T H0 B' C (f (R i)) tb { D with nx := Nxt K T H0 B' C (Le (R (i + 1))), ct := Nxt K T H0 B' C (Le (R (i + 1))), bk := tz D })
    (hd : Tri K T H0 B C (R items.length) tz D) : Tri K T H0 B C ρ (tSeq (tFor wi g tb) tz) D := s_seq (s_forT (D := { D with nx := tz D }) hi R h0 hs hd)
end

/-! ### list comprehensions -/
def wipeS (ρ : List Slot) : List Nat → List Slot
  | [] => ρ
  | v :: vs => (wipeS ρ vs).set v .no
section
variable {K : PySem.W.Frag} {T : Tb} {H0 B : Hp} {C : List Addr} {H H' : Hp} {S : List Addr} {σ : St} {ρ : List Slot}
theorem Gd.no (g : Gd K T H0 B C H S σ ρ) (i : Nat) : Gd K T H0 B C H S (σ.set i none) (ρ.set i .no) where
  ext := g.ext
  vis := g.vis
  bno := g.bno
  hid := g.hid
  lst := g.lst
  sub := g.sub
  cl := g.cl
  len := by rw [List.length_set, List.length_set]; exact g.len
  dat := fun j d e => by
    by_cases z : i = j
    · subst z; cases set_get e
    · rw [List.getElem?_set_ne z] at e ⊢
      exact g.dat j d e
  scr := fun j d e => by
    by_cases z : i = j
    · subst z; cases set_get e
    · rw [List.getElem?_set_ne z] at e ⊢
      exact g.scr j d e
  raw := fun j d e => by
    by_cases z : i = j
    · subst z; cases set_get e
    · rw [List.getElem?_set_ne z] at e ⊢
      exact g.raw j d e
  own := fun j d e => by
    by_cases z : i = j
    · subst z; cases set_get e
    · rw [List.getElem?_set_ne z] at e ⊢
      exact g.own j d e
  sep := fun a b ds es p ha hb sa sb => by
    have za : i ≠ a := fun z => by subst z; cases set_get ha
    have zb : i ≠ b := fun z => by subst z; cases set_get hb
    rw [List.getElem?_set_ne za] at ha sa
    rw [List.getElem?_set_ne zb] at hb sb
    exact g.sep a b ds es p ha hb sa sb
theorem Gd.wiped (g : Gd K T H0 B C H S σ ρ) : ∀ vs : List Nat, Gd K T H0 B C H S (wipe σ vs) (wipeS ρ vs)
  | [] => g
  | v :: vs => (g.wiped vs).no v
/-- a hidden list that no name owns -/
def NotMine (σ : St) (ρ : List Slot) (p : Addr) : Prop := ∀ (i : Nat) (ds : List PyData), ρ[i]? = some (.own ds) → σ[i]? ≠ some (some (.ref p))
theorem Gd.lay (g : Gd K T H0 B C H S σ ρ) {p : Addr} {xs : List V} (hp : H p = none) : Gd K T H0 B C (upd H p (.lst xs)) (p :: S) σ ρ ∧ NotMine σ ρ p := by
  have e : Ext T H (upd H p (.lst xs)) := .new hp
  have fr : Fresh H p := .of hp
  have eh := hide_new (H := H) (S := S) (o := .lst xs) fr
  refine ⟨{ ext := g.ext.trans e, vis := g.vis.trans e.kp, bno := g.bno, hid := fun q hq => ?_, lst := fun q hq => ?_, sub := fun c hc => List.mem_cons_of_mem _ (g.sub c hc), cl := g.cl, len := g.len, dat := fun i d h => ?_, scr := fun i d h => ?_, raw := g.raw, own := fun i d h => ?_, sep := g.sep }, ?_⟩
  · rcases List.mem_cons.mp hq with z | z
    · subst z; exact g.bnone fr
    · exact g.hid q z
  · rcases List.mem_cons.mp hq with z | z
    · subst z; exact ⟨xs, upd_same⟩
    · exact g.lst.kp e.kp q z
  · rw [eh]; exact g.dat i d h
  · rw [eh]; exact g.scr i d h
  · rw [eh]
    obtain ⟨q, ys, a, b, c, d, f⟩ := g.own i d h
    exact ⟨q, ys, a, List.mem_cons_of_mem _ b, c, e.kp q _ d rfl, f⟩
  · intro i ds h z
    obtain ⟨q, ys, a, b, c, d, f⟩ := g.own i ds h
    rw [z] at a
    cases a
    rw [hp] at d
    cases d
theorem Gd.poke (g : Gd K T H0 B C H S σ ρ) {p : Addr} {xs ys : List V} (hm : p ∈ S) (h0 : Fresh H0 p) (hn : NotMine σ ρ p) (hp : H p = some (.lst xs)) : Gd K T H0 B C (upd H p (.lst ys)) S σ ρ := by
  have eh : hide (upd H p (.lst ys)) S = hide H S := hide_upd hm
  have keep : ∀ b o, H b = some o → b ≠ p → (upd H p (.lst ys)) b = some o := fun b o e z => by rw [upd_ne z]; exact e
  exact {
    ext := ⟨fun b o e n => keep b o (g.ext.kp b o e n) (fun z => by subst z; rw [h0 o e] at n; cases n), fun t => tabs_lst hp (g.ext.tb t)⟩
    vis := fun b o e n => keep b o (g.vis b o e n) (fun z => by subst z; rw [g.hid _ hm] at e; cases e)
    bno := g.bno
    hid := g.hid
    lst := fun q hq => by
      by_cases z : q = p
      · subst z; exact ⟨ys, upd_same⟩
      · obtain ⟨zs, e⟩ := g.lst q hq
        exact ⟨zs, keep q _ e z⟩
    sub := g.sub
    cl := g.cl
    len := g.len
    dat := fun j d q => by rw [eh]; exact g.dat j d q
    scr := fun j d q => by rw [eh]; exact g.scr j d q
    raw := g.raw
    own := fun j fs q => by
      rw [eh]
      obtain ⟨q', zs, b1, b2, b3, b4, b5⟩ := g.own j fs q
      refine ⟨q', zs, b1, b2, b3, keep q' _ b4 (fun w => ?_), b5⟩
      subst w
      exact hn j fs q b1
    sep := g.sep }
theorem notMine_wipe {p : Addr} (h : NotMine σ ρ p) : ∀ vs : List Nat, NotMine (wipe σ vs) (wipeS ρ vs) p
  | [] => h
  | v :: vs => fun i ds e z => by
    have ih := notMine_wipe h vs
    by_cases w : v = i
    · subst w
      cases set_get (show ((wipeS ρ vs).set v .no)[v]? = some (.own ds) from e)
    · have e' : ((wipeS ρ vs).set v .no)[i]? = some (.own ds) := e
      have z' : ((wipe σ vs).set v none)[i]? = some (some (.ref p)) := z
      rw [List.getElem?_set_ne w] at e' z'
      exact ih i ds e' z'
variable {wi : TI} {g : TG} {tt : TT} {te : TE} {vs : List Nat} {items : List PyData}
theorem ef_lc (F : PyData → Option PyData) (hi : IterD K T wi ρ items) (hz : items.length ≤ 1000000)
    (hs : ∀ (i : Nat) (d : PyData), items[i]? = some d → ∃ js f b, TgD K T g d js f ∧ (∀ j ∈ js, j ∈ vs) ∧ EvT K T tt (f (wipeS ρ vs)) b ∧ (b = true → ∃ y, F d = some y ∧ Ev K T te (f (wipeS ρ vs)) y) ∧ (b = false → F d = none)) :
    EvF K T (tLc wi g tt te vs) ρ (items.filterMap F) := fun H0 B C H S σ gd Q hQ => by
  refine hi H0 B C H S σ gd _ fun J H1 e1 fd => ?_
  intro D hD
  have g1 := gd.ex e1
  obtain ⟨gl, nm⟩ := g1.lay (xs := []) hD
  have gw := gl.wiped vs
  have nw := notMine_wipe nm vs
  have frD : Fresh H D := (Fresh.of hD).back e1.kp
  have fr0 : Fresh H0 D := frD.back gd.ext.kp
  have sees : Kp (hide H1 S) (hide (upd H1 D (.lst [])) (D :: S)) := by rw [hide_new (.of hD)]; exact .refl _
  refine ⟨fun i m Hc => m = items.length - i ∧ i ≤ items.length ∧ ∃ acc, Gd K T H0 B C Hc (D :: S) (wipe σ vs) (wipeS ρ vs) ∧ Ext T H Hc ∧ Kp (hide H1 S) (hide Hc (D :: S)) ∧ Hc D = some (.lst acc) ∧ DtAll K (hide Hc (D :: S)) acc ((items.take i).filterMap F), ⟨items.length, by simp, Nat.zero_le _, [], gw, e1.trans (.new hD), sees, upd_same, .nil⟩, ?_⟩
  rintro i m Hc ⟨rfl, hil, acc, gc, ec, sc, hc, dc⟩
  obtain ⟨f1, f2⟩ := fd i Hc (D :: S) sc gc.lst
  by_cases hlt : i < items.length
  · obtain ⟨go, yl⟩ := f1 items[i] (List.getElem?_eq_getElem hlt)
    have htk : items.take (i + 1) = items.take i ++ [items[i]] := (List.take_append_getElem hlt).symm
    refine .inr ⟨go, fun Hn => ∃ acc, Gd K T H0 B C Hn (D :: S) (wipe σ vs) (wipeS ρ vs) ∧ Ext T H Hn ∧ Kp (hide H1 S) (hide Hn (D :: S)) ∧ Hn D = some (.lst acc) ∧ DtAll K (hide Hn (D :: S)) acc ((items.take (i + 1)).filterMap F), fun Hn hn => ⟨items.length - (i + 1), by omega, rfl, hlt, hn⟩, fun x H' hy => ?_⟩
    obtain ⟨ex, dx⟩ := yl x H' hy
    obtain ⟨js, f, b, tg, hj, ht, h1, h2⟩ := hs i _ (List.getElem?_eq_getElem hlt)
    refine tg H0 B C H' (D :: S) (wipe σ vs) (wipeS ρ vs) x (gc.ex ex) dx _ fun σ2 g2 w2 => ⟨?_, ?_⟩
    · have ww : wipe (wipe σ vs) vs = wipe σ vs := by
        have key : ∀ ws : List Nat, (∀ v ∈ ws, v ∈ vs) → wipe (wipe σ ws) vs = wipe σ vs := fun ws => by
          induction ws with
          | nil => intro _; rfl
          | cons v ws ih =>
            intro hv
            show wipe ((wipe σ ws).set v none) vs = wipe σ vs
            rw [wipe_set (hv v (List.mem_cons_self ..)), ih fun u hu => hv u (List.mem_cons_of_mem _ hu)]
        exact key vs fun v hv => hv
      rw [w2 vs hj, ww]
    · refine ht H0 B C H' (D :: S) σ2 g2 _ fun H3 e3 => ?_
      have g3 := g2.ex e3
      have ec3 : Ext T Hc H3 := ex.trans e3
      cases b with
      | true =>
        obtain ⟨y, hF, hy'⟩ := h1 rfl
        refine iteT (hy' H0 B C H3 (D :: S) σ2 g3 _ fun v H4 e4 dv => ?_)
        have ec4 := ec3.trans e4
        have hD4 : H4 D = some (.lst acc) := ec4.kp D _ hc rfl
        have gc4 := (gc.ex ec4)
        have dc4 := dc.kp (ec4.kp.hide (D :: S))
        refine ⟨acc, hD4, ?_, acc ++ [v], ?_, ?_, ?_, upd_same, ?_⟩
        · have q := dc.len
          have q2 : ((items.take i).filterMap F).length ≤ (items.take i).length := List.length_filterMap_le ..
          have q3 : (items.take i).length ≤ items.length := by rw [List.length_take]; omega
          have q4 : (1000000 : Nat) < sizeLine := by decide
          omega
        · exact gc4.poke (List.mem_cons_self ..) fr0 nw hD4
        · have q := ec.trans ec4
          exact ⟨fun b o hb n => by
            have hb' := q.kp b o hb n
            rw [upd_ne (fun z => by subst z; rw [frD o hb] at n; cases n)]
            exact hb', fun t => tabs_lst hD4 (q.tb t)⟩
        · rw [hide_upd (List.mem_cons_self ..)]
          exact sc.trans (ec4.kp.hide _)
        · rw [hide_upd (List.mem_cons_self ..), htk, List.filterMap_append]
          have : List.filterMap F [items[i]] = [y] := by simp [hF]
          rw [this]
          exact dc4.app (.cons dv .nil)
      | false =>
        refine iteF ⟨acc, gc.ex ec3, ec.trans ec3, sc.trans (ec3.kp.hide _), ec3.kp D _ hc rfl, ?_⟩
        rw [htk, List.filterMap_append]
        have : List.filterMap F [items[i]] = [] := by simp [h2 rfl]
        rw [this, List.append_nil]
        exact dc.kp (ec3.kp.hide _)
  · have e0 : i = items.length := by omega
    subst e0
    rw [List.take_length] at dc
    exact .inl ⟨f2 (Nat.le_refl _), hQ D acc Hc ec frD hc dc⟩
/-- without a test -/
theorem ef_lcM (F : PyData → PyData) (hi : IterD K T wi ρ items) (hz : items.length ≤ 1000000)
    (hs : ∀ (i : Nat) (d : PyData), items[i]? = some d → ∃ js f, TgD K T g d js f ∧ (∀ j ∈ js, j ∈ vs) ∧ Ev K T te (f (wipeS ρ vs)) (F d)) :
    EvF K T (tLc wi g tYes te vs) ρ (items.map F) := by
  have q := ef_lc (K := K) (T := T) (wi := wi) (g := g) (tt := tYes) (te := te) (vs := vs) (ρ := ρ) (items := items) (fun d => some (F d)) hi hz (fun i d h => by
    obtain ⟨js, f, h1, h2, h3⟩ := hs i d h
    exact ⟨js, f, true, h1, h2, et_yes, fun _ => ⟨F d, rfl, h3⟩, fun z => by cases z⟩)
  rw [show items.filterMap (fun d => some (F d)) = items.map F from by rw [List.filterMap_eq_map']] at q
  exact q
end

/-! ### defs -/
/-- a def of the text behind the top -/
abbrev FnP (K : PySem.W.Frag) (x : Str) (st : Stmt) (dvs : List V) (f : Addr) (fd : FuncData) : Prop := FunD K x x (defArgs st) (defBody st) (defScope st) dvs [] f fd
section
variable {P : Program} {w : World} {K : PySem.W.Frag} {T : Tb} {mg : Str → Option Value} {base : Heap}
def slots (n : Nat) (ds : List PyData) : List Slot := ds.map Slot.dat ++ List.replicate (n - ds.length) .no
theorem gd_start {H : Hp} {S : List Addr} {vs : List V} {ds : List PyData} {N : List Str} (l : Lsts H S) (h : DtAll K (hide H S) vs ds) : Gd K T H (hide H S) S H S (start N vs) (slots N.length ds) where
  ext := .refl T H
  vis := hide_kp H S
  bno := fun b o h => (hide_some.mp h).2.2
  hid := fun p hp => hide_mem hp
  lst := l
  sub := fun c hc => hc
  cl := l
  len := by unfold L2.start slots; simp [h.len]
  dat := fun i d e => by
    unfold slots at e
    unfold L2.start
    by_cases hi : i < ds.length
    · rw [List.getElem?_append_left (by rw [List.length_map]; exact hi), List.getElem?_map] at e
      cases q : ds[i]? with
      | none => rw [q] at e; cases e
      | some d' =>
        rw [q] at e
        cases e
        obtain ⟨v, hv, dv⟩ := h.get q
        refine ⟨v, ?_, dv⟩
        rw [List.getElem?_append_left (by rw [List.length_map, h.len]; exact hi), List.getElem?_map, hv]
        rfl
    · rw [List.getElem?_append_right (by rw [List.length_map]; omega)] at e
      have := List.mem_of_getElem? e
      have := (List.mem_replicate.mp this).2
      cases this
  scr := fun i d e => by
    unfold slots at e
    have := List.mem_of_getElem? e
    rcases List.mem_append.mp this with z | z
    · obtain ⟨_, _, z⟩ := List.mem_map.mp z; cases z
    · have := (List.mem_replicate.mp z).2; cases this
  own := fun i d e => by
    unfold slots at e
    have := List.mem_of_getElem? e
    rcases List.mem_append.mp this with z | z
    · obtain ⟨_, _, z⟩ := List.mem_map.mp z; cases z
    · have := (List.mem_replicate.mp z).2; cases this
  raw := fun i d e => by
    unfold slots at e
    have := List.mem_of_getElem? e
    rcases List.mem_append.mp this with z | z
    · obtain ⟨_, _, z⟩ := List.mem_map.mp z; cases z
    · have := (List.mem_replicate.mp z).2; cases this
  sep := fun i j d es p e => by
    unfold slots at e
    have := List.mem_of_getElem? e
    rcases List.mem_append.mp this with z | z
    · obtain ⟨_, _, z⟩ := List.mem_map.mp z; cases z
    · have := (List.mem_replicate.mp z).2; cases this
/-- THE RULE: a def that raises nothing -/
theorem fnR {x : Str} {st : Stmt} {dvs : List V} {f : Addr} {fd : FuncData} {N ps : List Str} {k : Nat} {R : List PyData → PyData → Prop} (F : FnP K x st dvs f fd) (S : FnScope N ps (defScope st)) (len : ∀ ds r, R ds r → ds.length = ps.length)
    (hbody : ∀ (cdv : Value) (A : Around) (outer : List Env) (s : Shared) (H : Hp) (E : XK), Room k (A.deeper (PyProof.Rows.envOfC x (defScope st) s.heap.objs.size f cdv)) →
      ∃ t, PSs (cxOf CX0 P w K mg base N x (defScope st) f cdv A outer s H E).nox (defBody st) t ∧ ∀ ds r, R ds r → ∀ (H0 : Hp) (C : List Addr) (D : Ends), Rt K T H0 C D.rt r → (∀ σ H', Ext T H0 H' → r = .none → D.nx σ H') → Tri K T H0 (hide H0 C) C (slots N.length ds) t D) :
    FnOk P w K mg base CX0 (k + 1) f fd ps (spR K T R) := by
  refine F.ok S (fun vs H Q E h => ?_) (fun cdv A outer s H vs Q E hr h => ?_)
  · obtain ⟨ds, r, S', l, hd, hR, _⟩ := h
    rw [hd.len]
    exact len ds r hR
  · obtain ⟨ds, r, S', l, hd, hR, hq⟩ := h
    obtain ⟨t, pt, tr⟩ := hbody cdv A outer s H E hr
    refine ⟨t, pt.nox, ?_⟩
    refine tr ds r hR H S' _ (fun v H' e dv => hq v H' e dv) (fun σ H' e z => hq _ H' e (by rw [z]; exact .non)) _ _ ⟨S', gd_start l hd⟩
end
end Lw
set_option Elab.async false
set_option linter.all false
set_option maxRecDepth 100000
set_option maxHeartbeats 4000000
set_option autoImplicit false
/-! Lw, part D: calls of defs by one word, built-ins' names, sizes of numbers. -/
namespace Lw
open PySem L2
/-- a def that can be called: at which level, by which promise (dvs: the defaults that fill up) -/
structure Cal (P : Program) (w : World) (K : PySem.W.Frag) (mg : Str → Option Value) (base : Heap) (k : Nat) (x : Str) (ps : List Str) (dvs : List V) (sp : Sp) : Prop where
  ex : ∃ (f : Addr) (fd : FuncData) (ds : List Value), FnOk P w K mg base CX0 k f fd ps sp ∧ mg x = some (.ref f) ∧ PySem.W.keepIn K (.ref f) = true ∧ Binds K fd ps ds ∧ Vals dvs ds
section
variable {X : Cx} {k j : Nat} {x : Str} {ps : List Str} {dvs : List V} {sp : Sp} {p pos : Pos} {e : Expr} {es : List Expr} {t : TA}
theorem pe_callC (c : Cal X.prog X.w X.K X.mg X.base k x ps dvs sp) (hr : Room j X.A) (hg : Gl X x) (ha : PA X (e :: es) t) (hk : k ≤ j := by decide) (hdb : (x == ("__debug__" : Str)) = false := by decide)
    (he : starEach (e :: es) X.env = (false, eval e X.env) :: starEach es X.env := by rfl) (hpl : (backTo pos (starEach es X.env)).any (·.1) = false := by rfl) : PE X (.Call (.Name x p) (e :: es) [] pos) (tCall sp dvs E0 t) := by
  obtain ⟨f, fd, ds, G, m, kp, b, v⟩ := c.ex
  exact pe_call G (hr.mono hk) hg m kp b v pass0 ha hdb he hpl
theorem pe_callC0 (c : Cal X.prog X.w X.K X.mg X.base k x ps dvs sp) (hr : Room j X.A) (hg : Gl X x) (hk : k ≤ j := by decide) (hdb : (x == ("__debug__" : Str)) = false := by decide) : PE X (.Call (.Name x p) [] [] pos) (tCall sp dvs E0 tNil) := by
  obtain ⟨f, fd, ds, G, m, kp, b, v⟩ := c.ex
  exact pe_call0 G (hr.mono hk) hg m kp b v pass0 hdb
end
/-- the built-ins' names are nobody's -/
structure Blt (mg : Str → Option Value) : Prop where
  len : mg "len" = none
  range : mg "range" = none
  abs : mg "abs" = none
  int : mg "int" = none
  list : mg "list" = none
  tuple : mg "tuple" = none
  all : mg "all" = none
  any : mg "any" = none
  str : mg "str" = none
  sum : mg "sum" = none
  max : mg "max" = none
  min : mg "min" = none
  zip : mg "zip" = none
  enumerate : mg "enumerate" = none
  isinstance : mg "isinstance" = none
  sorted : mg "sorted" = none
  reversed : mg "reversed" = none
  bool : mg "bool" = none
  ValueError : mg "ValueError" = none
  ZeroDivisionError : mg "ZeroDivisionError" = none
/-! ### a list unpacked into names -/
section
variable {K : PySem.W.Frag} {T : Tb} {H0 B : Hp} {C : List Addr} {ρ : List Slot} {te : TE} {tz : TS} {D : Ends}
theorem tg_unl {u : TGs} {ds : List PyData} {js : List Nat} {f : List Slot → List Slot} {n : Nat} (h : TgDs K T u ds js f) (hn : ds.length = n) : TgD K T (gUnl K n u) (.list ds) js f := fun H0 B C H S σ ρ v g dv Q hQ => by
  cases dv with
  | lst h1 a1 => exact ⟨_, _, rfl, SqL.of (hide_get h1), a1.len.trans hn, h H0 B C H S σ ρ _ g a1 Q hQ⟩
/-- any target -/
theorem s_asgT {g : TG} {d : PyData} {js : List Nat} {f : List Slot → List Slot} (h : Ev K T te ρ d) (hg : TgD K T g d js f) (k : Tri K T H0 B C (f ρ) tNext D) : Tri K T H0 B C ρ (tAsg te g) D := fun σ H ⟨S, gd⟩ =>
  h H0 B C H S σ gd _ fun v H2 e dv => hg H0 B C H2 S σ ρ v (gd.ex e) dv _ fun σ' g' _ => k σ' H2 ⟨S, g'⟩
theorem q_asgT {g : TG} {d : PyData} {js : List Nat} {f : List Slot → List Slot} (h : Ev K T te ρ d) (hg : TgD K T g d js f) (k : Tri K T H0 B C (f ρ) tz D) : Tri K T H0 B C ρ (tSeq (tAsg te g) tz) D := s_seq (s_asgT h hg (s_to k))
end
/-! ### sizes -/
/-- below 2 ^ n in size -/
def Bt (n : Nat) (i : Int) : Prop := i.natAbs < 2 ^ n
theorem Bt.mono {n m : Nat} {i : Int} (h : Bt n i) (l : n ≤ m) : Bt m i := Nat.lt_of_lt_of_le h (Nat.pow_le_pow_right (by decide) l)
theorem Bt.mul {n m : Nat} {i j : Int} (h : Bt n i) (h' : Bt m j) : Bt (n + m) (i * j) := by
  unfold Bt at *
  rw [Int.natAbs_mul, Nat.pow_add]
  exact Nat.mul_lt_mul'' h h'
theorem Bt.add {n : Nat} {i j : Int} (h : Bt n i) (h' : Bt n j) : Bt (n + 1) (i + j) := by
  unfold Bt at *
  rw [Nat.pow_succ]
  omega
theorem Bt.sub {n : Nat} {i j : Int} (h : Bt n i) (h' : Bt n j) : Bt (n + 1) (i - j) := by
  unfold Bt at *
  rw [Nat.pow_succ]
  omega
theorem Bt.neg {n : Nat} {i : Int} (h : Bt n i) : Bt n (-i) := by
  unfold Bt at *
  omega
theorem Bt.le {n : Nat} {i j : Int} (h : Bt n i) (l : j.natAbs ≤ i.natAbs) : Bt n j := Nat.lt_of_le_of_lt l h
theorem Bt.log {n : Nat} {i : Int} (h : Bt n i) (h0 : 0 < n) : i.natAbs.log2 < n := by
  rcases Nat.eq_zero_or_pos i.natAbs with z | z
  · rw [z]; exact h0
  · exact (Nat.log2_lt (Nat.ne_of_gt z)).mpr h
theorem Bt.bits {n : Nat} {i : Int} (h : Bt n i) : Builtin.Int.intBits i ≤ n := by
  unfold Builtin.Int.intBits
  split
  · exact Nat.zero_le _
  · rename_i hz
    have z : i.natAbs ≠ 0 := by
      intro e
      apply hz
      have : i = 0 := Int.natAbs_eq_zero.mp e
      rw [this]; rfl
    have : i.natAbs.log2 < n := (Nat.log2_lt z).mpr h
    omega
theorem mulOk {n m : Nat} {i j : Int} (h : Bt n i) (h' : Bt m j) (l : n + m ≤ 100000000) : IntMulOk i j := by
  unfold IntMulOk
  intro z
  have b1 := h.bits
  have b2 := h'.bits
  rw [Bool.and_eq_true] at z
  have z2 := z.2
  unfold Builtin.Int.intTooBig at z2
  have z3 := of_decide_eq_true z2
  have : bitsLine = 134217728 := by decide
  rw [this] at z3
  omega
theorem mulOkL {i j : Int} (h : i.natAbs < 18446744073709551616) : IntMulOk i j := .of_left (intBits_le_64 (by omega) (by omega))
theorem mulOkR {i j : Int} (h : j.natAbs < 18446744073709551616) : IntMulOk i j := .of_right (intBits_le_64 (by omega) (by omega))
theorem fdOk {n : Nat} {i j : Int} (h0 : j ≠ 0) (h : Bt n j) (l : n ≤ 9000) : CFd i j := ⟨h0, PyProof.noPylong_of_log2 (Nat.lt_of_lt_of_le ((Nat.log2_lt (fun z => h0 (Int.natAbs_eq_zero.mp z))).mpr h) l)⟩
theorem cpowOk {i j : Int} (h : 0 ≤ j ∧ j ≤ 1000000 ∧ i.natAbs < 18446744073709551616) : CPow i j := h
theorem fdOkS {i j : Int} (h0 : j ≠ 0) (h : j.natAbs < 1073741824) : CFd i j := ⟨h0, PyProof.noPylong_small h⟩
end Lw
set_option Elab.async false
set_option linter.all false
set_option maxRecDepth 100000
set_option maxHeartbeats 4000000
set_option autoImplicit false
/-! Lw, part R: parts as rational numbers. -/
namespace Lw
open PySem L2
/-- a part -/
def encR (q : Rat) : PyData := .tuple [.int q.num, .int (q.den : Int)]
/-- both numbers below 2 ^ n -/
def Sz (n : Nat) (q : Rat) : Prop := q.num.natAbs < 2 ^ n ∧ q.den < 2 ^ n
theorem Sz.mono {n m : Nat} {q : Rat} (h : Sz n q) (l : n ≤ m) : Sz m q := ⟨Nat.lt_of_lt_of_le h.1 (Nat.pow_le_pow_right (by decide) l), Nat.lt_of_lt_of_le h.2 (Nat.pow_le_pow_right (by decide) l)⟩
theorem Sz.num {n : Nat} {q : Rat} (h : Sz n q) : Bt n q.num := h.1
theorem Sz.den {n : Nat} {q : Rat} (h : Sz n q) : Bt n (q.den : Int) := by
  show ((q.den : Int)).natAbs < 2 ^ n
  rw [Int.natAbs_natCast]
  exact h.2
theorem eqv_encR (a b : Rat) : PyData.eqv (encR a) (encR b) = decide (a = b) := by
  unfold encR
  simp only [PyData.eqv, PyData.eqvAll, Bool.and_true]
  by_cases h : a = b
  · subst h; simp
  · rw [decide_eq_false h]
    by_cases h1 : a.num = b.num
    · have h2 : ¬ (a.den : Int) = (b.den : Int) := fun z => h (Rat.ext h1 (Int.ofNat.inj z))
      simp [h1, h2]
    · simp [h1]
theorem rv_ixP0 {K : PySem.W.Frag} {T : Tb} {q : Rat} : RV K T (rIx K) (encR q) (.int 0) (.int q.num) := rv_ixT (ds := [.int q.num, .int (q.den : Int)]) rfl
theorem rv_ixP1 {K : PySem.W.Frag} {T : Tb} {q : Rat} : RV K T (rIx K) (encR q) (.int 1) (.int (q.den : Int)) := rv_ixT (ds := [.int q.num, .int (q.den : Int)]) rfl
theorem eqv_int (i j : Int) : PyData.eqv (.int i) (.int j) = decide (i = j) := by
  show (i == j) = decide (i = j)
  by_cases h : i = j <;> simp [h]
theorem shaped_int (i : Int) : SeqAt.shaped (.int i) = true := rfl
theorem shaped_encR (a : Rat) : SeqAt.shaped (encR a) = true := by
  unfold encR SeqAt.shaped
  simp [PyData.canLay0, PyData.canLayAll0, PyData.depth, PyData.depthAll]
/-- less, the same, greater -/
def ordR (a b : Rat) : Int := if b < a then 1 else if a < b then -1 else 0
theorem ord_num (a b : Rat) : (if 0 < a.num * (b.den : Int) - b.num * (a.den : Int) then (1 : Int) else 0) - (if a.num * (b.den : Int) - b.num * (a.den : Int) < 0 then (1 : Int) else 0) = ordR a b := by
  unfold ordR
  have h1 := Rat.lt_iff a b
  have h2 := Rat.lt_iff b a
  by_cases c1 : b < a
  · have d1 := h2.mp c1
    rw [if_pos c1, if_pos (by omega), if_neg (by omega)]
    rfl
  · have d1 : ¬ b.num * (a.den : Int) < a.num * (b.den : Int) := fun z => c1 (h2.mpr z)
    by_cases c2 : a < b
    · have d2 := h1.mp c2
      rw [if_neg c1, if_pos c2, if_neg (by omega), if_pos (by omega)]
      rfl
    · have d2 : ¬ a.num * (b.den : Int) < b.num * (a.den : Int) := fun z => c2 (h1.mpr z)
      rw [if_neg c1, if_neg c2, if_neg (by omega), if_neg (by omega)]
      rfl
/-! ### the greatest number that goes into two -/
theorem gcd_step {a b : Int} (ha : 0 ≤ a) (hb : 0 < b) : Int.gcd b (a.fmod b) = Int.gcd a b := by
  rw [Int.fmod_eq_emod_of_nonneg a (by omega)]
  obtain ⟨m, rfl⟩ := Int.eq_ofNat_of_zero_le ha
  obtain ⟨n, rfl⟩ := Int.eq_ofNat_of_zero_le (Int.le_of_lt hb)
  rw [← Int.natCast_emod]
  show Nat.gcd n (m % n) = Nat.gcd m n
  rw [Nat.gcd_comm m n, Nat.gcd_rec n m, Nat.gcd_comm]
/-! ### the part of two numbers -/
theorem part_num {u l : Int} (hl : l ≠ 0) : (if l < 0 then -u else u).fdiv ((Int.gcd u l : Nat) : Int) = (Rat.divInt u l).num := by
  have hg : (0 : Int) ≤ ((Int.gcd u l : Nat) : Int) := Int.natCast_nonneg _
  rw [Int.fdiv_eq_ediv_of_nonneg _ hg, Rat.num_divInt, Int.gcd_comm u l]
  congr 1
  by_cases h : l < 0
  · rw [if_pos h, Int.sign_eq_neg_one_of_neg h]; omega
  · rw [if_neg h, Int.sign_eq_one_of_pos (by omega)]; omega
theorem part_den {u l : Int} (hl : l ≠ 0) : (if l < 0 then -l else l).fdiv ((Int.gcd u l : Nat) : Int) = ((Rat.divInt u l).den : Int) := by
  have hg : (0 : Int) ≤ ((Int.gcd u l : Nat) : Int) := Int.natCast_nonneg _
  rw [Int.fdiv_eq_ediv_of_nonneg _ hg, Rat.den_divInt, if_neg hl, Int.gcd_comm u l, Int.natCast_ediv]
  congr 1
  by_cases h : l < 0
  · rw [if_pos h]; omega
  · rw [if_neg h]; omega
theorem gcd_ne {u l : Int} (hl : l ≠ 0) : ((Int.gcd u l : Nat) : Int) ≠ 0 := by
  have := Int.gcd_pos_of_ne_zero_right u hl
  omega
theorem sz_divInt {n : Nat} {u l : Int} (hl : l ≠ 0) (hu : Bt n u) (hb : Bt n l) : Sz n (Rat.divInt u l) := by
  have g0 := Int.gcd_pos_of_ne_zero_right u hl
  refine ⟨?_, ?_⟩
  · rw [← part_num hl, Int.fdiv_eq_ediv_of_nonneg _ (Int.natCast_nonneg _)]
    have h2 : (if l < 0 then -u else u).natAbs = u.natAbs := by split <;> omega
    have h3 : ((if l < 0 then -u else u) / ((Int.gcd u l : Nat) : Int)).natAbs ≤ (if l < 0 then -u else u).natAbs := Int.natAbs_ediv_le_natAbs _ _
    exact Nat.lt_of_le_of_lt (h2 ▸ h3) hu
  · rw [Rat.den_divInt, if_neg hl]
    exact Nat.lt_of_le_of_lt (Nat.div_le_self _ _) hb
theorem add_divInt (a b : Rat) : a + b = Rat.divInt (a.num * b.den + b.num * a.den) (a.den * b.den) := by
  rw [Rat.add_def', ← Rat.divInt_ofNat]; simp
theorem sub_divInt (a b : Rat) : a - b = Rat.divInt (a.num * b.den - b.num * a.den) (a.den * b.den) := by
  rw [Rat.sub_def', ← Rat.divInt_ofNat]; simp
theorem mul_divInt (a b : Rat) : a * b = Rat.divInt (a.num * b.num) (a.den * b.den) := by
  rw [Rat.mul_def', ← Rat.divInt_ofNat]; simp
theorem div_divInt (a b : Rat) : a / b = Rat.divInt (a.num * b.den) (a.den * b.num) := by
  rw [Rat.div_def, Rat.inv_def]
  conv => lhs; rw [← Rat.num_divInt_den a]
  rw [Rat.divInt_mul_divInt]
theorem den_ne (a : Rat) : (a.den : Int) ≠ 0 := by have := a.den_nz; omega
theorem den_pos (a : Rat) : (0 : Int) < (a.den : Int) := by have := a.den_nz; omega
theorem dens_ne (a b : Rat) : (a.den : Int) * (b.den : Int) ≠ 0 := Int.mul_ne_zero (den_ne a) (den_ne b)
theorem sz_add {n m : Nat} {a b : Rat} (ha : Sz n a) (hb : Sz m b) : Sz (n + m + 1) (a + b) := by
  rw [add_divInt]
  refine sz_divInt (dens_ne a b) ?_ ?_
  · exact (ha.num.mul hb.den).add (((hb.num.mul ha.den).mono (by omega)))
  · exact (ha.den.mul hb.den).mono (by omega)
theorem sz_sub {n m : Nat} {a b : Rat} (ha : Sz n a) (hb : Sz m b) : Sz (n + m + 1) (a - b) := by
  rw [sub_divInt]
  refine sz_divInt (dens_ne a b) ?_ ?_
  · exact (ha.num.mul hb.den).sub (((hb.num.mul ha.den).mono (by omega)))
  · exact (ha.den.mul hb.den).mono (by omega)
theorem sz_mul {n m : Nat} {a b : Rat} (ha : Sz n a) (hb : Sz m b) : Sz (n + m) (a * b) := by
  rw [mul_divInt]
  exact sz_divInt (dens_ne a b) (ha.num.mul hb.num) (ha.den.mul hb.den)
theorem num_ne {b : Rat} (h : b ≠ 0) : b.num ≠ 0 := fun z => h (Rat.num_eq_zero.mp z)
theorem sz_div {n m : Nat} {a b : Rat} (ha : Sz n a) (hb : Sz m b) (h : b ≠ 0) : Sz (n + m) (a / b) := by
  rw [div_divInt]
  exact sz_divInt (Int.mul_ne_zero (den_ne a) (num_ne h)) (ha.num.mul hb.den) (ha.den.mul hb.num)
theorem num_pos_iff {q : Rat} : 0 < q.num ↔ 0 < q := by
  have h := Rat.lt_iff 0 q
  simp at h
  exact h.symm
theorem num_neg_iff {q : Rat} : q.num < 0 ↔ q < 0 := by
  have h := Rat.lt_iff q 0
  simp at h
  exact h.symm
end Lw
set_option Elab.async false
set_option linter.all false
set_option maxRecDepth 100000
set_option maxHeartbeats 4000000
set_option autoImplicit false
/-! Lw, part E: defs that get the script; the numbers drawn of it; the law itself. -/
namespace Lw
open PySem L2
/-- arguments: data, a list that is only read (the script) -/
inductive Ar (K : PySem.W.Frag) (H : Hp) : List V → List Slot → Prop
  | nil : Ar K H [] []
  | dat {v : V} {d : PyData} {vs : List V} {ss : List Slot} : Dt K H v d → Ar K H vs ss → Ar K H (v :: vs) (.dat d :: ss)
  | scr {a : Addr} {xs : List V} {ds : List PyData} {vs : List V} {ss : List Slot} : SqL K H a xs → DtAll K H xs ds → Ar K H vs ss → Ar K H (.ref a :: vs) (.scr ds :: ss)
  | raw {v : V} {vs : List V} {ss : List Slot} : Ar K H vs ss → Ar K H (v :: vs) (.raw v :: ss)
section
variable {K : PySem.W.Frag} {T : Tb} {H : Hp}
theorem Ar.len : ∀ {vs : List V} {ss : List Slot}, Ar K H vs ss → vs.length = ss.length := by
  intro vs ss h
  induction h with
  | nil => rfl
  | dat _ _ ih => rw [List.length_cons, List.length_cons, ih]
  | scr _ _ _ ih => rw [List.length_cons, List.length_cons, ih]
  | raw _ ih => rw [List.length_cons, List.length_cons, ih]
theorem Ar.getD {vs : List V} {ss : List Slot} (h : Ar K H vs ss) : ∀ {i : Nat} {d : PyData}, ss[i]? = some (.dat d) → ∃ v, vs[i]? = some v ∧ Dt K H v d := by
  induction h with
  | nil => intro i d e; simp at e
  | dat hd _ ih =>
    intro i d e
    cases i with
    | zero => cases e; exact ⟨_, rfl, hd⟩
    | succ i => exact ih e
  | scr _ _ _ ih =>
    intro i d e
    cases i with
    | zero => cases e
    | succ i => exact ih e
  | raw _ ih =>
    intro i d e
    cases i with
    | zero => cases e
    | succ i => exact ih e
theorem Ar.getS {vs : List V} {ss : List Slot} (h : Ar K H vs ss) : ∀ {i : Nat} {ds : List PyData}, ss[i]? = some (.scr ds) → ∃ a xs, vs[i]? = some (.ref a) ∧ SqL K H a xs ∧ DtAll K H xs ds := by
  induction h with
  | nil => intro i d e; simp at e
  | dat hd _ ih =>
    intro i d e
    cases i with
    | zero => cases e
    | succ i => exact ih e
  | scr h1 h2 _ ih =>
    intro i d e
    cases i with
    | zero => cases e; exact ⟨_, _, rfl, h1, h2⟩
    | succ i => exact ih e
  | raw _ ih =>
    intro i d e
    cases i with
    | zero => cases e
    | succ i => exact ih e
theorem Ar.noOwn {vs : List V} {ss : List Slot} (h : Ar K H vs ss) : ∀ {i : Nat} {ds : List PyData}, ss[i]? ≠ some (.own ds) := by
  induction h with
  | nil => intro i d e; simp at e
  | dat hd _ ih =>
    intro i d e
    cases i with
    | zero => cases e
    | succ i => exact ih e
  | scr h1 h2 _ ih =>
    intro i d e
    cases i with
    | zero => cases e
    | succ i => exact ih e
  | raw _ ih =>
    intro i d e
    cases i with
    | zero => cases e
    | succ i => exact ih e
theorem Ar.getR {vs : List V} {ss : List Slot} (h : Ar K H vs ss) : ∀ {i : Nat} {v : V}, ss[i]? = some (.raw v) → vs[i]? = some v := by
  induction h with
  | nil => intro i d e; simp at e
  | dat hd _ ih =>
    intro i d e
    cases i with
    | zero => cases e
    | succ i => exact ih e
  | scr h1 h2 _ ih =>
    intro i d e
    cases i with
    | zero => cases e
    | succ i => exact ih e
  | raw _ ih =>
    intro i d e
    cases i with
    | zero => cases e; rfl
    | succ i => exact ih e
def slotsA (n : Nat) (ss : List Slot) : List Slot := ss ++ List.replicate (n - ss.length) .no
theorem slotsA_get {n : Nat} {ss : List Slot} {i : Nat} {s : Slot} (e : (slotsA n ss)[i]? = some s) (hs : s ≠ .no) : ss[i]? = some s := by
  unfold slotsA at e
  by_cases hi : i < ss.length
  · rwa [List.getElem?_append_left hi] at e
  · rw [List.getElem?_append_right (by omega)] at e
    have := (List.mem_replicate.mp (List.mem_of_getElem? e)).2
    exact absurd this hs
theorem start_get {N : List Str} {vs : List V} {i : Nat} {v : V} (h : vs[i]? = some v) : (L2.start N vs)[i]? = some (some v) := by
  unfold L2.start
  have hl := (List.getElem?_eq_some_iff.mp h).1
  rw [List.getElem?_append_left (by rw [List.length_map]; exact hl), List.getElem?_map, h]
  rfl
theorem gd_startA {S : List Addr} {vs : List V} {ss : List Slot} {N : List Str} (l : Lsts H S) (h : Ar K (hide H S) vs ss) : Gd K T H (hide H S) S H S (L2.start N vs) (slotsA N.length ss) where
  ext := .refl T H
  vis := hide_kp H S
  bno := fun b o h => (hide_some.mp h).2.2
  hid := fun p hp => hide_mem hp
  lst := l
  sub := fun c hc => hc
  cl := l
  len := by unfold L2.start slotsA; simp [h.len]
  dat := fun i d e => by
    obtain ⟨v, h1, h2⟩ := h.getD (slotsA_get e (fun z => by cases z))
    exact ⟨v, start_get h1, h2⟩
  scr := fun i d e => by
    obtain ⟨a, xs, h1, h2, h3⟩ := h.getS (slotsA_get e (fun z => by cases z))
    exact ⟨a, xs, start_get h1, h2, h3⟩
  own := fun i d e => (h.noOwn (slotsA_get e (fun z => by cases z))).elim
  raw := fun i v e => start_get (h.getR (slotsA_get e (fun z => by cases z)))
  sep := fun i j d es p e => (h.noOwn (slotsA_get e (fun z => by cases z))).elim
/-- a promise of such a def: R ss Post: called so it gives some data of Post -/
def spA (K : PySem.W.Frag) (T : Tb) (R : List Slot → (PyData → Prop) → Prop) : Sp := fun vs H Q _ => ∃ ss Post S, Lsts H S ∧ Ar K (hide H S) vs ss ∧ R ss Post ∧
  ∀ r, Post r → ∀ v H', Ext T H H' → Dt K (hide H' S) v r → Q v H'
theorem fnA {P : Program} {w : World} {mg : Str → Option Value} {base : Heap} {x : Str} {st : Stmt} {dvs : List V} {f : Addr} {fd : FuncData} {N ps : List Str} {k : Nat} {R : List Slot → (PyData → Prop) → Prop} (F : FnP K x st dvs f fd) (S : FnScope N ps (defScope st)) (len : ∀ ss p, R ss p → ss.length = ps.length)
    (hbody : ∀ (cdv : Value) (A : Around) (outer : List Env) (s : Shared) (H : Hp) (E : XK), Room k (A.deeper (PyProof.Rows.envOfC x (defScope st) s.heap.objs.size f cdv)) →
      ∃ t, PSs (cxOf CX0 P w K mg base N x (defScope st) f cdv A outer s H E).nox (defBody st) t ∧ ∀ ss Post, R ss Post → ∀ (H0 : Hp) (C : List Addr) (D : Ends), (∀ r, Post r → Rt K T H0 C D.rt r) → Tri K T H0 (hide H0 C) C (slotsA N.length ss) t D) :
    FnOk P w K mg base CX0 (k + 1) f fd ps (spA K T R) := by
  refine F.ok S (fun vs H Q E h => ?_) (fun cdv A outer s H vs Q E hr h => ?_)
  · obtain ⟨ss, p, S', l, hd, hR, _⟩ := h
    rw [hd.len]
    exact len ss p hR
  · obtain ⟨ss, p, S', l, hd, hR, hq⟩ := h
    obtain ⟨t, pt, tr⟩ := hbody cdv A outer s H E hr
    exact ⟨t, pt.nox, tr ss p hR H S' _ (fun r hr v H' e dv => hq r hr v H' e dv) _ _ ⟨S', gd_startA l hd⟩⟩
variable {ρ : List Slot}
/-- a slice of the script -/
theorem ef_slS {i : Nat} {ds : List PyData} {tl th : TO} {lo hi : Option Int} (h : ρ[i]? = some (.scr ds)) (h1 : EvP K T tl ρ lo) (h2 : EvP K T th ρ hi) : EvF K T (tSl (rSlX K) (tVar i) tl th) ρ (cutD ds lo hi) := fun H0 B C H S σ g Q hQ => by
  obtain ⟨a, xs, a1, a2, a3⟩ := g.scr i ds h
  refine ⟨.ref a, a1, ?_⟩
  refine h1 H0 B C H S σ g _ fun H2 e2 => h2 H0 B C H2 S σ (g.ex e2) _ fun H3 e3 => ?_
  have e23 := e2.trans e3
  refine .inl ⟨a, xs, rfl, (hide_kp H3 S).sql ((e23.kp.hide S).sql a2), fun p hp => ?_⟩
  refine hQ p _ _ (e23.trans (.new hp)) ((Fresh.of hp).back e23.kp) upd_same ?_
  rw [hide_new (.of hp)]
  exact (a3.kp (e23.kp.hide S)).cut lo hi
/-! ### the numbers of a script -/
def Few (xs : List Int) : Prop := ∀ x ∈ xs, 0 ≤ x ∧ x < 9967
def Rnumbers (ss : List Slot) (Post : PyData → Prop) : Prop := ∃ (ns : List Int) (many : Nat), ns.length ≤ 63 ∧ many ≤ 100000 ∧ ss = [.scr (ns.map .int), .dat (.int many)] ∧
  Post = fun r => ∃ xs : List Int, xs.length = many ∧ Few xs ∧ r = .list (xs.map .int)
theorem Few.app {xs ys : List Int} (h : Few xs) (h' : Few ys) : Few (xs ++ ys) := fun x hx => by
  rcases List.mem_append.mp hx with z | z
  · exact h x z
  · exact h' x z
theorem Few.one {x : Int} (h0 : 0 ≤ x) (h1 : x < 9967) : Few [x] := fun y hy => by
  rw [List.mem_singleton.mp hy]
  exact ⟨h0, h1⟩
/-- x = _law_numbers(script, n) -/
theorem q_num {H0 B : Hp} {C : List Addr} {i j many : Nat} {ns : List Int} {E : XK} {tz : TS} {D : Ends} (h : ρ[j]? = some (.scr (ns.map .int))) (hl : ns.length ≤ 63) (hm : many ≤ 100000)
    (k : ∀ xs : List Int, xs.length = many → Few xs → Tri K T H0 B C (ρ.set i (.dat (.list (xs.map .int)))) tz D) :
    Tri K T H0 B C ρ (tSeq (tAsg (tCall (spA K T Rnumbers) [] E (tCons (tVar j) (tCons (tC (.int (many : Int))) tNil))) (gName i)) tz) D := fun σ H ⟨S, g⟩ => by
  obtain ⟨a, xs, a1, a2, a3⟩ := g.scr j _ h
  refine ⟨.ref a, a1, ?_⟩
  refine ⟨[.scr (ns.map .int), .dat (.int many)], _, S, g.lst, .scr a2 a3 (.dat (.int _) .nil), ⟨ns, many, hl, hm, rfl, rfl⟩, ?_⟩
  rintro r ⟨ys, hy, fy, rfl⟩ v H' e dv
  exact k ys hy fy _ _ ⟨S, (g.ex e).set dv⟩
end
/-! ### the law -/
/-- the law's promise -/
def Rlaw (ss : List Slot) (Post : PyData → Prop) : Prop := ∃ ns : List Int, ns.length ≤ 63 ∧ ss = [.scr (ns.map .int)] ∧ Post = fun r => r = .bool true
end Lw
set_option Elab.async false
set_option linter.all false
set_option maxRecDepth 100000
set_option maxHeartbeats 4000000
set_option autoImplicit false
/-! Lw, part F: items of lists of numbers at reckoned places. -/
namespace Lw
open PySem L2
def nthI (xs : List Int) (i : Int) : Int := xs.getD i.toNat 0
theorem atI_in {α : Type} {xs : List α} {i : Int} (h0 : 0 ≤ i) (h1 : i < xs.length) : atI xs i = xs[i.toNat]? := by
  unfold atI ixN
  rw [if_pos h0, if_pos h1]
  rfl
theorem at_nthI {xs : List Int} {i : Int} (h0 : 0 ≤ i) (h1 : i < xs.length) : atI (xs.map PyData.int) i = some (.int (nthI xs i)) := by
  rw [atI_in h0 (by rw [List.length_map]; exact h1), List.getElem?_map]
  have h2 : i.toNat < xs.length := by omega
  unfold nthI
  rw [List.getD_eq_getElem?_getD, List.getElem?_eq_getElem h2]
  rfl
theorem nthI_mem {P : Int → Prop} {xs : List Int} (h : ∀ x ∈ xs, P x) (h0 : P 0) (i : Int) : P (nthI xs i) := by
  unfold nthI
  rw [List.getD_eq_getElem?_getD]
  cases e : xs[i.toNat]? with
  | none => exact h0
  | some x => exact h x (List.mem_of_getElem? e)
theorem nthI_few {xs : List Int} (h : Few xs) (i : Int) : 0 ≤ nthI xs i ∧ nthI xs i < 9967 := nthI_mem (P := fun x => 0 ≤ x ∧ x < 9967) h ⟨by decide, by decide⟩ i
theorem nthI_of_lt {xs : List Int} {i : Int} (h0 : 0 ≤ i) (h1 : i < xs.length) : nthI xs i ∈ xs := by
  unfold nthI
  have h2 : i.toNat < xs.length := by omega
  rw [List.getD_eq_getElem?_getD, List.getElem?_eq_getElem h2]
  exact List.getElem_mem h2
/-- within bounds -/
theorem nthI_bds {xs : List Int} {lo hi : Int} (h : ∀ x ∈ xs, lo ≤ x ∧ x ≤ hi) (h0 : lo ≤ 0) (h1 : 0 ≤ hi) (i : Int) : lo ≤ nthI xs i ∧ nthI xs i ≤ hi := nthI_mem (P := fun x => lo ≤ x ∧ x ≤ hi) h ⟨h0, h1⟩ i
theorem nthI_bdsIn {xs : List Int} {lo hi : Int} (h : ∀ x ∈ xs, lo ≤ x ∧ x ≤ hi) {i : Int} (h0 : 0 ≤ i) (h1 : i < xs.length) : lo ≤ nthI xs i ∧ nthI xs i ≤ hi := h _ (nthI_of_lt h0 h1)
theorem fmod_in {a b : Int} (hb : 0 < b) : 0 ≤ a.fmod b ∧ a.fmod b < b := by
  rw [Int.fmod_eq_emod_of_nonneg a (by omega)]
  exact ⟨Int.emod_nonneg a (by omega), Int.emod_lt_of_pos a hb⟩
theorem fdiv_pos_eq {a b : Int} (hb : 0 < b) : a.fdiv b = a / b := Int.fdiv_eq_ediv_of_nonneg a (by omega)
/-- the rest of a list from a place -/
theorem cut_from (ds : List PyData) (k : Nat) (h : k ≤ ds.length) : cutD ds (some (k : Int)) none = ds.drop k := by
  unfold cutD
  rw [HT.sIx_nat, HT.sIx_none, Nat.min_eq_left h]
  exact List.take_of_length_le (by rw [List.length_drop]; omega)
theorem cut_fromI (xs : List Int) {i : Int} (h0 : 0 ≤ i) (h : i ≤ xs.length) : cutD (xs.map .int) (some i) none = (xs.drop i.toNat).map .int := by
  obtain ⟨k, rfl⟩ := Int.eq_ofNat_of_zero_le h0
  rw [cut_from _ k (by rw [List.length_map]; omega), List.map_drop]
  rfl
theorem cut_betweenI (xs : List Int) {i j : Int} (h0 : 0 ≤ i) (h1 : i ≤ j) (h : j ≤ xs.length) : cutD (xs.map .int) (some i) (some j) = ((xs.drop i.toNat).take (j - i).toNat).map .int := by
  obtain ⟨k, rfl⟩ := Int.eq_ofNat_of_zero_le h0
  obtain ⟨m, rfl⟩ := Int.eq_ofNat_of_zero_le (Int.le_trans h0 h1)
  unfold cutD
  rw [HT.sIx_nat, HT.sIx_nat, List.length_map, Nat.min_eq_left (by omega), Nat.min_eq_left (by omega), List.map_take, List.map_drop]
  congr 1
  omega
theorem Few.drop {xs : List Int} (h : Few xs) (n : Nat) : Few (xs.drop n) := fun x hx => h x (List.mem_of_mem_drop hx)
theorem Few.take {xs : List Int} (h : Few xs) (n : Nat) : Few (xs.take n) := fun x hx => h x (List.mem_of_mem_take hx)
theorem btOf {n : Nat} {i : Int} (m : Nat) (h : i.natAbs < m) (e : m ≤ 2 ^ n) : Bt n i := Nat.lt_of_lt_of_le h e
end Lw
set_option Elab.async false
set_option linter.all false
set_option maxRecDepth 100000
set_option maxHeartbeats 4000000
set_option autoImplicit false
/-! Lw, part G: the rules with the written part K told (within blocks). -/
namespace Lw
open PySem L2
section
variable {X : Cx} (K : PySem.W.Frag)
theorem op_addK (h : X.K = K := by rfl) : OpR X (binaryOp .Add) (rAddA K) := h ▸ op_addA
theorem op_eqK (hu : X.A.units + 64 < cLine) (h : X.K = K := by rfl) : OpR X (compareOp .Eq) (rEqD K) := h ▸ op_eqD hu
theorem op_neK (hu : X.A.units + 64 < cLine) (h : X.K = K := by rfl) : OpR X (compareOp .NotEq) (rNeD K) := h ▸ op_neD hu
theorem op_inK (h : X.K = K := by rfl) : OpR X (compareOp .In) (rIn K false) := h ▸ op_in_seq
theorem op_notInK (h : X.K = K := by rfl) : OpR X (compareOp .NotIn) (rIn K true) := h ▸ op_notIn_seq
theorem ix_seqK (h : X.K = K := by rfl) : IxR X (rIx K) := h ▸ ix_seq
theorem sl_anyK (h : X.K = K := by rfl) : SlR X (rSlX K) := h ▸ sl_any
theorem call_lenK (h : X.K = K := by rfl) : CallR X (.builtin "len") (rLenA K) := h ▸ call_len
theorem call_listK (h : X.K = K := by rfl) : CallR X (.type "list") (rListA K) := h ▸ call_list_of
theorem call_tupleK (h : X.K = K := by rfl) : CallR X (.type "tuple") (rTupleA K) := h ▸ call_tuple_of
theorem cr_allK (hc : X.calm = true) (h : X.K = K := by rfl) : CallR X (.builtin "all") (rAll K) := h ▸ cr_all hc
theorem cr_anyK (hc : X.calm = true) (h : X.K = K := by rfl) : CallR X (.builtin "any") (rAny K) := h ▸ cr_any hc
theorem pi_seqK {tg l : Expr} {tl : TE} (hl : PE X l tl) (h : X.K = K := by rfl) : PI X tg l (iSeq K tl) := h ▸ pi_seq hl
theorem pg_tupK {pos : Pos} {es : List Expr} {k : Nat} {t : TGs} {n : Nat} (hc : X.calm = true) (hh : PGs X es t) (h : X.K = K := by rfl)
    (hn : (assignEach es X.env).length = n := by rfl) (hst : (assignEach es X.env).findIdx? (·.1) = none := by rfl) : PG X (.Tuple es k pos) (gTup K n t) := h ▸ pg_tup hc hh hn hst
theorem pg_unlK {pos : Pos} {es : List Expr} {k : Nat} {t : TGs} {n : Nat} (hc : X.calm = true) (hh : PGs X es t) (h : X.K = K := by rfl)
    (hn : (assignEach es X.env).length = n := by rfl) (hst : (assignEach es X.env).findIdx? (·.1) = none := by rfl) : PG X (.Tuple es k pos) (gUnl K n t) := h ▸ pg_unl hc hh hn hst
variable {o e : Expr} {es : List Expr} {to : TE} {t : TA} {name : Str} {apos cpos : Pos} {T id : String} {r : V → List V → Hp → VK → Prop}
theorem pe_bmK (pa : PlainAttrs T) (slot : PySem.Slot T name id) (hty : typeOf (.builtin id) = pure (.type "method_descriptor")) (hm : MtR X id r) (ho : PE X o to) (ha : PA X (e :: es) t) (h : X.K = K := by rfl)
    (hbase : attributeBase o name X.env (eval o X.env) = eval o X.env := by rfl)
    (hfew : ((backTo cpos (starEach (e :: es) X.env)).all (fun x => !x.1) && (backToKw cpos (keywordEach [] X.env)).all (fun x => x.1.isSome)
      && decide ((e :: es).length + ([] : List Keyword).length + (if ([] : List Keyword).isEmpty then 0 else 1) < 30)) = true := by rfl)
    (hline : (apos.endLine == cpos.line) = true := by rfl) (hs : starEach (e :: es) X.env = (false, eval e X.env) :: starEach es X.env := by rfl) (hplain : (backTo cpos (starEach es X.env)).any (·.1) = false := by rfl) :
    PE X (.Call (.Attribute o name apos) (e :: es) [] cpos) (tBM K T r to t) := h ▸ pe_bm pa slot hty hm ho ha hbase hfew hline hs hplain
theorem pe_bm0K (pa : PlainAttrs T) (slot : PySem.Slot T name id) (hty : typeOf (.builtin id) = pure (.type "method_descriptor")) (hm : MtR X id r) (ho : PE X o to) (h : X.K = K := by rfl)
    (hbase : attributeBase o name X.env (eval o X.env) = eval o X.env := by rfl) (hline : (apos.endLine == cpos.line) = true := by rfl) : PE X (.Call (.Attribute o name apos) [] [] cpos) (tBM0 K T r to) := h ▸ pe_bm0 pa slot hty hm ho hbase hline
end
end Lw
set_option Elab.async false
set_option linter.all false
set_option maxRecDepth 100000
set_option maxHeartbeats 4000000
set_option autoImplicit false
/-! Lw, part Z: zip of two lists or tuples, strict or not, also where an exception is handled. -/
namespace LwZ
open PySem
open PySem.Sem (wp)
/-- nothing is handled, or an exception without a context -/
def Quiet (A : Around) (h : Heap) : Prop := A.handled = none ∨ ∃ x1, HotX.HotAt A x1 h
theorem Quiet.keep {A : Around} {h h' : Heap} {it : Addr} {o : Obj} {vs : Array Value} (q : Quiet A h) (ho : h.get? it = some o) (hd : o.data = .fields vs) (hv : vs[2]? ≠ some .none) (k : ∀ b u, b ≠ it → h.get? b = some u → h'.get? b = some u) : Quiet A h' := by
  rcases q with q | ⟨x1, hh, o1, v1, h1, d1, c1⟩
  · exact .inl q
  · refine .inr ⟨x1, hh, o1, v1, k x1 o1 (fun z => ?_) h1, d1, c1⟩
    subst z
    rw [ho] at h1
    cases h1
    rw [hd] at d1
    cases d1
    exact hv c1
theorem Quiet.all {A : Around} {h h' : Heap} (q : Quiet A h) (k : ∀ b u, h.get? b = some u → h'.get? b = some u) : Quiet A h' := by
  rcases q with q | ⟨x1, hh, o1, v1, h1, d1, c1⟩
  · exact .inl q
  · exact .inr ⟨x1, hh, o1, v1, k x1 o1 h1, d1, c1⟩
/-- a sequence of either kind; its iterator -/
def IsSq (tp : Bool) (h : Heap) (l : Addr) (items : Array Value) : Prop := match tp with
  | true => h.IsTuple l items
  | false => h.IsList l items
def IsIt (tp : Bool) (h : Heap) (it l : Addr) (i : Nat) : Prop := match tp with
  | true => h.IsTupleIter it l i
  | false => h.IsListIter it l i
def itN : Bool → String
  | true => "tuple_iterator"
  | false => "list_iterator"
theorem IsIt.get {tp : Bool} {h : Heap} {it l : Addr} {i : Nat} (x : IsIt tp h it l i) : ∃ o, h.get? it = some o ∧ o.cls = .type (itN tp) ∧ o.data = .fields #[.ref l, .int i 0] := by
  cases tp <;> exact x
theorem IsIt.mk {tp : Bool} {h : Heap} {it l : Addr} {i : Nat} (x : ∃ o, h.get? it = some o ∧ o.cls = .type (itN tp) ∧ o.data = .fields #[.ref l, .int i 0]) : IsIt tp h it l i := by
  cases tp <;> exact x
theorem IsIt.ext {tp : Bool} {h h' : Heap} {it l b : Addr} {i : Nat} (x : IsIt tp h it l i) (k : Heap.ExtBut b h h') (hb : it ≠ b) : IsIt tp h' it l i :=
  let ⟨o, h1, h2⟩ := x.get; .mk ⟨o, k it o hb h1, h2⟩
theorem IsIt.at {tp : Bool} {h h' : Heap} {it l : Addr} {i : Nat} (x : IsIt tp h it l i) (k : ∀ o, h.get? it = some o → h'.get? it = some o) : IsIt tp h' it l i :=
  let ⟨o, h1, h2⟩ := x.get; .mk ⟨o, k o h1, h2⟩
theorem IsSq.get {tp : Bool} {h : Heap} {l : Addr} {items : Array Value} (x : IsSq tp h l items) : ∃ o n, h.get? l = some o ∧ o.data = .seq items n := by
  cases tp
  · obtain ⟨o, a, _, n, d⟩ := x; exact ⟨o, n, a, d⟩
  · obtain ⟨o, a, _, n, d⟩ := x; exact ⟨o, n, a, d⟩
theorem IsSq.ext {tp : Bool} {h h' : Heap} {l b : Addr} {items : Array Value} (x : IsSq tp h l items) (k : Heap.ExtBut b h h') (hb : l ≠ b) : IsSq tp h' l items := by
  cases tp
  · exact Heap.IsList.extBut x k hb
  · exact Heap.IsTuple.extBut x k hb
section
variable {prog : Program} {w : World} {A : Around} {E : Value → Shared → Prop} {s : Shared}
theorem nextOf_item {tp : Bool} {it l : Addr} {i : Nat} {items : Array Value} {x : Value} {Q : Value → Shared → Prop} (hit : IsIt tp s.heap it l i) (hl : IsSq tp s.heap l items) (hx : items[i]? = some x)
    (hQ : ∀ h', IsIt tp h' it l (i + 1) → Heap.SameBut it s.heap h' → Q x { s with heap := h' }) : wpAny (model prog w) A (Builtin.SmallTypes.nextOf (.ref it)) Q E s := by
  cases tp with
  | true => exact RZ.nextOf_tuple_item hit hl hx hQ
  | false => exact wpAny_nextOf_list_item hit hl hx hQ
theorem stop_raised {Q : Fin → Shared → Prop} (q : Quiet A s.heap) (hE : ∀ h' e, (∀ b o, s.heap.get? b = some o → h'.get? b = some o) → (∃ o, h'.get? e = some o ∧ o.cls = .type "StopIteration") → E (.ref e) { s with heap := h' }) :
    wpAny (model prog w) A (Builtin.SmallTypes.stopIteration) Q E s := by
  show wpAny _ _ (newExc (.type "StopIteration") [] >>= _) _ _ _
  refine wpAny_bind ?_
  simp only [newExc, newTuple]
  refine wpAny_bind (wpAny_newObj_type ?_ (by size_fits))
  refine wpAny_bind (m := firstArgMember _ _) (wpAny_of_eq (a := Value.none) (by first | rfl | (simp only [firstArgMember]; rfl)) ?_)
  refine wpAny_newObj_type ?_ (by size_fits)
  rcases q with hh | ⟨x1, hh, o1, vs1, h1, d1, c1⟩
  · simp only [raiseNew]
    refine wpAny_bind (wpAny_handled ?_)
    rw [hh]
    refine wpAny_bind (wpAny_pure (wpAny_throw ?_))
    exact hE _ _ (fun b o e => Heap.get?_push_of_some _ (Heap.get?_push_of_some _ e)) ⟨_, Heap.get?_push_size _ rfl, rfl⟩
  · refine HotX.raiseNew_hot ⟨hh, o1, vs1, Heap.get?_push_of_some _ (Heap.get?_push_of_some _ h1), d1, c1⟩ (Nat.ne_of_lt (Heap.lt_size (Heap.get?_push_of_some _ h1))) (Heap.get?_push_size _ rfl) rfl (by first | (simp; done) | (simp; omega) | (simp only [Array.size_append]; simp; omega)) ?_
    refine hE _ _ (fun b o e => ?_) ⟨_, Heap.get?_update_self _ (Heap.get?_push_size _ rfl) rfl, rfl⟩
    rw [Heap.get?_update_other _ _ (Nat.ne_of_gt (Heap.lt_size (Heap.get?_push_of_some _ e)))]
    exact Heap.get?_push_of_some _ (Heap.get?_push_of_some _ e)
theorem nextOf_end {tp : Bool} {it l : Addr} {i : Nat} {items : Array Value} {Q : Value → Shared → Prop} (q : Quiet A s.heap) (hit : IsIt tp s.heap it l i) (hl : IsSq tp s.heap l items) (hx : items[i]? = none)
    (hE : ∀ h' e, Heap.ExtBut it s.heap h' → (∃ o, h'.get? e = some o ∧ o.cls = .type "StopIteration") → E (.ref e) { s with heap := h' }) : wpAny (model prog w) A (Builtin.SmallTypes.nextOf (.ref it)) Q E s := by
  obtain ⟨o, ho, hc, hd⟩ := hit.get
  obtain ⟨ol, nl, hol, hdl⟩ := hl.get
  have tail : ∀ (id : String) (Q' : Fin → Shared → Prop), wpAny (model prog w) A.in1 (do
      let seq ← field (.ref it) 0
      if seq == .none then rule s!"{id}.ended"; Builtin.SmallTypes.stopIteration
      let .int i _ ← field (.ref it) 1 | unsupported s!"internal:{id}"
      let some its ← seqItems? seq | unsupported s!"internal:{id}"
      match its[i.toNat]? with
      | some x => setField (.ref it) 1 (rawInt (i + 1)); ret x
      | none => rule s!"{id}.end"; setField (.ref it) 0 .none; Builtin.SmallTypes.stopIteration) Q' E s := by
    intro id Q'
    refine wpAny_bind (wpAny_field ho hd (x := .ref l) rfl ?_)
    show wpAny _ _ (if (Value.ref l == Value.none) = true then _ else _) _ _ s
    rw [if_neg (show ¬ ((Value.ref l == Value.none) = true) from Bool.false_ne_true)]
    refine wpAny_bind (wpAny_field ho hd (x := .int i 0) rfl ?_)
    refine wpAny_bind (wpAny_seqItems hol hdl ?_)
    simp only [Int.toNat_natCast, hx]
    refine wpAny_bind (wpAny_rule (wpAny_bind (wpAny_setField ho hd (by simp) ?_)))
    have q2 : Quiet A.in1 (s.heap.update it (Obj.mapFields (·.setIfInBounds 0 .none))) :=
      Quiet.keep (A := A.in1) (show Quiet A.in1 s.heap from q) ho hd (by simp) fun b u hb e => by rw [Heap.get?_update_other _ _ (Ne.symm hb)]; exact e
    refine stop_raised (s := { s with heap := s.heap.update it (Obj.mapFields (·.setIfInBounds 0 .none)) }) q2 fun h' e k ho' => hE h' e (fun b u hb z => k b u (by
      rw [Heap.get?_update_other _ _ (Ne.symm hb)]; exact z)) ho'
  unfold Builtin.SmallTypes.nextOf
  cases tp with
  | true =>
    refine wpAny_bind (wpAny_callSpecial?_slot (name := Str.ofString "__next__") (show s.TypeIs (.ref it) "tuple_iterator" from ⟨o, ho, hc⟩) F.slot_tuple_iterator_next
      (wpAny_call_entry F.slot_tuple_iterator_next ⟨o, ho, hc⟩ F.entry_tuple_iterator_next ?_ (F.args_tuple_iterator_next_1 _)))
    exact tail "tuple_iterator.__next__" _
  | false =>
    refine wpAny_bind (wpAny_callSpecial?_slot (name := Str.ofString "__next__") (show s.TypeIs (.ref it) "list_iterator" from ⟨o, ho, hc⟩) slot_listiter_next
      (wpAny_call_entry slot_listiter_next ⟨o, ho, hc⟩ entry_listiter_next ?_ (args_listiter_next _)))
    exact tail "list_iterator.__next__" _
/-- zip draws: the item, or (strict) none at the end -/
theorem orEnd_item {tp : Bool} {it l : Addr} {i : Nat} {items : Array Value} {x : Value} {Q : Option Value → Shared → Prop} (hit : IsIt tp s.heap it l i) (hl : IsSq tp s.heap l items) (hx : items[i]? = some x)
    (hQ : ∀ h', IsIt tp h' it l (i + 1) → Heap.SameBut it s.heap h' → Q (some x) { s with heap := h' }) : wpAny (model prog w) A (Builtin.SmallTypes.nextOrEnd (.ref it)) Q E s := by
  unfold Builtin.SmallTypes.nextOrEnd
  exact wpAny_bind (wpAny_attempt (nextOf_item hit hl hx fun h' a b => wpAny_pure (hQ h' a b)))
theorem orEnd_end {tp : Bool} {it l : Addr} {i : Nat} {items : Array Value} {Q : Option Value → Shared → Prop} (q : Quiet A s.heap) (hit : IsIt tp s.heap it l i) (hl : IsSq tp s.heap l items) (hx : items[i]? = none)
    (hQ : ∀ h', Heap.ExtBut it s.heap h' → Q none { s with heap := h' }) : wpAny (model prog w) A (Builtin.SmallTypes.nextOrEnd (.ref it)) Q E s := by
  unfold Builtin.SmallTypes.nextOrEnd
  refine wpAny_bind (wpAny_attempt (nextOf_end q hit hl hx fun h' e k ho => ?_))
  obtain ⟨o, ho, hc⟩ := ho
  refine wpAny_bind (wpAny_isInstance (T := "StopIteration") (b := true) ⟨o, ho, hc⟩ isSubtype_stop ?_)
  exact wpAny_pure (hQ h' k)
/-- a zip object, strict or not -/
abbrev IsZp (st : Bool) (h : Heap) (z TI TO : Addr) (f0 : Value) : Prop :=
  h.get? z = some { cls := .type "zip", dict := none, data := .fields #[f0, .bool false, .bool st, .ref TI, .ref TO], slots := #[] }
theorem zip_item {st p1 p2 : Bool} {z TI TO i1 i2 l1 l2 : Addr} {k1 k2 : Nat} {xs ys : Array Value} {x y a b : Value} {Q : Value → Shared → Prop} (D : ZipApart z TI TO i1 i2 l1 l2)
    (hz : IsZp st s.heap z TI TO .none) (hTI : IsPair s.heap TI (.ref i1) (.ref i2)) (hTO : IsPair s.heap TO a b)
    (h1 : IsIt p1 s.heap i1 l1 k1) (h2 : IsIt p2 s.heap i2 l2 k2) (hl1 : IsSq p1 s.heap l1 xs) (hl2 : IsSq p2 s.heap l2 ys) (hx : xs[k1]? = some x) (hy : ys[k2]? = some y)
    (hQ : ∀ h', IsZp st h' z TI TO (rawInt s.heap.objs.size) → IsPair h' TO x y → IsIt p1 h' i1 l1 (k1 + 1) → IsIt p2 h' i2 l2 (k2 + 1) → IsPair h' s.heap.objs.size x y → h'.objs.size = s.heap.objs.size + 1 →
      (∀ c o, c ≠ z → c ≠ TO → c ≠ i1 → c ≠ i2 → s.heap.get? c = some o → h'.get? c = some o) → Q (.ref s.heap.objs.size) { s with heap := h' }) :
    wpAny (model prog w) A (Builtin.«zip.__next__» ⟨[.ref z], []⟩) (fun fin s' => ∃ v, fin = .done (.ret v) ∧ Q v s') E s := by
  have draw1 : ∀ {h₁ : Heap} {Q' : Option Value → Shared → Prop} {E' : Value → Shared → Prop}, Heap.SameBut z s.heap h₁ → (∀ h₂, IsIt p1 h₂ i1 l1 (k1 + 1) → Heap.SameBut i1 h₁ h₂ → Q' (some x) { s with heap := h₂ }) →
      wpAny (model prog w) A (if st = true then Builtin.SmallTypes.nextOrEnd (.ref i1) else (do return some (← Builtin.SmallTypes.nextOf (.ref i1)))) Q' E' { s with heap := h₁ } := by
    intro h₁ Q' E' hs₁ k
    have a1 := h1.ext hs₁.extBut D.i1z
    have a2 := hl1.ext hs₁.extBut D.l1z
    cases st with
    | true => exact orEnd_item (s := { s with heap := h₁ }) a1 a2 hx k
    | false => exact wpAny_bind (nextOf_item (s := { s with heap := h₁ }) a1 a2 hx fun h₂ b1 b2 => wpAny_pure (k h₂ b1 b2))
  have draw2 : ∀ {h₁ : Heap} {Q' : Option Value → Shared → Prop} {E' : Value → Shared → Prop}, IsIt p2 h₁ i2 l2 k2 → IsSq p2 h₁ l2 ys → (∀ h₂, IsIt p2 h₂ i2 l2 (k2 + 1) → Heap.SameBut i2 h₁ h₂ → Q' (some y) { s with heap := h₂ }) →
      wpAny (model prog w) A (if st = true then Builtin.SmallTypes.nextOrEnd (.ref i2) else (do return some (← Builtin.SmallTypes.nextOf (.ref i2)))) Q' E' { s with heap := h₁ } := by
    intro h₁ Q' E' a1 a2 k
    cases st with
    | true => exact orEnd_item (s := { s with heap := h₁ }) a1 a2 hy k
    | false => exact wpAny_bind (nextOf_item (s := { s with heap := h₁ }) a1 a2 hy fun h₂ b1 b2 => wpAny_pure (k h₂ b1 b2))
  have est : (Value.bool st == Value.bool true) = st := by cases st <;> rfl
  show wpAny _ _ (field (.ref z) 2 >>= _) _ _ _
  refine wpAny_bind (wpAny_field hz rfl (x := .bool st) rfl ?_)
  rw [est]
  show wpAny _ _ (field (.ref z) 3 >>= _) _ _ _
  refine wpAny_bind (wpAny_field hz rfl (x := .ref TI) rfl ?_)
  refine wpAny_bind (wpAny_seqItems hTI rfl ?_)
  show wpAny _ _ (Builtin.SmallTypes.ownedTupleIsFree (.ref z) >>= _) _ _ _
  refine wpAny_bind ?_
  unfold Builtin.SmallTypes.ownedTupleIsFree
  refine wpAny_bind (wpAny_field hz rfl (x := .none) rfl (wpAny_pure ?_))
  simp only [if_true]
  refine wpAny_bind (wpAny_rule ?_)
  refine wpAny_bind (wpAny_field hz rfl (x := .ref TO) rfl ?_)
  refine wpAny_bind (wpAny_setField_rec hz (by simp) fun h₁ hz₁ hs₁ => ?_)
  replace hz₁ : IsZp st h₁ z TI TO .ellipsis := hz₁
  refine wpAny_bind ?_
  simp only [List.zipIdx_cons, List.zipIdx_nil, List.forIn_cons, List.forIn_nil]
  refine wpAny_bind (wpAny_bind (wpAny_onRaise ?_))
  refine draw1 hs₁ fun h₂ h1₂ hs₂ => ?_
  have hTO₂ : IsPair h₂ TO a b := hs₂.extBut _ _ D.TOi1 (hs₁.extBut _ _ D.TOz hTO)
  refine wpAny_bind (wpAny_seqItems (s := { s with heap := h₂ }) hTO₂ rfl ?_)
  refine wpAny_bind (wpAny_updateSeq_pair (s := { s with heap := h₂ }) hTO₂ fun h₃ hTO₃ hs₃ => ?_)
  replace hTO₃ : IsPair h₃ TO x b := hTO₃
  refine wpAny_bind (wpAny_letGo (wpAny_pure ?_))
  refine wpAny_bind (wpAny_bind (wpAny_onRaise ?_))
  refine draw2 (((h2.ext hs₁.extBut D.i2z).ext hs₂.extBut D.i12.symm).ext hs₃.extBut D.TOi2.symm) (((hl2.ext hs₁.extBut D.l2z).ext hs₂.extBut D.l2i1).ext hs₃.extBut D.l2TO) fun h₄ h2₄ hs₄ => ?_
  have hTO₄ : IsPair h₄ TO x b := hs₄.extBut _ _ D.TOi2 hTO₃
  refine wpAny_bind (wpAny_seqItems (s := { s with heap := h₄ }) hTO₄ rfl ?_)
  refine wpAny_bind (wpAny_updateSeq_pair (s := { s with heap := h₄ }) hTO₄ fun h₅ hTO₅ hs₅ => ?_)
  replace hTO₅ : IsPair h₅ TO x y := hTO₅
  refine wpAny_bind (wpAny_letGo (wpAny_pure (wpAny_pure ?_)))
  refine wpAny_bind (wpAny_seqItems (s := { s with heap := h₅ }) hTO₅ rfl ?_)
  refine wpAny_bind (wpAny_newTuple ?_)
  have hsz : h₅.objs.size = s.heap.objs.size := by rw [hs₅.1, hs₄.1, hs₃.1, hs₂.1, hs₁.1]
  have hz₅ : IsZp st h₅ z TI TO .ellipsis := hs₅.extBut _ _ D.TOz.symm (hs₄.extBut _ _ D.i2z.symm (hs₃.extBut _ _ D.TOz.symm (hs₂.extBut _ _ D.i1z.symm hz₁)))
  have hk₅ : ∀ c o, c ≠ z → c ≠ TO → c ≠ i1 → c ≠ i2 → s.heap.get? c = some o → h₅.get? c = some o := fun c o c1 c2 c3 c4 e =>
    hs₅.extBut _ _ c2 (hs₄.extBut _ _ c4 (hs₃.extBut _ _ c2 (hs₂.extBut _ _ c3 (hs₁.extBut _ _ c1 e))))
  have h1₅ : IsIt p1 h₅ i1 l1 (k1 + 1) := ((h1₂.ext hs₃.extBut D.TOi1.symm).ext hs₄.extBut D.i12).ext hs₅.extBut D.TOi1.symm
  have h2₅ : IsIt p2 h₅ i2 l2 (k2 + 1) := h2₄.ext hs₅.extBut D.TOi2.symm
  have hzlt : z < h₅.objs.size := Heap.lt_size hz₅
  show wpAny _ _ (Builtin.SmallTypes.ownedTupleHandOut (.ref z) (.ref h₅.objs.size) >>= _) _ _ _
  refine wpAny_bind ?_
  unfold Builtin.SmallTypes.ownedTupleHandOut
  have hz₆ : IsZp st (h₅.push { cls := .type "tuple", data := .seq #[x, y] }) z TI TO .ellipsis := Heap.get?_push_of_some _ hz₅
  refine wpAny_bind (wpAny_setField_rec hz₆ (by simp) fun h₇ hz₇ hs₇ => ?_)
  replace hz₇ : IsZp st h₇ z TI TO (rawInt h₅.objs.size) := hz₇
  refine wpAny_setField_rec hz₇ (by simp) fun h₈ hz₈ hs₈ => ?_
  replace hz₈ : IsZp st h₈ z TI TO (rawInt h₅.objs.size) := hz₈
  have up : ∀ c o, c ≠ z → h₅.get? c = some o → h₈.get? c = some o := fun c o c1 e => hs₈.extBut _ _ c1 (hs₇.extBut _ _ c1 (Heap.get?_push_of_some _ e))
  have hT₈ : IsPair h₈ h₅.objs.size x y := hs₈.extBut _ _ (Nat.ne_of_gt hzlt) (hs₇.extBut _ _ (Nat.ne_of_gt hzlt) (Heap.get?_push_size _ rfl))
  have hz8 : h₈.objs.size = h₅.objs.size + 1 := by rw [hs₈.1, hs₇.1, Heap.size_push]
  rw [hsz] at hz₈ hT₈ hz8
  refine wpAny_pure ⟨_, rfl, ?_⟩
  show Q (.ref h₅.objs.size) _
  rw [hsz]
  exact hQ h₈ hz₈ (up _ _ D.TOz hTO₅) (h1₅.at fun o e => up _ o D.i1z e) (h2₅.at fun o e => up _ o D.i2z e) hT₈ hz8 fun c o c1 c2 c3 c4 e => up c o c1 (hk₅ c o c1 c2 c3 c4 e)

theorem Quiet.out {h h' : Heap} {tp : Bool} {it l : Addr} {i : Nat} (q : Quiet A h) (x : IsIt tp h it l i) (k : Heap.ExtBut it h h') : Quiet A h' := by
  obtain ⟨o, ho, hc, hd⟩ := x.get
  exact q.keep ho hd (by simp) k
theorem Quiet.outZ {h h' : Heap} {st : Bool} {z TI TO : Addr} {f0 : Value} (q : Quiet A h) (x : IsZp st h z TI TO f0) (k : Heap.ExtBut z h h') : Quiet A h' :=
  q.keep x rfl (by simp) k
theorem Quiet.outP {h h' : Heap} {a : Addr} {x y : Value} (q : Quiet A h) (p : IsPair h a x y) (k : Heap.ExtBut a h h') : Quiet A h' := by
  rcases q with q | ⟨x1, hh, o1, v1, h1, d1, c1⟩
  · exact .inl q
  · refine .inr ⟨x1, hh, o1, v1, k x1 o1 (fun z => ?_) h1, d1, c1⟩
    subst z
    rw [p] at h1
    cases h1
    cases d1
theorem zip_end {st p1 p2 : Bool} {z TI TO i1 i2 l1 l2 : Addr} {k1 k2 : Nat} {xs ys : Array Value} {a b : Value} {Q : Fin → Shared → Prop} (q : Quiet A s.heap) (D : ZipApart z TI TO i1 i2 l1 l2)
    (hz : IsZp st s.heap z TI TO .none) (hTI : IsPair s.heap TI (.ref i1) (.ref i2)) (hTO : IsPair s.heap TO a b)
    (h1 : IsIt p1 s.heap i1 l1 k1) (h2 : IsIt p2 s.heap i2 l2 k2) (hl1 : IsSq p1 s.heap l1 xs) (hl2 : IsSq p2 s.heap l2 ys) (hend : (xs[k1]? = none ∧ ys[k2]? = none) ∨ (st = false ∧ (xs[k1]? = none ∨ ys[k2]? = none)))
    (hE : ∀ h' e, (∀ c o, c ≠ z → c ≠ TO → c ≠ i1 → c ≠ i2 → s.heap.get? c = some o → h'.get? c = some o) → (∃ o, h'.get? e = some o ∧ o.cls = .type "StopIteration") → E (.ref e) { s with heap := h' }) :
    wpAny (model prog w) A (Builtin.«zip.__next__» ⟨[.ref z], []⟩) Q E s := by
  have est : (Value.bool st == Value.bool true) = st := by cases st <;> rfl
  show wpAny _ _ (field (.ref z) 2 >>= _) _ _ _
  refine wpAny_bind (wpAny_field hz rfl (x := .bool st) rfl ?_)
  rw [est]
  show wpAny _ _ (field (.ref z) 3 >>= _) _ _ _
  refine wpAny_bind (wpAny_field hz rfl (x := .ref TI) rfl ?_)
  refine wpAny_bind (wpAny_seqItems hTI rfl ?_)
  show wpAny _ _ (Builtin.SmallTypes.ownedTupleIsFree (.ref z) >>= _) _ _ _
  refine wpAny_bind ?_
  unfold Builtin.SmallTypes.ownedTupleIsFree
  refine wpAny_bind (wpAny_field hz rfl (x := .none) rfl (wpAny_pure ?_))
  simp only [if_true]
  refine wpAny_bind (wpAny_rule ?_)
  refine wpAny_bind (wpAny_field hz rfl (x := .ref TO) rfl ?_)
  refine wpAny_bind (wpAny_setField_rec hz (by simp) fun h₁ hz₁ hs₁ => ?_)
  replace hz₁ : IsZp st h₁ z TI TO .ellipsis := hz₁
  have q₁ : Quiet A h₁ := q.outZ hz hs₁.extBut
  have a1 := h1.ext hs₁.extBut D.i1z
  have a2 := hl1.ext hs₁.extBut D.l1z
  refine wpAny_bind ?_
  simp only [List.zipIdx_cons, List.zipIdx_nil, List.forIn_cons, List.forIn_nil]
  refine wpAny_bind (wpAny_bind (wpAny_onRaise ?_))
  cases st with
  | false =>
    show wpAny _ _ (Builtin.SmallTypes.nextOf (.ref i1) >>= _) _ _ _
    replace hend : xs[k1]? = none ∨ ys[k2]? = none := by
      rcases hend with ⟨h, _⟩ | ⟨_, h⟩
      · exact .inl h
      · exact h
    cases hx : xs[k1]? with
    | none =>
      refine wpAny_bind (nextOf_end (s := { s with heap := h₁ }) q₁ a1 a2 hx fun h₂ e hs₂ he => ?_)
      obtain ⟨oe, hoe, hce⟩ := he
      have hz₂ : IsZp false h₂ z TI TO .ellipsis := hs₂ _ _ D.i1z.symm hz₁
      have hez : e ≠ z := fun x => by subst x; rw [hz₂] at hoe; cases hoe; simp at hce
      refine wpAny_setField_rec hz₂ (by simp) fun h₃ _ hs₃ => hE h₃ e (fun c o c1 _ c3 _ x => hs₃.extBut _ _ c1 (hs₂ _ _ c3 (hs₁.extBut _ _ c1 x))) ⟨oe, hs₃.extBut _ _ hez hoe, hce⟩
    | some x =>
      have hy : ys[k2]? = none := by rcases hend with h | h; rw [hx] at h; cases h; exact h
      refine wpAny_bind (nextOf_item (s := { s with heap := h₁ }) a1 a2 hx fun h₂ h1₂ hs₂ => wpAny_pure ?_)
      have q₂ : Quiet A h₂ := q₁.out a1 hs₂.extBut
      have hTO₂ : IsPair h₂ TO a b := hs₂.extBut _ _ D.TOi1 (hs₁.extBut _ _ D.TOz hTO)
      refine wpAny_bind (wpAny_seqItems (s := { s with heap := h₂ }) hTO₂ rfl ?_)
      refine wpAny_bind (wpAny_updateSeq_pair (s := { s with heap := h₂ }) hTO₂ fun h₃ hTO₃ hs₃ => ?_)
      have q₃ : Quiet A h₃ := q₂.outP hTO₂ hs₃.extBut
      refine wpAny_bind (wpAny_letGo (wpAny_pure ?_))
      refine wpAny_bind (wpAny_bind (wpAny_onRaise ?_))
      show wpAny _ _ (Builtin.SmallTypes.nextOf (.ref i2) >>= _) _ _ _
      refine wpAny_bind (nextOf_end (s := { s with heap := h₃ }) q₃ (((h2.ext hs₁.extBut D.i2z).ext hs₂.extBut D.i12.symm).ext hs₃.extBut D.TOi2.symm)
        (((hl2.ext hs₁.extBut D.l2z).ext hs₂.extBut D.l2i1).ext hs₃.extBut D.l2TO) hy fun h₄ e hs₄ he => ?_)
      obtain ⟨oe, hoe, hce⟩ := he
      have hz₄ : IsZp false h₄ z TI TO .ellipsis := hs₄ _ _ D.i2z.symm (hs₃.extBut _ _ D.TOz.symm (hs₂.extBut _ _ D.i1z.symm hz₁))
      have hez : e ≠ z := fun x => by subst x; rw [hz₄] at hoe; cases hoe; simp at hce
      refine wpAny_setField_rec hz₄ (by simp) fun h₅ _ hs₅ => hE h₅ e (fun c o c1 c2 c3 c4 x => hs₅.extBut _ _ c1 (hs₄ _ _ c4 (hs₃.extBut _ _ c2 (hs₂.extBut _ _ c3 (hs₁.extBut _ _ c1 x))))) ⟨oe, hs₅.extBut _ _ hez hoe, hce⟩
  | true =>
    obtain ⟨hx, hy⟩ : xs[k1]? = none ∧ ys[k2]? = none := by
      rcases hend with h | ⟨h, _⟩
      · exact h
      · cases h
    show wpAny _ _ (Builtin.SmallTypes.nextOrEnd (.ref i1)) _ _ _
    refine orEnd_end (s := { s with heap := h₁ }) q₁ a1 a2 hx fun h₂ hs₂ => ?_
    have q₂ : Quiet A h₂ := q₁.out a1 hs₂
    have hz₂ : IsZp true h₂ z TI TO .ellipsis := hs₂ _ _ D.i1z.symm hz₁
    refine wpAny_bind (wpAny_setField_rec hz₂ (by simp) fun h₃ _ hs₃ => ?_)
    have q₃ : Quiet A h₃ := q₂.outZ hz₂ hs₃.extBut
    have b1 := (((h2.ext hs₁.extBut D.i2z).ext hs₂ D.i12.symm).ext hs₃.extBut D.i2z)
    have b2 := (((hl2.ext hs₁.extBut D.l2z).ext hs₂ D.l2i1).ext hs₃.extBut D.l2z)
    refine wpAny_bind (wpAny_bind ?_)
    simp only [List.drop_succ_cons, List.drop_zero, List.zipIdx_cons, List.zipIdx_nil, List.forIn_cons, List.forIn_nil]
    refine wpAny_bind (wpAny_bind (orEnd_end (s := { s with heap := h₃ }) q₃ b1 b2 hy fun h₄ hs₄ => ?_))
    have q₄ : Quiet A h₄ := q₃.out b1 hs₄
    refine wpAny_pure (wpAny_pure (wpAny_bind (wpAny_rule ?_)))
    exact stop_raised (s := { s with heap := h₄ }) q₄ fun h₅ e k he => hE h₅ e (fun c o c1 c2 c3 c4 x => k _ _ (hs₄ _ _ c4 (hs₃.extBut _ _ c1 (hs₂ _ _ c3 (hs₁.extBut _ _ c1 x))))) he
end
end LwZ
set_option Elab.async false
set_option linter.all false
set_option maxRecDepth 100000
set_option maxHeartbeats 4000000
set_option autoImplicit false
/-! Lw, part Y: zip begun, its turns, the rules. -/
namespace LwZ
open PySem PySem.Spec PyProof.Rows L2 Lw
open PySem.Sem (wp)
theorem F_typeCall_zip_strict (a b v : Value) : checkTypeCall "zip" ⟨[a, b], [(Str.ofString "strict", v)]⟩ = pure () := by kernel_rfl
theorem F_newCall_zip_strict (a b v : Value) : checkBuiltinCall "zip.__new__" ⟨[.type "zip", a, b], [(Str.ofString "strict", v)]⟩ = pure () := by kernel_rfl
theorem F_args_object_init_strict (obj a b v : Value) : argsOk "object.__init__" ⟨[obj, a, b], [(Str.ofString "strict", v)]⟩ := by unfold argsOk; kernel_rfl
abbrev gzS2 (h : Heap) (o1 o2 : Obj) : Heap := (gzO2 h o1 o2).push { cls := .type "zip", data := .fields #[.none, .bool false, .bool true, .ref ((h.push o1).push o2).objs.size, .ref (gzT2 h o1 o2).objs.size] }
theorem meets_zip_newS2 {v1 v2 : Value} {o1 o2 : Obj} {H1 H2 : Heap → Prop} (B1 : Begins v1 o1 H1) (B2 : Begins v2 o2 H2) :
    Meets (Builtin.«zip.__new__» ⟨[.type "zip", v1, v2], [(Str.ofString "strict", .bool true)]⟩) (fun _ R s => (H1 s.heap ∧ H2 s.heap) ∧
      R (.ok (.ret (.ref (gzO2 s.heap o1 o2).objs.size))) { s with heap := gzS2 s.heap o1 o2 }) :=
  .of_wp fun prog w A R s h => by
    obtain ⟨hp, g, d, tk, os⟩ := s; obtain ⟨⟨h1, h2⟩, h⟩ := h
    have hsub := sub_zip
    have q1 : ∀ {A' : Around} {E : Value → Shared → Prop} {Q : Value → Shared → Prop}, Q (.ref hp.objs.size) ⟨(hp.push o1), g, d, tk, os⟩ → wpAny (model prog w) A' (pyIter v1) Q E ⟨hp, g, d, tk, os⟩ :=
      fun q => B1.iter prog w _ _ ⟨hp, g, d, tk, os⟩ _ (B1.keeps _ _ h1 fun b o' e => e) q
    have q2 : ∀ {A' : Around} {E : Value → Shared → Prop} {Q : Value → Shared → Prop}, Q (.ref (hp.push o1).objs.size) ⟨((hp.push o1).push o2), g, d, tk, os⟩ → wpAny (model prog w) A' (pyIter v2) Q E ⟨(hp.push o1), g, d, tk, os⟩ :=
      fun q => B2.iter prog w _ _ ⟨(hp.push o1), g, d, tk, os⟩ _ (B2.keeps _ _ h2 fun b o' e => (Heap.get?_push_of_some _ e)) q
    have e1 : (Str.ofString "strict" == ("strict" : Str)) = true := by decide +kernel
    have e2 : (Str.ofString "strict" != ("strict" : Str)) = false := by decide +kernel
    wp_walk using q1, q2
    exact ⟨_, rfl, h⟩
def itO (tp : Bool) (l : Addr) : Obj := { cls := .type (itN tp), data := .fields #[.ref l, .int 0 0] }
theorem begins_sq (tp : Bool) (l : Addr) (items : Array Value) : Begins (.ref l) (itO tp l) fun h => IsSq tp h l items := by
  cases tp
  · exact begins_list l items
  · exact begins_tuple l items
section
variable {prog : Program} {w : World} {A : Around} {E : Value → Shared → Prop} {s : Shared}
theorem zip_beginsS {v1 v2 : Value} {o1 o2 : Obj} {H1 H2 : Heap → Prop} {Q : Value → Shared → Prop} (B1 : Begins v1 o1 H1) (B2 : Begins v2 o2 H2) (h1 : H1 s.heap) (h2 : H2 s.heap)
    (h : ∀ h', IsZp true h' (s.heap.objs.size + 4) (s.heap.objs.size + 2) (s.heap.objs.size + 3) .none → IsTupOf2 h' (s.heap.objs.size + 2) (.ref s.heap.objs.size) (.ref (s.heap.objs.size + 1)) →
      IsTupOf2 h' (s.heap.objs.size + 3) .none .none → h'.get? s.heap.objs.size = some o1 → h'.get? (s.heap.objs.size + 1) = some o2 → h'.objs.size = s.heap.objs.size + 5 →
      (∀ c o, s.heap.get? c = some o → h'.get? c = some o) → Q (.ref (s.heap.objs.size + 4)) { s with heap := h' }) :
    wpAny (model prog w) A (call (.type "zip") [v1, v2] [(Str.ofString "strict", .bool true)]) Q E s := by
  refine callType_newKw F.called_zip (by decide) (F_typeCall_zip_strict _ _ _) (F_newCall_zip_strict _ _ _) (fun obj => F_args_object_init_strict obj _ _ _) F.entry_zip_new
    (meets_zip_newS2 B1 B2) ⟨⟨h1, h2⟩, ?_⟩
  have z1 : (s.heap.push o1).objs.size = s.heap.objs.size + 1 := by rw [Heap.size_push]
  have z2 : ((s.heap.push o1).push o2).objs.size = s.heap.objs.size + 2 := by rw [Heap.size_push, z1]
  have zT : (gzT2 s.heap o1 o2).objs.size = s.heap.objs.size + 3 := by rw [Heap.size_push, z2]
  have zO : (gzO2 s.heap o1 o2).objs.size = s.heap.objs.size + 4 := by rw [Heap.size_push, zT]
  have zZ : (gzS2 s.heap o1 o2).objs.size = s.heap.objs.size + 5 := by rw [Heap.size_push, zO]
  have gZ : (gzS2 s.heap o1 o2).get? (gzO2 s.heap o1 o2).objs.size = some { cls := .type "zip", data := .fields #[.none, .bool false, .bool true, .ref ((s.heap.push o1).push o2).objs.size, .ref (gzT2 s.heap o1 o2).objs.size] } := Heap.get?_push_size _ rfl
  have gO : (gzS2 s.heap o1 o2).get? (gzT2 s.heap o1 o2).objs.size = some { cls := .type "tuple", data := .seq #[.none, .none] } := Heap.get?_push_of_some _ (Heap.get?_push_size _ rfl)
  have gT : (gzS2 s.heap o1 o2).get? ((s.heap.push o1).push o2).objs.size = some { cls := .type "tuple", data := .seq #[.ref s.heap.objs.size, .ref (s.heap.push o1).objs.size] } := Heap.get?_push_of_some _ (Heap.get?_push_of_some _ (Heap.get?_push_size _ rfl))
  have g1 : (gzS2 s.heap o1 o2).get? s.heap.objs.size = some o1 := Heap.get?_push_of_some _ (Heap.get?_push_of_some _ (Heap.get?_push_of_some _ (Heap.get?_push_of_some _ (Heap.get?_push_size _ B1.free))))
  have g2 : (gzS2 s.heap o1 o2).get? (s.heap.push o1).objs.size = some o2 := Heap.get?_push_of_some _ (Heap.get?_push_of_some _ (Heap.get?_push_of_some _ (Heap.get?_push_size _ B2.free)))
  rw [zO, zT, z2] at gZ
  rw [zT] at gO
  rw [z2, z1] at gT
  rw [z1] at g2
  show _ ∧ _
  rw [zO]
  exact ⟨⟨_, gZ, rfl⟩, h _ gZ gT gO g1 g2 zZ fun c o x => Heap.get?_push_of_some _ (Heap.get?_push_of_some _ (Heap.get?_push_of_some _ (Heap.get?_push_of_some _ (Heap.get?_push_of_some _ x))))⟩
/-- zip(v1, v2) or zip(v1, v2, strict=True): begun -/
def zkw : Bool → List (Str × Value)
  | true => [(Str.ofString "strict", .bool true)]
  | false => []
theorem call_zp {st p1 p2 : Bool} {l1 l2 : Addr} {xs ys : Array Value} {Q : Value → Shared → Prop} (hl1 : IsSq p1 s.heap l1 xs) (hl2 : IsSq p2 s.heap l2 ys)
    (h : ∀ h', IsZp st h' (s.heap.objs.size + 4) (s.heap.objs.size + 2) (s.heap.objs.size + 3) .none → IsPair h' (s.heap.objs.size + 2) (.ref s.heap.objs.size) (.ref (s.heap.objs.size + 1)) →
      IsPair h' (s.heap.objs.size + 3) .none .none → IsIt p1 h' s.heap.objs.size l1 0 → IsIt p2 h' (s.heap.objs.size + 1) l2 0 → h'.objs.size = s.heap.objs.size + 5 →
      (∀ c o, s.heap.get? c = some o → h'.get? c = some o) → Q (.ref (s.heap.objs.size + 4)) { s with heap := h' }) :
    wpAny (model prog w) A (call (.type "zip") [.ref l1, .ref l2] (zkw st)) Q E s := by
  cases st with
  | false => exact zip_begins2 (begins_sq p1 l1 xs) (begins_sq p2 l2 ys) hl1 hl2 fun h' a1 a2 a3 a4 a5 a6 a7 => h h' a1 a2 a3 (.mk ⟨_, a4, rfl, rfl⟩) (.mk ⟨_, a5, rfl, rfl⟩) a6 a7
  | true => exact zip_beginsS (begins_sq p1 l1 xs) (begins_sq p2 l2 ys) hl1 hl2 fun h' a1 a2 a3 a4 a5 a6 a7 => h h' a1 a2 a3 (.mk ⟨_, a4, rfl, rfl⟩) (.mk ⟨_, a5, rfl, rfl⟩) a6 a7
theorem pyNext_zp_item {st p1 p2 : Bool} {z TI TO i1 i2 l1 l2 : Addr} {k1 k2 : Nat} {xs ys : Array Value} {x y a b : Value} {Q : Option Value → Shared → Prop} (D : ZipApart z TI TO i1 i2 l1 l2)
    (hz : IsZp st s.heap z TI TO .none) (hTI : IsPair s.heap TI (.ref i1) (.ref i2)) (hTO : IsPair s.heap TO a b)
    (h1 : IsIt p1 s.heap i1 l1 k1) (h2 : IsIt p2 s.heap i2 l2 k2) (hl1 : IsSq p1 s.heap l1 xs) (hl2 : IsSq p2 s.heap l2 ys) (hx : xs[k1]? = some x) (hy : ys[k2]? = some y)
    (hQ : ∀ h', IsZp st h' z TI TO (rawInt s.heap.objs.size) → IsPair h' TO x y → IsIt p1 h' i1 l1 (k1 + 1) → IsIt p2 h' i2 l2 (k2 + 1) → IsPair h' s.heap.objs.size x y → h'.objs.size = s.heap.objs.size + 1 →
      (∀ c o, c ≠ z → c ≠ TO → c ≠ i1 → c ≠ i2 → s.heap.get? c = some o → h'.get? c = some o) → Q (some (.ref s.heap.objs.size)) { s with heap := h' }) :
    wpAny (model prog w) A (pyNext (.ref z)) Q E s := by
  have hT : s.TypeIs (.ref z) "zip" := ⟨_, hz, rfl⟩
  unfold pyNext
  exact wpAny_bind (wpAny_attempt (wpAny_callSpecial?_slot (name := Str.ofString "__next__") hT F.slot_zip_next
    (wpAny_call_entry F.slot_zip_next hT F.entry_zip_next
      (zip_item D hz hTI hTO h1 h2 hl1 hl2 hx hy fun h' a1 a2 a3 a4 a5 a6 a7 => wpAny_pure (hQ h' a1 a2 a3 a4 a5 a6 a7)) (F.args_zip_next_1 _))))
theorem pyNext_zp_end {st p1 p2 : Bool} {z TI TO i1 i2 l1 l2 : Addr} {k1 k2 : Nat} {xs ys : Array Value} {a b : Value} {Q : Option Value → Shared → Prop} (q : Quiet A s.heap) (D : ZipApart z TI TO i1 i2 l1 l2)
    (hz : IsZp st s.heap z TI TO .none) (hTI : IsPair s.heap TI (.ref i1) (.ref i2)) (hTO : IsPair s.heap TO a b)
    (h1 : IsIt p1 s.heap i1 l1 k1) (h2 : IsIt p2 s.heap i2 l2 k2) (hl1 : IsSq p1 s.heap l1 xs) (hl2 : IsSq p2 s.heap l2 ys) (hend : (xs[k1]? = none ∧ ys[k2]? = none) ∨ (st = false ∧ (xs[k1]? = none ∨ ys[k2]? = none)))
    (hQ : ∀ h', (∀ c o, c ≠ z → c ≠ TO → c ≠ i1 → c ≠ i2 → s.heap.get? c = some o → h'.get? c = some o) → Q none { s with heap := h' }) : wpAny (model prog w) A (pyNext (.ref z)) Q E s := by
  have hT : s.TypeIs (.ref z) "zip" := ⟨_, hz, rfl⟩
  unfold pyNext
  refine wpAny_bind (wpAny_attempt (wpAny_callSpecial?_slot (name := Str.ofString "__next__") hT F.slot_zip_next
    (wpAny_call_entry F.slot_zip_next hT F.entry_zip_next (zip_end (A := A.in1) q D hz hTI hTO h1 h2 hl1 hl2 hend fun h' e hk he => ?_) (F.args_zip_next_1 _))))
  obtain ⟨o, ho, hc⟩ := he
  refine wpAny_bind (wpAny_isInstance (T := "StopIteration") (b := true) ⟨o, ho, hc⟩ isSubtype_stop ?_)
  exact wpAny_pure (hQ _ hk)
theorem pyIter_zp {st : Bool} {z TI TO : Addr} {f0 : Value} {Q : Value → Shared → Prop} (hz : IsZp st s.heap z TI TO f0) (h : Q (.ref z) s) : wpAny (model prog w) A (pyIter (.ref z)) Q E s := by
  have hT : s.TypeIs (.ref z) "zip" := ⟨_, hz, rfl⟩
  refine wpAny_pyIter_slot hT F.slot_zip_iter (wpAny_call_entry F.slot_zip_iter hT F.entry_zip_iter ?_ (F.args_zip_iter_1 _))
  show wpAny _ _ (ret (.ref z)) _ _ s
  exact wpAny_pure ⟨_, rfl, "zip", _, hT, F.slot_zip_next.lookup, h⟩
theorem letGo_zp {st : Bool} {elts : List Expr} {kk : Nat} {tpos : Pos} {z TI TO T : Addr} {Q : Unit → Shared → Prop} (hz : IsZp st s.heap z TI TO (rawInt T))
    (h : ∀ h', IsZp st h' z TI TO .none → Heap.SameBut z s.heap h' → Q () { s with heap := h' }) : wpAny (model prog w) A (letOwnedTupleGo (.Tuple elts kk tpos) (.ref z) (.ref T)) Q E s := by
  unfold letOwnedTupleGo
  refine wpAny_bind (wpAny_load hz ?_)
  show wpAny _ _ (if (["enumerate", "zip", "dict_itemiterator", "dict_reverseitemiterator", "odict_iterator", "itertools.zip_longest", "itertools.pairwise"].contains "zip" &&
      (#[rawInt T, .bool false, .bool st, .ref TI, .ref TO] : Array Value)[0]? == some (rawInt T)) = true then _ else _) Q E s
  rw [if_pos (by simp)]
  refine wpAny_bind (wpAny_rule ?_)
  show wpAny _ _ (setField (.ref z) 0 .none) Q E s
  exact wpAny_setField_rec hz (by simp) fun h' hz' hs' => h h' hz' hs'
end
/-- a list or a tuple, as the analysis sees it -/
def SqB (K : PySem.W.Frag) (tp : Bool) (H : Hp) (a : Addr) (xs : List V) : Prop := match tp with
  | true => SqT K H a xs
  | false => SqL K H a xs
theorem inv_sq {X : Cx} {pins : List (Addr × Obj)} {σ : L2.St} {H : Hp} {s : Shared} {tp : Bool} {a : Addr} {xs : List V} (I : Inv X pins σ H s) (h : SqB X.K tp H a xs) : ∃ its : List Value, Vals xs its ∧ IsSq tp s.heap a its.toArray := by
  cases tp
  · obtain ⟨its, rv, p, _⟩ := I.list h
    exact ⟨its, rv, p.isList⟩
  · obtain ⟨its, rv, p, _⟩ := I.tuple h
    exact ⟨its, rv, p⟩
theorem inv_sq_inj {X : Cx} {pins : List (Addr × Obj)} {σ : L2.St} {H : Hp} {s : Shared} {tp : Bool} {a : Addr} {xs ys : List V} (I : Inv X pins σ H s) (h : SqB X.K tp H a xs) (h2 : SqB X.K tp H a ys) : xs = ys := by
  cases tp
  · exact I.list_inj h h2
  · exact I.tuple_inj h h2
/-- the two sequences as they stand at each turn, the items in new pairs -/
def ItZ (K : PySem.W.Frag) (st p1 p2 : Bool) (a b : Addr) : It :=
  ⟨fun i H => ∃ (xs ys : List V) (x y : V), SqB K p1 H a xs ∧ SqB K p2 H b ys ∧ xs[i]? = some x ∧ ys[i]? = some y,
    fun i H v H' => ∃ T x y, v = .ref T ∧ H T = none ∧ H' = upd H T (.tup [x, y]) ∧ (∀ xs, SqB K p1 H a xs → xs[i]? = some x) ∧ ∀ ys, SqB K p2 H b ys → ys[i]? = some y,
    fun i H => ∃ xs ys : List V, SqB K p1 H a xs ∧ SqB K p2 H b ys ∧ ((xs.length ≤ i ∧ ys.length ≤ i) ∨ (st = false ∧ (xs.length ≤ i ∨ ys.length ≤ i)))⟩
abbrev zTn (st p1 p2 : Bool) (a b z TI TO i1 i2 : Addr) (i : Nat) (h : Heap) : Prop := IsZp st h z TI TO .none ∧ IsPair h TI (.ref i1) (.ref i2) ∧ (∃ x y, IsPair h TO x y) ∧ IsIt p1 h i1 a i ∧ IsIt p2 h i2 b i
section
variable {st p1 p2 : Bool} {a b z TI TO i1 i2 : Addr}
theorem zp_obj (i : Nat) (h : Heap) (t : zTn st p1 p2 a b z TI TO i1 i2 i h) (c : Addr) (hc : c ∈ [z, TI, TO, i1, i2]) : ∃ o, h.get? c = some o ∧ ∀ v, o.data ≠ .cell v := by
  obtain ⟨hz, hTI, ⟨x, y, hTO⟩, j1, j2⟩ := t
  obtain ⟨o1, e1, _, d1⟩ := j1.get
  obtain ⟨o2, e2, _, d2⟩ := j2.get
  have e' : c = z ∨ c = TI ∨ c = TO ∨ c = i1 ∨ c = i2 := by simpa using hc
  rcases e' with q | q | q | q | q
  · rw [q]; exact ⟨_, hz, fun v q => nomatch q⟩
  · rw [q]; exact ⟨_, hTI, fun v q => nomatch q⟩
  · rw [q]; exact ⟨_, hTO, fun v q => nomatch q⟩
  · rw [q]; exact ⟨o1, e1, fun v q => by rw [d1] at q; cases q⟩
  · rw [q]; exact ⟨o2, e2, fun v q => by rw [d2] at q; cases q⟩
theorem zp_keep (i : Nat) (h h' : Heap) (t : zTn st p1 p2 a b z TI TO i1 i2 i h) (k : ∀ c ∈ [z, TI, TO, i1, i2], ∀ o, h.get? c = some o → h'.get? c = some o) : zTn st p1 p2 a b z TI TO i1 i2 i h' := by
  obtain ⟨hz, hTI, ⟨x, y, hTO⟩, h1, h2⟩ := t
  exact ⟨k z (by simp) _ hz, k TI (by simp) _ hTI, ⟨x, y, k TO (by simp) _ hTO⟩, h1.at fun o q => k i1 (by simp) o q, h2.at fun o q => k i2 (by simp) o q⟩
theorem zp_item {elts : List Expr} {kk : Nat} {tpos : Pos} (D : ZipApart z TI TO i1 i2 a b) (X : Cx) (i : Nat) (pins : List (Addr × Obj)) (s : Shared) (σ : L2.St) (H : Hp) (E : Value → Shared → Prop) (I : Inv X pins σ H s) (hf : ∀ c ∈ [z, TI, TO, i1, i2], FpOk X pins H c)
    (t : zTn st p1 p2 a b z TI TO i1 i2 i s.heap) (hg : (ItZ X.K st p1 p2 a b).go i H) :
    wpAny (model X.prog X.w) X.A (pyNext (.ref z)) (fun r s1 => ∃ u, r = some u ∧
      wpAny (model X.prog X.w) X.A (letOwnedTupleGo (.Tuple elts kk tpos) (.ref z) u) (fun _ s2 => ∃ x H', Inv X pins σ H' s2 ∧ RelV x u ∧ (ItZ X.K st p1 p2 a b).yld i H x H' ∧ zTn st p1 p2 a b z TI TO i1 i2 (i + 1) s2.heap ∧ ∀ b ∈ [z, TI, TO, i1, i2], H' b = none) E s1) E s := by
  obtain ⟨hz, hTI, ⟨x0, y0, hTO⟩, h1, h2⟩ := t
  obtain ⟨xs, ys, x, y, hqx, hqy, hx, hy⟩ := hg
  obtain ⟨its, rv, p⟩ := inv_sq I hqx
  obtain ⟨its2, rv2, p2⟩ := inv_sq I hqy
  obtain ⟨u, hu, ru⟩ := rv.get hx
  obtain ⟨u2, hu2, ru2⟩ := rv2.get hy
  have hzl : z < s.heap.objs.size := Heap.lt_size hz
  refine pyNext_zp_item D hz hTI hTO h1 h2 p p2 (x := u) (y := u2) (by simpa using hu) (by simpa using hu2) fun h' z' TO' h1' h2' hT hsz hk => ?_
  refine ⟨_, rfl, letGo_zp (s := { s with heap := h' }) z' fun h'' z'' sb => ?_⟩
  have hT2 : h''.get? s.heap.objs.size = some { cls := .type "tuple", data := .seq #[u, u2] } := (sb.2 _ (Nat.ne_of_gt hzl)).trans hT
  have new : ObjOk X.prog X.w (upd H s.heap.objs.size (.tup [x, y])) h'' s.heap.objs.size (.tup [x, y]) :=
    ⟨by show 2 ≤ sizeLine; decide, [u, u2], .cons ru (.cons ru2 .nil), ⟨_, hT2, rfl, _, rfl⟩⟩
  have I1 : Inv X pins σ (upd H s.heap.objs.size (.tup [x, y])) { s with heap := h'' } :=
    I.turnedNew (t' := s.toks) (ch := [z, TI, TO, i1, i2]) (fun c o hb q => (sb.2 c (fun q' => hb (by simp [q']))).trans (hk c o (fun q' => hb (by simp [q'])) (fun q' => hb (by simp [q'])) (fun q' => hb (by simp [q'])) (fun q' => hb (by simp [q'])) q)) hf (Nat.le_refl _) new
  refine ⟨.ref s.heap.objs.size, _, I1, rfl, ⟨_, x, y, rfl, I.hok.fresh (Nat.le_refl _), rfl, fun l hl => by rw [inv_sq_inj I hl hqx]; exact hx, fun l hl => by rw [inv_sq_inj I hl hqy]; exact hy⟩, ⟨z'', ?_, ⟨u, u2, ?_⟩, ?_, ?_⟩, fun c hcm => ?_⟩
  · exact (sb.2 _ D.TIz).trans (hk _ _ D.TIz D.TITO D.TIi1 D.TIi2 hTI)
  · exact (sb.2 _ D.TOz).trans TO'
  · exact h1'.at fun o q => (sb.2 _ D.i1z).trans q
  · exact h2'.at fun o q => (sb.2 _ D.i2z).trans q
  · have hlt : c < s.heap.objs.size := by
      have e' : c = z ∨ c = TI ∨ c = TO ∨ c = i1 ∨ c = i2 := by simpa using hcm
      rcases e' with q | q | q | q | q
      · rw [q]; exact hzl
      · rw [q]; exact Heap.lt_size hTI
      · rw [q]; exact Heap.lt_size hTO
      · rw [q]; obtain ⟨_, e1, _⟩ := h1.get; exact Heap.lt_size e1
      · rw [q]; obtain ⟨_, e2, _⟩ := h2.get; exact Heap.lt_size e2
    rw [upd_ne (Nat.ne_of_lt hlt)]
    exact (hf c hcm).1
theorem zp_done (D : ZipApart z TI TO i1 i2 a b) (X : Cx) (i : Nat) (pins : List (Addr × Obj)) (s : Shared) (σ : L2.St) (H : Hp) (E : Value → Shared → Prop) (qt : Quiet X.A s.heap) (I : Inv X pins σ H s) (hf : ∀ c ∈ [z, TI, TO, i1, i2], FpOk X pins H c)
    (t : zTn st p1 p2 a b z TI TO i1 i2 i s.heap) (hg : (ItZ X.K st p1 p2 a b).stop i H) : wpAny (model X.prog X.w) X.A (pyNext (.ref z)) (fun r s1 => r = none ∧ Inv X pins σ H s1) E s := by
  obtain ⟨hz, hTI, ⟨x0, y0, hTO⟩, h1, h2⟩ := t
  obtain ⟨xs, ys, hqx, hqy, hend⟩ := hg
  obtain ⟨its, rv, p⟩ := inv_sq I hqx
  obtain ⟨its2, rv2, p2⟩ := inv_sq I hqy
  have l1 := rv.length
  have l2 := rv2.length
  have he : (its.toArray[i]? = none ∧ its2.toArray[i]? = none) ∨ (st = false ∧ (its.toArray[i]? = none ∨ its2.toArray[i]? = none)) := by
    rcases hend with ⟨q, q2⟩ | ⟨e, q | q⟩
    · exact .inl ⟨by simp; omega, by simp; omega⟩
    · exact .inr ⟨e, .inl (by simp; omega)⟩
    · exact .inr ⟨e, .inr (by simp; omega)⟩
  exact pyNext_zp_end qt D hz hTI hTO h1 h2 p p2 he fun h' hk => ⟨rfl, I.turnedL (t' := s.toks) (ch := [z, TI, TO, i1, i2]) (fun c o hb q =>
    hk c o (fun q' => hb (by simp [q'])) (fun q' => hb (by simp [q'])) (fun q' => hb (by simp [q'])) (fun q' => hb (by simp [q'])) q) hf⟩
theorem turn_zp {P : Program} {w : World} {K : PySem.W.Frag} {elts : List Expr} {kk : Nat} {tpos : Pos} (D : ZipApart z TI TO i1 i2 a b) :
    Turn P w K (.Tuple elts kk tpos) (ItZ K st p1 p2 a b) [z, TI, TO, i1, i2] z (zTn st p1 p2 a b z TI TO i1 i2) where
  mem := by simp
  obj := zp_obj
  keep := zp_keep
  item := by
    intro X hP hw hK hc i pins s σ H E I hf t hg
    subst hP hw hK
    exact zp_item D X i pins s σ H E I hf t hg
  done := by
    intro X hP hw hK hc i pins s σ H E I hf t hg
    subst hP hw hK
    exact zp_done D X i pins s σ H E (.inl (I.ok.hd hc)) I hf t hg
  self := fun A i s Q E t h => pyIter_zp t.1 h
theorem turn_zpH {P : Program} {w : World} {K : PySem.W.Frag} {elts : List Expr} {kk : Nat} {tpos : Pos} (D : ZipApart z TI TO i1 i2 a b) :
    L2H.TurnH P w K (.Tuple elts kk tpos) (ItZ K st p1 p2 a b) [z, TI, TO, i1, i2] z (zTn st p1 p2 a b z TI TO i1 i2) where
  mem := by simp
  obj := zp_obj
  keep := zp_keep
  item := by
    intro X hP hw hK hc i pins s σ H E I hf t hg
    subst hP hw hK
    exact zp_item D X i pins s σ H E I hf t hg
  done := by
    intro X hP hw hK hc i pins s σ H E I hf t hg
    subst hP hw hK
    exact zp_done D X i pins s σ H E (.inr (L2H.HotC.at hc I)) I hf t hg
  self := fun A i s Q E t h => pyIter_zp t.1 h
end
def iZip (K : PySem.W.Frag) (st : Bool) (ta : TA) : TI := fun σ H R => ta σ H fun vs H1 => ∃ a b p1 p2 xs ys, vs = [.ref a, .ref b] ∧ SqB K p1 H1 a xs ∧ SqB K p2 H1 b ys ∧ R (ItZ K st p1 p2 a b) H1
theorem callWith_typeKw {M : Model} {A : Around} {E : Value → Shared → Prop} {s : Shared} {pos : Pos} {T : String} {args : List (Bool × Sem Value)} {keywords : List (Option Str × Sem Value)} {Q : Value → Shared → Prop}
    (hplain : args.any (·.1) = false) (hkw : keywords.any (·.1.isNone) = false)
    (h : wpAny M A (evalArgs (.type T) true args keywords) (fun a s₁ => wpAny M A (call (.type T) a.pos a.kw) Q E s₁) E s) :
    wpAny M A (callWith pos (.type T) [] args keywords) Q E s := by
  unfold callWith
  refine wpAny_bind (wpAny_holding (wpAny_mono h (fun a s₁ h₁ => wpAny_bind (wpAny_standAt ?_)) fun _ _ x => x))
  simp only [hplain, hkw, Bool.or_false]
  refine wpAny_bind (wpAny_pure ?_)
  exact wpAny_bind (wpAny_mono h₁ (fun r s₂ hr => wpAny_bind (wpAny_holding (wpAny_point (wpAny_pure hr)))) fun _ _ x => x)
section
variable {X : Cx} {pins : List (Addr × Obj)} {σ : L2.St} {H1 : Hp} {s1 : Shared} {R : It → Hp → Prop} {elts : List Expr} {kk : Nat} {tpos : Pos} {st : Bool}
theorem zp_go {Q : Value → Shared → Prop} {us : List Value} {vs : List V} (hD : ∀ {p1 p2 : Bool} {a b : Addr} {xs ys : List V}, SqB X.K p1 H1 a xs → SqB X.K p2 H1 b ys → R (ItZ X.K st p1 p2 a b) H1 →
      ∀ h', zTn st p1 p2 a b (s1.heap.objs.size + 4) (s1.heap.objs.size + 2) (s1.heap.objs.size + 3) s1.heap.objs.size (s1.heap.objs.size + 1) 0 h' → ZipApart (s1.heap.objs.size + 4) (s1.heap.objs.size + 2) (s1.heap.objs.size + 3) s1.heap.objs.size (s1.heap.objs.size + 1) a b →
      Inv X pins σ H1 { s1 with heap := h' } → (∀ c, c ∈ [s1.heap.objs.size + 4, s1.heap.objs.size + 2, s1.heap.objs.size + 3, s1.heap.objs.size, s1.heap.objs.size + 1] → FpOk X pins H1 c) → wpAny (model X.prog X.w) X.A (pyIter (.ref (s1.heap.objs.size + 4))) Q X.xe { s1 with heap := h' })
    (I1 : Inv X pins σ H1 s1) (r1 : Vals vs us) (q1 : ∃ a b p1 p2 xs ys, vs = [.ref a, .ref b] ∧ SqB X.K p1 H1 a xs ∧ SqB X.K p2 H1 b ys ∧ R (ItZ X.K st p1 p2 a b) H1) :
    wpAny (model X.prog X.w) X.A (call (.type "zip") us (zkw st)) (fun v s2 => wpAny (model X.prog X.w) X.A (pyIter v) Q X.xe s2) X.xe s1 := by
  obtain ⟨a, b, p1, p2, xs, ys, ex, hqx, hqy, q⟩ := q1
  subst ex
  cases r1 with
  | cons r rr =>
    cases rr with
    | cons r' rr =>
      cases rr
      cases r
      cases r'
      have fresh5 : ∀ c, c ∈ [s1.heap.objs.size + 4, s1.heap.objs.size + 2, s1.heap.objs.size + 3, s1.heap.objs.size, s1.heap.objs.size + 1] → FpOk X pins H1 c := fun c hcm => by
        have e' : c = s1.heap.objs.size + 4 ∨ c = s1.heap.objs.size + 2 ∨ c = s1.heap.objs.size + 3 ∨ c = s1.heap.objs.size ∨ c = s1.heap.objs.size + 1 := by simpa using hcm
        have hle : s1.heap.objs.size ≤ c := by
          rcases e' with z | z | z | z | z <;> rw [z] <;> first | exact Nat.le_add_right _ _ | exact Nat.le_refl _
        exact I1.fpOk hle (I1.hok.fresh hle)
      obtain ⟨its, rv, e1⟩ := inv_sq I1 hqx
      obtain ⟨its2, rv2, e2⟩ := inv_sq I1 hqy
      obtain ⟨o1, n1, ho1, _⟩ := e1.get
      obtain ⟨o2, n2, ho2, _⟩ := e2.get
      refine call_zp e1 e2 fun h' hz hTI hTO h1 h2 hsz hk => ?_
      exact hD hqx hqy q h' ⟨hz, hTI, ⟨_, _, hTO⟩, h1, h2⟩ (PySem.W.ktu_apart s1.heap.objs.size a b (Heap.lt_size ho1) (Heap.lt_size ho2)) (I1.kept (t' := s1.toks) hk) fresh5
end
theorem pi_zipM {X : Cx} (K : PySem.W.Frag) {e e2 : Expr} {ta : TA} {p pos tpos : Pos} {elts : List Expr} {kk : Nat} (hg : Gl X "zip") (hm : X.mg "zip" = none) (ha : PA X [e, e2] ta) (hK : X.K = K := by rfl)
    (hs : starEach [e, e2] X.env = (false, eval e X.env) :: starEach [e2] X.env := by rfl) (hpl : (backTo pos (starEach [e2] X.env)).any (·.1) = false := by rfl) :
    PI X (.Tuple elts kk tpos) (.Call (.Name "zip" p) [e, e2] [] pos) (iZip K false ta) := by
  subst hK
  refine ⟨fun pins s σ H R I h => ?_⟩
  refine Call_ (ld_blt I hg hm PyProof.Rows.boot_zip (PyProof.Rows.callWith_type1 (thn (ha.run pos pins s σ H _ I h) fun us s1 ⟨vs, H1, I1, r1, q1⟩ => ?_) hs hpl))
  exact zp_go (st := false) (fun {p1 p2 a b xs ys} hqx hqy q h' t D I2 f => pyIter_zp t.1 ⟨_, _, _, _, H1, rfl, I2, turn_zp D, t, f, q⟩) I1 r1 q1
theorem pi_zipS {X : Cx} (K : PySem.W.Frag) {e e2 : Expr} {ta : TA} {p pos tpos kp : Pos} {cn : Nat} {cp : Pos} {elts : List Expr} {kk : Nat} (hg : Gl X "zip") (hm : X.mg "zip" = none) (ha : PA X [e, e2] ta) (hK : X.K = K := by rfl)
    (hs : backTo pos (starEach [e, e2] X.env) = (false, eval e X.env) :: backTo pos (starEach [e2] X.env) := by rfl) (hpl : (backTo pos (starEach [e, e2] X.env)).any (·.1) = false := by rfl) :
    PI X (.Tuple elts kk tpos) (.Call (.Name "zip" p) [e, e2] [⟨some "strict", .Constant (.bool true) cn cp, kp⟩] pos) (iZip K true ta) := by
  subst hK
  refine ⟨fun pins s σ H R I h => ?_⟩
  show wpAny _ _ (eval (.Name "zip" p) X.env >>= _) _ _ _
  refine wpAny_bind (ld_blt I hg hm PyProof.Rows.boot_zip (callWith_typeKw hpl rfl ?_))
  have hr := ha.run pos pins s σ H _ I h
  rw [hs] at hr ⊢
  refine evalArgs_kwB rfl (thn hr fun us s1 ⟨vs, H1, I1, r1, q1⟩ => kws_cons (thn ?_ fun v s2 (hv : v = .bool true ∧ s2 = s1) => kws_nil ?_))
  · exact wpAny_pure ⟨rfl, rfl⟩
  · obtain ⟨rfl, rfl⟩ := hv
    exact zp_go (st := true) (fun {p1 p2 a b xs ys} hqx hqy q h' t D I2 f => pyIter_zp t.1 ⟨_, _, _, _, H1, rfl, I2, turn_zp D, t, f, q⟩) I1 r1 q1
/-! ### the data that zip feeds -/
inductive SeqD : PyData → List PyData → Prop
  | lst (ds : List PyData) : SeqD (.list ds) ds
  | tup (ds : List PyData) : SeqD (.tuple ds) ds
def zipD (ds es : List PyData) : List PyData := List.zipWith (fun a b => .tuple [a, b]) ds es
section
variable {K : PySem.W.Frag} {T : Tb} {ρ : List Slot} {ta : TA}
theorem seqD_sq {H : Hp} {S : List Addr} {v : V} {d : PyData} {ds : List PyData} (hd : SeqD d ds) (dv : Dt K (hide H S) v d) : ∃ (a : Addr) (tp : Bool) (xs : List V), v = .ref a ∧ DtAll K (hide H S) xs ds ∧
    ∀ (H' : Hp) (S' : List Addr), Kp (hide H S) (hide H' S') → SqB K tp H' a xs := by
  cases hd with
  | lst =>
    cases dv with
    | lst h1 a1 => exact ⟨_, false, _, rfl, a1, fun H' S' k => SqL.of (hide_get (k _ _ h1 rfl))⟩
  | tup =>
    cases dv with
    | tup h1 a1 => exact ⟨_, true, _, rfl, a1, fun H' S' k => sqt_hide (k.sqt h1)⟩
theorem feeds_zip {st : Bool} {B : Hp} {a b : Addr} {p1 p2 : Bool} {xs ys : List V} {ds es : List PyData} (hl : st = true → ds.length = es.length) (d1 : DtAll K B xs ds) (d2 : DtAll K B ys es)
    (s1 : ∀ (H' : Hp) (S' : List Addr), Kp B (hide H' S') → SqB K p1 H' a xs) (s2 : ∀ (H' : Hp) (S' : List Addr), Kp B (hide H' S') → SqB K p2 H' b ys) : Feeds K T (ItZ K st p1 p2 a b) B (zipD ds es) := by
  intro i H S k l
  have q1 := s1 H S k
  have q2 := s2 H S k
  refine ⟨fun d hd => ?_, fun hle => ⟨xs, ys, q1, q2, ?_⟩⟩
  · have hz : (zipD ds es)[i]? = some d := hd
    unfold zipD at hz
    rw [List.getElem?_zipWith] at hz
    cases hx : ds[i]? with
    | none => rw [hx] at hz; cases hz
    | some x =>
      cases hy : es[i]? with
      | none => rw [hx, hy] at hz; cases hz
      | some y =>
        rw [hx, hy] at hz
        cases hz
        obtain ⟨v1, hv1, e1⟩ := d1.get hx
        obtain ⟨v2, hv2, e2⟩ := d2.get hy
        refine ⟨⟨xs, ys, v1, v2, q1, q2, hv1, hv2⟩, fun x' H2 hyl => ?_⟩
        obtain ⟨Ta, w1, w2, rfl, hT, rfl, f1, f2⟩ := hyl
        have g1 := f1 _ q1
        have g2 := f2 _ q2
        rw [hv1] at g1
        rw [hv2] at g2
        cases g1
        cases g2
        have k2 : Kp B (hide (upd H Ta (.tup [v1, v2])) S) := k.trans ((Ext.new (T := T) hT).kp.hide S)
        exact ⟨.new hT, .tup (.inl (.inl (hide_at l (.of hT) rfl))) (.cons (e1.kp k2) (.cons (e2.kp k2) .nil))⟩
  · have hz : (zipD ds es).length = min ds.length es.length := by simp [zipD]
    rw [hz] at hle
    rw [d1.len, d2.len]
    cases st with
    | true => have := hl rfl; exact .inl ⟨by omega, by omega⟩
    | false => exact .inr ⟨rfl, by omega⟩
theorem it_zip {st : Bool} {d e : PyData} {ds es : List PyData} (h : EvA K T ta ρ [d, e]) (hd : SeqD d ds) (he : SeqD e es) (hl : st = true → ds.length = es.length) : IterD K T (iZip K st ta) ρ (zipD ds es) := fun H0 B C H S σ g R hR =>
  h H0 B C H S σ g _ fun vs H2 ex dv => by
    cases dv with
    | cons b1 b2 =>
      cases b2 with
      | cons b2 b3 =>
        cases b3
        obtain ⟨a, p1, xs, rfl, a1, q1⟩ := seqD_sq hd b1
        obtain ⟨b, p2, ys, rfl, a2, q2⟩ := seqD_sq he b2
        exact ⟨a, b, p1, p2, xs, ys, rfl, q1 _ _ (.refl _), q2 _ _ (.refl _), hR _ _ ex (feeds_zip hl a1 a2 q1 q2)⟩
theorem it_zipN {d e : PyData} {ds es : List PyData} (h : EvA K T ta ρ [d, e]) (hd : SeqD d ds) (he : SeqD e es) : IterD K T (iZip K false ta) ρ (zipD ds es) := it_zip h hd he nofun
theorem it_zipS {d e : PyData} {ds es : List PyData} (h : EvA K T ta ρ [d, e]) (hd : SeqD d ds) (he : SeqD e es) (hl : ds.length = es.length) : IterD K T (iZip K true ta) ρ (zipD ds es) := it_zip h hd he fun _ => hl
theorem zipD_get {ds es : List PyData} {i : Nat} {d : PyData} (h : (zipD ds es)[i]? = some d) : ∃ x y, d = .tuple [x, y] ∧ ds[i]? = some x ∧ es[i]? = some y := by
  unfold zipD at h
  rw [List.getElem?_zipWith] at h
  cases hx : ds[i]? with
  | none => rw [hx] at h; cases h
  | some x =>
    cases hy : es[i]? with
    | none => rw [hx, hy] at h; cases h
    | some y => rw [hx, hy] at h; cases h; exact ⟨x, y, rfl, rfl, rfl⟩
end
end LwZ
set_option Elab.async false
set_option linter.all false
set_option maxRecDepth 100000
set_option maxHeartbeats 4000000
set_option autoImplicit false
/-! Lw, part X: results told by a property alone. -/
namespace Lw
open PySem L2
section
variable (K : PySem.W.Frag) (T : Tb)
def EvX (te : TE) (ρ : List Slot) (Po : PyData → Prop) : Prop := ∀ (H0 B : Hp) (C : List Addr) (H : Hp) (S : List Addr) (σ : St), Gd K T H0 B C H S σ ρ →
  ∀ Q : VK, (∀ d v H2, Po d → Ext T H H2 → Dt K (hide H2 S) v d → Q v H2) → te σ H Q
def EvXF (te : TE) (ρ : List Slot) (Po : List PyData → Prop) : Prop := ∀ (H0 B : Hp) (C : List Addr) (H : Hp) (S : List Addr) (σ : St), Gd K T H0 B C H S σ ρ →
  ∀ Q : VK, (∀ ds p xs H2, Po ds → Ext T H H2 → Fresh H p → H2 p = some (.lst xs) → DtAll K (hide H2 (p :: S)) xs ds → Q (.ref p) H2) → te σ H Q
def EvXA (ta : TA) (ρ : List Slot) (Po : List PyData → Prop) : Prop := ∀ (H0 B : Hp) (C : List Addr) (H : Hp) (S : List Addr) (σ : St), Gd K T H0 B C H S σ ρ →
  ∀ Q : List V → Hp → Prop, (∀ ds vs H2, Po ds → Ext T H H2 → DtAll K (hide H2 S) vs ds → Q vs H2) → ta σ H Q
def EvXT (tt : TT) (ρ : List Slot) (Po : Bool → Prop) : Prop := ∀ (H0 B : Hp) (C : List Addr) (H : Hp) (S : List Addr) (σ : St), Gd K T H0 B C H S σ ρ →
  ∀ Q : Bool → Hp → Prop, (∀ b H2, Po b → Ext T H H2 → Q b H2) → tt σ H Q
end
section
variable {K : PySem.W.Frag} {T : Tb} {ρ : List Slot} {te : TE} {ta : TA} {Po : PyData → Prop} {d : PyData}
theorem Ev.x (h : Ev K T te ρ d) : EvX K T te ρ (fun x => x = d) := fun H0 B C H S σ g Q hQ => h H0 B C H S σ g Q fun v H2 e dv => hQ d v H2 rfl e dv
theorem EvX.mono {Po' : PyData → Prop} (h : EvX K T te ρ Po) (i : ∀ d, Po d → Po' d) : EvX K T te ρ Po' := fun H0 B C H S σ g Q hQ => h H0 B C H S σ g Q fun d v H2 p e dv => hQ d v H2 (i d p) e dv
theorem EvF.x {ds : List PyData} (h : EvF K T te ρ ds) : EvXF K T te ρ (fun x => x = ds) := fun H0 B C H S σ g Q hQ => h H0 B C H S σ g Q fun p xs H2 e f a b => hQ ds p xs H2 rfl e f a b
theorem EvXF.mono {Po Po' : List PyData → Prop} (h : EvXF K T te ρ Po) (i : ∀ d, Po d → Po' d) : EvXF K T te ρ Po' := fun H0 B C H S σ g Q hQ => h H0 B C H S σ g Q fun ds p xs H2 q e f a b => hQ ds p xs H2 (i ds q) e f a b
theorem EvXF.ev {Po : List PyData → Prop} (h : EvXF K T te ρ Po) : EvX K T te ρ (fun d => ∃ ds, d = .list ds ∧ Po ds) := fun H0 B C H S σ g Q hQ => h H0 B C H S σ g Q fun ds p xs H2 q e f a b =>
  hQ (.list ds) _ H2 ⟨ds, rfl, q⟩ e (.lst (hide_some.mpr ⟨(g.lst.not f), a, rfl⟩) (b.kp (hide_sub fun c hc => List.mem_cons_of_mem _ hc)))
theorem EvA.x {ds : List PyData} (h : EvA K T ta ρ ds) : EvXA K T ta ρ (fun x => x = ds) := fun H0 B C H S σ g Q hQ => h H0 B C H S σ g Q fun v H2 e dv => hQ ds v H2 rfl e dv
theorem EvXA.mono {Po Po' : List PyData → Prop} (h : EvXA K T ta ρ Po) (i : ∀ d, Po d → Po' d) : EvXA K T ta ρ Po' := fun H0 B C H S σ g Q hQ => h H0 B C H S σ g Q fun d v H2 p e dv => hQ d v H2 (i d p) e dv
theorem exa_nil : EvXA K T tNil ρ (fun x => x = []) := EvA.x ea_nil
theorem exa_cons {tr : TA} {Pr : List PyData → Prop} (h : EvX K T te ρ Po) (hr : EvXA K T tr ρ Pr) : EvXA K T (tCons te tr) ρ (fun ds => ∃ d es, ds = d :: es ∧ Po d ∧ Pr es) := fun H0 B C H S σ g Q hQ =>
  h H0 B C H S σ g _ fun d v H1 p1 e1 d1 => hr H0 B C H1 S σ (g.ex e1) _ fun es vs H2 p2 e2 d2 => hQ _ _ H2 ⟨d, es, rfl, p1, p2⟩ (e1.trans e2) (.cons (d1.kp (e2.kp.hide S)) d2)
/-- a promise by a property -/
def spP (K : PySem.W.Frag) (T : Tb) (R : List PyData → (PyData → Prop) → Prop) : Sp := fun vs H Q _ => ∃ ds Po S, Lsts H S ∧ DtAll K (hide H S) vs ds ∧ R ds Po ∧
  ∀ r, Po r → ∀ v H', Ext T H H' → Dt K (hide H' S) v r → Q v H'
theorem ex_callX {R : List PyData → (PyData → Prop) → Prop} {Pa : List PyData → Prop} {E : XK} (h : EvXA K T ta ρ Pa) (hR : ∀ ds, Pa ds → ∃ Po', R ds Po' ∧ ∀ r, Po' r → Po r) : EvX K T (tCall (spP K T R) [] E ta) ρ Po := fun H0 B C H S σ g Q hQ =>
  h H0 B C H S σ g _ fun ds vs H1 p1 e1 d1 => let ⟨Po', hR', im⟩ := hR ds p1; ⟨ds, Po', S, g.lst.kp e1.kp, by rw [List.append_nil]; exact d1, hR', fun r pr v H2 e2 d2 => hQ r v H2 (im r pr) (e1.trans e2) d2⟩
theorem ex_call {R : List PyData → (PyData → Prop) → Prop} {ds : List PyData} {E : XK} (h : EvA K T ta ρ ds) (hR : R ds Po) : EvX K T (tCall (spP K T R) [] E ta) ρ Po :=
  ex_callX (EvA.x h) fun ds' e => ⟨Po, by rw [e]; exact hR, fun _ p => p⟩
/-- a promise of a function, its arguments told by a property -/
theorem ex_callR {R : List PyData → PyData → Prop} {Pa : List PyData → Prop} {E : XK} (h : EvXA K T ta ρ Pa) (hR : ∀ ds, Pa ds → ∃ r, R ds r ∧ Po r) : EvX K T (tCall (spR K T R) [] E ta) ρ Po := fun H0 B C H S σ g Q hQ =>
  h H0 B C H S σ g _ fun ds vs H1 p1 e1 d1 => let ⟨r, hR', im⟩ := hR ds p1; ⟨ds, r, S, g.lst.kp e1.kp, by rw [List.append_nil]; exact d1, hR', fun v H2 e2 d2 => hQ r v H2 im (e1.trans e2) d2⟩
theorem fnP {P : Program} {w : World} {mg : Str → Option Value} {base : Heap} {x : Str} {st : Stmt} {dvs : List V} {f : Addr} {fd : FuncData} {N ps : List Str} {k : Nat} {R : List PyData → (PyData → Prop) → Prop} (F : FnP K x st dvs f fd) (S : FnScope N ps (defScope st)) (len : ∀ ds r, R ds r → ds.length = ps.length)
    (hbody : ∀ (cdv : Value) (A : Around) (outer : List Env) (s : Shared) (H : Hp) (E : XK), Room k (A.deeper (PyProof.Rows.envOfC x (defScope st) s.heap.objs.size f cdv)) →
      ∃ t, PSs (cxOf CX0 P w K mg base N x (defScope st) f cdv A outer s H E).nox (defBody st) t ∧ ∀ ds Po, R ds Po → ∀ (H0 : Hp) (C : List Addr) (D : Ends), (∀ r, Po r → Rt K T H0 C D.rt r) → (∀ σ H', Ext T H0 H' → Po .none → D.nx σ H') → Tri K T H0 (hide H0 C) C (slots N.length ds) t D) :
    FnOk P w K mg base CX0 (k + 1) f fd ps (spP K T R) := by
  refine F.ok S (fun vs H Q E h => ?_) (fun cdv A outer s H vs Q E hr h => ?_)
  · obtain ⟨ds, r, S', l, hd, hR, _⟩ := h
    rw [hd.len]
    exact len ds r hR
  · obtain ⟨ds, Po, S', l, hd, hR, hq⟩ := h
    obtain ⟨t, pt, tr⟩ := hbody cdv A outer s H E hr
    refine ⟨t, pt.nox, ?_⟩
    exact tr ds Po hR H S' _ (fun r pr v H' e dv => hq r pr v H' e dv) (fun σ H' e z => hq _ z _ H' e .non) _ _ ⟨S', gd_start l hd⟩
variable {H0 B : Hp} {C : List Addr} {D : Ends} {tz : TS} {i : Nat}
theorem s_asgX (h : EvX K T te ρ Po) (k : ∀ d, Po d → Tri K T H0 B C (ρ.set i (.dat d)) tNext D) : Tri K T H0 B C ρ (tAsg te (gName i)) D := fun σ H ⟨S, g⟩ =>
  h H0 B C H S σ g _ fun d v H2 p e dv => k d p _ _ ⟨S, (g.ex e).set dv⟩
theorem q_asgX (h : EvX K T te ρ Po) (k : ∀ d, Po d → Tri K T H0 B C (ρ.set i (.dat d)) tz D) : Tri K T H0 B C ρ (tSeq (tAsg te (gName i)) tz) D := s_seq (s_asgX h fun d p => s_to (k d p))
theorem s_ownX {Po : List PyData → Prop} (h : EvXF K T te ρ Po) (k : ∀ ds, Po ds → Tri K T H0 B C (ρ.set i (.own ds)) tNext D) : Tri K T H0 B C ρ (tAsg te (gName i)) D := fun σ H ⟨S, g⟩ =>
  h H0 B C H S σ g _ fun ds p xs H2 q e hp h1 h2 => k ds q _ _ ⟨p :: S, g.mine e hp h1 h2⟩
theorem q_ownX {Po : List PyData → Prop} (h : EvXF K T te ρ Po) (k : ∀ ds, Po ds → Tri K T H0 B C (ρ.set i (.own ds)) tz D) : Tri K T H0 B C ρ (tSeq (tAsg te (gName i)) tz) D := s_seq (s_ownX h fun d p => s_to (k d p))
theorem s_retX (h : EvX K T te ρ Po) (k : ∀ d, Po d → Rt K T H0 C D.rt d) : Tri K T H0 B C ρ (tRet te) D := fun σ H ⟨S, g⟩ =>
  h H0 B C H S σ g _ fun d v H2 p e dv => k d p v H2 (g.ext.trans e) (dv.kp (hide_sub g.sub))
theorem s_ifX {Pb : Bool → Prop} {t : TT} {tu tw : TS} (h : EvXT K T t ρ Pb) (h1 : Pb true → Tri K T H0 B C ρ tu D) (h2 : Pb false → Tri K T H0 B C ρ tw D) : Tri K T H0 B C ρ (tIfS t tu tw) D := fun σ H ⟨S, g⟩ =>
  h H0 B C H S σ g _ fun b H2 p e => by
    cases b with
    | true => exact iteT (h1 p σ H2 ⟨S, g.ex e⟩)
    | false => exact iteF (h2 p σ H2 ⟨S, g.ex e⟩)
theorem q_ifX {Pb : Bool → Prop} {t : TT} {tu tw : TS} (h : EvXT K T t ρ Pb) (h1 : Pb true → Tri K T H0 B C ρ tu { D with nx := tz D }) (h2 : Pb false → Tri K T H0 B C ρ tw { D with nx := tz D }) : Tri K T H0 B C ρ (tSeq (tIfS t tu tw) tz) D := s_seq (s_ifX h h1 h2)
theorem s_appX {ds : List PyData} (h : ρ[i]? = some (.own ds)) (he : EvX K T te ρ Po) (hl : ds.length < 1000000) (k : ∀ d, Po d → Tri K T H0 B C (ρ.set i (.own (ds ++ [d]))) tNext D) :
    Tri K T H0 B C ρ (tDrop (tBM K "list" rAppend (tVar i) (tCons te tNil))) D := fun σ H ⟨S, g⟩ => by
  obtain ⟨p, xs, a1, a2, a3, a4, a5⟩ := g.own i ds h
  refine ⟨.ref p, a1, .inl ⟨rfl, xs, SqL.of a4⟩, ?_⟩
  refine he H0 B C H S σ g _ fun d v H2 pd e dv => ?_
  have g2 := g.ex e
  have h2 : H2 p = some (.lst xs) := e.kp p _ a4 rfl
  refine ⟨p, xs, v, rfl, rfl, h2, by rw [a5.len]; exact Nat.lt_trans hl (by decide), ?_⟩
  exact k d pd _ _ ⟨S, g2.write h a1 h2 ((a5.kp (e.kp.hide S)).app (.cons dv .nil))⟩
theorem q_appX {ds : List PyData} (h : ρ[i]? = some (.own ds)) (he : EvX K T te ρ Po) (hl : ds.length < 1000000) (k : ∀ d, Po d → Tri K T H0 B C (ρ.set i (.own (ds ++ [d]))) tz D) :
    Tri K T H0 B C ρ (tSeq (tDrop (tBM K "list" rAppend (tVar i) (tCons te tNil))) tz) D := s_seq (s_appX h he hl fun d p => s_to (k d p))
theorem s_parX {j : Nat} {tr : TA} {Pa : List PyData → Prop} (h : EvXA K T tr ρ Pa) (hl : ∀ ds, Pa ds → ds.length = 2) (k : ∀ d1 d2, Pa [d1, d2] → Tri K T H0 B C ((ρ.set i (.dat d1)).set j (.dat d2)) tNext D) : Tri K T H0 B C ρ (tPar i j tr) D := fun σ H ⟨S, g⟩ =>
  h H0 B C H S σ g _ fun ds vs H2 p e dv => by
    have l2 := hl ds p
    match ds, l2, p, dv with
    | [d1, d2], _, p, .cons b1 (.cons b2 .nil) => exact ⟨_, _, rfl, k d1 d2 p _ _ ⟨S, ((g.ex e).set b1).set b2⟩⟩
theorem q_parX {j : Nat} {tr : TA} {Pa : List PyData → Prop} (h : EvXA K T tr ρ Pa) (hl : ∀ ds, Pa ds → ds.length = 2) (k : ∀ d1 d2, Pa [d1, d2] → Tri K T H0 B C ((ρ.set i (.dat d1)).set j (.dat d2)) tz D) : Tri K T H0 B C ρ (tSeq (tPar i j tr) tz) D := s_seq (s_parX h hl fun a b p => s_to (k a b p))
variable {wi : TI} {g : TG} {tt : TT} {vs : List Nat} {items : List PyData}
/-- a comprehension, by what holds behind i items -/
theorem ef_lcG (I : Nat → List PyData → Prop) (hi : IterD K T wi ρ items) (hz : items.length ≤ 1000000) (h0 : I 0 [])
    (hs : ∀ (i : Nat) (d : PyData) (ys : List PyData), items[i]? = some d → I i ys → ∃ js f, TgD K T g d js f ∧ (∀ j ∈ js, j ∈ vs) ∧ ∃ Pb : Bool → Prop, EvXT K T tt (f (wipeS ρ vs)) Pb ∧ (Pb true → ∃ Po, EvX K T te (f (wipeS ρ vs)) Po ∧ ∀ y, Po y → I (i + 1) (ys ++ [y])) ∧ (Pb false → I (i + 1) ys)) :
    EvXF K T (tLc wi g tt te vs) ρ (I items.length) := fun H0 B C H S σ gd Q hQ => by
  refine hi H0 B C H S σ gd _ fun J H1 e1 fd => ?_
  intro D hD
  have g1 := gd.ex e1
  obtain ⟨gl, nm⟩ := g1.lay (xs := []) hD
  have gw := gl.wiped vs
  have nw := notMine_wipe nm vs
  have frD : Fresh H D := (Fresh.of hD).back e1.kp
  have fr0 : Fresh H0 D := frD.back gd.ext.kp
  have sees : Kp (hide H1 S) (hide (upd H1 D (.lst [])) (D :: S)) := by rw [hide_new (.of hD)]; exact .refl _
  refine ⟨fun i m Hc => m = items.length - i ∧ i ≤ items.length ∧ ∃ acc ys, I i ys ∧ ys.length ≤ i ∧ Gd K T H0 B C Hc (D :: S) (wipe σ vs) (wipeS ρ vs) ∧ Ext T H Hc ∧ Kp (hide H1 S) (hide Hc (D :: S)) ∧ Hc D = some (.lst acc) ∧ DtAll K (hide Hc (D :: S)) acc ys, ⟨items.length, by simp, Nat.zero_le _, [], [], h0, Nat.le_refl _, gw, e1.trans (.new hD), sees, upd_same, .nil⟩, ?_⟩
  rintro i m Hc ⟨rfl, hil, acc, ys, hI, hly, gc, ec, sc, hc, dc⟩
  obtain ⟨f1, f2⟩ := fd i Hc (D :: S) sc gc.lst
  by_cases hlt : i < items.length
  · obtain ⟨go, yl⟩ := f1 items[i] (List.getElem?_eq_getElem hlt)
    refine .inr ⟨go, fun Hn => ∃ acc ys, I (i + 1) ys ∧ ys.length ≤ i + 1 ∧ Gd K T H0 B C Hn (D :: S) (wipe σ vs) (wipeS ρ vs) ∧ Ext T H Hn ∧ Kp (hide H1 S) (hide Hn (D :: S)) ∧ Hn D = some (.lst acc) ∧ DtAll K (hide Hn (D :: S)) acc ys, fun Hn hn => ⟨items.length - (i + 1), by omega, rfl, hlt, hn⟩, fun x H' hy => ?_⟩
    obtain ⟨ex, dx⟩ := yl x H' hy
    obtain ⟨js, f, tg, hj, Pb, ht, h1, h2⟩ := hs i _ ys (List.getElem?_eq_getElem hlt) hI
    refine tg H0 B C H' (D :: S) (wipe σ vs) (wipeS ρ vs) x (gc.ex ex) dx _ fun σ2 g2 w2 => ⟨?_, ?_⟩
    · have ww : wipe (wipe σ vs) vs = wipe σ vs := by
        have key : ∀ ws : List Nat, (∀ v ∈ ws, v ∈ vs) → wipe (wipe σ ws) vs = wipe σ vs := fun ws => by
          induction ws with
          | nil => intro _; rfl
          | cons v ws ih =>
            intro hv
            show wipe ((wipe σ ws).set v none) vs = wipe σ vs
            rw [wipe_set (hv v (List.mem_cons_self ..)), ih fun u hu => hv u (List.mem_cons_of_mem _ hu)]
        exact key vs fun v hv => hv
      rw [w2 vs hj, ww]
    · refine ht H0 B C H' (D :: S) σ2 g2 _ fun b H3 pb e3 => ?_
      have g3 := g2.ex e3
      have ec3 : Ext T Hc H3 := ex.trans e3
      cases b with
      | true =>
        obtain ⟨Po, hy', hn⟩ := h1 pb
        refine iteT (hy' H0 B C H3 (D :: S) σ2 g3 _ fun y v H4 py e4 dv => ?_)
        have ec4 := ec3.trans e4
        have hD4 : H4 D = some (.lst acc) := ec4.kp D _ hc rfl
        have gc4 := (gc.ex ec4)
        have dc4 := dc.kp (ec4.kp.hide (D :: S))
        refine ⟨acc, hD4, ?_, acc ++ [v], ys ++ [y], hn y py, ?_, ?_, ?_, ?_, upd_same, ?_⟩
        · have q := dc.len
          have q4 : (1000000 : Nat) < sizeLine := by decide
          omega
        · rw [List.length_append]; simp only [List.length_cons, List.length_nil]; omega
        · exact gc4.poke (List.mem_cons_self ..) fr0 nw hD4
        · have q := ec.trans ec4
          exact ⟨fun b o hb n => by
            have hb' := q.kp b o hb n
            rw [upd_ne (fun z => by subst z; rw [frD o hb] at n; cases n)]
            exact hb', fun t => tabs_lst hD4 (q.tb t)⟩
        · rw [hide_upd (List.mem_cons_self ..)]
          exact sc.trans (ec4.kp.hide _)
        · rw [hide_upd (List.mem_cons_self ..)]
          exact dc4.app (.cons dv .nil)
      | false => exact iteF ⟨acc, ys, h2 pb, by omega, gc.ex ec3, ec.trans ec3, sc.trans (ec3.kp.hide _), ec3.kp D _ hc rfl, dc.kp (ec3.kp.hide _)⟩
  · have e0 : i = items.length := by omega
    subst e0
    exact .inl ⟨f2 (Nat.le_refl _), hQ ys D acc Hc hI ec frD hc dc⟩
theorem ext_yes : EvXT K T tYes ρ (fun b => b = true) := fun H0 B C H S σ g Q hQ => et_yes H0 B C H S σ g Q fun H2 e => hQ true H2 rfl e
theorem EvT.x {b : Bool} {t : TT} (h : EvT K T t ρ b) : EvXT K T t ρ (fun x => x = b) := fun H0 B C H S σ g Q hQ => h H0 B C H S σ g Q fun H2 e => hQ b H2 rfl e
/-- each item by itself, no test -/
inductive All2 (P : PyData → PyData → Prop) : List PyData → List PyData → Prop
  | nil : All2 P [] []
  | cons {x y : PyData} {xs ys : List PyData} : P x y → All2 P xs ys → All2 P (x :: xs) (y :: ys)
theorem All2.snoc {P : PyData → PyData → Prop} {xs ys : List PyData} {x y : PyData} (h : All2 P xs ys) (p : P x y) : All2 P (xs ++ [x]) (ys ++ [y]) := by
  induction h with
  | nil => exact .cons p .nil
  | cons a b ih => exact .cons a ih
theorem ef_lcX (P : PyData → PyData → Prop) (hi : IterD K T wi ρ items) (hz : items.length ≤ 1000000)
    (hs : ∀ (i : Nat) (d : PyData), items[i]? = some d → ∃ js f, TgD K T g d js f ∧ (∀ j ∈ js, j ∈ vs) ∧ EvX K T te (f (wipeS ρ vs)) (P d)) :
    EvXF K T (tLc wi g tYes te vs) ρ (All2 P items) := by
  have q := ef_lcG (K := K) (T := T) (te := te) (fun i ys => All2 P (items.take i) ys) hi hz (by rw [List.take_zero]; exact .nil) (fun i d ys h hI => by
    obtain ⟨js, f, h1, h2, h3⟩ := hs i d h
    refine ⟨js, f, h1, h2, _, ext_yes, fun _ => ⟨_, h3, fun y py => ?_⟩, fun z => by cases z⟩
    obtain ⟨hlt, rfl⟩ := List.getElem?_eq_some_iff.mp h
    rw [← List.take_append_getElem hlt]
    exact hI.snoc py)
  rw [List.take_length] at q
  exact q
end
end Lw
set_option Elab.async false
set_option linter.all false
set_option maxRecDepth 100000
set_option maxHeartbeats 4000000
set_option autoImplicit false
/-! Lw, part W: expressions that take from owned lists; two owned lists at once. -/
namespace Lw
open PySem L2
section
variable (K : PySem.W.Frag) (T : Tb)
/-- te gives d, the slots are then ρ' -/
def EvS (te : TE) (ρ : List Slot) (Po : PyData → List Slot → Prop) : Prop := ∀ (H0 B : Hp) (C : List Addr) (H : Hp) (S : List Addr) (σ : St), Gd K T H0 B C H S σ ρ →
  ∀ Q : VK, (∀ d ρ' v H2, Po d ρ' → Gd K T H0 B C H2 S σ ρ' → Kp (hide H S) (hide H2 S) → Dt K (hide H2 S) v d → Q v H2) → te σ H Q
end
section
variable {K : PySem.W.Frag} {T : Tb} {ρ : List Slot} {te : TE} {ta tb : TE} {Po : PyData → List Slot → Prop} {d : PyData}
theorem EvX.s {P : PyData → Prop} (h : EvX K T te ρ P) : EvS K T te ρ (fun d ρ' => P d ∧ ρ' = ρ) := fun H0 B C H S σ g Q hQ => h H0 B C H S σ g Q fun d v H2 p e dv => hQ d ρ v H2 ⟨p, rfl⟩ (g.ex e) (e.kp.hide S) dv
theorem EvS.mono {Po' : PyData → List Slot → Prop} (h : EvS K T te ρ Po) (i : ∀ d ρ', Po d ρ' → Po' d ρ') : EvS K T te ρ Po' := fun H0 B C H S σ g Q hQ => h H0 B C H S σ g Q fun d ρ' v H2 p a b c => hQ d ρ' v H2 (i d ρ' p) a b c
theorem es_pop0 {i : Nat} {x : PyData} {xs : List PyData} (h : ρ[i]? = some (.own (x :: xs))) (hl : xs.length < 1000000) : EvS K T (tBM K "list" rPopAt (tVar i) (tCons (tC (.int 0)) tNil)) ρ (fun d ρ' => d = x ∧ ρ' = ρ.set i (.own xs)) := fun H0 B C H S σ g Q hQ => by
  obtain ⟨p, vs, a1, a2, a3, a4, a5⟩ := g.own i _ h
  refine ⟨.ref p, a1, .inl ⟨rfl, vs, SqL.of a4⟩, ?_⟩
  cases a5 with
  | cons b1 b2 =>
    rename_i v vs
    refine ⟨p, v :: vs, 0, 0, v, rfl, rfl, a4, by decide, by decide, ?_, rfl, ?_⟩
    · unfold seqIndex?
      simp
    · show Q v (upd H p (.lst vs))
      have e : hide (upd H p (.lst vs)) S = hide H S := hide_upd a2
      refine hQ x _ v _ ⟨rfl, rfl⟩ (g.write h a1 a4 b2) ?_ ?_
      · rw [e]; exact .refl _
      · rw [e]; exact b1
theorem es_if {t : TT} {b : Bool} (h : EvT K T t ρ b) (h1 : b = true → EvS K T ta ρ Po) (h2 : b = false → EvS K T tb ρ Po) : EvS K T (tIf t ta tb) ρ Po := fun H0 B C H S σ g Q hQ =>
  h H0 B C H S σ g _ fun H2 e => by
    have k := e.kp.hide S
    cases b with
    | true => exact iteT (h1 rfl H0 B C H2 S σ (g.ex e) Q fun d ρ' v H3 p a c dv => hQ d ρ' v H3 p a (k.trans c) dv)
    | false => exact iteF (h2 rfl H0 B C H2 S σ (g.ex e) Q fun d ρ' v H3 p a c dv => hQ d ρ' v H3 p a (k.trans c) dv)
/-- an operation whose second part takes from owned lists -/
theorem es_op {r : R2} {x : PyData} {Po' : PyData → List Slot → Prop} (h : Ev K T ta ρ x) (h2 : EvS K T tb ρ Po) (hr : ∀ y ρ', Po y ρ' → ∃ z, RV K T r x y z ∧ Po' z ρ') : EvS K T (tOp r ta tb) ρ Po' := fun H0 B C H S σ g Q hQ =>
  h H0 B C H S σ g _ fun v H1 e1 dv => h2 H0 B C H1 S σ (g.ex e1) _ fun y ρ' u H2 p g2 k du => by
    obtain ⟨z, hz, pz⟩ := hr y ρ' p
    exact hz H2 S v u g2.lst (dv.kp k) du Q fun w H3 e3 dw => hQ z ρ' w H3 pz (g2.ex e3) ((e1.kp.hide S).trans (k.trans (e3.kp.hide S))) dw
variable {H0 B : Hp} {C : List Addr} {D : Ends} {tz : TS} {i j : Nat}
theorem s_appS {ds : List PyData} (h : ρ[i]? = some (.own ds)) (he : EvS K T te ρ Po) (hl : ds.length < 1000000) (ho : ∀ d ρ', Po d ρ' → ρ'[i]? = some (.own ds)) (k : ∀ d ρ', Po d ρ' → Tri K T H0 B C (ρ'.set i (.own (ds ++ [d]))) tNext D) :
    Tri K T H0 B C ρ (tDrop (tBM K "list" rAppend (tVar i) (tCons te tNil))) D := fun σ H ⟨S, g⟩ => by
  obtain ⟨p, xs, a1, a2, a3, a4, a5⟩ := g.own i ds h
  refine ⟨.ref p, a1, .inl ⟨rfl, xs, SqL.of a4⟩, ?_⟩
  refine he H0 B C H S σ g _ fun d ρ' v H2 pd g2 kp dv => ?_
  obtain ⟨p', xs', b1, b2, b3, b4, b5⟩ := g2.own i ds (ho d ρ' pd)
  rw [a1] at b1
  cases b1
  refine ⟨p, xs', v, rfl, rfl, b4, by rw [b5.len]; exact Nat.lt_trans hl (by decide), ?_⟩
  exact k d ρ' pd _ _ ⟨S, g2.write (ho d ρ' pd) a1 b4 (b5.app (.cons dv .nil))⟩
theorem q_appS {ds : List PyData} (h : ρ[i]? = some (.own ds)) (he : EvS K T te ρ Po) (hl : ds.length < 1000000) (ho : ∀ d ρ', Po d ρ' → ρ'[i]? = some (.own ds)) (k : ∀ d ρ', Po d ρ' → Tri K T H0 B C (ρ'.set i (.own (ds ++ [d]))) tz D) :
    Tri K T H0 B C ρ (tSeq (tDrop (tBM K "list" rAppend (tVar i) (tCons te tNil))) tz) D := s_seq (s_appS h he hl ho fun d ρ' p => s_to (k d ρ' p))
theorem set_len_id {α : Type} (xs : List α) (x : α) : xs.set xs.length x = xs := List.set_eq_of_length_le (Nat.le_refl _)
/-- two new lists, both owned -/
theorem s_parOwn {ds es : List PyData} (h1 : EvF K T ta ρ ds) (h2 : EvF K T tb ρ es) (k : Tri K T H0 B C ((ρ.set i (.own ds)).set j (.own es)) tNext D) : Tri K T H0 B C ρ (tPar i j (tCons ta (tCons tb tNil))) D := fun σ H ⟨S, g⟩ => by
  refine h1 H0 B C H S σ g _ fun p xs H1 e1 f1 l1 a1 => ?_
  have g1 := g.mine (i := ρ.length) e1 f1 l1 a1
  rw [set_len_id, ← g.len, set_len_id] at g1
  refine h2 H0 B C H1 (p :: S) σ g1 _ fun p2 xs2 H2 e2 f2 l2 a2 => ?_
  exact ⟨_, _, rfl, k _ _ ⟨_, (g.mine e1 f1 l1 a1).mine e2 f2 l2 a2⟩⟩
theorem q_parOwn {ds es : List PyData} (h1 : EvF K T ta ρ ds) (h2 : EvF K T tb ρ es) (k : Tri K T H0 B C ((ρ.set i (.own ds)).set j (.own es)) tz D) : Tri K T H0 B C ρ (tSeq (tPar i j (tCons ta (tCons tb tNil))) tz) D := s_seq (s_parOwn h1 h2 (s_to k))
end
end Lw
set_option Elab.async false
set_option linter.all false
set_option maxRecDepth 100000
set_option maxHeartbeats 4000000
set_option autoImplicit false
/-! Lw, part S: `//` of numbers of any size. -/
namespace Lw
open PySem L2
/-- what is asked of the module's part K and of the program -/
def seerB (K : PySem.W.Frag) : Bool := He.eqO (PySem.W.nsIn K cStatics "sys.audit-hooks") (some none) && (He.eqO (PySem.W.nsIn K cStatics "sys.dict") (some none) &&
  ((match K.lookup sysModules with
    | some ⟨_, _, .dict es _, _⟩ => (es.toList.all fun e => match e.key with | .str _ _ => true | _ => false) && He.eqO (some (nsFind es "_pylong")) (some none)
    | _ => false) &&
  (match PySem.W.nsIn K mainGlobals "__builtins__" with
    | some (some (.ref bm)) => (match K.lookup bm with
      | some ⟨.type c, some d, _, _⟩ => decide (c = "module") && decide (d = builtinsNs)
      | _ => false)
    | _ => false)))
structure Seer (P : Program) (K : PySem.W.Frag) : Prop where
  tree : P.given.tree = none
  ok : seerB K = true
theorem ns_none_of {K : PySem.W.Frag} {h : Heap} {a : Addr} {mg : Str → Option Value} {n : Str} (X : K.In h) (G : h.Ns a mg) (e : PySem.W.nsIn K a n = some none) : mg n = none := by
  obtain ⟨o, es, ep, ho, hd, hk, hf⟩ := G
  unfold PySem.W.nsIn at e
  split at e
  · rename_i c d es' n' sl q
    have := X _ _ q
    rw [ho] at this
    cases this
    cases hd
    rw [← hf]
    split at e
    · cases e
    · rename_i q2
      unfold nsFind findBy
      rw [← Array.find?_toList, q2]
      rfl
  · cases e
theorem seer_heap {K : PySem.W.Frag} {mg : Str → Option Value} {base : Heap} (c : seerB K = true) (M : Mod K mg base) : base.NoSeer := by
  unfold seerB at c
  obtain ⟨c1, c⟩ := He.ba c
  obtain ⟨c2, c⟩ := He.ba c
  obtain ⟨c3, c4⟩ := He.ba c
  refine ⟨?_, ?_, M.blt, ?_⟩
  · obtain ⟨mc, n, _⟩ := M.nolimit
    exact ⟨mc, n, ns_none_of M.kin n (He.eqO_ok c1), ns_none_of M.kin n (He.eqO_ok c2)⟩
  · split at c3
    · rename_i cl d es ep sl q
      obtain ⟨k1, k2⟩ := He.ba c3
      refine ⟨fun x => nsFind es x, ⟨_, es, ep, M.kin _ _ q, rfl, fun e he => ?_, fun _ => rfl⟩, ?_⟩
      · have := List.all_eq_true.mp k1 e (Array.mem_toList_iff.mpr he)
        split at this
        · rename_i n t hk
          exact ⟨n, t, hk⟩
        · cases this
      · exact Option.some.inj (He.eqO_ok k2)
    · cases c3
  · split at c4
    · rename_i bm q
      split at c4
      · rename_i cl d dt sl q2
        obtain ⟨k1, k2⟩ := He.ba c4
        exact ⟨mg, bm, _, M.glob, PySem.W.mg_of M.kin M.glob q, M.kin _ _ q2, congrArg Value.type (of_decide_eq_true k1), congrArg some (of_decide_eq_true k2)⟩
      · cases c4
    · cases c4
theorem op_fdB {X : Cx} {k : Nat} {env : Env} {l : List Env} (Se : Seer X.prog X.K) (hr : Room k X.A) (hk : 32 ≤ k) (hst : X.stack = env :: l) (h1 : env.scope.isGenerator = false) (h2 : env.scope.isCoroutine = false) (h3 : env.builtins = builtinsNs) (h4 : env.globals = mainGlobals) :
    OpR X (binaryOp .FloorDiv) (rI (fun _ j => j ≠ 0) fun i j => .int (i.fdiv j)) := fun pins s σ H x y v u Q I rx ry h => by
  obtain ⟨i, j, rfl, rfl, hj, q⟩ := h
  obtain ⟨t1, rfl⟩ := rx
  obtain ⟨t2, rfl⟩ := ry
  have sa : SeerAt (model X.prog X.w) X.A s.heap := SeerAt.of ((seer_heap Se.ok I.ok.mod).keeps I.bk) Se.tree (by rw [I.ok.frames, hst]) h1 h2 h3 h4
  refine PyProof.Rows.floordiv_int hj ?_ (.inr (PylongRoom.of I.nolimit (by have := hr.dp; have e : Builtin.pylongFrames = 100 := rfl; omega) sa))
  exact ⟨.int (i.fdiv j), H, I.tok _, ⟨_, rfl⟩, q⟩
section
variable {K : PySem.W.Frag} {T : Tb} {ρ : List Slot}
abbrev rFdB : R2 := rI (fun _ j => j ≠ 0) fun i j => .int (i.fdiv j)
theorem rv_fdB {i j : Int} (h : j ≠ 0) : RV K T rFdB (.int i) (.int j) (.int (i.fdiv j)) := fun H S v u l dv du Q hQ => by
  cases dv
  cases du
  exact ⟨i, j, rfl, rfl, h, hQ _ _ (.refl T H) (.int _)⟩
/-- a constant of the module -/
structure CstV (mg : Str → Option Value) (K : PySem.W.Frag) (x : Str) (v : V) (u : Value) (d : PyData) : Prop where
  m : mg x = some u
  r : RelV v u
  e : ∀ H, Dt K H v d
def Cst (mg : Str → Option Value) (K : PySem.W.Frag) (x : Str) (d : PyData) : Prop := ∃ v u, CstV mg K x v u d
theorem ev_cst {mg : Str → Option Value} {x : Str} {v : V} {u : Value} {d : PyData} (g : CstV mg K x v u d) : Ev K T (tC v) ρ d := fun H0 B C H S σ gd Q hQ => hQ v H (.refl T H) (g.e _)
end
theorem cst_tup {K : PySem.W.Frag} {mg : Str → Option Value} {x : Str} {vs : List He.Dv} {ds : List PyData} (m : mg x = some (.ref (He.ga K x))) (t : He.tupB K x vs = true) (h : ∀ H, DtAll K H (vs.map (He.Dv.v K)) ds) : Cst mg K x (.tuple ds) :=
  ⟨.ref (He.ga K x), _, m, rfl, fun H => .tup (He.tupB_ok t H) (h H)⟩
theorem cst_int {K : PySem.W.Frag} {mg : Str → Option Value} {x : Str} {i : Int} (m : ∃ t, mg x = some (.int i t)) : Cst mg K x (.int i) := let ⟨t, e⟩ := m; ⟨.int i, _, e, ⟨t, rfl⟩, fun H => .int i⟩
theorem cst_str {K : PySem.W.Frag} {mg : Str → Option Value} {x z : Str} (m : ∃ t, mg x = some (.str z t)) : Cst mg K x (.str z) := let ⟨t, e⟩ := m; ⟨.str z, _, e, ⟨t, rfl⟩, fun H => .str z⟩
/-! ### the hook: also what Ck asks -/
abbrev AlL : Type := He.AlD × Bool
def obsLK (fa : List He.Fa) (fn : List He.DefD) (ck : PySem.W.Frag → Bool) (K : PySem.W.Frag) : AlL := (He.obsD fa fn K, ck K)
def obsLG (n : Nat) (fa : List He.Fa) (fn : List He.DefD) (ck : PySem.W.Frag → Bool) (g : Addr → Option Obj) : AlL := obsLK fa fn ck (He.frG g (He.asD g n ++ [cStatics, sysModules]))
def hookL (n : Nat) (fa : List He.Fa) (fn : List He.DefD) (ck : PySem.W.Frag → Bool) : PySem.W.Hook where
  α := AlL
  obs := fun s => obsLG n fa fn ck s.heap.get?
  val := fun _ => (He.valD fn, true)
  says := fun _ h => ∃ K : PySem.W.Frag, K.In h ∧ He.SaysD fa fn K ∧ ck K = true
  of := fun _ _ e => ⟨_, He.frG_in, congrArg Prod.fst e, congrArg Prod.snd e⟩
  keeps := fun _ _ _ ⟨K, hK, c⟩ k => ⟨K, PySem.W.Frag.In.keeps hK k, c⟩
theorem obsLG_eq {n : Nat} {fa : List He.Fa} {fn : List He.DefD} {ck : PySem.W.Frag → Bool} {g : Addr → Option Obj} {s : Shared} (h : ∀ a, g a = s.heap.get? a) : obsLG n fa fn ck g = (hookL n fa fn ck).obs s := by
  have e : g = s.heap.get? := funext h
  rw [e] <;> rfl
end Lw
set_option Elab.async false
set_option linter.all false
set_option maxRecDepth 100000
set_option maxHeartbeats 4000000
set_option autoImplicit false
/-! Lw, part Q: data that can be compared; sequences of either kind. -/
namespace Lw
open PySem L2 LwZ
def ShD (n : Nat) (d : PyData) : Prop := d.canLay0 = true ∧ d.depth ≤ n
theorem ShD.mono {n m : Nat} {d : PyData} (h : ShD n d) (l : n ≤ m) : ShD m d := ⟨h.1, Nat.le_trans h.2 l⟩
theorem ShD.shaped {n : Nat} {d : PyData} (h : ShD n d) (l : n ≤ 64) : SeqAt.shaped d = true := by
  unfold SeqAt.shaped
  rw [h.1, decide_eq_true (Nat.le_trans h.2 l)]
  rfl
theorem ShD.refl {n : Nat} {d : PyData} (h : ShD n d) : PyData.eqv d d = true := PySem.SeqAt.eqv_refl d h.1
theorem lay_all : ∀ {ds : List PyData}, (∀ d ∈ ds, d.canLay0 = true) → PyData.canLayAll0 ds = true
  | [], _ => by simp only [PyData.canLayAll0]
  | d :: ds, h => by
    simp only [PyData.canLayAll0]
    rw [h d (List.mem_cons_self ..), lay_all fun x hx => h x (List.mem_cons_of_mem _ hx)]
    rfl
theorem depth_all {n : Nat} : ∀ {ds : List PyData}, (∀ d ∈ ds, d.depth ≤ n) → PyData.depthAll ds ≤ n
  | [], _ => by simp only [PyData.depthAll]; exact Nat.zero_le _
  | d :: ds, h => by
    simp only [PyData.depthAll]
    exact Nat.max_le.mpr ⟨h d (List.mem_cons_self ..), depth_all fun x hx => h x (List.mem_cons_of_mem _ hx)⟩
theorem shd_list {n : Nat} {ds : List PyData} (h : ∀ d ∈ ds, ShD n d) : ShD (n + 1) (.list ds) := by
  refine ⟨by simp only [PyData.canLay0]; exact lay_all fun d hd => (h d hd).1, ?_⟩
  simp only [PyData.depth]
  have := depth_all fun d hd => (h d hd).2
  omega
theorem shd_tuple {n : Nat} {ds : List PyData} (h : ∀ d ∈ ds, ShD n d) : ShD (n + 1) (.tuple ds) := by
  refine ⟨by simp only [PyData.canLay0]; exact lay_all fun d hd => (h d hd).1, ?_⟩
  simp only [PyData.depth]
  have := depth_all fun d hd => (h d hd).2
  omega
theorem shd_int (i : Int) : ShD 0 (.int i) := ⟨by simp only [PyData.canLay0], by simp only [PyData.depth]; exact Nat.le_refl _⟩
theorem shd_bool (b : Bool) : ShD 0 (.bool b) := ⟨by simp only [PyData.canLay0], by simp only [PyData.depth]; exact Nat.le_refl _⟩
theorem shd_none : ShD 0 .none := ⟨by simp only [PyData.canLay0], by simp only [PyData.depth]; exact Nat.le_refl _⟩
theorem mem_map_of {α β : Type} {P : β → Prop} {f : α → β} {xs : List α} (h : ∀ x ∈ xs, P (f x)) : ∀ y ∈ xs.map f, P y := fun y hy => by
  obtain ⟨x, hx, rfl⟩ := List.mem_map.mp hy
  exact h x hx
theorem shd_encR (q : Rat) : ShD 1 (encR q) := shd_tuple fun d hd => by
  simp only [List.mem_cons, List.mem_nil_iff, or_false] at hd
  rcases hd with rfl | rfl <;> exact shd_int _
theorem shd_encRs (qs : List Rat) : ShD 2 (.list (qs.map encR)) := shd_list (mem_map_of fun q _ => shd_encR q)
theorem shd_encRt (qs : List Rat) : ShD 2 (.tuple (qs.map encR)) := shd_tuple (mem_map_of fun q _ => shd_encR q)
section
variable {K : PySem.W.Frag} {T : Tb} {ρ : List Slot} {te ta tb : TE} {d : PyData} {ds : List PyData}
theorem it_sq (h : Ev K T te ρ d) (hd : SeqD d ds) : IterD K T (iSeq K te) ρ ds := by
  cases hd with
  | lst => exact it_list h
  | tup => exact it_tup h
theorem ev_lenSq (h : Ev K T te ρ d) (hd : SeqD d ds) : Ev K T (tCB (rLenA K) (tCons te tNil)) ρ (.int ds.length) := by
  cases hd with
  | lst => exact ev_cb (ea_cons h ea_nil) rc_lenL
  | tup => exact ev_cb (ea_cons h ea_nil) rc_lenT
theorem ev_ixSq {i : Int} {x : PyData} (h : Ev K T ta ρ d) (hd : SeqD d ds) (h2 : Ev K T tb ρ (.int i)) (hx : atI ds i = some x) : Ev K T (tOp (rIx K) ta tb) ρ x := by
  cases hd with
  | lst => exact ev_op h h2 (rv_ixL hx)
  | tup => exact ev_op h h2 (rv_ixT hx)
theorem ru_neg {i : Int} : RU K T (rU fun i => .int (-i)) (.int i) (.int (-i)) := fun H S v l dv Q hQ => by
  cases dv
  exact ⟨i, rfl, hQ _ _ (.refl T H) (.int _)⟩
theorem ef_to {es : List PyData} (h : EvF K T te ρ ds) (e : ds = es) : EvF K T te ρ es := e ▸ h
/-- same data: not unlike -/
theorem et_same {n : Nat} (h1 : Ev K T ta ρ d) (h2 : Ev K T tb ρ d) (s1 : ShD n d) (l1 : n ≤ 64) : EvT K T (tTest (tOp (rNeD K) ta tb)) ρ false := by
  have q := et_test (ev_op h1 h2 (rv_ne (s1.shaped l1) (s1.shaped l1)))
  rw [s1.refl] at q
  exact q
theorem et_sameE {n : Nat} (h1 : Ev K T ta ρ d) (h2 : Ev K T tb ρ d) (s1 : ShD n d) (l1 : n ≤ 64) : EvT K T (tTest (tOp (rEqD K) ta tb)) ρ true := by
  have q := et_test (ev_op h1 h2 (rv_eq (s1.shaped l1) (s1.shaped l1)))
  rw [s1.refl] at q
  exact q
end
section
variable {K : PySem.W.Frag} {T : Tb} {ρ : List Slot} {te : TE} {wi : TI} {g : TG} {vs : List Nat} {items : List PyData}
theorem ev_anyLc (F : PyData → Bool) (hi : IterD K T wi ρ items) (hz : items.length ≤ 1000000)
    (hs : ∀ (i : Nat) (d : PyData), items[i]? = some d → ∃ js f, TgD K T g d js f ∧ (∀ j ∈ js, j ∈ vs) ∧ Ev K T te (f (wipeS ρ vs)) (.bool (F d))) : Ev K T (tCB (rAny K) (tCons (tLc wi g tYes te vs) tNil)) ρ (.bool (items.any F)) := by
  have q := ef_lcM (K := K) (T := T) (fun d => .bool (F d)) hi hz hs
  have e : items.map (fun d => PyData.bool (F d)) = (items.map F).map PyData.bool := by rw [List.map_map]; rfl
  rw [e] at q
  have r := ev_cb (ea_cons q.ev ea_nil) (rc_any (K := K) (T := T))
  rw [List.any_map] at r
  exact r
theorem ev_allLc (F : PyData → Bool) (hi : IterD K T wi ρ items) (hz : items.length ≤ 1000000)
    (hs : ∀ (i : Nat) (d : PyData), items[i]? = some d → ∃ js f, TgD K T g d js f ∧ (∀ j ∈ js, j ∈ vs) ∧ Ev K T te (f (wipeS ρ vs)) (.bool (F d))) : Ev K T (tCB (rAll K) (tCons (tLc wi g tYes te vs) tNil)) ρ (.bool (items.all F)) := by
  have q := ef_lcM (K := K) (T := T) (fun d => .bool (F d)) hi hz hs
  have e : items.map (fun d => PyData.bool (F d)) = (items.map F).map PyData.bool := by rw [List.map_map]; rfl
  rw [e] at q
  have r := ev_cb (ea_cons q.ev ea_nil) (rc_all (K := K) (T := T))
  rw [List.all_map] at r
  exact r
end
/-! ### rows of parts -/
def dotQ : List Rat → List Rat → Rat
  | a :: r, b :: f => a * b + dotQ r f
  | _, _ => 0
/-- rows of parts, as lists or as tuples -/
inductive RowsD : List PyData → List (List Rat) → Prop
  | nil : RowsD [] []
  | cons {d : PyData} {ds : List PyData} {r : List Rat} {rs : List (List Rat)} : SeqD d (r.map encR) → RowsD ds rs → RowsD (d :: ds) (r :: rs)
theorem RowsD.len {ds : List PyData} {rs : List (List Rat)} (h : RowsD ds rs) : ds.length = rs.length := by
  induction h with
  | nil => rfl
  | cons a b ih => simp [ih]
theorem RowsD.get {ds : List PyData} {rs : List (List Rat)} (h : RowsD ds rs) : ∀ {i : Nat} {d : PyData}, ds[i]? = some d → ∃ r, rs[i]? = some r ∧ SeqD d (r.map encR) := by
  induction h with
  | nil => intro i d e; cases e
  | cons a b ih =>
    intro i d e
    cases i with
    | zero => cases e; exact ⟨_, rfl, a⟩
    | succ i => exact ih e
theorem rowsD_tup : ∀ rs : List (List Rat), RowsD (rs.map fun r => .tuple (r.map encR)) rs
  | [] => .nil
  | r :: rs => .cons (.tup _) (rowsD_tup rs)
section
variable {K : PySem.W.Frag} {T : Tb} {ρ : List Slot} {te : TE} {wi : TI} {ta : TA} {vs : List Nat}
theorem take_snoc {α : Type} {xs : List α} {i : Nat} {x : α} (h : xs[i]? = some x) : xs.take (i + 1) = xs.take i ++ [x] := by
  rw [List.take_succ, h]
  rfl
/-- a comprehension over parts -/
theorem ef_mapR {i : Nat} {as : List Rat} (F : Rat → PyData) (hi : IterD K T wi ρ (as.map encR)) (hz : as.length ≤ 1000000) (hv : i ∈ vs)
    (hs : ∀ a ∈ as, Ev K T te ((wipeS ρ vs).set i (.dat (encR a))) (F a)) : EvF K T (tLc wi (gName i) tYes te vs) ρ (as.map F) := by
  have q := ef_lcG (K := K) (T := T) (te := te) (g := gName i) (tt := tYes) (vs := vs) (fun k ys => ys = (as.take k).map F) hi (by rw [List.length_map]; exact hz) rfl (fun k d ys hd hI => by
    rw [List.getElem?_map] at hd
    cases e : as[k]? with
    | none => rw [e] at hd; cases hd
    | some a =>
      rw [e] at hd
      cases hd
      refine ⟨_, _, tg_name, (fun j hj => by rw [List.mem_singleton.mp hj]; exact hv), _, ext_yes, fun _ => ⟨_, Ev.x (hs a (List.mem_of_getElem? e)), fun y hy => ?_⟩, fun z => by cases z⟩
      rw [hy, hI, take_snoc e, List.map_append]
      rfl)
  rw [List.length_map, List.take_length] at q
  exact fun H0 B C H S σ g Q hQ => q H0 B C H S σ g Q fun ds p xs H2 e a b c d => by
    subst e
    exact hQ p xs H2 a b c d
/-- a comprehension over zip of parts -/
theorem ef_zipR {st : Bool} {i j : Nat} {as bs : List Rat} {d e : PyData} (F : Rat → Rat → PyData) (h : EvA K T ta ρ [d, e]) (hd : SeqD d (as.map encR)) (he : SeqD e (bs.map encR)) (hl : st = true → as.length = bs.length) (hz : as.length ≤ 1000000) (hv : i ∈ vs) (hw : j ∈ vs)
    (hs : ∀ a ∈ as, ∀ b ∈ bs, Ev K T te (((wipeS ρ vs).set i (.dat (encR a))).set j (.dat (encR b))) (F a b)) :
    EvF K T (tLc (iZip K st ta) (gTup K 2 (gCons (gName i) (gCons (gName j) gNil))) tYes te vs) ρ (List.zipWith F as bs) := by
  have q := ef_lcG (K := K) (T := T) (te := te) (g := gTup K 2 (gCons (gName i) (gCons (gName j) gNil))) (tt := tYes) (vs := vs) (fun k ys => ys = List.zipWith F (as.take k) (bs.take k)) (it_zip (K := K) (T := T) h hd he (fun z => by rw [List.length_map, List.length_map]; exact hl z)) (by simp [zipD]; omega) rfl (fun k x ys hx hI => by
    obtain ⟨x1, x2, rfl, h1, h2⟩ := zipD_get hx
    rw [List.getElem?_map] at h1 h2
    cases e1 : as[k]? with
    | none => rw [e1] at h1; cases h1
    | some a =>
      cases e2 : bs[k]? with
      | none => rw [e2] at h2; cases h2
      | some b =>
        rw [e1] at h1
        rw [e2] at h2
        cases h1
        cases h2
        refine ⟨_, _, tg_tup (tgs_cons tg_name (tgs_cons tg_name tgs_nil)) rfl, (fun k hk => by
          simp only [List.cons_append, List.nil_append, List.mem_cons, List.mem_nil_iff, or_false] at hk
          rcases hk with rfl | rfl
          · exact hv
          · exact hw), _, ext_yes, fun _ => ⟨_, Ev.x (hs a (List.mem_of_getElem? e1) b (List.mem_of_getElem? e2)), fun y hy => ?_⟩, fun z => by cases z⟩
        have l1 : k < as.length := (List.getElem?_eq_some_iff.mp e1).1
        have l2 : k < bs.length := (List.getElem?_eq_some_iff.mp e2).1
        rw [hy, hI, take_snoc e1, take_snoc e2, List.zipWith_append (by rw [List.length_take, List.length_take]; omega)]
        rfl)
  have hn : (zipD (as.map encR) (bs.map encR)).length = min as.length bs.length := by simp [zipD]
  rw [hn] at q
  have hf : List.zipWith F (as.take (min as.length bs.length)) (bs.take (min as.length bs.length)) = List.zipWith F as bs := by
    rw [← List.take_zipWith, List.take_of_length_le (by simp)]
  exact fun H0 B C H S σ g Q hQ => q H0 B C H S σ g Q fun ds p xs H2 e a b c d => by
    subst e
    rw [hf] at d
    exact hQ p xs H2 a b c d
end
/-! ### sums of products -/
theorem sz_dot {n m : Nat} : ∀ (r f : List Rat), (∀ q ∈ r, Sz n q) → (∀ q ∈ f, Sz m q) → Sz (1 + r.length * (n + m + 1)) (dotQ r f)
  | [], f, _, _ => by
    have e : dotQ [] f = 0 := by unfold dotQ; rfl
    rw [e]
    exact Sz.mono (n := 1) ⟨by decide, by decide⟩ (by omega)
  | a :: r, [], _, _ => by
    have e : dotQ (a :: r) [] = 0 := by unfold dotQ; rfl
    rw [e]
    exact Sz.mono (n := 1) ⟨by decide, by decide⟩ (by omega)
  | a :: r, b :: f, h1, h2 => by
    have ih := sz_dot r f (fun q hq => h1 q (List.mem_cons_of_mem _ hq)) fun q hq => h2 q (List.mem_cons_of_mem _ hq)
    have s := sz_add (sz_mul (h1 a (List.mem_cons_self ..)) (h2 b (List.mem_cons_self ..))) ih
    exact s.mono (by rw [List.length_cons, Nat.succ_mul]; omega)
theorem dot_add : ∀ (r a b : List Rat), a.length = b.length → dotQ r (List.zipWith (· + ·) a b) = dotQ r a + dotQ r b
  | [], a, b, _ => by simp [dotQ]; grind
  | x :: r, [], [], _ => by simp [dotQ]; grind
  | x :: r, [], b :: bs, h => by cases h
  | x :: r, a :: as, [], h => by cases h
  | x :: r, a :: as, b :: bs, h => by
    have ih := dot_add r as bs (by simpa using h)
    show x * (a + b) + dotQ r (List.zipWith (· + ·) as bs) = (x * a + dotQ r as) + (x * b + dotQ r bs)
    rw [ih]
    grind
theorem dot_scale (c : Rat) : ∀ (r a : List Rat), dotQ r (a.map (c * ·)) = c * dotQ r a
  | [], a => by simp [dotQ]
  | x :: r, [] => by simp [dotQ]
  | x :: r, a :: as => by
    have ih := dot_scale c r as
    show x * (c * a) + dotQ r (as.map (c * ·)) = c * (x * a + dotQ r as)
    rw [ih]
    grind
theorem dot_nn : ∀ (r a : List Rat), (∀ q ∈ r, 0 ≤ q) → (∀ q ∈ a, 0 ≤ q) → 0 ≤ dotQ r a
  | [], a, _, _ => by simp [dotQ]
  | x :: r, [], _, _ => by simp [dotQ]
  | x :: r, a :: as, h1, h2 => by
    have ih := dot_nn r as (fun q hq => h1 q (List.mem_cons_of_mem _ hq)) fun q hq => h2 q (List.mem_cons_of_mem _ hq)
    have p := Rat.mul_nonneg (h1 x (List.mem_cons_self ..)) (h2 a (List.mem_cons_self ..))
    show 0 ≤ x * a + dotQ r as
    grind
theorem atE_last {α : Type} {f : α → PyData} : ∀ {xs : List α}, xs ≠ [] → ∃ p ∈ xs, atI (xs.map f) (-1) = some (f p) := by
  intro xs h
  refine ⟨xs.getLast h, List.getLast_mem h, ?_⟩
  have hl : 0 < xs.length := List.length_pos_iff.mpr h
  unfold atI ixN
  rw [List.length_map, if_neg (by decide), if_pos (by omega)]
  show (xs.map f)[(-1 + (xs.length : Int)).toNat]? = _
  rw [show (-1 + (xs.length : Int)).toNat = xs.length - 1 from by omega, List.getElem?_map, List.getLast_eq_getElem, List.getElem?_eq_getElem (by omega)]
  rfl
theorem atE_first {α : Type} {f : α → PyData} : ∀ {xs : List α}, xs ≠ [] → ∃ p ∈ xs, atI (xs.map f) 0 = some (f p)
  | [], h => (h rfl).elim
  | x :: xs, _ => ⟨x, List.mem_cons_self .., by rw [atI_in (by decide) (by simp)]; rfl⟩
end Lw
set_option Elab.async false
set_option linter.all false
set_option maxRecDepth 100000
set_option maxHeartbeats 4000000
set_option autoImplicit false
/-! Lw, part P: isinstance of data; defs that raise; try. -/
namespace Lw
open PySem L2 LwZ
/-! ### isinstance -/
def tyN : PyData → String
  | .none => "NoneType"
  | .bool _ => "bool"
  | .int _ => "int"
  | .str _ => "str"
  | .list _ => "list"
  | .tuple _ => "tuple"
  | .dict _ => "dict"
section
variable {K : PySem.W.Frag} {T : Tb} {ρ : List Slot} {te : TE} {d : PyData}
theorem dt_ty {H : Hp} {S : List Addr} {v : V} (h : Dt K (hide H S) v d) : TyX K H v (.type (tyN d)) := by
  cases h with
  | non => exact .base .non
  | bl b => exact .base (.bl b)
  | int i => exact .base (.int i)
  | str x => exact .base (.str x)
  | lst h1 _ => exact .base (.lst (hide_get h1))
  | tup h1 _ =>
    rcases sqt_hide h1 with (e | ⟨o, e⟩) | ⟨o, its, n, e, c, _⟩
    · exact .base (.tup e)
    · exact .fTuple e
    · exact .kTuple e c
theorem ev_isi {t : String} {b : Bool} (h : Ev K T te ρ d) (hb : kitB (tyN d) t = some b) : Ev K T (tCB (rIsi K) (tCons te (tCons (tC (.ty t)) tNil))) ρ (.bool b) := fun H0 B C H S σ g Q hQ =>
  h H0 B C H S σ g _ fun v H2 e dv => ⟨v, .ty t, _, _, b, rfl, .ty t, dt_ty dv, kit_ty hb, hQ _ _ e (.bl b)⟩
theorem ev_isi2 {t u : String} {b c : Bool} (h : Ev K T te ρ d) (hb : kitB (tyN d) t = some b) (hc : kitB (tyN d) u = some c) :
    Ev K T (tCB (rIsiT K) (tCons te (tCons (tTup (tCons (tC (.ty t)) (tCons (tC (.ty u)) tNil))) tNil))) ρ (.bool (b || c)) := fun H0 B C H S σ g Q hQ =>
  h H0 B C H S σ g _ fun v H2 e dv => ⟨by show 2 ≤ sizeLine; decide, fun p hp => by
    have e2 : Ext T H2 (upd H2 p (.tup [.ty t, .ty u])) := .new hp
    refine ⟨v, p, [.ty t, .ty u], .type (tyN d), [.type t, .type u], b || c, rfl, upd_same, .cons (.ty t) (.cons (.ty u) .nil), dt_ty (dv.kp (e2.kp.hide S)), ?_, hQ _ _ (e.trans e2) (.bl _)⟩
    refine kitAny_cons (kit_ty hb) (fun z => kitAny_cons (kit_ty hc) (fun z2 => ?_) fun z2 => ?_) fun z => ?_
    · rw [z, z2]; exact kitAny_nil
    · rw [z2, Bool.or_true]
    · rw [z]; rfl⟩
end
theorem call_isiK {X : Cx} (K : PySem.W.Frag) (h : X.K = K := by rfl) : CallR X (.builtin "isinstance") (rIsi K) := h ▸ call_isi
theorem call_isiTK {X : Cx} (K : PySem.W.Frag) (h : X.K = K := by rfl) : CallR X (.builtin "isinstance") (rIsiT K) := h ▸ call_isiT
/-! ### an own exception class -/
structure ExF (K : PySem.W.Frag) (mg : Str → Option Value) (x : Str) (bm : List Value) (nw : String) : Prop where
  g : mg x = some (.ref (He.ga K x))
  q : PySem.W.excIn K (He.ga K x) bm nw = true
  k : PySem.W.keepIn K (.ref (He.ga K x)) = true
  s : PySem.W.subIn K (.ref (He.ga K x)) (.type "BaseException") = some true
  t : PySem.W.typeIn K (.ref (He.ga K x)) = some (.type "type")
/-- raise of the class x -/
def tRaise (K : PySem.W.Frag) (x : Str) (W : WX) : TS := fun _ σ H => W (.ref (He.ga K x)) none σ H
theorem ps_raiseX {X : Cx} {x m : Str} {j : Nat} {p p2 pos pos' : Pos} {bm : List Value} {B nw ini : String} {W : WX} (hc : X.calm = true) (tk : Takes X W) (F : ExcBaseFacts B nw ini bm) (e : ExF X.K X.mg x bm nw) (hg : Gl X x)
    (hdb : (x == ("__debug__" : Str)) = false := by decide) : PS X (.Raise (some (.Call (.Name x p) [.Constant (.str m) j p2] [] pos)) none pos') (tRaise X.K x W) :=
  ps_raise hc tk (pmk_own F e.q e.g e.k (raises_own e.s e.t) hg hdb)
/-! ### promises of defs that may raise -/
inductive Out where
  | ok (d : PyData)
  | ex (x : Str)
def spE (K : PySem.W.Frag) (T : Tb) (R : List PyData → Out → Prop) : Sp := fun vs H Q E => ∃ ds o S, Lsts H S ∧ DtAll K (hide H S) vs ds ∧ R ds o ∧
  match o with
  | .ok r => ∀ v H', Ext T H H' → Dt K (hide H' S) v r → Q v H'
  | .ex x => ∀ H', Ext T H H' → E (.ref (He.ga K x)) none H'
/-- what is wanted of the way out -/
def Ot (K : PySem.W.Frag) (T : Tb) (H0 : Hp) (C : List Addr) (rt : VK) (E : XK) : Out → Prop
  | .ok r => Rt K T H0 C rt r
  | .ex x => ∀ H', Ext T H0 H' → E (.ref (He.ga K x)) none H'
def WF (E : XK) : WX := fun cls d _ H => E cls d H
section
variable {P : Program} {w : World} {K : PySem.W.Frag} {T : Tb} {mg : Str → Option Value} {base : Heap}
theorem fnE {x : Str} {st : Stmt} {dvs : List V} {f : Addr} {fd : FuncData} {N ps : List Str} {k : Nat} {R : List PyData → Out → Prop} (F : FnP K x st dvs f fd) (S : FnScope N ps (defScope st)) (len : ∀ ds r, R ds r → ds.length = ps.length)
    (hbody : ∀ (cdv : Value) (A : Around) (outer : List Env) (s : Shared) (H : Hp) (E : XK), Room k (A.deeper (PyProof.Rows.envOfC x (defScope st) s.heap.objs.size f cdv)) →
      ∃ t, PSs (cxOf (L2.CX P w) P w K mg base N x (defScope st) f cdv A outer s H E) (defBody st) t ∧ ∀ ds o, R ds o → ∀ (H0 : Hp) (C : List Addr) (D : Ends), Ot K T H0 C D.rt E o → (∀ σ H', Ext T H0 H' → o = .ok .none → D.nx σ H') → Tri K T H0 (hide H0 C) C (slots N.length ds) t D) :
    FnOk P w K mg base (L2.CX P w) (k + 1) f fd ps (spE K T R) := by
  refine F.ok S (fun vs H Q E h => ?_) (fun cdv A outer s H vs Q E hr h => ?_)
  · obtain ⟨ds, r, S', l, hd, hR, _⟩ := h
    rw [hd.len]
    exact len ds r hR
  · obtain ⟨ds, o, S', l, hd, hR, hq⟩ := h
    obtain ⟨t, pt, tr⟩ := hbody cdv A outer s H E hr
    refine ⟨t, pt, ?_⟩
    refine tr ds o hR H S' _ ?_ (fun σ H' e z => ?_) _ _ ⟨S', gd_start l hd⟩
    · cases o with
      | ok r => exact fun v H' e dv => hq v H' e dv
      | ex x => exact fun H' e => hq H' e
    · subst z
      exact hq _ H' e .non
end
/-- a def that may raise, by its name -/
structure CalX (P : Program) (w : World) (K : PySem.W.Frag) (mg : Str → Option Value) (base : Heap) (k : Nat) (x : Str) (ps : List Str) (dvs : List V) (sp : Sp) : Prop where
  ex : ∃ (f : Addr) (fd : FuncData) (ds : List Value), FnOk P w K mg base (L2.CX P w) k f fd ps sp ∧ mg x = some (.ref f) ∧ PySem.W.keepIn K (.ref f) = true ∧ Binds K fd ps ds ∧ Vals dvs ds
section
variable {X : Cx} {x : Str} {ps : List Str} {dvs : List V} {sp : Sp} {k j : Nat} {e : Expr} {es : List Expr} {t : TA} {p pos : Pos} {W : WX}
theorem pe_callX (c : CalX X.prog X.w X.K X.mg X.base k x ps dvs sp) (tk : Takes X W) (hr : Room j X.A) (hg : Gl X x) (ha : PA X (e :: es) t) (hk : k ≤ j := by decide) (hdb : (x == ("__debug__" : Str)) = false := by decide)
    (he : starEach (e :: es) X.env = (false, eval e X.env) :: starEach es X.env := by rfl) (hpl : (backTo pos (starEach es X.env)).any (·.1) = false := by rfl) : PE X (.Call (.Name x p) (e :: es) [] pos) (tCallSD sp dvs (WE W) t) := by
  obtain ⟨f, fd, ds, G, m, kp, b, v⟩ := c.ex
  exact pe_callSD G (hr.mono hk) hg m kp b v (fun σ => passAt tk σ) ha hdb he hpl
end
section
variable {K : PySem.W.Frag} {T : Tb} {ρ : List Slot} {te : TE} {ta : TA} {z : PyData} {W : WX} {H0 B : Hp} {C : List Addr} {D : Ends} {tz : TS} {g : TG}
theorem ev_callE {R : List PyData → Out → Prop} {ds : List PyData} {dvs : List V} {es : List PyData} (h : EvA K T ta ρ ds) (hd : ∀ H, DtAll K H dvs es) (hR : R (ds ++ es) (.ok z)) : Ev K T (tCallSD (spE K T R) dvs (WE W) ta) ρ z := fun H0 B C H S σ g Q hQ =>
  h H0 B C H S σ g _ fun vs H1 e1 d1 => ⟨ds ++ es, .ok z, S, g.lst.kp e1.kp, d1.app (hd _), hR, fun v H2 e2 d2 => hQ v H2 (e1.trans e2) d2⟩
/-- te raises x -/
def EvR (K : PySem.W.Frag) (T : Tb) (te : TE) (ρ : List Slot) (x : Str) (W : WX) : Prop := ∀ (H0 B : Hp) (C : List Addr) (H : Hp) (S : List Addr) (σ : St), Gd K T H0 B C H S σ ρ →
  ∀ Q : VK, (∀ H2, Ext T H H2 → W (.ref (He.ga K x)) none σ H2) → te σ H Q
theorem er_callE {R : List PyData → Out → Prop} {ds : List PyData} {dvs : List V} {es : List PyData} {x : Str} (h : EvA K T ta ρ ds) (hd : ∀ H, DtAll K H dvs es) (hR : R (ds ++ es) (.ex x)) : EvR K T (tCallSD (spE K T R) dvs (WE W) ta) ρ x W := fun H0 B C H S σ g Q hQ =>
  h H0 B C H S σ g _ fun vs H1 e1 d1 => ⟨ds ++ es, .ex x, S, g.lst.kp e1.kp, d1.app (hd _), hR, fun H2 e2 => hQ H2 (e1.trans e2)⟩
/-- the way out of the body -/
def Esc (K : PySem.W.Frag) (T : Tb) (H0 B : Hp) (C : List Addr) (ρ : List Slot) (x : Str) (W : WX) : Prop := ∀ σ H, Good K T H0 B C ρ σ H → W (.ref (He.ga K x)) none σ H
theorem esc_fn {x : Str} {E : XK} (h : ∀ H', Ext T H0 H' → E (.ref (He.ga K x)) none H') : Esc K T H0 B C ρ x (fun cls d _ H => E cls d H) := fun σ H ⟨S, g⟩ => h H g.ext
theorem s_asgR {x : Str} (h : EvR K T te ρ x W) (k : Esc K T H0 B C ρ x W) : Tri K T H0 B C ρ (tAsg te g) D := fun σ H ⟨S, gd⟩ => h H0 B C H S σ gd _ fun H2 e => k σ H2 ⟨S, gd.ex e⟩
theorem q_asgR {x : Str} (h : EvR K T te ρ x W) (k : Esc K T H0 B C ρ x W) : Tri K T H0 B C ρ (tSeq (tAsg te g) tz) D := s_seq (s_asgR h k)
theorem s_dropR {x : Str} (h : EvR K T te ρ x W) (k : Esc K T H0 B C ρ x W) : Tri K T H0 B C ρ (tDrop te) D := fun σ H ⟨S, gd⟩ => h H0 B C H S σ gd _ fun H2 e => k σ H2 ⟨S, gd.ex e⟩
theorem q_dropR {x : Str} (h : EvR K T te ρ x W) (k : Esc K T H0 B C ρ x W) : Tri K T H0 B C ρ (tSeq (tDrop te) tz) D := s_seq (s_dropR h k)
theorem s_retR {x : Str} (h : EvR K T te ρ x W) (k : Esc K T H0 B C ρ x W) : Tri K T H0 B C ρ (tRet te) D := fun σ H ⟨S, gd⟩ => h H0 B C H S σ gd _ fun H2 e => k σ H2 ⟨S, gd.ex e⟩
theorem s_raise {x : Str} (k : Esc K T H0 B C ρ x W) : Tri K T H0 B C ρ (tRaise K x W) D := fun σ H g => k σ H g
end
/-! ### the text's exception classes -/
structure ErC where
  name : Str
  ups : List Str
  bm : List Value
  nw : String
  ini : Bool
def veB : List Value := [.type "ValueError", .type "Exception", .type "BaseException", .type "object"]
def zeB : List Value := [.type "ZeroDivisionError", .type "ArithmeticError", .type "Exception", .type "BaseException", .type "object"]
def leB : List Value := [.type "LookupError", .type "Exception", .type "BaseException", .type "object"]
def ieB : List Value := [.type "IndexError", .type "LookupError", .type "Exception", .type "BaseException", .type "object"]
def subE (c d : ErC) : Bool := (c.name :: c.ups).contains d.name
def biE : List String := ["ValueError", "ZeroDivisionError", "LookupError", "IndexError"]
def excB (K : PySem.W.Frag) (D : Addr) : Bool := He.eqO (PySem.W.findIn K (.ref D) "__getattribute__") (some (some (.builtin "BaseException.__getattribute__"))) && (He.eqO (PySem.W.findIn K (.ref D) "__getattr__") (some none) &&
  (decide (PySem.W.subIn K (.ref D) (.type "BaseException") = some true) && (PySem.W.hasDictIn K D && (He.eqO (PySem.W.findIn K (.ref D) "__class__") (some (some (.builtin "object.__class__"))) &&
  (He.eqO (PySem.W.specialIn K (.builtin "object.__class__") "__get__") (some (some (.builtin "getset_descriptor.__get__"))) && (decide (PySem.W.takesIn K (.builtin "object.__class__") = some true) && decide (PySem.W.mroIn K D (.type "object") = some true)))))))
theorem excB_ok {K : PySem.W.Frag} {D : Addr} (h : excB K D = true) : ExcC K D := by
  unfold excB at h
  obtain ⟨h1, h⟩ := He.ba h
  obtain ⟨h2, h⟩ := He.ba h
  obtain ⟨h3, h⟩ := He.ba h
  obtain ⟨h4, h⟩ := He.ba h
  obtain ⟨h5, h⟩ := He.ba h
  obtain ⟨h6, h⟩ := He.ba h
  obtain ⟨h7, h8⟩ := He.ba h
  exact ⟨He.eqO_ok h1, He.eqO_ok h2, of_decide_eq_true h3, h4, He.eqO_ok h5, He.eqO_ok h6, of_decide_eq_true h7, of_decide_eq_true h8⟩
def erOne (K : PySem.W.Frag) (cl : List ErC) (c : ErC) : Bool := He.eqO (PySem.W.nsIn K mainGlobals c.name) (some (some (.ref (He.ga K c.name)))) && ((c.ini || PySem.W.excIn K (He.ga K c.name) c.bm c.nw) && (PySem.W.keepIn K (.ref (He.ga K c.name)) &&
  (decide (PySem.W.typeIn K (.ref (He.ga K c.name)) = some (.type "type")) && (excB K (He.ga K c.name) && ((cl.all fun d => decide (PySem.W.exmOne K (.ref (He.ga K c.name)) (.ref (He.ga K d.name)) = some (subE c d)) && decide (PySem.W.kitOne K (.ref (He.ga K c.name)) (.ref (He.ga K d.name)) = some (subE c d))) &&
  biE.all fun t => decide (PySem.W.kitOne K (.ref (He.ga K c.name)) (.type t) = some (c.bm.contains (.type t))))))))
def erB (cl : List ErC) (K : PySem.W.Frag) : Bool := cl.all (erOne K cl)
structure ErF (K : PySem.W.Frag) (mg : Str → Option Value) (cl : List ErC) (c : ErC) : Prop where
  g : mg c.name = some (.ref (He.ga K c.name))
  f : c.ini = false → ExF K mg c.name c.bm c.nw
  k : PySem.W.keepIn K (.ref (He.ga K c.name)) = true
  t : PySem.W.typeIn K (.ref (He.ga K c.name)) = some (.type "type")
  x : ExcC K (He.ga K c.name)
  m : ∀ d ∈ cl, PySem.W.exmOne K (.ref (He.ga K c.name)) (.ref (He.ga K d.name)) = some (subE c d) ∧ PySem.W.kitOne K (.ref (He.ga K c.name)) (.ref (He.ga K d.name)) = some (subE c d)
  b : ∀ t ∈ biE, PySem.W.kitOne K (.ref (He.ga K c.name)) (.type t) = some (c.bm.contains (.type t))
def ErrT (K : PySem.W.Frag) (mg : Str → Option Value) (cl : List ErC) : Prop := ∀ c ∈ cl, ErF K mg cl c
theorem erB_ok {K : PySem.W.Frag} {h : Heap} {mg : Str → Option Value} {cl : List ErC} (X : K.In h) (G : h.Ns mainGlobals mg) (e : erB cl K = true) : ErrT K mg cl := fun c hc => by
  have q := List.all_eq_true.mp e c hc
  unfold erOne at q
  obtain ⟨h1, q⟩ := He.ba q
  obtain ⟨h2, q⟩ := He.ba q
  obtain ⟨h3, q⟩ := He.ba q
  obtain ⟨h4, q⟩ := He.ba q
  obtain ⟨h5, q⟩ := He.ba q
  obtain ⟨h6, h7⟩ := He.ba q
  have g := PySem.W.mg_of X G (He.eqO_ok h1)
  have c5 := excB_ok h5
  refine ⟨g, fun z => ⟨g, ?_, h3, c5.hs, of_decide_eq_true h4⟩, h3, of_decide_eq_true h4, c5, fun d hd => ?_, fun t ht => of_decide_eq_true (List.all_eq_true.mp h7 t ht)⟩
  · rw [z, Bool.false_or] at h2
    exact h2
  · obtain ⟨a, b⟩ := He.ba (List.all_eq_true.mp h6 d hd)
    exact ⟨of_decide_eq_true a, of_decide_eq_true b⟩
/-! ### a promise that may raise, where it doesn't -/
theorem CalX.calm {P : Program} {w : World} {K : PySem.W.Frag} {T : Tb} {mg : Str → Option Value} {base : Heap} {k : Nat} {x : Str} {ps : List Str} {dvs : List V} {R : List PyData → Out → Prop} (c : CalX P w K mg base k x ps dvs (spE K T R)) :
    Cal P w K mg base k x ps dvs (spR K T fun ds r => R ds (.ok r)) := by
  obtain ⟨f, fd, ds, G, m, kp, b, v⟩ := c.ex
  refine ⟨f, fd, ds, ⟨fun vs H Q E h => ?_, fun A outer s H args us vs Q E hr e0 hb hv h => ?_⟩, m, kp, b, v⟩
  · obtain ⟨ds, r, S, l, hd, hR, hq⟩ := h
    exact G.len vs H Q (fun _ _ _ => False) ⟨ds, .ok r, S, l, hd, hR, hq⟩
  · obtain ⟨ds, r, S, l, hd, hR, hq⟩ := h
    refine codeAny_mono (G.run A outer s H args us vs Q (fun _ _ _ => False) hr e0 hb hv ⟨ds, .ok r, S, l, hd, hR, hq⟩) fun o s' h' => ?_
    cases o with
    | error e =>
      obtain ⟨_, _, _, _, _, _, _, _, _, _, _, _, z⟩ := h'
      exact z.elim
    | ok fl => cases fl <;> exact h'
/-! ### try: body, except x as n: suite -/
/-- isinstance(e, c), e the exception that the suite holds -/
def rIsX (K : PySem.W.Frag) (a : Addr) (cls : Value) (d : Option Addr) : List V → Hp → VK → Prop := fun xs H Q => ∃ (D : Addr) (c : V) (cv : Value) (b : Bool), cls = .ref D ∧ d = none ∧ ExcC K D ∧ xs = [.ref a, c] ∧ (∀ u, RelV c u → u = cv) ∧ PySem.W.kitOne K (.ref D) cv = some b ∧ Q (.bl b) H
theorem call_isX {X : Cx} (K : PySem.W.Frag) {a : Addr} {cls : Value} {d : Option Addr} {oe : Obj} {pn : List (Addr × Obj)} (hz : Zc cls d oe) (hf : ∃ vs, oe.data = .fields vs) (h : X.K = K := by rfl) : CallR (X.suite a ((a, oe) :: pn)) (.builtin "isinstance") (rIsX K a cls d) := by
  subst h
  intro pins s σ H xs us Q I r h
  obtain ⟨D, c, cv, b, rfl, rfl, C, e1, e2, e3, q⟩ := h
  exact call_isE C hz hf pins s σ H xs us Q I r ⟨c, cv, b, e1, e2, e3, q⟩
section
variable {K : PySem.W.Frag} {T : Tb} {ρ : List Slot} {H0 B : Hp} {C : List Addr} {D : Ends} {H : Hp} {S : List Addr} {σ : St}
theorem Gd.setRaw (g : Gd K T H0 B C H S σ ρ) {i : Nat} {v : V} : Gd K T H0 B C H S (σ.set i (some v)) (ρ.set i (.raw v)) where
  ext := g.ext
  vis := g.vis
  bno := g.bno
  hid := g.hid
  lst := g.lst
  sub := g.sub
  cl := g.cl
  len := by rw [List.length_set, List.length_set]; exact g.len
  dat := fun j d e => by
    by_cases z : i = j
    · subst z; cases set_get e
    · rw [List.getElem?_set_ne z] at e ⊢
      exact g.dat j d e
  scr := fun j d e => by
    by_cases z : i = j
    · subst z; cases set_get e
    · rw [List.getElem?_set_ne z] at e ⊢
      exact g.scr j d e
  raw := fun j d e => by
    by_cases z : i = j
    · subst z
      have hl : i < ρ.length := by
        have := (List.getElem?_eq_some_iff.mp e).1
        rwa [List.length_set] at this
      cases set_get e
      exact List.getElem?_set_self (g.len ▸ hl)
    · rw [List.getElem?_set_ne z] at e ⊢
      exact g.raw j d e
  own := fun j d e => by
    by_cases z : i = j
    · subst z; cases set_get e
    · rw [List.getElem?_set_ne z] at e ⊢
      exact g.own j d e
  sep := fun a b ds es p ha hb sa sb => by
    have za : i ≠ a := fun z => by subst z; cases set_get ha
    have zb : i ≠ b := fun z => by subst z; cases set_get hb
    rw [List.getElem?_set_ne za] at ha sa
    rw [List.getElem?_set_ne zb] at hb sb
    exact g.sep a b ds es p ha hb sa sb
theorem tri_app {ts : TS} (σ : St) (H : Hp) (g : Good K T H0 B C ρ σ H) (h : Tri K T H0 B C ρ ts D) : ts D σ H := h σ H g
/-- the clause's ends: its name is gone behind it -/
abbrev clEnds (i : Nat) (D : Ends) : Ends := { nx := fun σ' H' => D.nx (σ'.set i none) H', rt := D.rt, bk := fun σ' H' => D.bk (σ'.set i none) H', ct := fun σ' H' => D.ct (σ'.set i none) H' }
theorem s_gone {i : Nat} (k : Tri K T H0 B C (ρ.set i .no) tNext D) : Tri K T H0 B C ρ tNext (clEnds i D) := fun σ H ⟨S, g⟩ => k (σ.set i none) H ⟨S, g.no i⟩
theorem esc_as {x : Str} {i : Nat} {c : Value} {ts : Addr → Value → Option Addr → TS} {Wout : WX} (h : PySem.W.exmOne K (.ref (He.ga K x)) c = some true)
    (k : ∀ a, Tri K T H0 B C (ρ.set i (.raw (.ref a))) (ts a (.ref (He.ga K x)) none) (clEnds i D)) : Esc K T H0 B C ρ x (wAs K c i ts Wout D) := fun σ H ⟨S, g⟩ =>
  ⟨true, h, fun _ a _ => k a _ _ ⟨S, g.setRaw⟩, fun z => by cases z⟩
theorem ev_isX {i : Nat} {a : Addr} {x : Str} {c : V} {cv : Value} {b : Bool} (hi : ρ[i]? = some (.raw (.ref a))) (hc : ExcC K (He.ga K x)) (hv : ∀ u, RelV c u → u = cv) (hk : PySem.W.kitOne K (.ref (He.ga K x)) cv = some b) :
    Ev K T (tCB (rIsX K a (.ref (He.ga K x)) none) (tCons (tVar i) (tCons (tC c) tNil))) ρ (.bool b) := fun H0 B C H S σ g Q hQ =>
  ⟨.ref a, g.raw i _ hi, _, c, cv, b, rfl, rfl, hc, rfl, hv, hk, hQ _ _ (.refl T H) (.bl b)⟩
end
end Lw
set_option Elab.async false
set_option linter.all false
set_option maxRecDepth 100000
set_option maxHeartbeats 4000000
set_option autoImplicit false
/-! Lw, part H: the head and the end. -/
namespace Lw
open PySem L2
def dd (x : Str) (st : Stmt) (dfl : List He.Dv) : He.DefD := ⟨(x, none), x, x, defArgs st, defBody st, defScope st, dfl, []⟩
theorem cal_mk {P : Program} {w : World} {K : PySem.W.Frag} {mg : Str → Option Value} {base : Heap} {k : Nat} {x : Str} {ps : List Str} {sp : Sp} {f : Addr} {fd : FuncData}
    (G : FnOk P w K mg base CX0 k f fd ps sp) (m : mg x = some (.ref f)) (kp : PySem.W.keepIn K (.ref f) = true) (b : Binds K fd ps []) : Cal P w K mg base k x ps [] sp := ⟨f, fd, [], G, m, kp, b, .nil⟩
theorem cal_mkD {P : Program} {w : World} {K : PySem.W.Frag} {mg : Str → Option Value} {base : Heap} {k : Nat} {x : Str} {ps : List Str} {dvs : List V} {sp : Sp} {f : Addr} {fd : FuncData}
    (G : FnOk P w K mg base CX0 k f fd ps sp) (m : mg x = some (.ref f)) (kp : PySem.W.keepIn K (.ref f) = true) (b : ∃ ds, Vals dvs ds ∧ Binds K fd ps ds) : Cal P w K mg base k x ps dvs sp :=
  let ⟨ds, v, b⟩ := b; ⟨f, fd, ds, G, m, kp, b, v⟩
theorem calX_mk {P : Program} {w : World} {K : PySem.W.Frag} {mg : Str → Option Value} {base : Heap} {k : Nat} {x : Str} {ps : List Str} {sp : Sp} {f : Addr} {fd : FuncData}
    (G : FnOk P w K mg base (L2.CX P w) k f fd ps sp) (m : mg x = some (.ref f)) (kp : PySem.W.keepIn K (.ref f) = true) (b : Binds K fd ps []) : CalX P w K mg base k x ps [] sp := ⟨f, fd, [], G, m, kp, b, .nil⟩
theorem calX_mkD {P : Program} {w : World} {K : PySem.W.Frag} {mg : Str → Option Value} {base : Heap} {k : Nat} {x : Str} {ps : List Str} {dvs : List V} {sp : Sp} {f : Addr} {fd : FuncData}
    (G : FnOk P w K mg base (L2.CX P w) k f fd ps sp) (m : mg x = some (.ref f)) (kp : PySem.W.keepIn K (.ref f) = true) (b : ∃ ds, Vals dvs ds ∧ Binds K fd ps ds) : CalX P w K mg base k x ps dvs sp :=
  let ⟨ds, v, b⟩ := b; ⟨f, fd, ds, G, m, kp, b, v⟩
theorem sql_hide {K : PySem.W.Frag} {H : Hp} {a : Addr} {xs : List V} (h : SqL K H a xs) : SqL K (hide H []) a xs := by
  have e : ∀ (b : Addr) (o : HO), H b = some o → isTbl o = false → hide H [] b = some o := fun b o h n => hide_some.mpr ⟨fun z => (by cases z), h, n⟩
  rcases h with (h | ⟨o, h⟩) | h
  · exact .inl (.inl (e _ _ h rfl))
  · exact .inl (.inr ⟨o, e _ _ h rfl⟩)
  · exact .inr h
/-- the law's promise gives the row's wish -/
theorem law_wish {K : PySem.W.Frag} {T : Tb} {H : Hp} {a : Addr} {ns : List Int} (hl : ns.length ≤ 63) (hS : SqL K H a (ns.map V.int)) : spA K T Rlaw [.ref a] H (fun v _ => v = .bl true) fun _ _ _ => False :=
  ⟨[.scr (ns.map .int)], _, [], (fun q hq => by cases hq), .scr (sql_hide hS) DtAll.ints .nil, ⟨ns, hl, rfl, rfl⟩, fun r hr v H' _ dv => by
    subst hr
    cases dv
    rfl⟩
end Lw
set_option Elab.async false
set_option linter.all false
set_option maxRecDepth 100000
set_option maxHeartbeats 4000000
set_option autoImplicit false
namespace Lw
open PySem L2 LwZ
/-! the words of these proofs -/
local macro_rules | `(tactic| wtm_at "len") => `(tactic| first | (simp only [List.length_cons, List.length_nil]; omega) | omega)
local macro_rules | `(tactic| wtm_at "ok") => `(tactic| first | assumption | rfl | (intro z; cases z; done) | decide | omega | exact mulOkL (by omega) | exact mulOkR (by omega) | exact fdOkS (by omega) (by omega) | exact cpowOk (by decide))
local macro_rules | `(tactic| wtm_at "rv") => `(tactic| with_reducible first
  | exact rv_add | exact rv_sub | (apply rv_mul; wtm_at "ok") | (apply rv_fd; wtm_at "ok") | (apply rv_fdB; wtm_at "ok") | (apply rv_mod; wtm_at "ok") | (apply rv_pow; wtm_at "ok")
  | exact rv_lt | exact rv_le | exact rv_gt | exact rv_ge | exact rv_isN | exact rv_notN
  | exact rv_ixP0 | exact rv_ixP1 | (apply rv_ixT; wtm_at "at") | (apply rv_ixL; wtm_at "at")
  | (apply rv_eq <;> wtm_at "shape") | (apply rv_ne <;> wtm_at "shape")
  | (apply rv_addT; wtm_at "len") | (apply RVF.rv; wtm_at "rf"))
local macro_rules | `(tactic| wtm_at "rf") => `(tactic| with_reducible first | (apply rf_addL; wtm_at "len") | (apply rf_rep <;> wtm_at "ok"))
local macro_rules | `(tactic| wtm_at "at") => `(tactic| first | assumption | with_unfolding_all rfl)
local macro_rules | `(tactic| wtm_at "shape") => `(tactic| first | assumption | exact shaped_encR _ | exact shaped_int _ | with_unfolding_all rfl)
local macro_rules | `(tactic| wtm_at "rc") => `(tactic| first
  | exact rc_lenL | exact rc_lenT | exact rc_abs | exact rc_intB | exact rc_intI | exact rc_tupleL | exact rc_tupleT | exact RCF.rc rf_listL | exact RCF.rc rf_listT | exact rc_all | exact rc_any | (apply rc_lenS; wtm_at "ok"))
local macro_rules | `(tactic| wtm_at "var") => `(tactic| with_unfolding_all rfl)
local macro_rules | `(tactic| wtm_at "ea") => `(tactic| with_reducible first | exact ea_nil | (apply ea_cons; (· wtm_at "ev"); (· wtm_at "ea")))
local macro_rules | `(tactic| wtm_at "ep") => `(tactic| with_reducible first | exact ep_none | (apply ep_some; wtm_at "ev"))
local macro_rules | `(tactic| wtm_at "ef") => `(tactic| with_reducible first
  | (apply ef_lst; (· wtm_at "ea"); (· wtm_at "len"))
  | (apply ef_sl; (· wtm_at "ev"); (· wtm_at "ep"); (· wtm_at "ep"); (· exact rf_slL))
  | (apply ef_op; (· wtm_at "ev"); (· wtm_at "ev"); (· wtm_at "rf"))
  | (apply ef_cb; (· wtm_at "ea"); (· first | exact rf_listL | exact rf_listT)))
local macro_rules | `(tactic| wtm_at "ev") => `(tactic| with_reducible first
  | exact ev_int | exact ev_bl | exact ev_str | exact ev_non
  | exact ev_cst (by assumption)
  | (apply ev_var; wtm_at "var")
  | (apply ev_op; (· wtm_at "ev"); (· wtm_at "ev"); (· wtm_at "rv"))
  | (apply ev_un; (· wtm_at "ev"); (· exact ru_neg))
  | (apply ev_ixO; (· wtm_at "var"); (· wtm_at "ev"); (· wtm_at "at"))
  | (apply ev_call; (· wtm_at "ea"); (· wtm_at "ok"))
  | (apply ev_cb; (· wtm_at "ea"); (· wtm_at "rc"))
  | (apply ev_tup; (· wtm_at "ea"); (· wtm_at "len"))
  | (apply ev_lst; (· wtm_at "ea"); (· wtm_at "len"))
  | (apply ev_sl; (· wtm_at "ev"); (· wtm_at "ep"); (· wtm_at "ep"); (· first | exact RSF.rs rf_slL | exact rs_slT))
  | (apply ev_if; (· wtm_at "et"); (· intro hb; wtm_at "ev"); (· intro hb; wtm_at "ev"))
  | (apply ev_notV; wtm_at "ev")
  | (apply ev_andV; (· wtm_at "ev"); (· intro hb; wtm_at "ev")) | (apply ev_orV; (· wtm_at "ev"); (· intro hb; wtm_at "ev"))
  | (apply ev_view; (· wtm_at "evv"); (· with_unfolding_all rfl)))
local macro_rules | `(tactic| wtm_at "evv") => `(tactic| (simp only [List.map_cons, List.map_nil, Slot.view]; wtm_at "ev2"))
local macro_rules | `(tactic| wtm_at "ev2") => `(tactic| with_reducible first
  | (apply ev_op; (· wtm_at "ev"); (· wtm_at "ev"); (· wtm_at "rv"))
  | (apply ev_cb; (· wtm_at "ea"); (· wtm_at "rc")))
local macro_rules | `(tactic| wtm_at "et") => `(tactic| with_reducible first
  | (apply et_test; wtm_at "ev") | (apply et_B; wtm_at "ev") | (apply et_not; wtm_at "et")
  | (apply et_and; (· wtm_at "et"); (· intro hb; wtm_at "et")) | (apply et_or; (· wtm_at "et"); (· intro hb; wtm_at "et")))
local macro_rules | `(tactic| wtm_at "le") => `(tactic| with_reducible (repeat' first | exact Le.nil | exact Le.refl _ | refine Le.eq ?_ | refine Le.no ?_))
local macro_rules | `(tactic| wtm_at "cx") => `(tactic| try dsimp only [cxOf, Cx.nox, Cx.wish, Cx.blk])
local macro_rules | `(tactic| wtm_at "nf") => `(tactic| (try dsimp only [List.set]))
local macro_rules | `(tactic| wtm_at "asg") => `(tactic| (refine q_asg (by wtm_at "ev") ?_; wtm_at "nf"))
local macro_rules | `(tactic| wtm_at "asg1") => `(tactic| (refine s_asg (by wtm_at "ev") ?_; wtm_at "nf"))
local macro_rules | `(tactic| wtm_at "own") => `(tactic| (refine q_own (by wtm_at "ef") ?_; wtm_at "nf"))
local macro_rules | `(tactic| wtm_at "par") => `(tactic| (refine q_par (by wtm_at "ea") ?_; wtm_at "nf"))
local macro_rules | `(tactic| wtm_at "par1") => `(tactic| (refine s_par (by wtm_at "ea") ?_; wtm_at "nf"))
local macro_rules | `(tactic| wtm_at "leU") => `(tactic| (repeat' first | exact Le.nil | refine Le.eq ?_ | refine Le.no ?_))
local macro_rules | `(tactic| wtm_at "try") => `(tactic| (refine s_seq (fun σ H g => ?_); (try dsimp only); refine tri_app σ H g ?_; clear g))
def top (i : Nat) : Stmt := PySem.Challenge.pw_lullworks_k02_sums_and_products_of_parts.main.body.getD i (.Pass ⟨0, 0, 0, 0⟩)
/-! ### the exception classes -/
def ec_LullError : ErC := ⟨"LullError", [], veB, "ValueError.__new__", false⟩
def ec_BadPart : ErC := ⟨"BadPart", ["LullError"], veB, "ValueError.__new__", false⟩
def ec_NoOver : ErC := ⟨"NoOver", [], zeB, "ZeroDivisionError.__new__", false⟩
def erL : List ErC := [ec_LullError, ec_BadPart, ec_NoOver]
theorem erf_LullError {K : PySem.W.Frag} {mg : Str → Option Value} (Er : ErrT K mg erL) : ErF K mg erL ec_LullError := Er _ (List.mem_of_getElem? (i := 0) rfl)
theorem exf_LullError {K : PySem.W.Frag} {mg : Str → Option Value} (Er : ErrT K mg erL) : ExF K mg "LullError" veB "ValueError.__new__" := (erf_LullError Er).f rfl
theorem exm_LullError_LullError {K : PySem.W.Frag} {mg : Str → Option Value} (Er : ErrT K mg erL) : PySem.W.exmOne K (.ref (He.ga K "LullError")) (.ref (He.ga K "LullError")) = some true := ((erf_LullError Er).m ec_LullError (List.mem_of_getElem? (i := 0) rfl)).1
theorem exm_LullError_BadPart {K : PySem.W.Frag} {mg : Str → Option Value} (Er : ErrT K mg erL) : PySem.W.exmOne K (.ref (He.ga K "LullError")) (.ref (He.ga K "BadPart")) = some false := ((erf_LullError Er).m ec_BadPart (List.mem_of_getElem? (i := 1) rfl)).1
theorem exm_LullError_NoOver {K : PySem.W.Frag} {mg : Str → Option Value} (Er : ErrT K mg erL) : PySem.W.exmOne K (.ref (He.ga K "LullError")) (.ref (He.ga K "NoOver")) = some false := ((erf_LullError Er).m ec_NoOver (List.mem_of_getElem? (i := 2) rfl)).1
theorem kit_LullError_ValueError {K : PySem.W.Frag} {mg : Str → Option Value} (Er : ErrT K mg erL) : PySem.W.kitOne K (.ref (He.ga K "LullError")) (.type "ValueError") = some true := (erf_LullError Er).b "ValueError" (by decide)
theorem kit_LullError_ZeroDivisionError {K : PySem.W.Frag} {mg : Str → Option Value} (Er : ErrT K mg erL) : PySem.W.kitOne K (.ref (He.ga K "LullError")) (.type "ZeroDivisionError") = some false := (erf_LullError Er).b "ZeroDivisionError" (by decide)
theorem kit_LullError_LookupError {K : PySem.W.Frag} {mg : Str → Option Value} (Er : ErrT K mg erL) : PySem.W.kitOne K (.ref (He.ga K "LullError")) (.type "LookupError") = some false := (erf_LullError Er).b "LookupError" (by decide)
theorem kit_LullError_IndexError {K : PySem.W.Frag} {mg : Str → Option Value} (Er : ErrT K mg erL) : PySem.W.kitOne K (.ref (He.ga K "LullError")) (.type "IndexError") = some false := (erf_LullError Er).b "IndexError" (by decide)
theorem erf_BadPart {K : PySem.W.Frag} {mg : Str → Option Value} (Er : ErrT K mg erL) : ErF K mg erL ec_BadPart := Er _ (List.mem_of_getElem? (i := 1) rfl)
theorem exf_BadPart {K : PySem.W.Frag} {mg : Str → Option Value} (Er : ErrT K mg erL) : ExF K mg "BadPart" veB "ValueError.__new__" := (erf_BadPart Er).f rfl
theorem exm_BadPart_LullError {K : PySem.W.Frag} {mg : Str → Option Value} (Er : ErrT K mg erL) : PySem.W.exmOne K (.ref (He.ga K "BadPart")) (.ref (He.ga K "LullError")) = some true := ((erf_BadPart Er).m ec_LullError (List.mem_of_getElem? (i := 0) rfl)).1
theorem exm_BadPart_BadPart {K : PySem.W.Frag} {mg : Str → Option Value} (Er : ErrT K mg erL) : PySem.W.exmOne K (.ref (He.ga K "BadPart")) (.ref (He.ga K "BadPart")) = some true := ((erf_BadPart Er).m ec_BadPart (List.mem_of_getElem? (i := 1) rfl)).1
theorem exm_BadPart_NoOver {K : PySem.W.Frag} {mg : Str → Option Value} (Er : ErrT K mg erL) : PySem.W.exmOne K (.ref (He.ga K "BadPart")) (.ref (He.ga K "NoOver")) = some false := ((erf_BadPart Er).m ec_NoOver (List.mem_of_getElem? (i := 2) rfl)).1
theorem kit_BadPart_ValueError {K : PySem.W.Frag} {mg : Str → Option Value} (Er : ErrT K mg erL) : PySem.W.kitOne K (.ref (He.ga K "BadPart")) (.type "ValueError") = some true := (erf_BadPart Er).b "ValueError" (by decide)
theorem kit_BadPart_ZeroDivisionError {K : PySem.W.Frag} {mg : Str → Option Value} (Er : ErrT K mg erL) : PySem.W.kitOne K (.ref (He.ga K "BadPart")) (.type "ZeroDivisionError") = some false := (erf_BadPart Er).b "ZeroDivisionError" (by decide)
theorem kit_BadPart_LookupError {K : PySem.W.Frag} {mg : Str → Option Value} (Er : ErrT K mg erL) : PySem.W.kitOne K (.ref (He.ga K "BadPart")) (.type "LookupError") = some false := (erf_BadPart Er).b "LookupError" (by decide)
theorem kit_BadPart_IndexError {K : PySem.W.Frag} {mg : Str → Option Value} (Er : ErrT K mg erL) : PySem.W.kitOne K (.ref (He.ga K "BadPart")) (.type "IndexError") = some false := (erf_BadPart Er).b "IndexError" (by decide)
theorem erf_NoOver {K : PySem.W.Frag} {mg : Str → Option Value} (Er : ErrT K mg erL) : ErF K mg erL ec_NoOver := Er _ (List.mem_of_getElem? (i := 2) rfl)
theorem exf_NoOver {K : PySem.W.Frag} {mg : Str → Option Value} (Er : ErrT K mg erL) : ExF K mg "NoOver" zeB "ZeroDivisionError.__new__" := (erf_NoOver Er).f rfl
theorem exm_NoOver_LullError {K : PySem.W.Frag} {mg : Str → Option Value} (Er : ErrT K mg erL) : PySem.W.exmOne K (.ref (He.ga K "NoOver")) (.ref (He.ga K "LullError")) = some false := ((erf_NoOver Er).m ec_LullError (List.mem_of_getElem? (i := 0) rfl)).1
theorem exm_NoOver_BadPart {K : PySem.W.Frag} {mg : Str → Option Value} (Er : ErrT K mg erL) : PySem.W.exmOne K (.ref (He.ga K "NoOver")) (.ref (He.ga K "BadPart")) = some false := ((erf_NoOver Er).m ec_BadPart (List.mem_of_getElem? (i := 1) rfl)).1
theorem exm_NoOver_NoOver {K : PySem.W.Frag} {mg : Str → Option Value} (Er : ErrT K mg erL) : PySem.W.exmOne K (.ref (He.ga K "NoOver")) (.ref (He.ga K "NoOver")) = some true := ((erf_NoOver Er).m ec_NoOver (List.mem_of_getElem? (i := 2) rfl)).1
theorem kit_NoOver_ValueError {K : PySem.W.Frag} {mg : Str → Option Value} (Er : ErrT K mg erL) : PySem.W.kitOne K (.ref (He.ga K "NoOver")) (.type "ValueError") = some false := (erf_NoOver Er).b "ValueError" (by decide)
theorem kit_NoOver_ZeroDivisionError {K : PySem.W.Frag} {mg : Str → Option Value} (Er : ErrT K mg erL) : PySem.W.kitOne K (.ref (He.ga K "NoOver")) (.type "ZeroDivisionError") = some true := (erf_NoOver Er).b "ZeroDivisionError" (by decide)
theorem kit_NoOver_LookupError {K : PySem.W.Frag} {mg : Str → Option Value} (Er : ErrT K mg erL) : PySem.W.kitOne K (.ref (He.ga K "NoOver")) (.type "LookupError") = some false := (erf_NoOver Er).b "LookupError" (by decide)
theorem kit_NoOver_IndexError {K : PySem.W.Frag} {mg : Str → Option Value} (Er : ErrT K mg erL) : PySem.W.kitOne K (.ref (He.ga K "NoOver")) (.type "IndexError") = some false := (erf_NoOver Er).b "IndexError" (by decide)

/-! ### common -/
abbrev s_common : Stmt := top 5
abbrev n_common : List Str := ["one", "other"]
theorem sc_common : FnScope ["one", "other"] ["one", "other"] (defScope s_common) := ⟨rfl, rfl, rfl, by decide +kernel, rfl, by decide +kernel, by decide +kernel⟩
def Rcommon (ds : List PyData) (r : PyData) : Prop := ∃ a b : Int, 0 ≤ a ∧ 0 ≤ b ∧ ds = [.int a, .int b] ∧ r = .int (Int.gcd a b : Nat)
theorem ok_common {P : Program} {w : World} {K : PySem.W.Frag} {T : Tb} {mg : Str → Option Value} {base : Heap} {f : Addr} {fd : FuncData} {dvs : List V} (F : FnP K "common" s_common dvs f fd) (Z : Blt mg) :
    FnOk P w K mg base CX0 41 f fd ["one", "other"] (spR K T Rcommon) := by
  refine fnR F sc_common (fun ds r h => ?_) (fun cdv A outer s H E hr => ?_)
  · obtain ⟨a, b, ha, hb, rfl, rfl⟩ := h
    rfl
  · have nd := sc_common.nd
    refine ⟨_, (pss_cons (ps_while PassesOwn.never (pt_cmpR op_gt (pv 1) pe_int (nomark _)) (pss_one (ps_par (i := 0) (j := 1) (by rfl) nd rfl rfl (by decide) rfl rfl (pa_cons (pv 1) (pa_cons (pe_op op_modN (pv 0) (pv 1)) pa_nil)) (by rfl))))
      (pss_one (ps_ret (pv 0)))), ?_⟩
    wtm_at "cx"
    rintro ds r ⟨a, b, ha, hb, rfl, rfl⟩ H0 C D hrt hnx
    show Tri K T H0 _ C [.dat (.int a), .dat (.int b)] _ D
    refine q_while (fun m ρ => ∃ x y : Int, ρ = [.dat (.int x), .dat (.int y)] ∧ 0 ≤ x ∧ 0 ≤ y ∧ Int.gcd x y = Int.gcd a b ∧ m = y.toNat) b.toNat ⟨a, b, rfl, ha, hb, rfl, rfl⟩ ?_
    rintro m ρ ⟨x, y, rfl, hx, hy, hg, rfl⟩
    refine ⟨_, by wtm_at "et", fun c => ?_, fun c => ?_⟩
    · have c' : 0 < y := of_decide_eq_true c
      have hne : y ≠ 0 := by omega
      refine s_par (by wtm_at "ea") fun σ H g => ⟨_, _, ?_, ⟨y, x.fmod y, rfl, hy, ?_, ?_, rfl⟩, g⟩
      · have h1 : x.fmod y = x % y := Int.fmod_eq_emod_of_nonneg x hy
        have h2 := Int.emod_lt_of_pos x c'
        have h3 := Int.emod_nonneg x hne
        omega
      · have h1 : x.fmod y = x % y := Int.fmod_eq_emod_of_nonneg x hy
        have h3 := Int.emod_nonneg x hne
        omega
      · rw [gcd_step hx c']; exact hg
    · have c' : ¬ 0 < y := of_decide_eq_false c
      have e : y = 0 := by omega
      subst e
      refine s_ret (by wtm_at "ev") ?_
      have : x = ((Int.gcd a b : Nat) : Int) := by
        rw [← hg, Int.gcd_zero_right]
        omega
      rw [this]
      exact hrt
/-! ### part (of a lower number that isn't nought) -/
abbrev s_part : Stmt := top 6
abbrev n_part : List Str := ["upper", "lower", "both"]
theorem sc_part : FnScope ["upper", "lower", "both"] ["upper", "lower"] (defScope s_part) := ⟨rfl, rfl, rfl, by decide +kernel, rfl, by decide +kernel, by decide +kernel⟩
def Rpart (ds : List PyData) (r : PyData) : Prop := ∃ (u l : Int), l ≠ 0 ∧ ds = [.int u, .int l] ∧ r = encR (Rat.divInt u l)
theorem gcd_abs (u l : Int) : Int.gcd (if (if l < 0 then 0 - u else u) < 0 then -(if l < 0 then 0 - u else u) else (if l < 0 then 0 - u else u)) (if l < 0 then 0 - l else l) = Int.gcd u l := by
  have h1 : ∀ x : Int, (if x < 0 then -x else x).natAbs = x.natAbs := fun x => by split <;> omega
  have h2 : (if l < 0 then 0 - u else u).natAbs = u.natAbs := by split <;> omega
  have h3 : (if l < 0 then 0 - l else l).natAbs = l.natAbs := by split <;> omega
  show Nat.gcd _ _ = Nat.gcd _ _
  rw [h1, h2, h3]
theorem ok_part {P : Program} {w : World} {K : PySem.W.Frag} {T : Tb} {mg : Str → Option Value} {base : Heap} {f : Addr} {fd : FuncData} {dvs : List V} (F : FnP K "part" s_part dvs f fd) (Z : Blt mg) (Se : Seer P K)
    (c_common : Cal P w K mg base 41 "common" ["one", "other"] [] (spR K T Rcommon)) :
    FnOk P w K mg base CX0 42 f fd ["upper", "lower"] (spR K T Rpart) := by
  refine fnR F sc_part (fun ds r h => ?_) (fun cdv A outer s H E hr => ?_)
  · obtain ⟨u, l, hl, rfl, rfl⟩ := h
    rfl
  · have nd := sc_part.nd
    refine ⟨_, (pss_cons (ps_if (pt_cmpR (op_eqK K hr.units) (pv 1) pe_int (nomark _)) (pss_one ps_never) pss_nil)
      (pss_cons (ps_if (pt_cmpR op_lt (pv 1) pe_int (nomark _)) (pss_one (ps_par (i := 0) (j := 1) (by rfl) nd rfl rfl (by decide) rfl rfl (pa_cons (pe_op op_sub pe_int (pv 0)) (pa_cons (pe_op op_sub pe_int (pv 1)) pa_nil)) (by rfl))) pss_nil)
      (pss_cons (ps_set (i := 2) nd rfl (Or.inl rfl) (pe_callC c_common hr rfl (pa_cons (pe_callB call_abs (by rfl) Z.abs (by decide +kernel) (pa_cons (pv 0) pa_nil)) (pa_cons (pv 1) pa_nil))))
      (pss_one (ps_ret (pe_tup (pa_cons (pe_op (op_fdB Se hr (by decide) rfl rfl rfl rfl rfl) (pv 0) (pv 2)) (pa_cons (pe_op (op_fdB Se hr (by decide) rfl rfl rfl rfl rfl) (pv 1) (pv 2)) pa_nil)))))))), ?_⟩
    wtm_at "cx"
    rintro ds r ⟨u, l, hl, rfl, rfl⟩ H0 C D hrt hnx
    show Tri K T H0 _ C [.dat (.int u), .dat (.int l), .no] _ D
    refine q_ifF (et_is (by wtm_at "et") ?_) ?_
    · show (l == 0) = false
      simpa using hl
    have g0 := gcd_ne (u := u) hl
    have key : ∀ u' l' : Int, (if l < 0 then 0 - u else u) = u' → (if l < 0 then 0 - l else l) = l' → 0 ≤ l' → ((if u' < 0 then -u' else u').gcd l' = u.gcd l) → u'.fdiv (u.gcd l : Nat) = (Rat.divInt u l).num → l'.fdiv (u.gcd l : Nat) = ((Rat.divInt u l).den : Int) →
        Tri K T H0 (hide H0 C) C [.dat (.int u'), .dat (.int l'), .no] (tSeq (tAsg (tCall (spR K T Rcommon) [] E0 (tCons (tCB (fun xs H Q => ∃ i, xs = [.int i] ∧ Q (.int (if i < 0 then -i else i)) H) (tCons (tVar 0) tNil)) (tCons (tVar 1) tNil))) (gName 2)) (tRet (tTup (tCons (tOp (rI (fun _ j => j ≠ 0) fun i j => .int (i.fdiv j)) (tVar 0) (tVar 2)) (tCons (tOp (rI (fun _ j => j ≠ 0) fun i j => .int (i.fdiv j)) (tVar 1) (tVar 2)) tNil))))) D := by
      intro u' l' e1 e2 h0 hg hn hd
      have hc : Rcommon [.int (if u' < 0 then -u' else u'), .int l'] (.int (u.gcd l : Nat)) := ⟨_, _, by split <;> omega, h0, rfl, by rw [hg]⟩
      refine q_asg (by wtm_at "ev") ?_
      refine s_ret (by wtm_at "ev") ?_
      rw [hn, hd]
      exact hrt
    have ga := gcd_abs u l
    have pn := part_num (u := u) hl
    have pd := part_den (u := u) hl
    refine q_when (by wtm_at "et") (fun c => ?_) (fun c => ?_)
    · have c' : l < 0 := of_decide_eq_true c
      rw [if_pos c', if_pos c'] at ga
      rw [if_pos c'] at pn pd
      refine s_par (by wtm_at "ea") ?_
      refine s_to (key (0 - u) (0 - l) (if_pos c') (if_pos c') (by omega) ga ?_ ?_)
      · rw [← pn]; congr 1; omega
      · rw [← pd]; congr 1; omega
    · have c' : ¬ l < 0 := of_decide_eq_false c
      rw [if_neg c', if_neg c'] at ga
      rw [if_neg c'] at pn pd
      exact key u l (if_neg c') (if_neg c') (by omega) ga pn pd
/-! ### plus -/
abbrev s_plus : Stmt := top 7
abbrev n_plus : List Str := ["one", "other"]
theorem sc_plus : FnScope ["one", "other"] ["one", "other"] (defScope s_plus) := ⟨rfl, rfl, rfl, by decide +kernel, rfl, by decide +kernel, by decide +kernel⟩
def Rplus (ds : List PyData) (r : PyData) : Prop := ∃ (a b : Rat) (n m : Nat), Sz n a ∧ Sz m b ∧ n + m ≤ 100000000 ∧ ds = [encR a, encR b] ∧ r = encR (a + b)
theorem ok_plus {P : Program} {w : World} {K : PySem.W.Frag} {T : Tb} {mg : Str → Option Value} {base : Heap} {f : Addr} {fd : FuncData} {dvs : List V} (F : FnP K "plus" s_plus dvs f fd) (Z : Blt mg)
    (c_part : Cal P w K mg base 42 "part" ["upper", "lower"] [] (spR K T Rpart)) :
    FnOk P w K mg base CX0 43 f fd ["one", "other"] (spR K T Rplus) := by
  refine fnR F sc_plus (fun ds r h => ?_) (fun cdv A outer s H E hr => ?_)
  · obtain ⟨a, b, n, m, ha, hb, hnm, rfl, rfl⟩ := h
    rfl
  · have nd := sc_plus.nd
    refine ⟨_, (pss_one (ps_ret (pe_callC c_part hr rfl (pa_cons (pe_op (op_addK K) (pe_op op_mulA (pe_ix (ix_seqK K) (pv 0) pe_int (fun _ _ => rfl)) (pe_ix (ix_seqK K) (pv 1) pe_int (fun _ _ => rfl))) (pe_op op_mulA (pe_ix (ix_seqK K) (pv 1) pe_int (fun _ _ => rfl)) (pe_ix (ix_seqK K) (pv 0) pe_int (fun _ _ => rfl)))) (pa_cons (pe_op op_mulA (pe_ix (ix_seqK K) (pv 0) pe_int (fun _ _ => rfl)) (pe_ix (ix_seqK K) (pv 1) pe_int (fun _ _ => rfl))) pa_nil))))), ?_⟩
    wtm_at "cx"
    rintro ds r ⟨a, b, n, m, ha, hb, hnm, rfl, rfl⟩ H0 C D hrt hnx
    show Tri K T H0 _ C [.dat (.tuple [.int a.num, .int (a.den : Int)]), .dat (.tuple [.int b.num, .int (b.den : Int)])] _ D
    have m1 : IntMulOk a.num (b.den : Int) := mulOk ha.num hb.den (by omega)
    have m2 : IntMulOk b.num (a.den : Int) := mulOk hb.num ha.den (by omega)
    have m3 : IntMulOk (a.den : Int) (b.den : Int) := mulOk ha.den hb.den (by omega)
    have m4 : IntMulOk a.num b.num := mulOk ha.num hb.num (by omega)
    have m5 : IntMulOk (a.den : Int) b.num := mulOk ha.den hb.num (by omega)
    have hc : Rpart [.int (a.num * (b.den : Int) + b.num * (a.den : Int)), .int ((a.den : Int) * (b.den : Int))] (encR (a + b)) := ⟨_, _, dens_ne a b, rfl, by rw [add_divInt]⟩
    exact s_ret (by wtm_at "ev") hrt
/-! ### less -/
abbrev s_less : Stmt := top 8
abbrev n_less : List Str := ["one", "other"]
theorem sc_less : FnScope ["one", "other"] ["one", "other"] (defScope s_less) := ⟨rfl, rfl, rfl, by decide +kernel, rfl, by decide +kernel, by decide +kernel⟩
def Rless (ds : List PyData) (r : PyData) : Prop := ∃ (a b : Rat) (n m : Nat), Sz n a ∧ Sz m b ∧ n + m ≤ 100000000 ∧ ds = [encR a, encR b] ∧ r = encR (a - b)
theorem ok_less {P : Program} {w : World} {K : PySem.W.Frag} {T : Tb} {mg : Str → Option Value} {base : Heap} {f : Addr} {fd : FuncData} {dvs : List V} (F : FnP K "less" s_less dvs f fd) (Z : Blt mg)
    (c_part : Cal P w K mg base 42 "part" ["upper", "lower"] [] (spR K T Rpart)) :
    FnOk P w K mg base CX0 43 f fd ["one", "other"] (spR K T Rless) := by
  refine fnR F sc_less (fun ds r h => ?_) (fun cdv A outer s H E hr => ?_)
  · obtain ⟨a, b, n, m, ha, hb, hnm, rfl, rfl⟩ := h
    rfl
  · have nd := sc_less.nd
    refine ⟨_, (pss_one (ps_ret (pe_callC c_part hr rfl (pa_cons (pe_op op_sub (pe_op op_mulA (pe_ix (ix_seqK K) (pv 0) pe_int (fun _ _ => rfl)) (pe_ix (ix_seqK K) (pv 1) pe_int (fun _ _ => rfl))) (pe_op op_mulA (pe_ix (ix_seqK K) (pv 1) pe_int (fun _ _ => rfl)) (pe_ix (ix_seqK K) (pv 0) pe_int (fun _ _ => rfl)))) (pa_cons (pe_op op_mulA (pe_ix (ix_seqK K) (pv 0) pe_int (fun _ _ => rfl)) (pe_ix (ix_seqK K) (pv 1) pe_int (fun _ _ => rfl))) pa_nil))))), ?_⟩
    wtm_at "cx"
    rintro ds r ⟨a, b, n, m, ha, hb, hnm, rfl, rfl⟩ H0 C D hrt hnx
    show Tri K T H0 _ C [.dat (.tuple [.int a.num, .int (a.den : Int)]), .dat (.tuple [.int b.num, .int (b.den : Int)])] _ D
    have m1 : IntMulOk a.num (b.den : Int) := mulOk ha.num hb.den (by omega)
    have m2 : IntMulOk b.num (a.den : Int) := mulOk hb.num ha.den (by omega)
    have m3 : IntMulOk (a.den : Int) (b.den : Int) := mulOk ha.den hb.den (by omega)
    have m4 : IntMulOk a.num b.num := mulOk ha.num hb.num (by omega)
    have m5 : IntMulOk (a.den : Int) b.num := mulOk ha.den hb.num (by omega)
    have hc : Rpart [.int (a.num * (b.den : Int) - b.num * (a.den : Int)), .int ((a.den : Int) * (b.den : Int))] (encR (a - b)) := ⟨_, _, dens_ne a b, rfl, by rw [sub_divInt]⟩
    exact s_ret (by wtm_at "ev") hrt
/-! ### times -/
abbrev s_times : Stmt := top 9
abbrev n_times : List Str := ["one", "other"]
theorem sc_times : FnScope ["one", "other"] ["one", "other"] (defScope s_times) := ⟨rfl, rfl, rfl, by decide +kernel, rfl, by decide +kernel, by decide +kernel⟩
def Rtimes (ds : List PyData) (r : PyData) : Prop := ∃ (a b : Rat) (n m : Nat), Sz n a ∧ Sz m b ∧ n + m ≤ 100000000 ∧ ds = [encR a, encR b] ∧ r = encR (a * b)
theorem ok_times {P : Program} {w : World} {K : PySem.W.Frag} {T : Tb} {mg : Str → Option Value} {base : Heap} {f : Addr} {fd : FuncData} {dvs : List V} (F : FnP K "times" s_times dvs f fd) (Z : Blt mg)
    (c_part : Cal P w K mg base 42 "part" ["upper", "lower"] [] (spR K T Rpart)) :
    FnOk P w K mg base CX0 43 f fd ["one", "other"] (spR K T Rtimes) := by
  refine fnR F sc_times (fun ds r h => ?_) (fun cdv A outer s H E hr => ?_)
  · obtain ⟨a, b, n, m, ha, hb, hnm, rfl, rfl⟩ := h
    rfl
  · have nd := sc_times.nd
    refine ⟨_, (pss_one (ps_ret (pe_callC c_part hr rfl (pa_cons (pe_op op_mulA (pe_ix (ix_seqK K) (pv 0) pe_int (fun _ _ => rfl)) (pe_ix (ix_seqK K) (pv 1) pe_int (fun _ _ => rfl))) (pa_cons (pe_op op_mulA (pe_ix (ix_seqK K) (pv 0) pe_int (fun _ _ => rfl)) (pe_ix (ix_seqK K) (pv 1) pe_int (fun _ _ => rfl))) pa_nil))))), ?_⟩
    wtm_at "cx"
    rintro ds r ⟨a, b, n, m, ha, hb, hnm, rfl, rfl⟩ H0 C D hrt hnx
    show Tri K T H0 _ C [.dat (.tuple [.int a.num, .int (a.den : Int)]), .dat (.tuple [.int b.num, .int (b.den : Int)])] _ D
    have m1 : IntMulOk a.num (b.den : Int) := mulOk ha.num hb.den (by omega)
    have m2 : IntMulOk b.num (a.den : Int) := mulOk hb.num ha.den (by omega)
    have m3 : IntMulOk (a.den : Int) (b.den : Int) := mulOk ha.den hb.den (by omega)
    have m4 : IntMulOk a.num b.num := mulOk ha.num hb.num (by omega)
    have m5 : IntMulOk (a.den : Int) b.num := mulOk ha.den hb.num (by omega)
    have hc : Rpart [.int (a.num * b.num), .int ((a.den : Int) * (b.den : Int))] (encR (a * b)) := ⟨_, _, dens_ne a b, rfl, by rw [mul_divInt]⟩
    exact s_ret (by wtm_at "ev") hrt
/-! ### over -/
abbrev s_over : Stmt := top 10
abbrev n_over : List Str := ["one", "other"]
theorem sc_over : FnScope ["one", "other"] ["one", "other"] (defScope s_over) := ⟨rfl, rfl, rfl, by decide +kernel, rfl, by decide +kernel, by decide +kernel⟩
def RoverX (ds : List PyData) (o : Out) : Prop := ∃ (a b : Rat) (n m : Nat), Sz n a ∧ Sz m b ∧ n + m ≤ 100000000 ∧ ds = [encR a, encR b] ∧ o = if b = 0 then .ex "NoOver" else .ok (encR (a / b))
theorem ok_over {P : Program} {w : World} {K : PySem.W.Frag} {T : Tb} {mg : Str → Option Value} {base : Heap} {f : Addr} {fd : FuncData} {dvs : List V} (F : FnP K "over" s_over dvs f fd) (Z : Blt mg) (Er : ErrT K mg erL)
    (c_part : Cal P w K mg base 42 "part" ["upper", "lower"] [] (spR K T Rpart)) :
    FnOk P w K mg base (L2.CX P w) 43 f fd ["one", "other"] (spE K T RoverX) := by
  refine fnE F sc_over (fun ds r h => ?_) (fun cdv A outer s H E hr => ?_)
  · obtain ⟨a, b, n, m, ha, hb, hnm, rfl, rfl⟩ := h
    rfl
  · have nd := sc_over.nd
    refine ⟨_, (pss_cons (ps_if (pt_cmpR (op_eqK K hr.units) (pe_ix (ix_seqK K) (pv 1) pe_int (fun _ _ => rfl)) pe_int (nomark _)) (pss_one (ps_raiseX rfl (takes_of rfl rfl rfl rfl) PySem.F.excBase_ZeroDivisionError (exf_NoOver Er) (by rfl))) pss_nil)
      (pss_one (ps_ret (pe_callC c_part hr rfl (pa_cons (pe_op op_mulA (pe_ix (ix_seqK K) (pv 0) pe_int (fun _ _ => rfl)) (pe_ix (ix_seqK K) (pv 1) pe_int (fun _ _ => rfl))) (pa_cons (pe_op op_mulA (pe_ix (ix_seqK K) (pv 0) pe_int (fun _ _ => rfl)) (pe_ix (ix_seqK K) (pv 1) pe_int (fun _ _ => rfl))) pa_nil)))))), ?_⟩
    wtm_at "cx"
    rintro ds o ⟨a, b, n, m, ha, hb, hnm, rfl, rfl⟩ H0 C D hrt hnx
    show Tri K T H0 _ C [.dat (.tuple [.int a.num, .int (a.den : Int)]), .dat (.tuple [.int b.num, .int (b.den : Int)])] _ D
    by_cases h0 : b = 0
    · rw [if_pos h0] at hrt
      refine q_if (b := true) (et_is (by wtm_at "et") ?_) (fun _ => s_raise (esc_fn hrt)) (fun z => by cases z)
      show (PyData.eqv (.int b.num) (.int 0)) = true
      rw [eqv_int, h0]
      rfl
    · rw [if_neg h0] at hrt
      have m1 : IntMulOk a.num (b.den : Int) := mulOk ha.num hb.den (by omega)
      have m5 : IntMulOk (a.den : Int) b.num := mulOk ha.den hb.num (by omega)
      have hc : Rpart [.int (a.num * (b.den : Int)), .int ((a.den : Int) * b.num)] (encR (a / b)) := ⟨_, _, Int.mul_ne_zero (den_ne a) (num_ne h0), rfl, by rw [div_divInt]⟩
      refine q_ifF (et_is (by wtm_at "et") ?_) ?_
      · show (PyData.eqv (.int b.num) (.int 0)) = false
        rw [eqv_int]
        exact decide_eq_false (num_ne h0)
      exact s_ret (by wtm_at "ev") hrt
def Rorder (ds : List PyData) (r : PyData) : Prop := ∃ (a b : Rat) (n m : Nat), Sz n a ∧ Sz m b ∧ n + m ≤ 100000000 ∧ ds = [encR a, encR b] ∧ r = .int (ordR a b)
/-! ### order -/
abbrev s_order : Stmt := top 11
abbrev n_order : List Str := ["one", "other", "apart"]
theorem sc_order : FnScope ["one", "other", "apart"] ["one", "other"] (defScope s_order) := ⟨rfl, rfl, rfl, by decide +kernel, rfl, by decide +kernel, by decide +kernel⟩
theorem ok_order {P : Program} {w : World} {K : PySem.W.Frag} {T : Tb} {mg : Str → Option Value} {base : Heap} {f : Addr} {fd : FuncData} {dvs : List V} (F : FnP K "order" s_order dvs f fd) (Z : Blt mg) :
    FnOk P w K mg base CX0 41 f fd ["one", "other"] (spR K T Rorder) := by
  refine fnR F sc_order (fun ds r h => ?_) (fun cdv A outer s H E hr => ?_)
  · obtain ⟨a, b, n, m, ha, hb, hnm, rfl, rfl⟩ := h
    rfl
  · have nd := sc_order.nd
    refine ⟨_, (pss_cons (ps_set (i := 2) nd rfl (Or.inl rfl) (pe_op op_sub (pe_op op_mulA (pe_ix (ix_seqK K) (pv 0) pe_int (fun _ _ => rfl)) (pe_ix (ix_seqK K) (pv 1) pe_int (fun _ _ => rfl))) (pe_op op_mulA (pe_ix (ix_seqK K) (pv 1) pe_int (fun _ _ => rfl)) (pe_ix (ix_seqK K) (pv 0) pe_int (fun _ _ => rfl)))))
      (pss_one (ps_ret (pe_op op_sub (pe_callTy call_int1 (by rfl) Z.int (by decide +kernel) (pa_cons (pe_cmpR op_gt (pv 2) pe_int (nomark _)) pa_nil)) (pe_callTy call_int1 (by rfl) Z.int (by decide +kernel) (pa_cons (pe_cmpR op_lt (pv 2) pe_int (nomark _)) pa_nil)))))), ?_⟩
    wtm_at "cx"
    rintro ds r ⟨a, b, n, m, ha, hb, hnm, rfl, rfl⟩ H0 C D hrt hnx
    show Tri K T H0 _ C [.dat (.tuple [.int a.num, .int (a.den : Int)]), .dat (.tuple [.int b.num, .int (b.den : Int)]), .no] _ D
    have m1 : IntMulOk a.num (b.den : Int) := mulOk ha.num hb.den (by omega)
    have m2 : IntMulOk b.num (a.den : Int) := mulOk hb.num ha.den (by omega)
    refine q_asg (by wtm_at "ev") ?_
    refine s_ret (by wtm_at "ev") ?_
    rw [← ord_num a b] at hrt
    simpa using hrt
/-! ### _law_numbers -/
abbrev s__law_numbers : Stmt := top 13
abbrev n__law_numbers : List Str := ["_law_script", "_law_many", "_law_drawn", "_law_seed", "_law_cell", "_law_rest", "_law_k"]
theorem sc__law_numbers : FnScope ["_law_script", "_law_many", "_law_drawn", "_law_seed", "_law_cell", "_law_rest", "_law_k"] ["_law_script", "_law_many"] (defScope s__law_numbers) := ⟨rfl, rfl, rfl, by decide +kernel, rfl, by decide +kernel, by decide +kernel⟩
theorem fmod_few {a b : Int} (hb : 0 < b) : 0 ≤ a.fmod b ∧ a.fmod b < b := by
  rw [Int.fmod_eq_emod_of_nonneg a (by omega)]
  exact ⟨Int.emod_nonneg a (by omega), Int.emod_lt_of_pos a hb⟩
theorem map_app (xs : List Int) (y : Int) : xs.map PyData.int ++ [PyData.int y] = (xs ++ [y]).map PyData.int := by simp
def numI (many : Nat) (ns : List Int) (n : Nat) (ρ : List Slot) : Prop := ∃ (xs : List Int) (seed : Int), Le [.scr (ns.map .int), .dat (.int many), .own (xs.map .int), .dat (.int seed), .no, .no, .no] ρ ∧ Few xs ∧ xs.length ≤ n ∧ 0 ≤ seed ∧ seed < 2147483648
def numJ (many : Nat) (ns : List Int) (n : Nat) (ρ : List Slot) : Prop := ∃ (xs : List Int) (seed rest : Int), Le [.scr (ns.map .int), .dat (.int many), .own (xs.map .int), .dat (.int seed), .no, .dat (.int rest), .no] ρ ∧ Few xs ∧ xs.length ≤ n ∧ 0 ≤ seed ∧ seed < 2147483648
theorem ok__law_numbers {P : Program} {w : World} {K : PySem.W.Frag} {T : Tb} {mg : Str → Option Value} {base : Heap} {f : Addr} {fd : FuncData} {dvs : List V} (F : FnP K "_law_numbers" s__law_numbers dvs f fd) (Z : Blt mg) :
    FnOk P w K mg base CX0 41 f fd ["_law_script", "_law_many"] (spA K T Rnumbers) := by
  refine fnA F sc__law_numbers (fun ds r h => ?_) (fun cdv A outer s H E hr => ?_)
  · obtain ⟨ns, many, hns, hm, rfl, rfl⟩ := h
    rfl
  · have nd := sc__law_numbers.nd
    refine ⟨_, (pss_cons (ps_set (i := 2) nd rfl (Or.inl rfl) (pe_lst pa_nil))
      (pss_cons (ps_set (i := 3) nd rfl (Or.inl rfl) pe_int)
      (pss_cons (ps_for PassesOwn.never rfl (pi_seqK K (pe_slice (sl_anyK K) (pv 0) po_none (po_some pe_int))) (pg_name (i := 4) nd rfl (Or.inl rfl)) (pss_cons (ps_set (i := 3) nd rfl (Or.inl rfl) (pe_op op_modN (pe_op (op_addK K) (pe_op (op_addK K) (pe_op op_mulA (pv 3) pe_int) (pe_op op_modN (pv 4) pe_int)) pe_int) pe_int))
      (pss_cons (ps_set (i := 5) nd rfl (Or.inl rfl) (pe_op op_sub (pv 4) (pe_op op_pow pe_int pe_int)))
      (pss_cons (ps_if (pt_cmpR op_lt (pv 5) pe_int (nomark _)) (pss_one (ps_expr (pe_bmK K PySem.F.plainAttrs_list PySem.F.slot_list_append PySem.F.type_list_append mt_append (pv 2) (pa_cons (pe_op op_modN (pv 4) pe_int) pa_nil)))) pss_nil)
      (pss_one (ps_for PassesOwn.never rfl (pi_range1 (by rfl) Z.range (pa_cons pe_int pa_nil)) (pg_name (i := 6) nd rfl (Or.inl rfl)) (pss_one (ps_if (pt_cmpR op_gt (pv 5) pe_int (nomark _)) (pss_cons (ps_expr (pe_bmK K PySem.F.plainAttrs_list PySem.F.slot_list_append PySem.F.type_list_append mt_append (pv 2) (pa_cons (pe_op op_modN (pv 5) pe_int) pa_nil)))
      (pss_one (ps_set (i := 5) nd rfl (Or.inl rfl) (pe_op op_fdX (pv 5) pe_int)))) pss_nil))))))))
      (pss_cons (ps_while PassesOwn.never (pt_cmpR op_lt (pe_callB (call_lenK K) (by rfl) Z.len PySem.boot_len (pa_cons (pv 2) pa_nil)) (pv 1) (nomark _)) (pss_cons (ps_set (i := 3) nd rfl (Or.inl rfl) (pe_op op_modN (pe_op (op_addK K) (pe_op (op_addK K) (pe_op (op_addK K) (pe_op op_mulA (pv 3) (pv 3)) (pe_op op_mulA pe_int (pv 3))) (pe_op op_mulA pe_int (pe_callB (call_lenK K) (by rfl) Z.len PySem.boot_len (pa_cons (pv 2) pa_nil)))) pe_int) pe_int))
      (pss_one (ps_expr (pe_bmK K PySem.F.plainAttrs_list PySem.F.slot_list_append PySem.F.type_list_append mt_append (pv 2) (pa_cons (pe_op op_modN (pe_op op_fdX (pv 3) pe_int) pe_int) pa_nil))))))
      (pss_one (ps_ret (pe_slice (sl_anyK K) (pv 2) po_none (po_some (pv 1))))))))), ?_⟩
    wtm_at "cx"
    rintro ss Po ⟨ns, many, hns, hm, rfl, rfl⟩ H0 C D hrt
    show Tri K T H0 _ C [.scr (ns.map .int), .dat (.int many), .no, .no, .no, .no, .no] _ D
    wtm_at "own"
    wtm_at "asg"
    have hit : IterD K T (iSeq K (tSl (rSlX K) (tVar 0) tNoPart (tPart (tC (.int 63))))) [.scr (ns.map .int), .dat (.int many), .own [], .dat (.int 97), .no, .no, .no] (cutD (ns.map .int) none (some 63)) :=
      it_list (ef_slS rfl ep_none (ep_some ev_int)).ev
    have hcut : cutD (ns.map .int) none (some 63) = ns.map .int := by
      unfold cutD
      have e1 : HT.sIx (ns.map PyData.int).length 0 none = 0 := rfl
      have e2 : HT.sIx (ns.map PyData.int).length (ns.map PyData.int).length (some 63) = ns.length := by
        rw [show (63 : Int) = ((63 : Nat) : Int) from rfl, HT.sIx_nat, List.length_map]
        omega
      rw [e1, e2, List.drop_zero, Nat.sub_zero]
      exact List.take_of_length_le (by simp)
    rw [hcut] at hit
    refine q_forG hit (fun i ρ => numI many ns (61 * i) ρ) ⟨[], 97, ?_, (fun x hx => by cases hx), by simp, by decide, by decide⟩ ?_ ?_
    · simp only [List.map_nil]
      wtm_at "le"
    · rintro B' i d ρi hB hd ⟨xs, seed, hle, hf, hl, h0, h1⟩
      rw [List.getElem?_map] at hd
      cases e : ns[i]? with
      | none => rw [e] at hd; cases hd
      | some cell =>
        rw [e] at hd
        cases hd
        have hi : i < ns.length := (List.getElem?_eq_some_iff.mp e).1
        refine ⟨_, _, tg_name, s_weak (hle.set 4 _) ?_⟩
        show Tri K T H0 B' C [.scr (ns.map .int), .dat (.int many), .own (xs.map .int), .dat (.int seed), .dat (.int cell), .no, .no] _ _
        have b1 := fmod_few (a := cell) (b := 999979) (by decide)
        have b2 := fmod_few (a := seed * 40014 + cell.fmod 999979 + 41) (b := 2147483563) (by decide)
        wtm_at "asg"
        wtm_at "asg"
        have go : ∀ (ys : List Int) (rest : Int), Few ys → ys.length ≤ 61 * i + 1 → Tri K T H0 B' C [.scr (ns.map .int), .dat (.int many), .own (ys.map .int), .dat (.int ((seed * 40014 + cell.fmod 999979 + 41).fmod 2147483563)), .dat (.int cell), .dat (.int rest), .no]
            (tFor (iRng1 (tCons (tC (.int 60)) tNil)) (gName 6) (tIfS (tTest (tOp (rI0 fun i j => .bl (decide (j < i))) (tVar 5) (tC (.int 0)))) (tSeq (tDrop (tBM K "list" rAppend (tVar 2) (tCons (tOp (rI (fun _ j => j ≠ 0) fun i j => .int (i.fmod j)) (tVar 5) (tC (.int 1013))) tNil))) (tAsg (tOp (rI CFd fun i j => .int (i.fdiv j)) (tVar 5) (tC (.int 1013))) (gName 5))) tNext))
            { nx := Nxt K T H0 B' C (numI many ns (61 * (i + 1))), rt := D.rt, bk := fun σ H => tSeq (tWhile (tTest (tOp (rI0 fun i j => .bl (decide (i < j))) (tCB (rLenA K) (tCons (tVar 2) tNil)) (tVar 1))) (tSeq (tAsg (tOp (rI (fun _ j => j ≠ 0) fun i j => .int (i.fmod j)) (tOp (rAddA K) (tOp (rAddA K) (tOp (rAddA K) (tOp rMulA (tVar 3) (tVar 3)) (tOp rMulA (tC (.int 52774)) (tVar 3))) (tOp rMulA (tC (.int 23)) (tCB (rLenA K) (tCons (tVar 2) tNil)))) (tC (.int 5))) (tC (.int 2147483629))) (gName 3)) (tDrop (tBM K "list" rAppend (tVar 2) (tCons (tOp (rI (fun _ j => j ≠ 0) fun i j => .int (i.fmod j)) (tOp (rI CFd fun i j => .int (i.fdiv j)) (tVar 3) (tC (.int 1019))) (tC (.int 9967))) tNil))))) (tRet (tSl (rSlX K) (tVar 2) tNoPart (tPart (tVar 1)))) D σ H, ct := Nxt K T H0 B' C (numI many ns (61 * (i + 1))) } := by
          intro ys rest hy hyl
          refine s_forG (it_range1 (by wtm_at "ea") (by decide) (by decide)) (fun k ρ => numJ many ns (61 * i + 1 + k) ρ) ⟨ys, _, rest, ?_, hy, hyl, b2.1, Int.lt_trans b2.2 (by decide)⟩ ?_ ?_
          · wtm_at "le"
          · rintro B2 k d2 ρk hB2 hd2 ⟨zs, sd, r2, hle2, hf2, hl2, h02, h12⟩
            obtain ⟨hk, rfl⟩ := rgD_get hd2
            refine ⟨_, _, tg_name, s_weak (hle2.set 6 _) ?_⟩
            show Tri K T H0 B2 C [.scr (ns.map .int), .dat (.int many), .own (zs.map .int), .dat (.int sd), .no, .dat (.int r2), .dat (.int (0 + (k : Int)))] _ _
            have hk60 : k < 60 := hk
            refine s_if (by wtm_at "et") (fun c => ?_) (fun c => ?_)
            · have b3 := fmod_few (a := r2) (b := 1013) (by decide)
              refine q_app rfl (by wtm_at "ev") (by rw [List.length_map]; omega) ?_
              wtm_at "nf"
              rw [map_app]
              wtm_at "asg1"
              refine s_nxt (ρ' := [.scr (ns.map .int), .dat (.int many), .own ((zs ++ [r2.fmod 1013]).map .int), .dat (.int sd), .no, .dat (.int (r2.fdiv 1013)), .no]) ⟨zs ++ [r2.fmod 1013], sd, r2.fdiv 1013, Le.refl _, hf2.app (.one b3.1 (by omega)), by simp; omega, h02, h12⟩ ?_ rfl
              wtm_at "le"
            · refine s_nxt (ρ' := [.scr (ns.map .int), .dat (.int many), .own (zs.map .int), .dat (.int sd), .no, .dat (.int r2), .no]) ⟨zs, sd, r2, Le.refl _, hf2, by omega, h02, h12⟩ ?_ rfl
              wtm_at "le"
          · rintro ρn ⟨zs, sd, r2, hle2, hf2, hl2, h02, h12⟩
            rw [rgD_len] at hl2
            refine s_weak hle2 (s_nxt (ρ' := [.scr (ns.map .int), .dat (.int many), .own (zs.map .int), .dat (.int sd), .no, .no, .no]) ⟨zs, sd, Le.refl _, hf2, by simp at hl2; omega, h02, h12⟩ ?_ rfl)
            wtm_at "le"
        refine q_when (by wtm_at "et") (fun c => ?_) (fun c => ?_)
        · have b3 := fmod_few (a := cell) (b := 9967) (by decide)
          refine s_app rfl (by wtm_at "ev") (by rw [List.length_map]; omega) ?_
          wtm_at "nf"
          rw [map_app]
          exact s_to (go _ _ (hf.app (.one b3.1 b3.2)) (by simp; omega))
        · exact go _ _ hf (by omega)
    · rintro ρn ⟨xs, seed, hle, hf, hl, h0, h1⟩
      rw [List.length_map] at hl
      refine s_weak hle ?_
      refine q_while (fun m ρ => ∃ (ys : List Int) (sd : Int), ρ = [.scr (ns.map .int), .dat (.int many), .own (ys.map .int), .dat (.int sd), .no, .no, .no] ∧ Few ys ∧ ys.length ≤ 4000 + many ∧ 0 ≤ sd ∧ sd < 2147483648 ∧ m = many - ys.length) (many - xs.length) ⟨xs, seed, rfl, hf, by omega, h0, h1, rfl⟩ ?_
      rintro m ρ ⟨ys, sd, rfl, hf2, hl2, h02, h12, rfl⟩
      refine ⟨_, by wtm_at "et", fun c => ?_, fun c => ?_⟩
      · have c' := of_decide_eq_true c
        rw [List.length_map] at c'
        have mm : IntMulOk sd sd := mulOkL (by omega)
        have b2 := fmod_few (a := sd * sd + 52774 * sd + 23 * ((ys.map PyData.int).length : Int) + 5) (b := 2147483629) (by decide)
        wtm_at "asg"
        have b3 := fmod_few (a := ((sd * sd + 52774 * sd + 23 * ((ys.map PyData.int).length : Int) + 5).fmod 2147483629).fdiv 1019) (b := 9967) (by decide)
        refine s_app rfl (by wtm_at "ev") (by rw [List.length_map]; omega) ?_
        wtm_at "nf"
        rw [map_app]
        intro σ H g
        refine ⟨_, _, ?_, ⟨ys ++ [_], _, rfl, hf2.app (.one b3.1 b3.2), ?_, b2.1, Int.lt_trans b2.2 (by decide), rfl⟩, g⟩
        · simp; omega
        · simp; omega
      · have c' := of_decide_eq_false c
        rw [List.length_map] at c'
        refine s_freeze (i := 2) rfl ?_
        wtm_at "nf"
        refine s_ret (d := .list (cutD (ys.map .int) none (some many))) ?_ (hrt _ ⟨ys.take many, by rw [List.length_take]; omega, fun x hx => hf2 x (List.mem_of_mem_take hx), ?_⟩)
        · wtm_at "ev"
        · unfold cutD
          have e1 : HT.sIx (ys.map PyData.int).length 0 none = 0 := rfl
          have e2 : HT.sIx (ys.map PyData.int).length (ys.map PyData.int).length (some (many : Int)) = many := by
            rw [HT.sIx_nat, List.length_map]
            omega
          rw [e1, e2, List.drop_zero, Nat.sub_zero, List.map_take]
/-! ### _law_part -/
abbrev s__law_part : Stmt := top 14
abbrev n__law_part : List Str := ["_law_up", "_law_down", "_law_this", "_law_that", "_law_side_here"]
theorem sc__law_part : FnScope ["_law_up", "_law_down", "_law_this", "_law_that", "_law_side_here"] ["_law_up", "_law_down"] (defScope s__law_part) := ⟨rfl, rfl, rfl, by decide +kernel, rfl, by decide +kernel, by decide +kernel⟩
theorem law_part_num {u l : Int} (hl : l ≠ 0) : u.fdiv (if 0 < l then ((Int.gcd u l : Nat) : Int) else 0 - ((Int.gcd u l : Nat) : Int)) = (Rat.divInt u l).num := by
  rw [← part_num hl]
  by_cases h : 0 < l
  · rw [if_pos h, if_neg (by omega)]
  · rw [if_neg h, if_pos (by omega), Int.zero_sub, ← Int.neg_fdiv_neg, Int.neg_neg]
theorem law_part_den {u l : Int} (hl : l ≠ 0) : l.fdiv (if 0 < l then ((Int.gcd u l : Nat) : Int) else 0 - ((Int.gcd u l : Nat) : Int)) = ((Rat.divInt u l).den : Int) := by
  rw [← part_den hl]
  by_cases h : 0 < l
  · rw [if_pos h, if_neg (by omega)]
  · rw [if_neg h, if_pos (by omega), Int.zero_sub, ← Int.neg_fdiv_neg, Int.neg_neg]
theorem ok__law_part {P : Program} {w : World} {K : PySem.W.Frag} {T : Tb} {mg : Str → Option Value} {base : Heap} {f : Addr} {fd : FuncData} {dvs : List V} (F : FnP K "_law_part" s__law_part dvs f fd) (Z : Blt mg) (Se : Seer P K) :
    FnOk P w K mg base CX0 41 f fd ["_law_up", "_law_down"] (spR K T Rpart) := by
  refine fnR F sc__law_part (fun ds r h => ?_) (fun cdv A outer s H E hr => ?_)
  · obtain ⟨u, l, hl, rfl, rfl⟩ := h
    rfl
  · have nd := sc__law_part.nd
    refine ⟨_, (pss_cons (ps_par (i := 2) (j := 3) (by rfl) nd rfl rfl (by decide) rfl rfl (pa_cons (pe_callB call_abs (by rfl) Z.abs (by decide +kernel) (pa_cons (pv 0) pa_nil)) (pa_cons (pe_callB call_abs (by rfl) Z.abs (by decide +kernel) (pa_cons (pv 1) pa_nil)) pa_nil)) (by rfl))
      (pss_cons (ps_while PassesOwn.never (pt_cmpR op_gt (pv 3) pe_int (nomark _)) (pss_one (ps_par (i := 2) (j := 3) (by rfl) nd rfl rfl (by decide) rfl rfl (pa_cons (pv 3) (pa_cons (pe_op op_modN (pv 2) (pv 3)) pa_nil)) (by rfl))))
      (pss_cons (ps_set (i := 4) nd rfl (Or.inl rfl) (pe_ifExp (pt_cmpR op_gt (pv 1) pe_int (nomark _)) (pv 2) (pe_op op_sub pe_int (pv 2))))
      (pss_one (ps_ret (pe_tup (pa_cons (pe_op (op_fdB Se hr (by decide) rfl rfl rfl rfl rfl) (pv 0) (pv 4)) (pa_cons (pe_op (op_fdB Se hr (by decide) rfl rfl rfl rfl rfl) (pv 1) (pv 4)) pa_nil)))))))), ?_⟩
    wtm_at "cx"
    rintro ds r ⟨u, l, hl, rfl, rfl⟩ H0 C D hrt hnx
    show Tri K T H0 _ C [.dat (.int u), .dat (.int l), .no, .no, .no] _ D
    wtm_at "par"
    refine q_while (fun m ρ => ∃ x y : Int, ρ = [.dat (.int u), .dat (.int l), .dat (.int x), .dat (.int y), .no] ∧ 0 ≤ x ∧ 0 ≤ y ∧ Int.gcd x y = Int.gcd u l ∧ m = y.toNat) _ ⟨_, _, rfl, by split <;> omega, by split <;> omega, ?_, rfl⟩ ?_
    · have h1 : ∀ x : Int, (if x < 0 then -x else x).natAbs = x.natAbs := fun x => by split <;> omega
      show Nat.gcd _ _ = Nat.gcd _ _
      rw [h1, h1]
    rintro m ρ ⟨x, y, rfl, hx, hy, hg, rfl⟩
    refine ⟨_, by wtm_at "et", fun c => ?_, fun c => ?_⟩
    · have c' : 0 < y := of_decide_eq_true c
      have hne : y ≠ 0 := by omega
      refine s_par (by wtm_at "ea") fun σ H g => ⟨_, _, ?_, ⟨y, x.fmod y, rfl, hy, ?_, ?_, rfl⟩, g⟩
      · have h1 : x.fmod y = x % y := Int.fmod_eq_emod_of_nonneg x hy
        have h2 := Int.emod_lt_of_pos x c'
        have h3 := Int.emod_nonneg x hne
        omega
      · have h1 : x.fmod y = x % y := Int.fmod_eq_emod_of_nonneg x hy
        have h3 := Int.emod_nonneg x hne
        omega
      · rw [gcd_step hx c']; exact hg
    · have c' : ¬ 0 < y := of_decide_eq_false c
      have e : y = 0 := by omega
      subst e
      have hx' : x = ((Int.gcd u l : Nat) : Int) := by
        rw [← hg, Int.gcd_zero_right]
        omega
      subst hx'
      have g0 := gcd_ne (u := u) hl
      have s0 : (if 0 < l then ((Int.gcd u l : Nat) : Int) else 0 - ((Int.gcd u l : Nat) : Int)) ≠ 0 := by split <;> omega
      refine q_asg (d := .int (if 0 < l then ((Int.gcd u l : Nat) : Int) else 0 - ((Int.gcd u l : Nat) : Int))) (ev_is (by wtm_at "ev") (by by_cases h : 0 < l <;> simp [h])) ?_
      wtm_at "nf"
      refine s_ret (by wtm_at "ev") ?_
      rw [law_part_num hl, law_part_den hl]
      exact hrt
/-! ### _law_any_part -/
abbrev s__law_any_part : Stmt := top 15
abbrev n__law_any_part : List Str := ["_law_d", "_law_up"]
theorem sc__law_any_part : FnScope ["_law_d", "_law_up"] ["_law_d"] (defScope s__law_any_part) := ⟨rfl, rfl, rfl, by decide +kernel, rfl, by decide +kernel, by decide +kernel⟩
def anyUp (d : List Int) : Int := nthI [0, 1, 0 - 1, 2, 0 - 3, 7, 12, 0 - 60, 99, 0 - 100] ((nthI d 0).fmod 10) + (nthI d 1).fmod 5 * (((nthI d 0).fdiv 10).fmod 2)
def anyU (d : List Int) : Int := anyUp d * (1 + ((nthI d 2).fmod 3).fdiv 2 * (10 ^ (9 : Int).toNat + nthI d 3))
def anyL (d : List Int) : Int := nthI [1, 1, 2, 3, 4, 12, 60, 1000 + nthI d 3] (((nthI d 2).fdiv 3).fmod 8)
def anyP (d : List Int) : Rat := Rat.divInt (anyU d) (anyL d)
theorem any_bds (d : List Int) (h : Few d) : (-100 ≤ anyUp d ∧ anyUp d ≤ 103) ∧ (anyU d).natAbs < 2 ^ 40 ∧ 1 ≤ anyL d ∧ anyL d ≤ 11000 := by
  have h1 := nthI_bds (xs := [0, 1, 0 - 1, 2, 0 - 3, 7, 12, 0 - 60, 99, 0 - 100]) (lo := -100) (hi := 99) (by decide) (by decide) (by decide) ((nthI d 0).fmod 10)
  have h2 := fmod_in (a := nthI d 1) (b := 5) (by decide)
  have h3 := fmod_in (a := (nthI d 0).fdiv 10) (b := 2) (by decide)
  have h4 : 0 ≤ (nthI d 1).fmod 5 * (((nthI d 0).fdiv 10).fmod 2) ∧ (nthI d 1).fmod 5 * (((nthI d 0).fdiv 10).fmod 2) ≤ 4 := by
    have e : ((nthI d 0).fdiv 10).fmod 2 = 0 ∨ ((nthI d 0).fdiv 10).fmod 2 = 1 := by omega
    rcases e with e | e <;> rw [e] <;> omega
  have u1 : -100 ≤ anyUp d ∧ anyUp d ≤ 103 := by unfold anyUp; omega
  have h5 := fmod_in (a := nthI d 2) (b := 3) (by decide)
  have h6 : ((nthI d 2).fmod 3).fdiv 2 = 0 ∨ ((nthI d 2).fmod 3).fdiv 2 = 1 := by rw [fdiv_pos_eq (by decide)]; omega
  have h7 := nthI_few h 3
  refine ⟨u1, ?_, ?_⟩
  · unfold anyU
    have e9 : (10 : Int) ^ (9 : Int).toNat = 1000000000 := by decide
    rw [e9]
    have p40 : (2 : Nat) ^ 40 = 1099511627776 := by decide
    rw [p40, Int.natAbs_mul]
    have a1 : (anyUp d).natAbs ≤ 103 := by omega
    have a2 : (1 + ((nthI d 2).fmod 3).fdiv 2 * (1000000000 + nthI d 3)).natAbs ≤ 1000009968 := by
      rcases h6 with e | e <;> rw [e] <;> omega
    exact Nat.lt_of_le_of_lt (Nat.mul_le_mul a1 a2) (by decide)
  · unfold anyL
    have h8 := fmod_in (a := (nthI d 2).fdiv 3) (b := 8) (by decide)
    exact nthI_bdsIn (lo := 1) (hi := 11000) (by
      intro x hx
      simp only [List.mem_cons, List.mem_nil_iff, or_false] at hx
      rcases hx with rfl | rfl | rfl | rfl | rfl | rfl | rfl | rfl <;> omega) h8.1 (by simpa using h8.2)
theorem anyP_sz {d : List Int} (h : Few d) : Sz 40 (anyP d) := by
  obtain ⟨_, h2, h3, h4⟩ := any_bds d h
  exact sz_divInt (by omega) h2 (btOf 11001 (by omega) (by decide))
def Rany_part (ds : List PyData) (r : PyData) : Prop := ∃ d : List Int, 4 ≤ d.length ∧ Few d ∧ ds = [.list (d.map .int)] ∧ r = encR (anyP d)
theorem ok__law_any_part {P : Program} {w : World} {K : PySem.W.Frag} {T : Tb} {mg : Str → Option Value} {base : Heap} {f : Addr} {fd : FuncData} {dvs : List V} (F : FnP K "_law_any_part" s__law_any_part dvs f fd) (Z : Blt mg)
    (c__law_part : Cal P w K mg base 41 "_law_part" ["_law_up", "_law_down"] [] (spR K T Rpart)) :
    FnOk P w K mg base CX0 42 f fd ["_law_d"] (spR K T Rany_part) := by
  refine fnR F sc__law_any_part (fun ds r h => ?_) (fun cdv A outer s H E hr => ?_)
  · obtain ⟨d, hd, hf, rfl, rfl⟩ := h
    rfl
  · have nd := sc__law_any_part.nd
    refine ⟨_, (pss_cons (ps_set (i := 1) nd rfl (Or.inl rfl) (pe_op (op_addK K) (pe_ix (ix_seqK K) (pe_lst (pa_cons pe_int (pa_cons pe_int (pa_cons (pe_op op_sub pe_int pe_int) (pa_cons pe_int (pa_cons (pe_op op_sub pe_int pe_int) (pa_cons pe_int (pa_cons pe_int (pa_cons (pe_op op_sub pe_int pe_int) (pa_cons pe_int (pa_cons (pe_op op_sub pe_int pe_int) pa_nil))))))))))) (pe_op op_modN (pe_ix (ix_seqK K) (pv 0) pe_int (fun _ _ => rfl)) pe_int) (fun _ _ => rfl)) (pe_op op_mulA (pe_op op_modN (pe_ix (ix_seqK K) (pv 0) pe_int (fun _ _ => rfl)) pe_int) (pe_op op_modN (pe_op op_fdX (pe_ix (ix_seqK K) (pv 0) pe_int (fun _ _ => rfl)) pe_int) pe_int))))
      (pss_one (ps_ret (pe_callC c__law_part hr rfl (pa_cons (pe_op op_mulA (pv 1) (pe_op (op_addK K) pe_int (pe_op op_mulA (pe_op op_fdX (pe_op op_modN (pe_ix (ix_seqK K) (pv 0) pe_int (fun _ _ => rfl)) pe_int) pe_int) (pe_op (op_addK K) (pe_op op_pow pe_int pe_int) (pe_ix (ix_seqK K) (pv 0) pe_int (fun _ _ => rfl)))))) (pa_cons (pe_ix (ix_seqK K) (pe_lst (pa_cons pe_int (pa_cons pe_int (pa_cons pe_int (pa_cons pe_int (pa_cons pe_int (pa_cons pe_int (pa_cons pe_int (pa_cons (pe_op (op_addK K) pe_int (pe_ix (ix_seqK K) (pv 0) pe_int (fun _ _ => rfl))) pa_nil))))))))) (pe_op op_modN (pe_op op_fdX (pe_ix (ix_seqK K) (pv 0) pe_int (fun _ _ => rfl)) pe_int) pe_int) (fun _ _ => rfl)) pa_nil)))))), ?_⟩
    wtm_at "cx"
    rintro ds r ⟨d, hd, hf, rfl, rfl⟩ H0 C D hrt hnx
    show Tri K T H0 _ C [.dat (.list (d.map .int)), .no] _ D
    have i0 := at_nthI (xs := d) (i := 0) (by decide) (by omega)
    have i1 := at_nthI (xs := d) (i := 1) (by decide) (by omega)
    have i2 := at_nthI (xs := d) (i := 2) (by decide) (by omega)
    have i3 := at_nthI (xs := d) (i := 3) (by decide) (by omega)
    have k1 := fmod_in (a := nthI d 0) (b := 10) (by decide)
    have j1 := at_nthI (xs := [0, 1, 0 - 1, 2, 0 - 3, 7, 12, 0 - 60, 99, 0 - 100]) (i := (nthI d 0).fmod 10) k1.1 (by simpa using k1.2)
    have k2 := fmod_in (a := (nthI d 2).fdiv 3) (b := 8) (by decide)
    have j2 := at_nthI (xs := [1, 1, 2, 3, 4, 12, 60, 1000 + nthI d 3]) (i := ((nthI d 2).fdiv 3).fmod 8) k2.1 (by simpa using k2.2)
    simp only [List.map_cons, List.map_nil] at j1 j2
    obtain ⟨b1, b2, b3, b4⟩ := any_bds d hf
    have k3 := fmod_in (a := nthI d 1) (b := 5) (by decide)
    have f3 := nthI_few hf 3
    have k4 := fmod_in (a := nthI d 2) (b := 3) (by decide)
    have m1 : IntMulOk ((nthI d 1).fmod 5) (((nthI d 0).fdiv 10).fmod 2) := mulOkL (by omega)
    wtm_at "asg"
    have m2 : IntMulOk (((nthI d 2).fmod 3).fdiv 2) (10 ^ (9 : Int).toNat + nthI d 3) := mulOkL (by rw [fdiv_pos_eq (by decide)]; omega)
    have m3 : IntMulOk (nthI [0, 1, 0 - 1, 2, 0 - 3, 7, 12, 0 - 60, 99, 0 - 100] ((nthI d 0).fmod 10) + (nthI d 1).fmod 5 * (((nthI d 0).fdiv 10).fmod 2)) (1 + ((nthI d 2).fmod 3).fdiv 2 * (10 ^ (9 : Int).toNat + nthI d 3)) := mulOkL (by unfold anyUp at b1; omega)
    have hc : Rpart [.int ((nthI [0, 1, 0 - 1, 2, 0 - 3, 7, 12, 0 - 60, 99, 0 - 100] ((nthI d 0).fmod 10) + (nthI d 1).fmod 5 * (((nthI d 0).fdiv 10).fmod 2)) * (1 + ((nthI d 2).fmod 3).fdiv 2 * (10 ^ (9 : Int).toNat + nthI d 3))), .int (nthI [1, 1, 2, 3, 4, 12, 60, 1000 + nthI d 3] (((nthI d 2).fdiv 3).fmod 8))] (encR (anyP d)) :=
      ⟨anyU d, anyL d, by omega, rfl, rfl⟩
    exact s_ret (by wtm_at "ev") hrt
/-! ### _law_plus -/
abbrev s__law_plus : Stmt := top 16
abbrev n__law_plus : List Str := ["_law_this", "_law_that"]
theorem sc__law_plus : FnScope ["_law_this", "_law_that"] ["_law_this", "_law_that"] (defScope s__law_plus) := ⟨rfl, rfl, rfl, by decide +kernel, rfl, by decide +kernel, by decide +kernel⟩
theorem ok__law_plus {P : Program} {w : World} {K : PySem.W.Frag} {T : Tb} {mg : Str → Option Value} {base : Heap} {f : Addr} {fd : FuncData} {dvs : List V} (F : FnP K "_law_plus" s__law_plus dvs f fd) (Z : Blt mg)
    (c__law_part : Cal P w K mg base 41 "_law_part" ["_law_up", "_law_down"] [] (spR K T Rpart)) :
    FnOk P w K mg base CX0 42 f fd ["_law_this", "_law_that"] (spR K T Rplus) := by
  refine fnR F sc__law_plus (fun ds r h => ?_) (fun cdv A outer s H E hr => ?_)
  · obtain ⟨a, b, n, m, ha, hb, hnm, rfl, rfl⟩ := h
    rfl
  · have nd := sc__law_plus.nd
    refine ⟨_, (pss_one (ps_ret (pe_callC c__law_part hr rfl (pa_cons (pe_op (op_addK K) (pe_op op_mulA (pe_ix (ix_seqK K) (pv 0) pe_int (fun _ _ => rfl)) (pe_ix (ix_seqK K) (pv 1) pe_int (fun _ _ => rfl))) (pe_op op_mulA (pe_ix (ix_seqK K) (pv 1) pe_int (fun _ _ => rfl)) (pe_ix (ix_seqK K) (pv 0) pe_int (fun _ _ => rfl)))) (pa_cons (pe_op op_mulA (pe_ix (ix_seqK K) (pv 0) pe_int (fun _ _ => rfl)) (pe_ix (ix_seqK K) (pv 1) pe_int (fun _ _ => rfl))) pa_nil))))), ?_⟩
    wtm_at "cx"
    rintro ds r ⟨a, b, n, m, ha, hb, hnm, rfl, rfl⟩ H0 C D hrt hnx
    show Tri K T H0 _ C [.dat (.tuple [.int a.num, .int (a.den : Int)]), .dat (.tuple [.int b.num, .int (b.den : Int)])] _ D
    have m1 : IntMulOk a.num (b.den : Int) := mulOk ha.num hb.den (by omega)
    have m2 : IntMulOk b.num (a.den : Int) := mulOk hb.num ha.den (by omega)
    have m3 : IntMulOk (a.den : Int) (b.den : Int) := mulOk ha.den hb.den (by omega)
    have m4 : IntMulOk a.num b.num := mulOk ha.num hb.num (by omega)
    have m5 : IntMulOk (a.den : Int) b.num := mulOk ha.den hb.num (by omega)
    have hc : Rpart [.int (a.num * (b.den : Int) + b.num * (a.den : Int)), .int ((a.den : Int) * (b.den : Int))] (encR (a + b)) := ⟨_, _, dens_ne a b, rfl, by rw [add_divInt]⟩
    exact s_ret (by wtm_at "ev") hrt
/-! ### _law_times -/
abbrev s__law_times : Stmt := top 17
abbrev n__law_times : List Str := ["_law_this", "_law_that"]
theorem sc__law_times : FnScope ["_law_this", "_law_that"] ["_law_this", "_law_that"] (defScope s__law_times) := ⟨rfl, rfl, rfl, by decide +kernel, rfl, by decide +kernel, by decide +kernel⟩
theorem ok__law_times {P : Program} {w : World} {K : PySem.W.Frag} {T : Tb} {mg : Str → Option Value} {base : Heap} {f : Addr} {fd : FuncData} {dvs : List V} (F : FnP K "_law_times" s__law_times dvs f fd) (Z : Blt mg)
    (c__law_part : Cal P w K mg base 41 "_law_part" ["_law_up", "_law_down"] [] (spR K T Rpart)) :
    FnOk P w K mg base CX0 42 f fd ["_law_this", "_law_that"] (spR K T Rtimes) := by
  refine fnR F sc__law_times (fun ds r h => ?_) (fun cdv A outer s H E hr => ?_)
  · obtain ⟨a, b, n, m, ha, hb, hnm, rfl, rfl⟩ := h
    rfl
  · have nd := sc__law_times.nd
    refine ⟨_, (pss_one (ps_ret (pe_callC c__law_part hr rfl (pa_cons (pe_op op_mulA (pe_ix (ix_seqK K) (pv 0) pe_int (fun _ _ => rfl)) (pe_ix (ix_seqK K) (pv 1) pe_int (fun _ _ => rfl))) (pa_cons (pe_op op_mulA (pe_ix (ix_seqK K) (pv 0) pe_int (fun _ _ => rfl)) (pe_ix (ix_seqK K) (pv 1) pe_int (fun _ _ => rfl))) pa_nil))))), ?_⟩
    wtm_at "cx"
    rintro ds r ⟨a, b, n, m, ha, hb, hnm, rfl, rfl⟩ H0 C D hrt hnx
    show Tri K T H0 _ C [.dat (.tuple [.int a.num, .int (a.den : Int)]), .dat (.tuple [.int b.num, .int (b.den : Int)])] _ D
    have m1 : IntMulOk a.num (b.den : Int) := mulOk ha.num hb.den (by omega)
    have m2 : IntMulOk b.num (a.den : Int) := mulOk hb.num ha.den (by omega)
    have m3 : IntMulOk (a.den : Int) (b.den : Int) := mulOk ha.den hb.den (by omega)
    have m4 : IntMulOk a.num b.num := mulOk ha.num hb.num (by omega)
    have m5 : IntMulOk (a.den : Int) b.num := mulOk ha.den hb.num (by omega)
    have hc : Rpart [.int (a.num * b.num), .int ((a.den : Int) * (b.den : Int))] (encR (a * b)) := ⟨_, _, dens_ne a b, rfl, by rw [mul_divInt]⟩
    exact s_ret (by wtm_at "ev") hrt
/-! ### _law_same -/
abbrev s__law_same : Stmt := top 18
abbrev n__law_same : List Str := ["_law_found", "_law_due", "_law_k"]
theorem sc__law_same : FnScope ["_law_found", "_law_due", "_law_k"] ["_law_found", "_law_due"] (defScope s__law_same) := ⟨rfl, rfl, rfl, by decide +kernel, rfl, by decide +kernel, by decide +kernel⟩
inductive Pl : Nat → PyData → Prop
  | none {n : Nat} : Pl n .none
  | bool {n : Nat} (b : Bool) : Pl n (.bool b)
  | int {n : Nat} (i : Int) : Pl n (.int i)
  | str {n : Nat} {x : Str} (h : (PyData.str x).canLay0 = true) : Pl n (.str x)
  | list {n : Nat} {ds : List PyData} (hl : ds.length ≤ 1000000) (h : ∀ d ∈ ds, Pl n d) : Pl (n + 1) (.list ds)
  | tuple {n : Nat} {ds : List PyData} (hl : ds.length ≤ 1000000) (h : ∀ d ∈ ds, Pl n d) : Pl (n + 1) (.tuple ds)
theorem Pl.shd {n : Nat} {d : PyData} (h : Pl n d) : ShD n d := by
  induction h with
  | none => exact shd_none.mono (Nat.zero_le _)
  | bool b => exact (shd_bool b).mono (Nat.zero_le _)
  | int i => exact (shd_int i).mono (Nat.zero_le _)
  | str h => exact ⟨h, by simp only [PyData.depth]; exact Nat.zero_le _⟩
  | list _ _ ih => exact shd_list ih
  | tuple _ _ ih => exact shd_tuple ih
theorem Pl.mono {n m : Nat} {d : PyData} (h : Pl n d) : n ≤ m → Pl m d := by
  induction h generalizing m with
  | none => intro _; exact .none
  | bool b => intro _; exact .bool b
  | int i => intro _; exact .int i
  | str h => intro _; exact .str h
  | list hl _ ih =>
    intro h
    cases m with
    | zero => omega
    | succ m => exact .list hl fun d hd => ih d hd (by omega)
  | tuple hl _ ih =>
    intro h
    cases m with
    | zero => omega
    | succ m => exact .tuple hl fun d hd => ih d hd (by omega)
def Rsame (n : Nat) (ds : List PyData) (r : PyData) : Prop := ∃ d, Pl n d ∧ n ≤ 60 ∧ ds = [d, d] ∧ r = .bool true
def Rsame8 : List PyData → PyData → Prop := Rsame 8
theorem same_step {P : Program} {w : World} {K : PySem.W.Frag} {T : Tb} {mg : Str → Option Value} {base : Heap} {f : Addr} {fd : FuncData} {dvs : List V} (F : FnP K "_law_same" s__law_same dvs f fd) (Z : Blt mg) {k n : Nat} {R : List PyData → PyData → Prop}
    (hn : ∀ ds : List PyData, (Pl n (.list ds) ∨ Pl n (.tuple ds)) → ∀ d ∈ ds, R [d, d] (.bool true)) (h60 : n ≤ 60)
    (c__law_same : Cal P w K mg base k "_law_same" ["_law_found", "_law_due"] [] (spR K T R)) : FnOk P w K mg base CX0 (k + 1) f fd ["_law_found", "_law_due"] (spR K T (Rsame n)) := by
  refine fnR F sc__law_same (fun ds r h => ?_) (fun cdv A outer s H E hr => ?_)
  · obtain ⟨d, _, _, rfl, rfl⟩ := h
    rfl
  · have nd := sc__law_same.nd
    refine ⟨_, (pss_cons (ps_if (pt_cmpR op_isN (pv 1) pe_non (nomark _)) (pss_one (ps_ret (pe_cmpR op_isN (pv 0) pe_non (nomark _)))) pss_nil)
      (pss_cons (ps_if (pt_val (pe_callB (call_isiTK K) (by rfl) Z.isinstance (by decide +kernel) (pa_cons (pv 1) (pa_cons (pe_tup (pa_cons (pe_bltn (v := .ty "list") (u := .type "list") (by rfl) Z.list (by decide +kernel) rfl) (pa_cons (pe_bltn (v := .ty "tuple") (u := .type "tuple") (by rfl) Z.tuple (by decide +kernel) rfl) pa_nil))) pa_nil)))) (pss_cons (ps_if (PW.pt (pw_or (pt_cmpR (op_neK K hr.units) (pe_callB (call_isiK K) (by rfl) Z.isinstance (by decide +kernel) (pa_cons (pv 0) (pa_cons (pe_bltn (v := .ty "list") (u := .type "list") (by rfl) Z.list (by decide +kernel) rfl) pa_nil))) (pe_callB (call_isiK K) (by rfl) Z.isinstance (by decide +kernel) (pa_cons (pv 1) (pa_cons (pe_bltn (v := .ty "list") (u := .type "list") (by rfl) Z.list (by decide +kernel) rfl) pa_nil))) (nomark _)) (pw_or1 (pt_cmpR (op_neK K hr.units) (pe_callB (call_isiK K) (by rfl) Z.isinstance (by decide +kernel) (pa_cons (pv 0) (pa_cons (pe_bltn (v := .ty "tuple") (u := .type "tuple") (by rfl) Z.tuple (by decide +kernel) rfl) pa_nil))) (pe_callB (call_isiK K) (by rfl) Z.isinstance (by decide +kernel) (pa_cons (pv 1) (pa_cons (pe_bltn (v := .ty "tuple") (u := .type "tuple") (by rfl) Z.tuple (by decide +kernel) rfl) pa_nil))) (nomark _))))) (pss_one (ps_ret pe_bl)) pss_nil)
      (pss_one (ps_ret (pe_and (pe_cmpR (op_eqK K hr.units) (pe_callB (call_lenK K) (by rfl) Z.len PySem.boot_len (pa_cons (pv 0) pa_nil)) (pe_callB (call_lenK K) (by rfl) Z.len PySem.boot_len (pa_cons (pv 1) pa_nil)) (nomark _)) (pe_one (pe_callB (cr_allK K rfl) (by rfl) Z.all (by decide +kernel) (pa_cons (pe_lc (own := [("_law_k", 2)]) rfl nd (pi_range1 (by rfl) Z.range (pa_cons (pe_callB (call_lenK K) (by rfl) Z.len PySem.boot_len (pa_cons (pv 1) pa_nil)) pa_nil)) (blkOk_by (own := [("_law_k", 2)]) (N := ["_law_found", "_law_due", "_law_k"]) (sc := defScope s__law_same) (by decide +kernel)) (fun _ _ _ _ _ => (pg_name (i := 2) nd rfl (Or.inl rfl))) (fun _ _ _ _ _ => pts_nil) (fun _ _ _ _ _ => (pe_callC c__law_same hr rfl (pa_cons (pe_ix (ix_seqK K) (pv 0) (pv 2) (fun _ _ => rfl)) (pa_cons (pe_ix (ix_seqK K) (pv 1) (pv 2) (fun _ _ => rfl)) pa_nil)) (hk := Nat.le_refl _)))) pa_nil))))))) pss_nil)
      (pss_cons (ps_if (PW.pt (pw_or (pt_cmpR (op_neK K hr.units) (pe_callB (call_isiK K) (by rfl) Z.isinstance (by decide +kernel) (pa_cons (pv 0) (pa_cons (pe_bltn (v := .ty "bool") (u := .type "bool") (by rfl) Z.bool (by decide +kernel) rfl) pa_nil))) (pe_callB (call_isiK K) (by rfl) Z.isinstance (by decide +kernel) (pa_cons (pv 1) (pa_cons (pe_bltn (v := .ty "bool") (u := .type "bool") (by rfl) Z.bool (by decide +kernel) rfl) pa_nil))) (nomark _)) (pw_or1 (pt_cmpR (op_neK K hr.units) (pe_callB (call_isiK K) (by rfl) Z.isinstance (by decide +kernel) (pa_cons (pv 0) (pa_cons (pe_bltn (v := .ty "str") (u := .type "str") (by rfl) Z.str (by decide +kernel) rfl) pa_nil))) (pe_callB (call_isiK K) (by rfl) Z.isinstance (by decide +kernel) (pa_cons (pv 1) (pa_cons (pe_bltn (v := .ty "str") (u := .type "str") (by rfl) Z.str (by decide +kernel) rfl) pa_nil))) (nomark _))))) (pss_one (ps_ret pe_bl)) pss_nil)
      (pss_one (ps_ret (pe_and (pe_cmpR (op_eqK K hr.units) (pe_callB (call_isiK K) (by rfl) Z.isinstance (by decide +kernel) (pa_cons (pv 0) (pa_cons (pe_bltn (v := .ty "int") (u := .type "int") (by rfl) Z.int (by decide +kernel) rfl) pa_nil))) (pe_callB (call_isiK K) (by rfl) Z.isinstance (by decide +kernel) (pa_cons (pv 1) (pa_cons (pe_bltn (v := .ty "int") (u := .type "int") (by rfl) Z.int (by decide +kernel) rfl) pa_nil))) (nomark _)) (pe_one (pe_cmpR (op_eqK K hr.units) (pv 0) (pv 1) (nomark _))))))))), ?_⟩
    wtm_at "cx"
    rintro ds r ⟨d, hd, _, rfl, rfl⟩ H0 C D hrt hnx
    show Tri K T H0 _ C [.dat d, .dat d, .no] _ D
    have sh := hd.shd.shaped (by omega)
    have rf := hd.shd.refl
    refine q_if (by wtm_at "et") (fun c => ?_) (fun c => s_to ?_)
    · have e : d = .none := by
        cases d <;> first | rfl | cases c
      subst e
      exact s_ret (ev_is (by wtm_at "ev") (by rfl)) hrt
    have seq : ∀ (ds : List PyData), (∀ x ∈ ds, R [x, x] (.bool true)) → SeqD d ds → ds.length ≤ 1000000 →
        Ev K T (tAndV (tOp (rEqD K) (tCB (rLenA K) (tCons (tVar 0) tNil)) (tCB (rLenA K) (tCons (tVar 1) tNil))) (tCB (rAll K) (tCons (tLc (iRng1 (tCons (tCB (rLenA K) (tCons (tVar 1) tNil)) tNil)) (gName 2) tYes (tCall (spR K T R) [] E0 (tCons (tOp (rIx K) (tVar 0) (tVar 2)) (tCons (tOp (rIx K) (tVar 1) (tVar 2)) tNil))) (List.map (fun x => x.2) [(Str.ofString "_law_k", 2)])) tNil))) [.dat d, .dat d, .no] (.bool true) := by
      intro ds hds hsq hl
      refine ev_is (ev_andV (ev_is (ev_op (ev_lenSq (by wtm_at "ev") hsq) (ev_lenSq (by wtm_at "ev") hsq) (rv_eq (shaped_int _) (shaped_int _))) (by rw [eqv_int, decide_eq_true rfl])) (fun _ => ev_allLc (fun _ => true) (it_range1 (ea_cons (ev_lenSq (by wtm_at "ev") hsq) ea_nil) (by omega) (by omega)) (by rw [rgD_len]; omega) ?_)) ?_
      · intro i x hx
        obtain ⟨hi, rfl⟩ := rgD_get hx
        have hi : i < ds.length := by simpa using hi
        refine ⟨_, _, tg_name, (fun j hj => hj), ?_⟩
        show Ev K T _ [.dat d, .dat d, .dat (.int (0 + (i : Int)))] _
        have a1 : atI ds (0 + (i : Int)) = some ds[i] := by
          rw [atI_in (by omega) (by omega), show (0 + (i : Int)).toNat = i from by omega, List.getElem?_eq_getElem hi]
        exact ev_call (ea_cons (ev_ixSq (by wtm_at "ev") hsq (by wtm_at "ev") a1) (ea_cons (ev_ixSq (by wtm_at "ev") hsq (by wtm_at "ev") a1) ea_nil)) (hds _ (List.getElem_mem hi))
      · simp
    have nn : ∀ b : Bool, PyData.eqv (.bool b) (.bool b) = true := fun b => (shd_bool b).refl
    have sb : ∀ b : Bool, SeqAt.shaped (.bool b) = true := fun b => (shd_bool b).shaped (by decide)
    have ne : ∀ {t : String} {b : Bool}, kitB (tyN d) t = some b → EvT K T (tTest (tOp (rNeD K) (tCB (rIsi K) (tCons (tVar 0) (tCons (tC (.ty t)) tNil))) (tCB (rIsi K) (tCons (tVar 1) (tCons (tC (.ty t)) tNil))))) [.dat d, .dat d, .no] false := fun h =>
      et_same (n := 0) (ev_isi (by wtm_at "ev") h) (ev_isi (by wtm_at "ev") h) (shd_bool _) (by decide)
    have two : (∃ b3 b4 b5 : Bool, kitB (tyN d) "list" = some false ∧ kitB (tyN d) "tuple" = some false ∧ kitB (tyN d) "bool" = some b3 ∧ kitB (tyN d) "str" = some b4 ∧ kitB (tyN d) "int" = some b5) ∨
        ∃ (ds : List PyData) (b1 b2 : Bool), SeqD d ds ∧ ds.length ≤ 1000000 ∧ (∀ x ∈ ds, R [x, x] (.bool true)) ∧ kitB (tyN d) "list" = some b1 ∧ kitB (tyN d) "tuple" = some b2 ∧ (b1 || b2) = true := by
      cases hd with
      | none => cases c
      | bool b => exact .inl ⟨true, false, true, by dsimp only [tyN]; decide +kernel, by dsimp only [tyN]; decide +kernel, by dsimp only [tyN]; decide +kernel, by dsimp only [tyN]; decide +kernel, by dsimp only [tyN]; decide +kernel⟩
      | int i => exact .inl ⟨false, false, true, by dsimp only [tyN]; decide +kernel, by dsimp only [tyN]; decide +kernel, by dsimp only [tyN]; decide +kernel, by dsimp only [tyN]; decide +kernel, by dsimp only [tyN]; decide +kernel⟩
      | str h => exact .inl ⟨false, true, false, by dsimp only [tyN]; decide +kernel, by dsimp only [tyN]; decide +kernel, by dsimp only [tyN]; decide +kernel, by dsimp only [tyN]; decide +kernel, by dsimp only [tyN]; decide +kernel⟩
      | list hl h => exact .inr ⟨_, true, false, .lst _, hl, hn _ (.inl (.list hl h)), by dsimp only [tyN]; decide +kernel, by dsimp only [tyN]; decide +kernel, rfl⟩
      | tuple hl h => exact .inr ⟨_, false, true, .tup _, hl, hn _ (.inr (.tuple hl h)), by dsimp only [tyN]; decide +kernel, by dsimp only [tyN]; decide +kernel, rfl⟩
    rcases two with ⟨b3, b4, b5, h1, h2, h3, h4, h5⟩ | ⟨ds, b1, b2, hsq, hl, hds, h1, h2, hb⟩
    · refine q_ifF (et_is (et_B (ev_isi2 (by wtm_at "ev") h1 h2)) rfl) ?_
      refine q_ifF (et_is (et_or (ne h3) fun _ => ne h4) rfl) ?_
      exact s_ret (ev_is (ev_andV (ev_is (ev_op (ev_isi (by wtm_at "ev") h5) (ev_isi (by wtm_at "ev") h5) (rv_eq (sb _) (sb _))) (by rw [nn])) fun _ => ev_op (by wtm_at "ev") (by wtm_at "ev") (rv_eq sh sh)) (by rw [rf]; rfl)) hrt
    · refine q_if (b := true) (et_is (et_B (ev_isi2 (by wtm_at "ev") h1 h2)) hb) (fun _ => ?_) (fun z => by cases z)
      refine q_ifF (et_is (et_or (ne h1) fun _ => ne h2) rfl) ?_
      exact s_ret (seq ds hds hsq hl) hrt
theorem same_all {P : Program} {w : World} {K : PySem.W.Frag} {T : Tb} {mg : Str → Option Value} {base : Heap} {f : Addr} {fd : FuncData} {dvs : List V} (F : FnP K "_law_same" s__law_same dvs f fd) (Z : Blt mg)
    (self : ∀ (k : Nat) (R : List PyData → PyData → Prop), FnOk P w K mg base CX0 k f fd ["_law_found", "_law_due"] (spR K T R) → Cal P w K mg base k "_law_same" ["_law_found", "_law_due"] [] (spR K T R)) :
    ∀ n : Nat, n ≤ 60 → FnOk P w K mg base CX0 (41 + n + 1) f fd ["_law_found", "_law_due"] (spR K T (Rsame n))
  | 0, h => same_step F Z (k := 41) (n := 0) (R := fun _ _ => False) (fun ds h => by rcases h with h | h <;> cases h) h (self _ _ ⟨fun vs H Q E ⟨_, _, _, _, _, z, _⟩ => z.elim, fun A outer s H args us vs Q E _ _ _ _ ⟨_, _, _, _, _, z, _⟩ => z.elim⟩)
  | n + 1, h => same_step F Z (k := 41 + n + 1) (n := n + 1) (R := Rsame n) (fun ds h2 x hx => by
      refine ⟨x, ?_, by omega, rfl, rfl⟩
      rcases h2 with h2 | h2 <;> cases h2 <;> rename_i q <;> exact q x hx) h (self _ _ (same_all F Z self n (by omega)))
theorem ok__law_same {P : Program} {w : World} {K : PySem.W.Frag} {T : Tb} {mg : Str → Option Value} {base : Heap} {f : Addr} {fd : FuncData} {dvs : List V} (F : FnP K "_law_same" s__law_same dvs f fd) (Z : Blt mg)
    (self : ∀ (k : Nat) (R : List PyData → PyData → Prop), FnOk P w K mg base CX0 k f fd ["_law_found", "_law_due"] (spR K T R) → Cal P w K mg base k "_law_same" ["_law_found", "_law_due"] [] (spR K T R)) :
    FnOk P w K mg base CX0 50 f fd ["_law_found", "_law_due"] (spR K T Rsame8) := by
  exact same_all F Z self 8 (by decide)
/-! ### _law_side -/
abbrev s__law_side : Stmt := top 19
abbrev n__law_side : List Str := ["_law_this", "_law_that", "_law_apart"]
theorem sc__law_side : FnScope ["_law_this", "_law_that", "_law_apart"] ["_law_this", "_law_that"] (defScope s__law_side) := ⟨rfl, rfl, rfl, by decide +kernel, rfl, by decide +kernel, by decide +kernel⟩
theorem ok__law_side {P : Program} {w : World} {K : PySem.W.Frag} {T : Tb} {mg : Str → Option Value} {base : Heap} {f : Addr} {fd : FuncData} {dvs : List V} (F : FnP K "_law_side" s__law_side dvs f fd) (Z : Blt mg) :
    FnOk P w K mg base CX0 41 f fd ["_law_this", "_law_that"] (spR K T Rorder) := by
  refine fnR F sc__law_side (fun ds r h => ?_) (fun cdv A outer s H E hr => ?_)
  · obtain ⟨a, b, n, m, ha, hb, hnm, rfl, rfl⟩ := h
    rfl
  · have nd := sc__law_side.nd
    refine ⟨_, (pss_cons (ps_set (i := 2) nd rfl (Or.inl rfl) (pe_op op_sub (pe_op op_mulA (pe_ix (ix_seqK K) (pv 0) pe_int (fun _ _ => rfl)) (pe_ix (ix_seqK K) (pv 1) pe_int (fun _ _ => rfl))) (pe_op op_mulA (pe_ix (ix_seqK K) (pv 1) pe_int (fun _ _ => rfl)) (pe_ix (ix_seqK K) (pv 0) pe_int (fun _ _ => rfl)))))
      (pss_one (ps_ret (pe_op op_sub (pe_callTy call_int1 (by rfl) Z.int (by decide +kernel) (pa_cons (pe_cmpR op_gt (pv 2) pe_int (nomark _)) pa_nil)) (pe_callTy call_int1 (by rfl) Z.int (by decide +kernel) (pa_cons (pe_cmpR op_lt (pv 2) pe_int (nomark _)) pa_nil)))))), ?_⟩
    wtm_at "cx"
    rintro ds r ⟨a, b, n, m, ha, hb, hnm, rfl, rfl⟩ H0 C D hrt hnx
    show Tri K T H0 _ C [.dat (.tuple [.int a.num, .int (a.den : Int)]), .dat (.tuple [.int b.num, .int (b.den : Int)]), .no] _ D
    have m1 : IntMulOk a.num (b.den : Int) := mulOk ha.num hb.den (by omega)
    have m2 : IntMulOk b.num (a.den : Int) := mulOk hb.num ha.den (by omega)
    refine q_asg (by wtm_at "ev") ?_
    refine s_ret (by wtm_at "ev") ?_
    rw [← ord_num a b] at hrt
    simpa using hrt
/-! ### _law_over_told -/
abbrev s__law_over_told : Stmt := top 20
abbrev n__law_over_told : List Str := ["_law_this", "_law_that", "_law_found", "e"]
theorem sc__law_over_told : FnScope ["_law_this", "_law_that", "_law_found", "e"] ["_law_this", "_law_that"] (defScope s__law_over_told) := ⟨rfl, rfl, rfl, by decide +kernel, rfl, by decide +kernel, by decide +kernel⟩
def Rover_told (ds : List PyData) (r : PyData) : Prop := ∃ (a b : Rat) (n m : Nat), Sz n a ∧ Sz m b ∧ n + m ≤ 100000000 ∧ ds = [encR a, encR b] ∧ r = if b = 0 then .str "NoOver" else encR (a / b)
theorem ok__law_over_told {P : Program} {w : World} {K : PySem.W.Frag} {T : Tb} {mg : Str → Option Value} {base : Heap} {f : Addr} {fd : FuncData} {dvs : List V} (F : FnP K "_law_over_told" s__law_over_told dvs f fd) (Z : Blt mg) (Er : ErrT K mg erL)
    (c_over : CalX P w K mg base 43 "over" ["one", "other"] [] (spE K T RoverX)) :
    FnOk P w K mg base CX0 44 f fd ["_law_this", "_law_that"] (spR K T Rover_told) := by
  refine fnR F sc__law_over_told (fun ds r h => ?_) (fun cdv A outer s H E hr => ?_)
  · obtain ⟨a, b, n, m, ha, hb, hnm, rfl, rfl⟩ := h
    rfl
  · have nd := sc__law_over_told.nd
    refine ⟨_, (pss_cons (ps_set (i := 2) nd rfl (Or.inl rfl) pe_non)
      (pss_cons (ps_try_as (i := 3) rfl rfl nd rfl rfl ⟨rfl, by decide, Or.inl (erf_NoOver Er).g⟩ takes0 (fun W pn xe tk po => (pss_one (ps_set (i := 2) nd rfl (Or.inl rfl) (pe_callX c_over tk hr rfl (pa_cons (pv 0) (pa_cons (pv 1) pa_nil)))))) (fun a oe cls d pn hz hf => (pss_one (ps_set (i := 2) nd rfl (Or.inl rfl) (pe_ifExp (PW.pt (pw_and (pt_val (pe_callB (call_isX K hz hf) (by rfl) Z.isinstance (by decide +kernel) (pa_cons (pv 3) (pa_cons (pe_bltn (v := .ty "ZeroDivisionError") (u := .type "ZeroDivisionError") (by rfl) Z.ZeroDivisionError (by decide +kernel) rfl) pa_nil)))) (pw_and1 (pt_not (pt_val (pe_callB (call_isX K hz hf) (by rfl) Z.isinstance (by decide +kernel) (pa_cons (pv 3) (pa_cons (pe_bltn (v := .ty "ValueError") (u := .type "ValueError") (by rfl) Z.ValueError (by decide +kernel) rfl) pa_nil)))))))) pe_str pe_str)))))
      (pss_one (ps_ret (pv 2))))), ?_⟩
    wtm_at "cx"
    rintro ds r ⟨a, b, n, m, ha, hb, hnm, rfl, rfl⟩ H0 C D hrt hnx
    show Tri K T H0 _ C [.dat (encR a), .dat (encR b), .no, .no] _ D
    wtm_at "asg"
    wtm_at "try"
    by_cases h0 : b = 0
    · rw [if_pos h0] at hrt
      have hR : RoverX [encR a, encR b] (.ex "NoOver") := ⟨a, b, n, m, ha, hb, hnm, rfl, by rw [if_pos h0]⟩
      refine s_asgR (er_callE (ds := [encR a, encR b]) (es := []) (by wtm_at "ea") (fun _ => .nil) hR) (esc_as (exm_NoOver_NoOver Er) fun x => ?_)
      show Tri K T H0 _ C [.dat (encR a), .dat (encR b), .dat .none, .raw (.ref x)] _ _
      have i1 : Ev K T _ [.dat (encR a), .dat (encR b), .dat .none, .raw (.ref x)] _ := ev_isX (i := 3) (c := .ty "ZeroDivisionError") rfl (erf_NoOver Er).x (fun u r => r) (kit_NoOver_ZeroDivisionError Er)
      have i2 : Ev K T _ [.dat (encR a), .dat (encR b), .dat .none, .raw (.ref x)] _ := ev_isX (i := 3) (c := .ty "ValueError") rfl (erf_NoOver Er).x (fun u r => r) (kit_NoOver_ValueError Er)
      refine s_asg (ev_is (ev_if (et_and (et_B i1) fun _ => et_not (et_B i2)) (fun _ => ev_str) (fun _ => ev_str)) rfl) ?_
      wtm_at "nf"
      refine s_gone (s_to ?_)
      exact s_ret (by wtm_at "ev") hrt
    · rw [if_neg h0] at hrt
      have hR : RoverX [encR a, encR b] (.ok (encR (a / b))) := ⟨a, b, n, m, ha, hb, hnm, rfl, by rw [if_neg h0]⟩
      refine s_asg (ev_callE (ds := [encR a, encR b]) (es := []) (by wtm_at "ea") (fun _ => .nil) hR) (s_to ?_)
      wtm_at "nf"
      exact s_ret (by wtm_at "ev") hrt
/-! ### the law -/
abbrev s_law : Stmt := top 21
abbrev n_law : List Str := ["_law_script", "_law_numbers_here", "_law_k", "_law_d", "_law_this", "_law_that", "_law_due"]
theorem sc_law : FnScope ["_law_script", "_law_numbers_here", "_law_k", "_law_d", "_law_this", "_law_that", "_law_due"] ["_law_script"] (defScope s_law) := ⟨rfl, rfl, rfl, by decide +kernel, rfl, by decide +kernel, by decide +kernel⟩
theorem pl_encR {n : Nat} (q : Rat) : Pl (n + 1) (encR q) := .tuple (by simp) fun d hd => by
  simp only [List.mem_cons, List.mem_nil_iff, or_false] at hd
  rcases hd with rfl | rfl <;> exact .int _
theorem enc_neg (b : Rat) : PyData.tuple [.int (0 - b.num), .int (b.den : Int)] = encR (-b) := by
  unfold encR
  rw [Rat.neg_num, Rat.neg_den, Int.zero_sub]
theorem ord_self (a : Rat) : ordR a a = 0 := by
  unfold ordR
  rw [if_neg (Rat.lt_irrefl), if_neg (Rat.lt_irrefl)]
theorem ok_law {P : Program} {w : World} {K : PySem.W.Frag} {T : Tb} {mg : Str → Option Value} {base : Heap} {f : Addr} {fd : FuncData} {dvs : List V} (F : FnP K "law" s_law dvs f fd) (Z : Blt mg)
    (c__law_numbers : Cal P w K mg base 41 "_law_numbers" ["_law_script", "_law_many"] [] (spA K T Rnumbers))
    (c__law_any_part : Cal P w K mg base 42 "_law_any_part" ["_law_d"] [] (spR K T Rany_part))
    (c__law_plus : Cal P w K mg base 42 "_law_plus" ["_law_this", "_law_that"] [] (spR K T Rplus))
    (c__law_times : Cal P w K mg base 42 "_law_times" ["_law_this", "_law_that"] [] (spR K T Rtimes))
    (c__law_same : Cal P w K mg base 50 "_law_same" ["_law_found", "_law_due"] [] (spR K T Rsame8))
    (c__law_part : Cal P w K mg base 41 "_law_part" ["_law_up", "_law_down"] [] (spR K T Rpart))
    (c__law_side : Cal P w K mg base 41 "_law_side" ["_law_this", "_law_that"] [] (spR K T Rorder))
    (c__law_over_told : Cal P w K mg base 44 "_law_over_told" ["_law_this", "_law_that"] [] (spR K T Rover_told))
    (c_plus : Cal P w K mg base 43 "plus" ["one", "other"] [] (spR K T Rplus))
    (c_less : Cal P w K mg base 43 "less" ["one", "other"] [] (spR K T Rless))
    (c_times : Cal P w K mg base 43 "times" ["one", "other"] [] (spR K T Rtimes))
    (c_order : Cal P w K mg base 41 "order" ["one", "other"] [] (spR K T Rorder)) :
    FnOk P w K mg base CX0 51 f fd ["_law_script"] (spA K T Rlaw) := by
  refine fnA F sc_law (fun ds r h => ?_) (fun cdv A outer s H E hr => ?_)
  · obtain ⟨ns, hns, rfl, rfl⟩ := h
    rfl
  · have nd := sc_law.nd
    refine ⟨_, (pss_cons (ps_set (i := 1) nd rfl (Or.inl rfl) (pe_callC c__law_numbers hr rfl (pa_cons (pv 0) (pa_cons pe_int pa_nil))))
      (pss_cons (ps_for PassesOwn.never rfl (pi_range1 (by rfl) Z.range (pa_cons pe_int pa_nil)) (pg_name (i := 2) nd rfl (Or.inl rfl)) (pss_cons (ps_set (i := 3) nd rfl (Or.inl rfl) (pe_slice (sl_anyK K) (pv 1) (po_some (pe_op op_mulA pe_int (pv 2))) (po_some (pe_op (op_addK K) (pe_op op_mulA pe_int (pv 2)) pe_int))))
      (pss_cons (ps_par (i := 4) (j := 5) (by rfl) nd rfl rfl (by decide) rfl rfl (pa_cons (pe_callC c__law_any_part hr rfl (pa_cons (pv 3) pa_nil)) (pa_cons (pe_callC c__law_any_part hr rfl (pa_cons (pe_slice (sl_anyK K) (pv 3) (po_some pe_int) po_none) pa_nil)) pa_nil)) (by rfl))
      (pss_cons (ps_set (i := 6) nd rfl (Or.inl rfl) (pe_lst (pa_cons (pe_callC c__law_plus hr rfl (pa_cons (pv 4) (pa_cons (pv 5) pa_nil))) (pa_cons (pe_callC c__law_plus hr rfl (pa_cons (pv 4) (pa_cons (pe_tup (pa_cons (pe_op op_sub pe_int (pe_ix (ix_seqK K) (pv 5) pe_int (fun _ _ => rfl))) (pa_cons (pe_ix (ix_seqK K) (pv 5) pe_int (fun _ _ => rfl)) pa_nil))) pa_nil))) (pa_cons (pe_callC c__law_times hr rfl (pa_cons (pv 4) (pa_cons (pv 5) pa_nil))) pa_nil)))))
      (pss_cons (ps_if (pt_not (pt_val (pe_callC c__law_same hr rfl (pa_cons (pe_lst (pa_cons (pe_callC c_plus hr rfl (pa_cons (pv 4) (pa_cons (pv 5) pa_nil))) (pa_cons (pe_callC c_less hr rfl (pa_cons (pv 4) (pa_cons (pv 5) pa_nil))) (pa_cons (pe_callC c_times hr rfl (pa_cons (pv 4) (pa_cons (pv 5) pa_nil))) pa_nil)))) (pa_cons (pv 6) pa_nil))))) (pss_one (ps_ret pe_bl)) pss_nil)
      (pss_cons (ps_set (i := 6) nd rfl (Or.inl rfl) (pe_ifExp (pt_cmpR (op_eqK K hr.units) (pe_ix (ix_seqK K) (pv 5) pe_int (fun _ _ => rfl)) pe_int (nomark _)) pe_str (pe_callC c__law_part hr rfl (pa_cons (pe_op op_mulA (pe_ix (ix_seqK K) (pv 4) pe_int (fun _ _ => rfl)) (pe_ix (ix_seqK K) (pv 5) pe_int (fun _ _ => rfl))) (pa_cons (pe_op op_mulA (pe_ix (ix_seqK K) (pv 4) pe_int (fun _ _ => rfl)) (pe_ix (ix_seqK K) (pv 5) pe_int (fun _ _ => rfl))) pa_nil)))))
      (pss_cons (ps_if (pt_not (pt_val (pe_callC c__law_same hr rfl (pa_cons (pe_callC c__law_over_told hr rfl (pa_cons (pv 4) (pa_cons (pv 5) pa_nil))) (pa_cons (pv 6) pa_nil))))) (pss_one (ps_ret pe_bl)) pss_nil)
      (pss_cons (ps_set (i := 6) nd rfl (Or.inl rfl) (pe_lst (pa_cons (pe_callC c__law_side hr rfl (pa_cons (pv 4) (pa_cons (pv 5) pa_nil))) (pa_cons (pe_callC c__law_side hr rfl (pa_cons (pv 5) (pa_cons (pv 4) pa_nil))) (pa_cons pe_int pa_nil)))))
      (pss_one (ps_if (pt_not (pt_val (pe_callC c__law_same hr rfl (pa_cons (pe_lst (pa_cons (pe_callC c_order hr rfl (pa_cons (pv 4) (pa_cons (pv 5) pa_nil))) (pa_cons (pe_callC c_order hr rfl (pa_cons (pv 5) (pa_cons (pv 4) pa_nil))) (pa_cons (pe_callC c_order hr rfl (pa_cons (pv 4) (pa_cons (pv 4) pa_nil))) pa_nil)))) (pa_cons (pv 6) pa_nil))))) (pss_one (ps_ret pe_bl)) pss_nil))))))))))
      (pss_one (ps_ret pe_bl)))), ?_⟩
    wtm_at "cx"
    rintro ss Po ⟨ns, hns, rfl, rfl⟩ H0 C D hrt
    have hrt := hrt _ rfl
    show Tri K T H0 _ C [.scr (ns.map .int), .no, .no, .no, .no, .no, .no] _ D
    refine q_num (many := 60) rfl hns (by decide) fun xs hx hf => ?_
    wtm_at "nf"
    refine q_for (it_range1 (by wtm_at "ea") (by decide) (by decide)) (fun _ => [.scr (ns.map .int), .dat (.list (xs.map .int)), .no, .no, .no, .no, .no]) (by wtm_at "le") ?_ ?_
    · intro B' i d hB hd
      obtain ⟨hi, rfl⟩ := rgD_get hd
      have hi : i < 6 := hi
      wtm_at "nf"
      have m1 : IntMulOk 9 (0 + (i : Int)) := mulOkL (by decide)
      have hs := cut_betweenI xs (i := 9 * (0 + (i : Int))) (j := 9 * (0 + (i : Int)) + 9) (by omega) (by omega) (by omega)
      refine q_asg (ev_is (by wtm_at "ev") (congrArg PyData.list hs)) ?_
      wtm_at "nf"
      have ol : ((xs.drop (9 * (0 + (i : Int))).toNat).take (9 * (0 + (i : Int)) + 9 - 9 * (0 + (i : Int))).toNat).length = 9 := by
        rw [List.length_take, List.length_drop]; omega
      have of : Few ((xs.drop (9 * (0 + (i : Int))).toNat).take (9 * (0 + (i : Int)) + 9 - 9 * (0 + (i : Int))).toNat) := (hf.drop _).take _
      generalize (xs.drop (9 * (0 + (i : Int))).toNat).take (9 * (0 + (i : Int)) + 9 - 9 * (0 + (i : Int))).toNat = d at ol of
      have h1 : Rany_part [.list (d.map .int)] (encR (anyP d)) := ⟨d, by omega, of, rfl, rfl⟩
      have h2 : Rany_part [.list (cutD (d.map .int) (some 4) none)] (encR (anyP (d.drop 4))) := ⟨d.drop 4, by rw [List.length_drop]; omega, of.drop 4, by rw [cut_fromI d (by decide) (by omega)]; rfl, rfl⟩
      wtm_at "par"
      have sa := anyP_sz of
      have sb := anyP_sz (of.drop 4)
      generalize anyP d = a at sa h1
      generalize anyP (d.drop 4) = b at sb h2
      have sn : Sz 40 (-b) := by
        have := sb
        unfold Sz at this ⊢
        rw [Rat.neg_num, Rat.neg_den, Int.natAbs_neg]
        exact this
      have p1 : Rplus [encR a, encR b] (encR (a + b)) := ⟨a, b, 40, 40, sa, sb, by decide, rfl, rfl⟩
      have p2 : Rplus [encR a, .tuple [.int (0 - b.num), .int (b.den : Int)]] (encR (a - b)) := ⟨a, -b, 40, 40, sa, sn, by decide, by rw [enc_neg], by rw [Rat.sub_eq_add_neg]⟩
      have p3 : Rtimes [encR a, encR b] (encR (a * b)) := ⟨a, b, 40, 40, sa, sb, by decide, rfl, rfl⟩
      have p4 : Rless [encR a, encR b] (encR (a - b)) := ⟨a, b, 40, 40, sa, sb, by decide, rfl, rfl⟩
      have p5 : Rover_told [encR a, encR b] (if b = 0 then .str "NoOver" else encR (a / b)) := ⟨a, b, 40, 40, sa, sb, by decide, rfl, rfl⟩
      have o1 : Rorder [encR a, encR b] (.int (ordR a b)) := ⟨a, b, 40, 40, sa, sb, by decide, rfl, rfl⟩
      have o2 : Rorder [encR b, encR a] (.int (ordR b a)) := ⟨b, a, 40, 40, sb, sa, by decide, rfl, rfl⟩
      have o3 : Rorder [encR a, encR a] (.int 0) := ⟨a, a, 40, 40, sa, sa, by decide, rfl, by rw [ord_self]⟩
      wtm_at "asg"
      have s1 : Rsame8 [.list [encR (a + b), encR (a - b), encR (a * b)], .list [encR (a + b), encR (a - b), encR (a * b)]] (.bool true) := ⟨_, .list (n := 7) (by simp) (fun x hx => by
        simp only [List.mem_cons, List.mem_nil_iff, or_false] at hx
        rcases hx with rfl | rfl | rfl <;> exact pl_encR _), by decide, rfl, rfl⟩
      refine q_ifF (et_is (by wtm_at "et") (by rfl)) ?_
      have m2 : IntMulOk a.num (b.den : Int) := mulOk sa.num sb.den (by decide)
      have m3 : IntMulOk (a.den : Int) b.num := mulOk sa.den sb.num (by decide)
      have hdue : Ev K T (tIf (tTest (tOp (rEqD K) (tOp (rIx K) (tVar 5) (tC (.int 0))) (tC (.int 0)))) (tC (.str "NoOver")) (tCall (spR K T Rpart) [] E0 (tCons (tOp rMulA (tOp (rIx K) (tVar 4) (tC (.int 0))) (tOp (rIx K) (tVar 5) (tC (.int 1)))) (tCons (tOp rMulA (tOp (rIx K) (tVar 4) (tC (.int 1))) (tOp (rIx K) (tVar 5) (tC (.int 0)))) tNil))))
          [.scr (ns.map .int), .dat (.list (xs.map .int)), .dat (.int (0 + (i : Int))), .dat (.list (d.map .int)), .dat (encR a), .dat (encR b), .dat (.list [encR (a + b), encR (a - b), encR (a * b)])] (if b = 0 then .str "NoOver" else encR (a / b)) := by
        by_cases h0 : b = 0
        · rw [if_pos h0]
          refine ev_is (ev_if (b := true) (d2 := .none) (et_is (by wtm_at "et") ?_) (fun _ => ev_str) (fun z => by cases z)) (by rfl)
          rw [eqv_int, h0]
          rfl
        · rw [if_neg h0]
          have hc : Rpart [.int (a.num * (b.den : Int)), .int ((a.den : Int) * b.num)] (encR (a / b)) := ⟨_, _, Int.mul_ne_zero (den_ne a) (num_ne h0), rfl, by rw [div_divInt]⟩
          refine ev_is (ev_if (b := false) (d1 := .none) (et_is (by wtm_at "et") ?_) (fun z => by cases z) (fun _ => by wtm_at "ev")) (by rfl)
          rw [eqv_int]
          exact decide_eq_false (num_ne h0)
      refine q_asg hdue ?_
      wtm_at "nf"
      have s2 : Rsame8 [if b = 0 then .str "NoOver" else encR (a / b), if b = 0 then .str "NoOver" else encR (a / b)] (.bool true) := ⟨_, by
        split
        · exact .str (by decide +kernel)
        · exact (pl_encR (n := 7) _), by decide, rfl, rfl⟩
      refine q_ifF (et_is (by wtm_at "et") (by rfl)) ?_
      wtm_at "asg"
      have s3 : Rsame8 [.list [.int (ordR a b), .int (ordR b a), .int 0], .list [.int (ordR a b), .int (ordR b a), .int 0]] (.bool true) := ⟨_, .list (n := 7) (by simp) (fun x hx => by
        simp only [List.mem_cons, List.mem_nil_iff, or_false] at hx
        rcases hx with rfl | rfl | rfl <;> exact .int _), by decide, rfl, rfl⟩
      refine s_ifF (et_is (by wtm_at "et") (by rfl)) ?_
      refine s_end rfl ?_
      wtm_at "le"
    · exact s_ret (by wtm_at "ev") hrt
/-! ### the end -/
def fnL : List He.DefD := [dd "common" s_common [], dd "part" s_part [.int 1], dd "plus" s_plus [], dd "less" s_less [], dd "times" s_times [], dd "over" s_over [], dd "order" s_order [], dd "_law_numbers" s__law_numbers [], dd "_law_part" s__law_part [], dd "_law_any_part" s__law_any_part [], dd "_law_plus" s__law_plus [], dd "_law_times" s__law_times [], dd "_law_same" s__law_same [], dd "_law_side" s__law_side [], dd "_law_over_told" s__law_over_told [], dd "law" s_law []]
def ckL (K : PySem.W.Frag) : Bool := seerB K && erB erL K
def faL : List He.Fa := [.glo "common", .glo "part", .glo "plus", .glo "less", .glo "times", .glo "over", .glo "order", .glo "_law_numbers", .glo "_law_part", .glo "_law_any_part", .glo "_law_plus", .glo "_law_times", .glo "_law_same", .glo "_law_side", .glo "_law_over_told", .glo "law", .free "len", .free "range", .free "abs", .free "int", .free "list", .free "tuple", .free "all", .free "any", .free "str", .free "sum", .free "max", .free "min", .free "zip", .free "enumerate", .free "isinstance", .free "sorted", .free "reversed", .free "bool", .free "ValueError", .free "ZeroDivisionError"]
abbrev rowL : PySem.W.OpenRow := PySem.W.OpenLaw.row PySem.Challenge.rw_lullworks_k02_sums_and_products_of_parts
abbrev hkL : PySem.W.Hook := hookL 4 faL fnL ckL
def obL (s : PySem.W.SharedT) : AlL := obsLG 4 faL fnL ckL (HandSHeadRun.getT s)
theorem obL_eq (s : PySem.W.SharedT) : obL s = hkL.obs s.abs := obsLG_eq (HandSHeadRun.getT_eq s)
def looseL : List Str := ["LullError", "BadPart", "NoOver", "common", "part", "plus", "less", "times", "over", "order", "_law_numbers", "_law_part", "_law_any_part", "_law_plus", "_law_times", "_law_same", "_law_side", "_law_over_told"]
theorem runL (w : World) : HandSHeadRun.RunEq rowL (PySem.W.view rowL.prog [21]) hkL obL 4000 looseL w := by
  intro os
  kernel_rfl
theorem factsL {P : Program} {w : World} {K : PySem.W.Frag} {h : Heap} {mg : Str → Option Value} {f : Addr} (X : K.In h) (G : h.Ns mainGlobals mg) (hfa : mg ("law" : Str) = some (.ref f)) (c : He.SaysD faL fnL K) (hP : P.given.tree = none) (ck : ckL K = true) :
    ∃ fd : FuncData, (∀ (s : Shared) (v : Value), BindsTo s fd ⟨[v], []⟩ [("_law_script", v)]) ∧ ∀ base : Heap, K.In base → base.Ns mainGlobals mg → FnOk P w K mg base CX0 51 f fd ["_law_script"] (spA K [] Rlaw) := by
  obtain ⟨fd_common, F_common⟩ := c.def_ 0 (d := dd "common" s_common []) rfl
  have m_common := He.glo_ok X G (c.fact 0 (f := .glo "common") rfl)
  replace F_common : FnP K "common" s_common [] (He.ga K "common") fd_common := F_common
  obtain ⟨fd_part, F_part⟩ := c.def_ 1 (d := dd "part" s_part [.int 1]) rfl
  have m_part := He.glo_ok X G (c.fact 1 (f := .glo "part") rfl)
  replace F_part : FnP K "part" s_part [V.int 1] (He.ga K "part") fd_part := F_part
  obtain ⟨fd_plus, F_plus⟩ := c.def_ 2 (d := dd "plus" s_plus []) rfl
  have m_plus := He.glo_ok X G (c.fact 2 (f := .glo "plus") rfl)
  replace F_plus : FnP K "plus" s_plus [] (He.ga K "plus") fd_plus := F_plus
  obtain ⟨fd_less, F_less⟩ := c.def_ 3 (d := dd "less" s_less []) rfl
  have m_less := He.glo_ok X G (c.fact 3 (f := .glo "less") rfl)
  replace F_less : FnP K "less" s_less [] (He.ga K "less") fd_less := F_less
  obtain ⟨fd_times, F_times⟩ := c.def_ 4 (d := dd "times" s_times []) rfl
  have m_times := He.glo_ok X G (c.fact 4 (f := .glo "times") rfl)
  replace F_times : FnP K "times" s_times [] (He.ga K "times") fd_times := F_times
  obtain ⟨fd_over, F_over⟩ := c.def_ 5 (d := dd "over" s_over []) rfl
  have m_over := He.glo_ok X G (c.fact 5 (f := .glo "over") rfl)
  replace F_over : FnP K "over" s_over [] (He.ga K "over") fd_over := F_over
  obtain ⟨fd_order, F_order⟩ := c.def_ 6 (d := dd "order" s_order []) rfl
  have m_order := He.glo_ok X G (c.fact 6 (f := .glo "order") rfl)
  replace F_order : FnP K "order" s_order [] (He.ga K "order") fd_order := F_order
  obtain ⟨fd__law_numbers, F__law_numbers⟩ := c.def_ 7 (d := dd "_law_numbers" s__law_numbers []) rfl
  have m__law_numbers := He.glo_ok X G (c.fact 7 (f := .glo "_law_numbers") rfl)
  replace F__law_numbers : FnP K "_law_numbers" s__law_numbers [] (He.ga K "_law_numbers") fd__law_numbers := F__law_numbers
  obtain ⟨fd__law_part, F__law_part⟩ := c.def_ 8 (d := dd "_law_part" s__law_part []) rfl
  have m__law_part := He.glo_ok X G (c.fact 8 (f := .glo "_law_part") rfl)
  replace F__law_part : FnP K "_law_part" s__law_part [] (He.ga K "_law_part") fd__law_part := F__law_part
  obtain ⟨fd__law_any_part, F__law_any_part⟩ := c.def_ 9 (d := dd "_law_any_part" s__law_any_part []) rfl
  have m__law_any_part := He.glo_ok X G (c.fact 9 (f := .glo "_law_any_part") rfl)
  replace F__law_any_part : FnP K "_law_any_part" s__law_any_part [] (He.ga K "_law_any_part") fd__law_any_part := F__law_any_part
  obtain ⟨fd__law_plus, F__law_plus⟩ := c.def_ 10 (d := dd "_law_plus" s__law_plus []) rfl
  have m__law_plus := He.glo_ok X G (c.fact 10 (f := .glo "_law_plus") rfl)
  replace F__law_plus : FnP K "_law_plus" s__law_plus [] (He.ga K "_law_plus") fd__law_plus := F__law_plus
  obtain ⟨fd__law_times, F__law_times⟩ := c.def_ 11 (d := dd "_law_times" s__law_times []) rfl
  have m__law_times := He.glo_ok X G (c.fact 11 (f := .glo "_law_times") rfl)
  replace F__law_times : FnP K "_law_times" s__law_times [] (He.ga K "_law_times") fd__law_times := F__law_times
  obtain ⟨fd__law_same, F__law_same⟩ := c.def_ 12 (d := dd "_law_same" s__law_same []) rfl
  have m__law_same := He.glo_ok X G (c.fact 12 (f := .glo "_law_same") rfl)
  replace F__law_same : FnP K "_law_same" s__law_same [] (He.ga K "_law_same") fd__law_same := F__law_same
  obtain ⟨fd__law_side, F__law_side⟩ := c.def_ 13 (d := dd "_law_side" s__law_side []) rfl
  have m__law_side := He.glo_ok X G (c.fact 13 (f := .glo "_law_side") rfl)
  replace F__law_side : FnP K "_law_side" s__law_side [] (He.ga K "_law_side") fd__law_side := F__law_side
  obtain ⟨fd__law_over_told, F__law_over_told⟩ := c.def_ 14 (d := dd "_law_over_told" s__law_over_told []) rfl
  have m__law_over_told := He.glo_ok X G (c.fact 14 (f := .glo "_law_over_told") rfl)
  replace F__law_over_told : FnP K "_law_over_told" s__law_over_told [] (He.ga K "_law_over_told") fd__law_over_told := F__law_over_told
  obtain ⟨fd_law, F_law⟩ := c.def_ 15 (d := dd "law" s_law []) rfl
  have m_law := He.glo_ok X G (c.fact 15 (f := .glo "law") rfl)
  replace F_law : FnP K "law" s_law [] (He.ga K "law") fd_law := F_law
  have Z : Blt mg := ⟨He.free_ok X G (c.fact 16 (f := .free "len") rfl), He.free_ok X G (c.fact 17 (f := .free "range") rfl), He.free_ok X G (c.fact 18 (f := .free "abs") rfl), He.free_ok X G (c.fact 19 (f := .free "int") rfl), He.free_ok X G (c.fact 20 (f := .free "list") rfl), He.free_ok X G (c.fact 21 (f := .free "tuple") rfl), He.free_ok X G (c.fact 22 (f := .free "all") rfl), He.free_ok X G (c.fact 23 (f := .free "any") rfl), He.free_ok X G (c.fact 24 (f := .free "str") rfl), He.free_ok X G (c.fact 25 (f := .free "sum") rfl), He.free_ok X G (c.fact 26 (f := .free "max") rfl), He.free_ok X G (c.fact 27 (f := .free "min") rfl), He.free_ok X G (c.fact 28 (f := .free "zip") rfl), He.free_ok X G (c.fact 29 (f := .free "enumerate") rfl), He.free_ok X G (c.fact 30 (f := .free "isinstance") rfl), He.free_ok X G (c.fact 31 (f := .free "sorted") rfl), He.free_ok X G (c.fact 32 (f := .free "reversed") rfl), He.free_ok X G (c.fact 33 (f := .free "bool") rfl), He.free_ok X G (c.fact 34 (f := .free "ValueError") rfl), He.free_ok X G (c.fact 35 (f := .free "ZeroDivisionError") rfl)⟩
  have ckk : ckL K = true := ck
  unfold ckL at ckk
  obtain ⟨ckk, ck_1⟩ := He.ba ckk
  have Se : Seer P K := ⟨hP, ckk⟩
  have Er : ErrT K mg erL := erB_ok X G ck_1
  cases hfa.symm.trans m_law
  refine ⟨fd_law, fun s v => FunD.bindsA (ps := ["_law_script"]) F_law (fun _ _ _ _ _ _ us hl => match us, hl with | [_], _ => rfl) s [v] rfl, fun base _ _ => ?_⟩
  have G_common : FnOk P w K mg base CX0 41 _ fd_common ["one", "other"] (spR K [] Rcommon) := ok_common F_common Z
  have c_common := cal_mk (x := "common") G_common m_common F_common.kp (F_common.bindsN (ps := ["one", "other"]) (fun _ _ _ _ _ _ us hl => match us, hl with | [_, _], _ => rfl))
  have G_part : FnOk P w K mg base CX0 42 _ fd_part ["upper", "lower"] (spR K [] Rpart) := ok_part F_part Z Se c_common
  have c_part : Cal P w K mg base 42 "part" ["upper", "lower"] [] (spR K [] Rpart) := cal_mkD G_part m_part F_part.kp (FunD.binds1 F_part 2 1 (by decide) (by decide) (fun _ _ _ _ _ _ _ us its hu hi => match us, its, hu, hi with | [_, _], [_], _, _ => ⟨_, rfl, rfl⟩))
  have c_part_1 : Cal P w K mg base 42 "part" ["upper", "lower"] [V.int 1] (spR K [] Rpart) := cal_mkD G_part m_part F_part.kp (FunD.binds1 F_part 1 0 (by decide) (by decide) (fun _ _ _ _ _ _ _ us its hu hi => match us, its, hu, hi with | [_], [_], _, _ => ⟨_, rfl, rfl⟩))
  have G_plus : FnOk P w K mg base CX0 43 _ fd_plus ["one", "other"] (spR K [] Rplus) := ok_plus F_plus Z c_part
  have c_plus := cal_mk (x := "plus") G_plus m_plus F_plus.kp (F_plus.bindsN (ps := ["one", "other"]) (fun _ _ _ _ _ _ us hl => match us, hl with | [_, _], _ => rfl))
  have G_less : FnOk P w K mg base CX0 43 _ fd_less ["one", "other"] (spR K [] Rless) := ok_less F_less Z c_part
  have c_less := cal_mk (x := "less") G_less m_less F_less.kp (F_less.bindsN (ps := ["one", "other"]) (fun _ _ _ _ _ _ us hl => match us, hl with | [_, _], _ => rfl))
  have G_times : FnOk P w K mg base CX0 43 _ fd_times ["one", "other"] (spR K [] Rtimes) := ok_times F_times Z c_part
  have c_times := cal_mk (x := "times") G_times m_times F_times.kp (F_times.bindsN (ps := ["one", "other"]) (fun _ _ _ _ _ _ us hl => match us, hl with | [_, _], _ => rfl))
  have G_over : FnOk P w K mg base (L2.CX P w) 43 _ fd_over ["one", "other"] (spE K [] RoverX) := ok_over F_over Z Er c_part
  have c_over := calX_mk (x := "over") G_over m_over F_over.kp (F_over.bindsN (ps := ["one", "other"]) (fun _ _ _ _ _ _ us hl => match us, hl with | [_, _], _ => rfl))
  have G_order : FnOk P w K mg base CX0 41 _ fd_order ["one", "other"] (spR K [] Rorder) := ok_order F_order Z
  have c_order := cal_mk (x := "order") G_order m_order F_order.kp (F_order.bindsN (ps := ["one", "other"]) (fun _ _ _ _ _ _ us hl => match us, hl with | [_, _], _ => rfl))
  have G__law_numbers : FnOk P w K mg base CX0 41 _ fd__law_numbers ["_law_script", "_law_many"] (spA K [] Rnumbers) := ok__law_numbers F__law_numbers Z
  have c__law_numbers := cal_mk (x := "_law_numbers") G__law_numbers m__law_numbers F__law_numbers.kp (F__law_numbers.bindsN (ps := ["_law_script", "_law_many"]) (fun _ _ _ _ _ _ us hl => match us, hl with | [_, _], _ => rfl))
  have G__law_part : FnOk P w K mg base CX0 41 _ fd__law_part ["_law_up", "_law_down"] (spR K [] Rpart) := ok__law_part F__law_part Z Se
  have c__law_part := cal_mk (x := "_law_part") G__law_part m__law_part F__law_part.kp (F__law_part.bindsN (ps := ["_law_up", "_law_down"]) (fun _ _ _ _ _ _ us hl => match us, hl with | [_, _], _ => rfl))
  have G__law_any_part : FnOk P w K mg base CX0 42 _ fd__law_any_part ["_law_d"] (spR K [] Rany_part) := ok__law_any_part F__law_any_part Z c__law_part
  have c__law_any_part := cal_mk (x := "_law_any_part") G__law_any_part m__law_any_part F__law_any_part.kp (F__law_any_part.bindsN (ps := ["_law_d"]) (fun _ _ _ _ _ _ us hl => match us, hl with | [_], _ => rfl))
  have G__law_plus : FnOk P w K mg base CX0 42 _ fd__law_plus ["_law_this", "_law_that"] (spR K [] Rplus) := ok__law_plus F__law_plus Z c__law_part
  have c__law_plus := cal_mk (x := "_law_plus") G__law_plus m__law_plus F__law_plus.kp (F__law_plus.bindsN (ps := ["_law_this", "_law_that"]) (fun _ _ _ _ _ _ us hl => match us, hl with | [_, _], _ => rfl))
  have G__law_times : FnOk P w K mg base CX0 42 _ fd__law_times ["_law_this", "_law_that"] (spR K [] Rtimes) := ok__law_times F__law_times Z c__law_part
  have c__law_times := cal_mk (x := "_law_times") G__law_times m__law_times F__law_times.kp (F__law_times.bindsN (ps := ["_law_this", "_law_that"]) (fun _ _ _ _ _ _ us hl => match us, hl with | [_, _], _ => rfl))
  have G__law_same : FnOk P w K mg base CX0 50 _ fd__law_same ["_law_found", "_law_due"] (spR K [] Rsame8) := ok__law_same F__law_same Z (fun k R G => cal_mk (x := "_law_same") G m__law_same F__law_same.kp (F__law_same.bindsN (ps := ["_law_found", "_law_due"]) (fun _ _ _ _ _ _ us hl => match us, hl with | [_, _], _ => rfl)))
  have c__law_same := cal_mk (x := "_law_same") G__law_same m__law_same F__law_same.kp (F__law_same.bindsN (ps := ["_law_found", "_law_due"]) (fun _ _ _ _ _ _ us hl => match us, hl with | [_, _], _ => rfl))
  have G__law_side : FnOk P w K mg base CX0 41 _ fd__law_side ["_law_this", "_law_that"] (spR K [] Rorder) := ok__law_side F__law_side Z
  have c__law_side := cal_mk (x := "_law_side") G__law_side m__law_side F__law_side.kp (F__law_side.bindsN (ps := ["_law_this", "_law_that"]) (fun _ _ _ _ _ _ us hl => match us, hl with | [_, _], _ => rfl))
  have G__law_over_told : FnOk P w K mg base CX0 44 _ fd__law_over_told ["_law_this", "_law_that"] (spR K [] Rover_told) := ok__law_over_told F__law_over_told Z Er c_over
  have c__law_over_told := cal_mk (x := "_law_over_told") G__law_over_told m__law_over_told F__law_over_told.kp (F__law_over_told.bindsN (ps := ["_law_this", "_law_that"]) (fun _ _ _ _ _ _ us hl => match us, hl with | [_, _], _ => rfl))
  exact ok_law F_law Z c__law_numbers c__law_any_part c__law_plus c__law_times c__law_same c__law_part c__law_side c__law_over_told c_plus c_less c_times c_order
end Lw
open PySem PySem.W PySem.Calls PyProof.Rows
set_option maxRecDepth 100000 in
set_option maxHeartbeats 0 in
theorem PySem.Challenge.cw_lullworks_k02_sums_and_products_of_parts_holds : PySem.Challenge.rw_lullworks_k02_sums_and_products_of_parts.Holds := by
  w_on; o_law
  refine HandSHeadRun.head_any (r := OpenLaw.row PySem.Challenge.rw_lullworks_k02_sums_and_products_of_parts) (q := view (OpenLaw.row PySem.Challenge.rw_lullworks_k02_sums_and_products_of_parts).prog [21]) (H := Lw.hkL) (ob := Lw.obL) (M := 4000) (loose := Lw.looseL) (d := HandSHeadRun.topDef (OpenLaw.row PySem.Challenge.rw_lullworks_k02_sums_and_products_of_parts).prog 21) (kwd := []) Lw.obL_eq
    (by kernel_rfl) (fun s => by kernel_rfl) Lw.runL (by kernel_rfl) (by kernel_rfl) (by kernel_rfl) (by rfl) (by first | assumption | decide +kernel) (by decide +kernel) ⟨rfl, rfl, rfl, rfl, rfl, by decide +kernel⟩ ?hw ?hc
  case hw => w_witness2
  case hc =>
    refine L2.walk_ofE (l := PySem.Challenge.rw_lullworks_k02_sums_and_products_of_parts) (n := 63) (k := 51) (x := "_law_script") (CX := L2.CX0) rfl (by decide) (by kernel_rfl) ⟨rfl, by decide, by decide⟩ ?F (fun _ _ _ _ z => z)
    intro w mg fa h Y G hmg0
    obtain ⟨K, KX, c, ck⟩ := Y
    have hmg : mg ("law" : PySem.Str) = some (.ref fa) := by
      have e : (HandSHeadRun.topDef (OpenLaw.row PySem.Challenge.rw_lullworks_k02_sums_and_products_of_parts).prog 21).name = ("law" : PySem.Str) := by kernel_rfl
      rw [← e]
      exact hmg0
    obtain ⟨fd, hb, hF⟩ := Lw.factsL (P := (PySem.Challenge.rw_lullworks_k02_sums_and_products_of_parts).prog) (w := w) KX G hmg c rfl ck
    exact ⟨K, fd, Lw.spA K [] Lw.Rlaw, KX, hb, fun H a ns hl _ hS => Lw.law_wish hl hS, hF⟩
#print axioms PySem.Challenge.cw_lullworks_k02_sums_and_products_of_parts_holds
