import PyProof.Rows.All
import Wide.All
import OpenK.AllK
import Wide.FinOn
import HandS.Base
import HandS.Call
import HandS.List
import HandS.Comp
import HandS.Ends
import HandS.Dict
import HandS.Iter
import HandS.Text
import HandS.Words
import HandS.WordsList
import HandS.Lambda
import HandS.Defaults
import HandS.Wide
import HandS.TupAny
import HandS.IsInst
import HandS.NoneIn
import HandS.WordsExc
import HandS.Zip
import HandS.Hot
import HandS.HotCalls
import HandS.Zip0
import KE.GoesEnumKw
import KE.GoesMore
import HandS.HeadHook2
import PyProof.NoPylong
import PyProof.P3Eq
import HandS.Exc
import HandS.ExcOwn
import HandS.ExcIs
import HandS.CallSlots
import HandS.ExcCtx
import HandS.TryMany
import KE.KTryMore
import KE.GoesEnum
import HandS.MakeKwOnly
import KE.KStateDown
import HandS.More
import HandS.Head0
import HandS.Head1
import HandS.Head2
import HandS.HeadEnd
import HandS.HeadHook1
import HandS.HeadHook4
import HandS.EndTab
import HandS.NestedK
import HandS.TupMul
import PySem.Challenge.RW_lullworks_k06_hands_and_plans
set_option Elab.async false
set_option linter.all false
set_option maxRecDepth 100000
set_option maxHeartbeats 4000000
set_option autoImplicit false
/-! Lw, part A: data over the layer HandS: what is visible, owned lists, expressions that evaluate to data. -/
namespace Lw
open PySem L2

abbrev Tb := List (Addr × Str)

/-! ### what stays -/
def isTbl : HO → Bool
  | .tbl _ => true
  | _ => false
/-- what is no table stays -/
def Kp (H H' : Hp) : Prop := ∀ b o, H b = some o → isTbl o = false → H' b = some o
theorem Kp.refl (H : Hp) : Kp H H := fun _ _ h _ => h
theorem Kp.trans {H H1 H2 : Hp} (a : Kp H H1) (b : Kp H1 H2) : Kp H H2 := fun c o h n => b c o (a c o h n) n
/-- nothing but a table stands there -/
def Fresh (H : Hp) (p : Addr) : Prop := ∀ o, H p = some o → isTbl o = true
theorem Fresh.of {H : Hp} {p : Addr} (h : H p = none) : Fresh H p := fun o e => by rw [h] at e; cases e
theorem Fresh.back {H H' : Hp} {p : Addr} (h : Fresh H' p) (e : Kp H H') : Fresh H p := fun o q => by
  cases t : isTbl o with
  | true => rfl
  | false => exact (h o (e p o q t)).symm.trans t |>.symm
theorem Kp.sql {K : PySem.W.Frag} {H H' : Hp} {a : Addr} {xs : List V} (e : Kp H H') (h : SqL K H a xs) : SqL K H' a xs := by
  rcases h with (h | ⟨o, h⟩) | h
  · exact .inl (.inl (e _ _ h rfl))
  · exact .inl (.inr ⟨o, e _ _ h rfl⟩)
  · exact .inr h
theorem Kp.sqt {K : PySem.W.Frag} {H H' : Hp} {a : Addr} {xs : List V} (e : Kp H H') (h : SqT K H a xs) : SqT K H' a xs := by
  rcases h with (h | ⟨o, h⟩) | h
  · exact .inl (.inl (e _ _ h rfl))
  · exact .inl (.inr ⟨o, e _ _ h rfl⟩)
  · exact .inr h
/-! ### data: none, bools, ints, texts, tracked lists, tuples -/
mutual
inductive Dt (K : PySem.W.Frag) (H : Hp) : V → PyData → Prop
  | non : Dt K H .non .none
  | bl (b : Bool) : Dt K H (.bl b) (.bool b)
  | int (i : Int) : Dt K H (.int i) (.int i)
  | str (x : Str) : Dt K H (.str x) (.str x)
  | lst {a : Addr} {xs : List V} {ds : List PyData} : H a = some (.lst xs) → DtAll K H xs ds → Dt K H (.ref a) (.list ds)
  | tup {a : Addr} {xs : List V} {ds : List PyData} : SqT K H a xs → DtAll K H xs ds → Dt K H (.ref a) (.tuple ds)
inductive DtAll (K : PySem.W.Frag) (H : Hp) : List V → List PyData → Prop
  | nil : DtAll K H [] []
  | cons {v : V} {vs : List V} {d : PyData} {ds : List PyData} : Dt K H v d → DtAll K H vs ds → DtAll K H (v :: vs) (d :: ds)
end
section
variable {K : PySem.W.Frag} {H : Hp}
mutual
theorem dt_dp : ∀ (d : PyData) (v : V), Dt K H v d → Dp K H v d
  | .none, v, h => by cases h; exact .non
  | .bool b, v, h => by cases h; exact .bl b
  | .int i, v, h => by cases h; exact .int i
  | .str x, v, h => by cases h; exact .str x
  | .list ds, v, h => by
    cases h with
    | lst hs ha => exact .lst (SqL.of hs) (dt_dpAll ds _ ha)
  | .tuple ds, v, h => by
    cases h with
    | tup hs ha => exact .tup hs (dt_dpAll ds _ ha)
  | .dict kvs, v, h => by cases h
theorem dt_dpAll : ∀ (ds : List PyData) (vs : List V), DtAll K H vs ds → DpAll K H vs ds
  | [], vs, h => by cases h; exact .nil
  | d :: ds, vs, h => by
    cases h with
    | cons h1 h2 => exact .cons (dt_dp d _ h1) (dt_dpAll ds _ h2)
end
end
section
variable {K : PySem.W.Frag} {H H' : Hp}
mutual
theorem dp_kp (e : Kp H H') : ∀ (d : PyData) (v : V), Dt K H v d → Dt K H' v d
  | .none, v, h => by cases h; exact .non
  | .bool b, v, h => by cases h; exact .bl b
  | .int i, v, h => by cases h; exact .int i
  | .str x, v, h => by cases h; exact .str x
  | .list ds, v, h => by
    cases h with
    | lst hs ha => exact .lst (e _ _ hs rfl) (dpAll_kp e ds _ ha)
  | .tuple ds, v, h => by
    cases h with
    | tup hs ha => exact .tup (e.sqt hs) (dpAll_kp e ds _ ha)
  | .dict kvs, v, h => by cases h
theorem dpAll_kp (e : Kp H H') : ∀ (ds : List PyData) (vs : List V), DtAll K H vs ds → DtAll K H' vs ds
  | [], vs, h => by cases h; exact .nil
  | d :: ds, vs, h => by
    cases h with
    | cons h1 h2 => exact .cons (dp_kp e d _ h1) (dpAll_kp e ds _ h2)
end
end
theorem Dt.kp {K : PySem.W.Frag} {H H' : Hp} {v : V} {d : PyData} (h : Dt K H v d) (e : Kp H H') : Dt K H' v d := dp_kp e d v h
theorem DtAll.kp {K : PySem.W.Frag} {H H' : Hp} {vs : List V} {ds : List PyData} (h : DtAll K H vs ds) (e : Kp H H') : DtAll K H' vs ds := dpAll_kp e ds vs h
section
variable {K : PySem.W.Frag} {H : Hp}
theorem DtAll.len : ∀ {vs : List V} {ds : List PyData}, DtAll K H vs ds → vs.length = ds.length := by
  intro vs
  induction vs with
  | nil => intro ds h; cases h; rfl
  | cons v vs ih => intro ds h; cases h with | cons h1 h2 => rw [List.length_cons, List.length_cons, ih h2]
theorem DtAll.get : ∀ {vs : List V} {ds : List PyData} {i : Nat} {d : PyData}, DtAll K H vs ds → ds[i]? = some d → ∃ v, vs[i]? = some v ∧ Dt K H v d := by
  intro vs
  induction vs with
  | nil => intro ds i d h e; cases h; simp at e
  | cons v vs ih =>
    intro ds i d h e
    cases h with
    | cons h1 h2 =>
      cases i with
      | zero => exact ⟨v, rfl, by cases e; exact h1⟩
      | succ i => exact ih h2 e
theorem DtAll.getV : ∀ {vs : List V} {ds : List PyData} {i : Nat} {v : V}, DtAll K H vs ds → vs[i]? = some v → ∃ d, ds[i]? = some d ∧ Dt K H v d := by
  intro vs
  induction vs with
  | nil => intro ds i d h e; simp at e
  | cons v vs ih =>
    intro ds i d h e
    cases h with
    | cons h1 h2 =>
      cases i with
      | zero => exact ⟨_, rfl, by cases e; exact h1⟩
      | succ i =>
        obtain ⟨d', h3, h4⟩ := ih h2 e
        exact ⟨d', h3, h4⟩
theorem DtAll.app : ∀ {vs ws : List V} {ds es : List PyData}, DtAll K H vs ds → DtAll K H ws es → DtAll K H (vs ++ ws) (ds ++ es) := by
  intro vs
  induction vs with
  | nil => intro ws ds es h1 h2; cases h1; exact h2
  | cons v vs ih => intro ws ds es h1 h2; cases h1 with | cons a b => exact .cons a (ih b h2)
theorem DtAll.take : ∀ {vs : List V} {ds : List PyData} (n : Nat), DtAll K H vs ds → DtAll K H (vs.take n) (ds.take n) := by
  intro vs
  induction vs with
  | nil => intro ds n h; cases h; simp; exact .nil
  | cons v vs ih =>
    intro ds n h
    cases h with
    | cons a b =>
      cases n with
      | zero => exact .nil
      | succ n => exact .cons a (ih n b)
theorem DtAll.drop : ∀ {vs : List V} {ds : List PyData} (n : Nat), DtAll K H vs ds → DtAll K H (vs.drop n) (ds.drop n) := by
  intro vs
  induction vs with
  | nil => intro ds n h; cases h; simp; exact .nil
  | cons v vs ih =>
    intro ds n h
    cases h with
    | cons a b =>
      cases n with
      | zero => exact .cons a b
      | succ n => exact ih n b
theorem DtAll.set : ∀ {vs : List V} {ds : List PyData} {v : V} {d : PyData} (n : Nat), DtAll K H vs ds → Dt K H v d → DtAll K H (vs.set n v) (ds.set n d) := by
  intro vs
  induction vs with
  | nil => intro ds v d n h1 h2; cases h1; simp; exact .nil
  | cons v vs ih =>
    intro ds w d n h h2
    cases h with
    | cons a b =>
      cases n with
      | zero => exact .cons h2 b
      | succ n => exact .cons a (ih n b h2)
theorem DtAll.eraseIdx : ∀ {vs : List V} {ds : List PyData} (n : Nat), DtAll K H vs ds → DtAll K H (vs.eraseIdx n) (ds.eraseIdx n) := by
  intro vs
  induction vs with
  | nil => intro ds n h; cases h; simp; exact .nil
  | cons v vs ih =>
    intro ds n h
    cases h with
    | cons a b =>
      cases n with
      | zero => exact b
      | succ n => exact .cons a (ih n b)
theorem DtAll.cut {vs : List V} {ds : List PyData} (h : DtAll K H vs ds) (lo hi : Option Int) : DtAll K H (cutV vs lo hi) ((ds.drop (HT.sIx ds.length 0 lo)).take (HT.sIx ds.length ds.length hi - HT.sIx ds.length 0 lo)) := by
  unfold cutV
  rw [h.len]
  exact (h.drop _).take _
theorem DtAll.ints : ∀ {ns : List Int}, DtAll K H (ns.map V.int) (ns.map PyData.int) := by
  intro ns
  induction ns with
  | nil => exact .nil
  | cons n ns ih => exact .cons (.int n) ih
theorem DtAll.ints_inv : ∀ {ns : List Int} {vs : List V}, DtAll K H vs (ns.map PyData.int) → vs = ns.map V.int := by
  intro ns
  induction ns with
  | nil => intro vs h; cases h; rfl
  | cons n ns ih => intro vs h; cases h with | cons a b => cases a; rw [ih b]; rfl
theorem DtAll.bls_inv : ∀ {ns : List Bool} {vs : List V}, DtAll K H vs (ns.map PyData.bool) → vs = ns.map V.bl := by
  intro ns
  induction ns with
  | nil => intro vs h; cases h; rfl
  | cons n ns ih => intro vs h; cases h with | cons a b => cases a; rw [ih b]; rfl
theorem DtAll.strs_inv : ∀ {ns : List Str} {vs : List V}, DtAll K H vs (ns.map PyData.str) → vs = ns.map V.str := by
  intro ns
  induction ns with
  | nil => intro vs h; cases h; rfl
  | cons n ns ih => intro vs h; cases h with | cons a b => cases a; rw [ih b]; rfl
end

/-! ### the extension with tables -/
structure Ext (T : Tb) (H H' : Hp) : Prop where
  kp : Kp H H'
  tb : LamX.Tabs T H → LamX.Tabs T H'
theorem Ext.refl (T : Tb) (H : Hp) : Ext T H H := ⟨.refl H, id⟩
theorem Ext.trans {T : Tb} {H H1 H2 : Hp} (a : Ext T H H1) (b : Ext T H1 H2) : Ext T H H2 := ⟨a.kp.trans b.kp, fun h => b.tb (a.tb h)⟩
theorem Ext.full {T : Tb} {H H' : Hp} (e : ∀ b o, H b = some o → H' b = some o) : Ext T H H' := ⟨fun b o h _ => e b o h, fun t => t.ext e⟩
theorem Ext.new {T : Tb} {H : Hp} {p : Addr} {o : HO} (h : H p = none) : Ext T H (upd H p o) := Ext.full fun b u e => by
  rw [upd_ne (ne_of_none e h)]
  exact e
/-- what may be rewritten -/
def mutO : HO → Bool
  | .lst _ => true
  | .dK _ => true
  | _ => false
theorem mutO.nt {o : HO} (h : mutO o = true) : isTbl o = false := by cases o <;> first | rfl | cases h
/-- a list or a dict is rewritten: the tables don't see it -/
theorem tabs_mut {T : Tb} {H : Hp} {p : Addr} {o o' : HO} (h : H p = some o) (hm : mutO o = true) (t : LamX.Tabs T H) : LamX.Tabs T (upd H p o') := by
  intro q hq
  obtain ⟨ps, h1, h2, h3⟩ := t q hq
  refine ⟨ps, ?_, h2, fun pos cv hc => ?_⟩
  · rw [upd_ne (fun z => by rw [z, h] at h1; cases h1; cases hm)]
    exact h1
  · obtain ⟨c, e, hc'⟩ := h3 pos cv hc
    refine ⟨c, e, ?_⟩
    rw [upd_ne (fun z => by rw [z, h] at hc'; cases hc'; cases hm)]
    exact hc'
theorem tabs_lst {T : Tb} {H : Hp} {p : Addr} {xs ys : List V} (h : H p = some (.lst xs)) (t : LamX.Tabs T H) : LamX.Tabs T (upd H p (.lst ys)) := tabs_mut h rfl t

/-! ### hidden addresses -/
def hide (H : Hp) (S : List Addr) : Hp := fun a => if a ∈ S then none else match H a with
  | some o => if isTbl o then none else some o
  | none => none
theorem hide_some {H : Hp} {S : List Addr} {a : Addr} {o : HO} : hide H S a = some o ↔ a ∉ S ∧ H a = some o ∧ isTbl o = false := by
  unfold hide
  by_cases h : a ∈ S
  · simp [h]
  · cases e : H a with
    | none => simp [h]
    | some u =>
      cases t : isTbl u with
      | true =>
        simp only [h, if_false]
        constructor
        · intro z; simp [t] at z
        · intro z
          obtain ⟨_, z1, z2⟩ := z
          cases z1
          rw [t] at z2; cases z2
      | false =>
        simp only [h, if_false]
        constructor
        · intro z
          simp [t] at z
          subst z
          exact ⟨fun z => z, rfl, t⟩
        · intro z
          obtain ⟨_, z1, z2⟩ := z
          cases z1
          simp [t]
theorem hide_kp (H : Hp) (S : List Addr) : Kp (hide H S) H := fun b o h _ => (hide_some.mp h).2.1
theorem Kp.hide {H H' : Hp} (e : Kp H H') (S : List Addr) : Kp (hide H S) (hide H' S) := fun b o h n => by
  obtain ⟨h1, h2, h3⟩ := hide_some.mp h
  exact hide_some.mpr ⟨h1, e b o h2 h3, h3⟩
theorem hide_sub {H : Hp} {S S' : List Addr} (h : ∀ a, a ∈ S' → a ∈ S) : Kp (hide H S) (hide H S') := fun b o e n => by
  obtain ⟨h1, h2, h3⟩ := hide_some.mp e
  exact hide_some.mpr ⟨fun z => h1 (h b z), h2, h3⟩
theorem hide_mem {H : Hp} {S : List Addr} {p : Addr} (h : p ∈ S) : hide H S p = none := by
  unfold hide; simp [h]
theorem hide_upd {H : Hp} {S : List Addr} {p : Addr} {o : HO} (h : p ∈ S) : hide (upd H p o) S = hide H S := by
  funext a
  unfold hide
  by_cases e : a ∈ S
  · simp [e]
  · have ne : a ≠ p := fun z => e (z ▸ h)
    simp only [e, if_false]
    rw [upd_ne ne]
theorem hide_none {H : Hp} {S : List Addr} {p : Addr} (h : Fresh H p) : hide H S p = none := by
  cases e : hide H S p with
  | none => rfl
  | some o =>
    obtain ⟨_, h2, h3⟩ := hide_some.mp e
    rw [h o h2] at h3; cases h3
theorem hide_new {H : Hp} {S : List Addr} {p : Addr} {o : HO} (h : Fresh H p) : hide (upd H p o) (p :: S) = hide H S := by
  funext a
  by_cases e : a = p
  · subst e
    rw [hide_none h]
    exact hide_mem (List.mem_cons_self ..)
  · unfold hide
    rw [upd_ne e]
    simp [e]
/-- the hidden ones are lists -/
def Lsts (H : Hp) (S : List Addr) : Prop := ∀ q ∈ S, ∃ o, H q = some o ∧ mutO o = true
theorem Lsts.kp {H H' : Hp} {S : List Addr} (l : Lsts H S) (e : Kp H H') : Lsts H' S := fun q hq => let ⟨o, h, m⟩ := l q hq; ⟨o, e q _ h (mutO.nt m), m⟩
theorem Lsts.not {H : Hp} {S : List Addr} {p : Addr} (l : Lsts H S) (h : Fresh H p) : p ∉ S := fun hp => by
  obtain ⟨o, e, m⟩ := l p hp
  exact Bool.false_ne_true ((mutO.nt m).symm.trans (h _ e))
/-- a new object is seen -/
theorem hide_at {H : Hp} {S : List Addr} {p : Addr} {o : HO} (l : Lsts H S) (h : Fresh H p) (n : isTbl o = false) : hide (upd H p o) S p = some o :=
  hide_some.mpr ⟨l.not h, upd_same, n⟩

/-! ### slots: what is known of a name -/
/-- what a name may own: a list, a dict -/
inductive Ob where
  | lst (ds : List PyData)
  | dct (es : List (Key × PyData))
inductive ObD (K : PySem.W.Frag) (H : Hp) : HO → Ob → Prop
  | lst {xs : List V} {ds : List PyData} : DtAll K H xs ds → ObD K H (.lst xs) (.lst ds)
  | dct {kvs : List (Key × V)} {es : List (Key × PyData)} : kvs.map (·.1) = es.map (·.1) → DtAll K H (kvs.map (·.2)) (es.map (·.2)) → ObD K H (.dK kvs) (.dct es)
theorem ObD.kp {K : PySem.W.Frag} {H H' : Hp} {u : HO} {o : Ob} (h : ObD K H u o) (e : Kp H H') : ObD K H' u o := by
  cases h with
  | lst h => exact .lst (h.kp e)
  | dct h1 h2 => exact .dct h1 (h2.kp e)
theorem ObD.mut {K : PySem.W.Frag} {H : Hp} {u : HO} {o : Ob} (h : ObD K H u o) : mutO u = true := by cases h <;> rfl
theorem ObD.nt {K : PySem.W.Frag} {H : Hp} {u : HO} {o : Ob} (h : ObD K H u o) : isTbl u = false := mutO.nt h.mut
/-- the hidden ones are lists, the tables are whole -/
def LsT (T : Tb) (H : Hp) (S : List Addr) : Prop := Lsts H S ∧ LamX.Tabs T H
theorem LsT.not {T : Tb} {H : Hp} {S : List Addr} {p : Addr} (l : LsT T H S) (h : Fresh H p) : p ∉ S := l.1.not h
inductive Slot where
  | no
  | dat (d : PyData)
  | own (o : Ob)
  | scr (ds : List PyData)
  | raw (v : V)
/-- the state: H0 the heap at the entry (its objects stay), B what is seen for good, C what the caller hides, S what is hidden now -/
structure Gd (K : PySem.W.Frag) (T : Tb) (H0 B : Hp) (C : List Addr) (H : Hp) (S : List Addr) (σ : St) (ρ : List Slot) : Prop where
  ext : Ext T H0 H
  vis : Kp B H
  bno : ∀ b o, B b = some o → isTbl o = false
  hid : ∀ p ∈ S, B p = none
  lst : Lsts H S
  sub : ∀ c ∈ C, c ∈ S
  cl : LsT T H0 C
  len : σ.length = ρ.length
  dat : ∀ (i : Nat) (d : PyData), ρ[i]? = some (.dat d) → ∃ v, σ[i]? = some (some v) ∧ Dt K (hide H S) v d
  scr : ∀ (i : Nat) (ds : List PyData), ρ[i]? = some (.scr ds) → ∃ a xs, σ[i]? = some (some (.ref a)) ∧ SqL K (hide H S) a xs ∧ DtAll K (hide H S) xs ds
  own : ∀ (i : Nat) (o : Ob), ρ[i]? = some (.own o) → ∃ p u, σ[i]? = some (some (.ref p)) ∧ p ∈ S ∧ Fresh H0 p ∧ H p = some u ∧ ObD K (hide H S) u o
  raw : ∀ (i : Nat) (v : V), ρ[i]? = some (.raw v) → σ[i]? = some (some v)
  sep : ∀ (i j : Nat) (ds es : Ob) (p : Addr), ρ[i]? = some (.own ds) → ρ[j]? = some (.own es) → σ[i]? = some (some (.ref p)) → σ[j]? = some (some (.ref p)) → i = j
def Good (K : PySem.W.Frag) (T : Tb) (H0 B : Hp) (C : List Addr) (ρ : List Slot) (σ : St) (H : Hp) : Prop := ∃ S, Gd K T H0 B C H S σ ρ
section
variable {K : PySem.W.Frag} {T : Tb} {H0 B : Hp} {C : List Addr} {H H' : Hp} {S : List Addr} {σ : St} {ρ : List Slot}
theorem Gd.ex (g : Gd K T H0 B C H S σ ρ) (e : Ext T H H') : Gd K T H0 B C H' S σ ρ where
  ext := g.ext.trans e
  vis := g.vis.trans e.kp
  bno := g.bno
  hid := g.hid
  lst := g.lst.kp e.kp
  sub := g.sub
  cl := g.cl
  len := g.len
  dat := fun i d h => let ⟨v, h1, h2⟩ := g.dat i d h; ⟨v, h1, h2.kp (e.kp.hide S)⟩
  scr := fun i ds h => let ⟨a, xs, h1, h2, h3⟩ := g.scr i ds h; ⟨a, xs, h1, (e.kp.hide S).sql h2, h3.kp (e.kp.hide S)⟩
  own := fun i ds h => let ⟨p, xs, h1, h2, h3, h4, h5⟩ := g.own i ds h; ⟨p, xs, h1, h2, h3, e.kp p _ h4 h5.nt, h5.kp (e.kp.hide S)⟩
  raw := g.raw
  sep := g.sep
theorem Gd.lsT (g : Gd K T H0 B C H S σ ρ) (e : Ext T H H') : LsT T H' S := ⟨g.lst.kp e.kp, e.tb (g.ext.tb g.cl.2)⟩
/-- what is seen for good is seen -/
theorem Gd.see (g : Gd K T H0 B C H S σ ρ) : Kp B (hide H S) := fun b o h n => hide_some.mpr ⟨fun z => (by rw [g.hid b z] at h; cases h), g.vis b o h n, n⟩
/-- a name gets data -/
theorem Gd.set (g : Gd K T H0 B C H S σ ρ) {i : Nat} {v : V} {d : PyData} (h : Dt K (hide H S) v d) : Gd K T H0 B C H S (σ.set i (some v)) (ρ.set i (.dat d)) where
  ext := g.ext
  vis := g.vis
  bno := g.bno
  hid := g.hid
  lst := g.lst
  sub := g.sub
  cl := g.cl
  len := by rw [List.length_set, List.length_set]; exact g.len
  dat := fun j d' e => by
    by_cases z : i = j
    · subst z
      have hl : i < ρ.length := by
        have := (List.getElem?_eq_some_iff.mp e).1
        rwa [List.length_set] at this
      rw [List.getElem?_set_self hl] at e
      cases e
      exact ⟨v, List.getElem?_set_self (g.len ▸ hl), h⟩
    · rw [List.getElem?_set_ne z] at e ⊢
      exact g.dat j d' e
  scr := fun j ds e => by
    by_cases z : i = j
    · subst z
      have hl : i < ρ.length := by
        have := (List.getElem?_eq_some_iff.mp e).1
        rwa [List.length_set] at this
      rw [List.getElem?_set_self hl] at e
      cases e
    · rw [List.getElem?_set_ne z] at e ⊢
      exact g.scr j ds e
  own := fun j ds e => by
    by_cases z : i = j
    · subst z
      have hl : i < ρ.length := by
        have := (List.getElem?_eq_some_iff.mp e).1
        rwa [List.length_set] at this
      rw [List.getElem?_set_self hl] at e
      cases e
    · rw [List.getElem?_set_ne z] at e ⊢
      exact g.own j ds e
  raw := fun j ds e => by
    by_cases z : i = j
    · subst z
      have hl : i < ρ.length := by
        have := (List.getElem?_eq_some_iff.mp e).1
        rwa [List.length_set] at this
      rw [List.getElem?_set_self hl] at e
      cases e
    · rw [List.getElem?_set_ne z] at e ⊢
      exact g.raw j ds e
  sep := fun a b ds es p ha hb sa sb => by
    have za : i ≠ a := fun z => by
      subst z
      have hl : i < ρ.length := by
        have := (List.getElem?_eq_some_iff.mp ha).1
        rwa [List.length_set] at this
      rw [List.getElem?_set_self hl] at ha
      cases ha
    have zb : i ≠ b := fun z => by
      subst z
      have hl : i < ρ.length := by
        have := (List.getElem?_eq_some_iff.mp hb).1
        rwa [List.length_set] at this
      rw [List.getElem?_set_self hl] at hb
      cases hb
    rw [List.getElem?_set_ne za] at ha sa
    rw [List.getElem?_set_ne zb] at hb sb
    exact g.sep a b ds es p ha hb sa sb
/-- what is known may be forgotten -/
inductive Le : List Slot → List Slot → Prop
  | nil : Le [] []
  | no {s : Slot} {a b : List Slot} : Le a b → Le (.no :: a) (s :: b)
  | eq {s : Slot} {a b : List Slot} : Le a b → Le (s :: a) (s :: b)
theorem Le.len {a b : List Slot} (h : Le a b) : a.length = b.length := by
  induction h with
  | nil => rfl
  | no _ ih => exact congrArg (· + 1) ih
  | eq _ ih => exact congrArg (· + 1) ih
theorem Le.refl : ∀ a : List Slot, Le a a
  | [] => .nil
  | _ :: a => .eq (Le.refl a)
theorem Le.get {a b : List Slot} (h : Le a b) : ∀ {i : Nat} {s : Slot}, a[i]? = some s → s ≠ .no → b[i]? = some s := by
  induction h with
  | nil => intro i s e n; simp at e
  | no _ ih =>
    intro i s e n
    cases i with
    | zero => cases e; exact absurd rfl n
    | succ i => exact ih e n
  | eq _ ih =>
    intro i s e n
    cases i with
    | zero => exact e
    | succ i => exact ih e n
theorem Gd.weak {ρ' : List Slot} (g : Gd K T H0 B C H S σ ρ) (l : Le ρ' ρ) : Gd K T H0 B C H S σ ρ' where
  ext := g.ext
  vis := g.vis
  bno := g.bno
  hid := g.hid
  lst := g.lst
  sub := g.sub
  cl := g.cl
  len := g.len.trans l.len.symm
  dat := fun i d e => g.dat i d (l.get e (fun z => by cases z))
  scr := fun i d e => g.scr i d (l.get e (fun z => by cases z))
  own := fun i d e => g.own i d (l.get e (fun z => by cases z))
  raw := fun i d e => g.raw i d (l.get e (fun z => by cases z))
  sep := fun i j ds es p hi hj => g.sep i j ds es p (l.get hi (fun z => by cases z)) (l.get hj (fun z => by cases z))
theorem Good.weak {ρ' : List Slot} (g : Good K T H0 B C ρ σ H) (l : Le ρ' ρ) : Good K T H0 B C ρ' σ H := let ⟨S, g⟩ := g; ⟨S, g.weak l⟩
/-- owned lists seen as data, all in sight -/
def Slot.view : Slot → Slot
  | .no => .no
  | .dat d => .dat d
  | .own (.lst ds) => .dat (.list ds)
  | .own (.dct _) => .no
  | .scr ds => .scr ds
  | .raw v => .raw v
theorem Gd.view (g : Gd K T H0 B C H S σ ρ) : Gd K T H0 (hide H0 (List.range 0)) [] H [] σ (ρ.map Slot.view) where
  ext := g.ext
  vis := (hide_kp _ _).trans g.ext.kp
  bno := fun b o h => (hide_some.mp h).2.2
  hid := fun p hp => by cases hp
  lst := fun q hq => by cases hq
  sub := fun c hc => by cases hc
  cl := ⟨fun c hc => (by cases hc), g.cl.2⟩
  len := by rw [List.length_map]; exact g.len
  dat := fun i d e => by
    rw [List.getElem?_map] at e
    cases h : ρ[i]? with
    | none => rw [h] at e; cases e
    | some s =>
      rw [h] at e
      cases s with
      | no => cases e
      | dat d' =>
        cases e
        obtain ⟨v, h1, h2⟩ := g.dat i _ h
        exact ⟨v, h1, h2.kp (hide_sub fun a ha => by cases ha)⟩
      | own ob =>
        cases ob with
        | dct es => cases e
        | lst ds =>
          cases e
          obtain ⟨p, xs, h1, h2, h3, h4, h5⟩ := g.own i _ h
          cases h5 with
          | lst h5 => exact ⟨_, h1, (.lst (hide_some.mpr ⟨fun z => (by cases z), h4, rfl⟩) (h5.kp (hide_sub fun a ha => by cases ha)))⟩
      | scr ds => cases e
      | raw v => cases e
  scr := fun i ds e => by
    rw [List.getElem?_map] at e
    cases h : ρ[i]? with
    | none => rw [h] at e; cases e
    | some s =>
      rw [h] at e
      cases s with
      | no => cases e
      | dat d' => cases e
      | own ob => cases ob <;> cases e
      | scr ds =>
        cases e
        obtain ⟨a, xs, h1, h2, h3⟩ := g.scr i _ h
        exact ⟨a, xs, h1, (hide_sub fun a ha => by cases ha).sql h2, h3.kp (hide_sub fun a ha => by cases ha)⟩
      | raw v => cases e
  raw := fun i v e => by
    rw [List.getElem?_map] at e
    cases h : ρ[i]? with
    | none => rw [h] at e; cases e
    | some s =>
      rw [h] at e
      cases s with
      | raw w => cases e; exact g.raw i _ h
      | no => cases e
      | dat d => cases e
      | own d => cases d <;> cases e
      | scr d => cases e
  own := fun i ds e => by
    rw [List.getElem?_map] at e
    cases h : ρ[i]? with
    | none => rw [h] at e; cases e
    | some s =>
      rw [h] at e
      cases s with
      | own d => cases d <;> cases e
      | no => cases e
      | dat d => cases e
      | scr d => cases e
      | raw d => cases e
  sep := fun i j ds es p e => by
    rw [List.getElem?_map] at e
    cases h : ρ[i]? with
    | none => rw [h] at e; cases e
    | some s =>
      rw [h] at e
      cases s with
      | own d => cases d <;> cases e
      | no => cases e
      | dat d => cases e
      | scr d => cases e
      | raw d => cases e
end
end Lw

set_option Elab.async false
set_option linter.all false
set_option maxRecDepth 100000
set_option maxHeartbeats 4000000
set_option autoImplicit false
/-! Lw, part B: expressions. -/
namespace Lw
open PySem L2
section
variable (K : PySem.W.Frag) (T : Tb)
/-- an expression evaluates to data -/
def Ev (te : TE) (ρ : List Slot) (d : PyData) : Prop := ∀ (H0 B : Hp) (C : List Addr) (H : Hp) (S : List Addr) (σ : St), Gd K T H0 B C H S σ ρ →
  ∀ Q : VK, (∀ v H2, Ext T H H2 → Dt K (hide H2 S) v d → Q v H2) → te σ H Q
/-- .. to a new list, nobody else's -/
def EvF (te : TE) (ρ : List Slot) (ds : List PyData) : Prop := ∀ (H0 B : Hp) (C : List Addr) (H : Hp) (S : List Addr) (σ : St), Gd K T H0 B C H S σ ρ →
  ∀ Q : VK, (∀ p xs H2, Ext T H H2 → Fresh H p → H2 p = some (.lst xs) → DtAll K (hide H2 (p :: S)) xs ds → Q (.ref p) H2) → te σ H Q
def EvT (tt : TT) (ρ : List Slot) (b : Bool) : Prop := ∀ (H0 B : Hp) (C : List Addr) (H : Hp) (S : List Addr) (σ : St), Gd K T H0 B C H S σ ρ →
  ∀ Q : Bool → Hp → Prop, (∀ H2, Ext T H H2 → Q b H2) → tt σ H Q
def EvA (ta : TA) (ρ : List Slot) (ds : List PyData) : Prop := ∀ (H0 B : Hp) (C : List Addr) (H : Hp) (S : List Addr) (σ : St), Gd K T H0 B C H S σ ρ →
  ∀ Q : List V → Hp → Prop, (∀ vs H2, Ext T H H2 → DtAll K (hide H2 S) vs ds → Q vs H2) → ta σ H Q
def EvP (to : TO) (ρ : List Slot) (o : Option Int) : Prop := ∀ (H0 B : Hp) (C : List Addr) (H : Hp) (S : List Addr) (σ : St), Gd K T H0 B C H S σ ρ →
  ∀ Q : Option Int → Hp → Prop, (∀ H2, Ext T H H2 → Q o H2) → to σ H Q
/-- an operation on data -/
def RV (r : R2) (x y z : PyData) : Prop := ∀ (H : Hp) (S : List Addr) (v u : V), Lsts H S → Dt K (hide H S) v x → Dt K (hide H S) u y →
  ∀ Q : VK, (∀ w H2, Ext T H H2 → Dt K (hide H2 S) w z → Q w H2) → r v u H Q
def RVF (r : R2) (x y : PyData) (zs : List PyData) : Prop := ∀ (H : Hp) (S : List Addr) (v u : V), Lsts H S → Dt K (hide H S) v x → Dt K (hide H S) u y →
  ∀ Q : VK, (∀ p xs H2, Ext T H H2 → Fresh H p → H2 p = some (.lst xs) → DtAll K (hide H2 (p :: S)) xs zs → Q (.ref p) H2) → r v u H Q
def RU (r : V → Hp → VK → Prop) (x z : PyData) : Prop := ∀ (H : Hp) (S : List Addr) (v : V), Lsts H S → Dt K (hide H S) v x →
  ∀ Q : VK, (∀ w H2, Ext T H H2 → Dt K (hide H2 S) w z → Q w H2) → r v H Q
/-- a call of a built-in on data -/
def RC (r : List V → Hp → VK → Prop) (xs : List PyData) (z : PyData) : Prop := ∀ (H : Hp) (S : List Addr) (vs : List V), Lsts H S → DtAll K (hide H S) vs xs →
  ∀ Q : VK, (∀ w H2, Ext T H H2 → Dt K (hide H2 S) w z → Q w H2) → r vs H Q
def RCF (r : List V → Hp → VK → Prop) (xs : List PyData) (zs : List PyData) : Prop := ∀ (H : Hp) (S : List Addr) (vs : List V), Lsts H S → DtAll K (hide H S) vs xs →
  ∀ Q : VK, (∀ p ys H2, Ext T H H2 → Fresh H p → H2 p = some (.lst ys) → DtAll K (hide H2 (p :: S)) ys zs → Q (.ref p) H2) → r vs H Q
/-- a slice of data -/
def RS (r : V → Option Int → Option Int → Hp → VK → Prop) (x : PyData) (lo hi : Option Int) (z : PyData) : Prop := ∀ (H : Hp) (S : List Addr) (v : V), Lsts H S → Dt K (hide H S) v x →
  ∀ Q : VK, (∀ w H2, Ext T H H2 → Dt K (hide H2 S) w z → Q w H2) → r v lo hi H Q
def RSF (r : V → Option Int → Option Int → Hp → VK → Prop) (x : PyData) (lo hi : Option Int) (zs : List PyData) : Prop := ∀ (H : Hp) (S : List Addr) (v : V), Lsts H S → Dt K (hide H S) v x →
  ∀ Q : VK, (∀ p ys H2, Ext T H H2 → Fresh H p → H2 p = some (.lst ys) → DtAll K (hide H2 (p :: S)) ys zs → Q (.ref p) H2) → r v lo hi H Q
end
section
variable {K : PySem.W.Frag} {T : Tb} {ρ : List Slot} {te ta tb tc : TE} {t u : TT} {x y z d : PyData} {r : R2}
theorem EvF.ev {ds : List PyData} (h : EvF K T te ρ ds) : Ev K T te ρ (.list ds) := fun H0 B C H S σ g Q hQ =>
  h H0 B C H S σ g Q fun p xs H2 e hp h2 ha => hQ _ H2 e (.lst (hide_some.mpr ⟨g.lst.not hp, h2, rfl⟩) (ha.kp (hide_sub fun a m => List.mem_cons_of_mem _ m)))
theorem RVF.rv {zs : List PyData} (h : RVF K T r x y zs) : RV K T r x y (.list zs) := fun H S v w l dv dw Q hQ =>
  h H S v w l dv dw Q fun p xs H2 e hp h2 ha => hQ _ H2 e (.lst (hide_some.mpr ⟨l.not hp, h2, rfl⟩) (ha.kp (hide_sub fun a m => List.mem_cons_of_mem _ m)))
theorem RCF.rc {r : List V → Hp → VK → Prop} {xs zs : List PyData} (h : RCF K T r xs zs) : RC K T r xs (.list zs) := fun H S v l dv Q hQ =>
  h H S v l dv Q fun p xs H2 e hp h2 ha => hQ _ H2 e (.lst (hide_some.mpr ⟨l.not hp, h2, rfl⟩) (ha.kp (hide_sub fun a m => List.mem_cons_of_mem _ m)))
theorem RSF.rs {r : V → Option Int → Option Int → Hp → VK → Prop} {lo hi : Option Int} {zs : List PyData} (h : RSF K T r x lo hi zs) : RS K T r x lo hi (.list zs) := fun H S v l dv Q hQ =>
  h H S v l dv Q fun p xs H2 e hp h2 ha => hQ _ H2 e (.lst (hide_some.mpr ⟨l.not hp, h2, rfl⟩) (ha.kp (hide_sub fun a m => List.mem_cons_of_mem _ m)))
/-! ### names, constants -/
theorem ev_var {i : Nat} (h : ρ[i]? = some (.dat d)) : Ev K T (tVar i) ρ d := fun H0 B C H S σ g Q hQ => by
  obtain ⟨v, h1, h2⟩ := g.dat i d h
  exact ⟨v, h1, hQ v H (.refl T H) h2⟩
theorem ev_int {i : Int} : Ev K T (tC (.int i)) ρ (.int i) := fun H0 B C H S σ g Q hQ => hQ _ H (.refl T H) (.int i)
theorem ev_bl {i : Bool} : Ev K T (tC (.bl i)) ρ (.bool i) := fun H0 B C H S σ g Q hQ => hQ _ H (.refl T H) (.bl i)
theorem ev_str {i : Str} : Ev K T (tC (.str i)) ρ (.str i) := fun H0 B C H S σ g Q hQ => hQ _ H (.refl T H) (.str i)
theorem ev_non : Ev K T (tC .non) ρ .none := fun H0 B C H S σ g Q hQ => hQ _ H (.refl T H) .non
/-- a constant of the module, by what stands there -/
theorem ev_con {v : V} (h : ∀ H, Dt K H v d) : Ev K T (tC v) ρ d := fun H0 B C H S σ g Q hQ => hQ _ H (.refl T H) (h _)
theorem ev_is {d' : PyData} (h : Ev K T te ρ d) (e : d = d') : Ev K T te ρ d' := e ▸ h
/-! ### operations -/
theorem ev_op (ha : Ev K T ta ρ x) (hb : Ev K T tb ρ y) (hr : RV K T r x y z) : Ev K T (tOp r ta tb) ρ z := fun H0 B C H S σ g Q hQ =>
  ha H0 B C H S σ g _ fun v H1 e1 d1 => hb H0 B C H1 S σ (g.ex e1) _ fun w H2 e2 d2 =>
    hr H2 S v w ((g.lst.kp e1.kp).kp e2.kp) (d1.kp (e2.kp.hide S)) d2 Q fun a H3 e3 d3 => hQ a H3 (e1.trans (e2.trans e3)) d3
theorem ef_op {zs : List PyData} (ha : Ev K T ta ρ x) (hb : Ev K T tb ρ y) (hr : RVF K T r x y zs) : EvF K T (tOp r ta tb) ρ zs := fun H0 B C H S σ g Q hQ =>
  ha H0 B C H S σ g _ fun v H1 e1 d1 => hb H0 B C H1 S σ (g.ex e1) _ fun w H2 e2 d2 =>
    hr H2 S v w ((g.lst.kp e1.kp).kp e2.kp) (d1.kp (e2.kp.hide S)) d2 Q fun p xs H3 e3 hp h3 d3 => hQ p xs H3 (e1.trans (e2.trans e3)) ((hp.back e2.kp).back e1.kp) h3 d3
theorem ev_un {r : V → Hp → VK → Prop} (ha : Ev K T ta ρ x) (hr : RU K T r x z) : Ev K T (tUn r ta) ρ z := fun H0 B C H S σ g Q hQ =>
  ha H0 B C H S σ g _ fun v H1 e1 d1 => hr H1 S v (g.lst.kp e1.kp) d1 Q fun a H3 e3 d3 => hQ a H3 (e1.trans e3) d3
/-! ### tests -/
theorem et_test {b : Bool} (h : Ev K T te ρ (.bool b)) : EvT K T (tTest te) ρ b := fun H0 B C H S σ g Q hQ =>
  h H0 B C H S σ g _ fun v H1 e1 d1 => by cases d1; exact ⟨b, rfl, hQ H1 e1⟩
theorem et_B {b : Bool} (h : Ev K T te ρ (.bool b)) : EvT K T (tB te) ρ b := fun H0 B C H S σ g Q hQ =>
  h H0 B C H S σ g _ fun v H1 e1 d1 => by cases d1; exact ⟨b, rfl, hQ H1 e1⟩
theorem et_and {a b : Bool} (h1 : EvT K T t ρ a) (h2 : a = true → EvT K T u ρ b) : EvT K T (tAnd t u) ρ (a && b) := fun H0 B C H S σ g Q hQ =>
  h1 H0 B C H S σ g _ fun H1 e1 => by
    cases a with
    | true => exact iteT (h2 rfl H0 B C H1 S σ (g.ex e1) _ fun H2 e2 => hQ H2 (e1.trans e2))
    | false => exact iteF (hQ H1 e1)
theorem et_or {a b : Bool} (h1 : EvT K T t ρ a) (h2 : a = false → EvT K T u ρ b) : EvT K T (tOr t u) ρ (a || b) := fun H0 B C H S σ g Q hQ =>
  h1 H0 B C H S σ g _ fun H1 e1 => by
    cases a with
    | true => exact iteT (hQ H1 e1)
    | false => exact iteF (h2 rfl H0 B C H1 S σ (g.ex e1) _ fun H2 e2 => hQ H2 (e1.trans e2))
theorem et_not {a : Bool} (h1 : EvT K T t ρ a) : EvT K T (tNot t) ρ (!a) := fun H0 B C H S σ g Q hQ => h1 H0 B C H S σ g _ fun H1 e1 => hQ H1 e1
theorem et_is {a b : Bool} (h : EvT K T t ρ a) (e : a = b) : EvT K T t ρ b := e ▸ h
theorem et_yes : EvT K T tYes ρ true := fun H0 B C H S σ g Q hQ => hQ H (.refl T H)
theorem ev_andV {a b : Bool} (h1 : Ev K T ta ρ (.bool a)) (h2 : a = true → Ev K T tb ρ (.bool b)) : Ev K T (tAndV ta tb) ρ (.bool (a && b)) := fun H0 B C H S σ g Q hQ =>
  h1 H0 B C H S σ g _ fun v H1 e1 d1 => by
    cases d1
    refine ⟨a, rfl, ?_⟩
    cases a with
    | true => exact iteT (h2 rfl H0 B C H1 S σ (g.ex e1) _ fun w H2 e2 d2 => hQ w H2 (e1.trans e2) d2)
    | false => exact iteF (hQ _ H1 e1 (.bl false))
theorem ev_orV {a b : Bool} (h1 : Ev K T ta ρ (.bool a)) (h2 : a = false → Ev K T tb ρ (.bool b)) : Ev K T (tOrV ta tb) ρ (.bool (a || b)) := fun H0 B C H S σ g Q hQ =>
  h1 H0 B C H S σ g _ fun v H1 e1 d1 => by
    cases d1
    refine ⟨a, rfl, ?_⟩
    cases a with
    | true => exact iteT (hQ _ H1 e1 (.bl true))
    | false => exact iteF (h2 rfl H0 B C H1 S σ (g.ex e1) _ fun w H2 e2 d2 => hQ w H2 (e1.trans e2) d2)
theorem ev_notV {a : Bool} (h1 : Ev K T ta ρ (.bool a)) : Ev K T (tNotV ta) ρ (.bool (!a)) := fun H0 B C H S σ g Q hQ =>
  h1 H0 B C H S σ g _ fun v H1 e1 d1 => by cases d1; exact ⟨a, rfl, hQ _ H1 e1 (.bl _)⟩
theorem ev_if {b : Bool} {d1 d2 : PyData} (h : EvT K T t ρ b) (h1 : b = true → Ev K T ta ρ d1) (h2 : b = false → Ev K T tb ρ d2) : Ev K T (tIf t ta tb) ρ (if b then d1 else d2) := fun H0 B C H S σ g Q hQ =>
  h H0 B C H S σ g _ fun H1 e1 => by
    cases b with
    | true => exact iteT (h1 rfl H0 B C H1 S σ (g.ex e1) _ fun w H2 e2 q2 => hQ w H2 (e1.trans e2) q2)
    | false => exact iteF (h2 rfl H0 B C H1 S σ (g.ex e1) _ fun w H2 e2 q2 => hQ w H2 (e1.trans e2) q2)
theorem ev_ifT {d1 : PyData} (h : EvT K T t ρ true) (h1 : Ev K T ta ρ d1) : Ev K T (tIf t ta tb) ρ d1 := fun H0 B C H S σ g Q hQ =>
  h H0 B C H S σ g _ fun H1 e1 => iteT (h1 H0 B C H1 S σ (g.ex e1) _ fun w H2 e2 q2 => hQ w H2 (e1.trans e2) q2)
theorem ev_ifF {d1 : PyData} (h : EvT K T t ρ false) (h1 : Ev K T tb ρ d1) : Ev K T (tIf t ta tb) ρ d1 := fun H0 B C H S σ g Q hQ =>
  h H0 B C H S σ g _ fun H1 e1 => iteF (h1 H0 B C H1 S σ (g.ex e1) _ fun w H2 e2 q2 => hQ w H2 (e1.trans e2) q2)
/-! ### arguments, displays -/
theorem ea_nil : EvA K T tNil ρ [] := fun H0 B C H S σ g Q hQ => hQ _ H (.refl T H) .nil
theorem ea_cons {tr : TA} {ds : List PyData} (h : Ev K T ta ρ x) (hr : EvA K T tr ρ ds) : EvA K T (tCons ta tr) ρ (x :: ds) := fun H0 B C H S σ g Q hQ =>
  h H0 B C H S σ g _ fun v H1 e1 d1 => hr H0 B C H1 S σ (g.ex e1) _ fun vs H2 e2 d2 => hQ _ H2 (e1.trans e2) (.cons (d1.kp (e2.kp.hide S)) d2)
theorem ev_tup {ta : TA} {ds : List PyData} (h : EvA K T ta ρ ds) (hl : ds.length ≤ 1000000) : Ev K T (tTup ta) ρ (.tuple ds) := fun H0 B C H S σ g Q hQ =>
  h H0 B C H S σ g _ fun vs H1 e1 d1 => ⟨Nat.le_trans (d1.len ▸ hl) (by decide), fun p hp => hQ _ _ (e1.trans (.new hp))
    (.tup (SqT.of (hide_at (g.lst.kp e1.kp) (.of hp) rfl)) (d1.kp ((Ext.new (T := T) hp).kp.hide S)))⟩
theorem ef_lst {ta : TA} {ds : List PyData} (h : EvA K T ta ρ ds) (hl : ds.length ≤ 1000000) : EvF K T (tLst ta) ρ ds := fun H0 B C H S σ g Q hQ =>
  h H0 B C H S σ g _ fun vs H1 e1 d1 => ⟨Nat.le_trans (d1.len ▸ hl) (by decide), fun p hp => hQ p vs _ (e1.trans (.new hp)) ((Fresh.of hp).back e1.kp) upd_same (by
    rw [hide_new (.of hp)]
    exact d1)⟩
theorem ev_lst {ta : TA} {ds : List PyData} (h : EvA K T ta ρ ds) (hl : ds.length ≤ 1000000) : Ev K T (tLst ta) ρ (.list ds) := (ef_lst h hl).ev
/-! ### slices -/
theorem ep_none : EvP K T tNoPart ρ none := fun H0 B C H S σ g Q hQ => hQ H (.refl T H)
theorem ep_some {i : Int} (h : Ev K T te ρ (.int i)) : EvP K T (tPart te) ρ (some i) := fun H0 B C H S σ g Q hQ =>
  h H0 B C H S σ g _ fun v H1 e1 d1 => by cases d1; exact ⟨i, rfl, hQ H1 e1⟩
theorem ev_sl {r : V → Option Int → Option Int → Hp → VK → Prop} {tl th : TO} {lo hi : Option Int} (h : Ev K T te ρ x) (h1 : EvP K T tl ρ lo) (h2 : EvP K T th ρ hi) (hr : RS K T r x lo hi z) : Ev K T (tSl r te tl th) ρ z := fun H0 B C H S σ g Q hQ =>
  h H0 B C H S σ g _ fun v H1 e1 d1 => h1 H0 B C H1 S σ (g.ex e1) _ fun H2 e2 => h2 H0 B C H2 S σ ((g.ex e1).ex e2) _ fun H3 e3 =>
    hr H3 S v (((g.lst.kp e1.kp).kp e2.kp).kp e3.kp) ((d1.kp (e2.kp.hide S)).kp (e3.kp.hide S)) Q fun a H4 e4 d4 => hQ a H4 (e1.trans (e2.trans (e3.trans e4))) d4
theorem ef_sl {r : V → Option Int → Option Int → Hp → VK → Prop} {tl th : TO} {lo hi : Option Int} {zs : List PyData} (h : Ev K T te ρ x) (h1 : EvP K T tl ρ lo) (h2 : EvP K T th ρ hi) (hr : RSF K T r x lo hi zs) : EvF K T (tSl r te tl th) ρ zs := fun H0 B C H S σ g Q hQ =>
  h H0 B C H S σ g _ fun v H1 e1 d1 => h1 H0 B C H1 S σ (g.ex e1) _ fun H2 e2 => h2 H0 B C H2 S σ ((g.ex e1).ex e2) _ fun H3 e3 =>
    hr H3 S v (((g.lst.kp e1.kp).kp e2.kp).kp e3.kp) ((d1.kp (e2.kp.hide S)).kp (e3.kp.hide S)) Q fun p xs H4 e4 hp h4 d4 => hQ p xs H4 (e1.trans (e2.trans (e3.trans e4))) (((hp.back e3.kp).back e2.kp).back e1.kp) h4 d4
/-! ### calls -/
theorem ev_cb {r : List V → Hp → VK → Prop} {ta : TA} {ds : List PyData} (h : EvA K T ta ρ ds) (hr : RC K T r ds z) : Ev K T (tCB r ta) ρ z := fun H0 B C H S σ g Q hQ =>
  h H0 B C H S σ g _ fun vs H1 e1 d1 => hr H1 S vs (g.lst.kp e1.kp) d1 Q fun a H2 e2 d2 => hQ a H2 (e1.trans e2) d2
theorem ef_cb {r : List V → Hp → VK → Prop} {ta : TA} {ds zs : List PyData} (h : EvA K T ta ρ ds) (hr : RCF K T r ds zs) : EvF K T (tCB r ta) ρ zs := fun H0 B C H S σ g Q hQ =>
  h H0 B C H S σ g _ fun vs H1 e1 d1 => hr H1 S vs (g.lst.kp e1.kp) d1 Q fun p xs H2 e2 hp h2 d2 => hQ p xs H2 (e1.trans e2) (hp.back e1.kp) h2 d2
/-- a def's promise over data: R ds r: called with ds it gives r -/
def spR (K : PySem.W.Frag) (T : Tb) (R : List PyData → PyData → Prop) : Sp := fun vs H Q _ => ∃ ds r S, LsT T H S ∧ DtAll K (hide H S) vs ds ∧ R ds r ∧
  ∀ v H', Ext T H H' → Dt K (hide H' S) v r → Q v H'
theorem ev_call {R : List PyData → PyData → Prop} {ta : TA} {ds : List PyData} {E : XK} (h : EvA K T ta ρ ds) (hR : R ds z) : Ev K T (tCall (spR K T R) [] E ta) ρ z := fun H0 B C H S σ g Q hQ =>
  h H0 B C H S σ g _ fun vs H1 e1 d1 => ⟨ds, z, S, g.lsT e1, by rw [List.append_nil]; exact d1, hR, fun v H2 e2 d2 => hQ v H2 (e1.trans e2) d2⟩
theorem ev_callD {R : List PyData → PyData → Prop} {ta : TA} {ds es : List PyData} {dvs : List V} {E : XK} (h : EvA K T ta ρ ds) (hd : ∀ H, DtAll K H dvs es) (hR : R (ds ++ es) z) : Ev K T (tCall (spR K T R) dvs E ta) ρ z := fun H0 B C H S σ g Q hQ =>
  h H0 B C H S σ g _ fun vs H1 e1 d1 => ⟨ds ++ es, z, S, g.lsT e1, d1.app (hd _), hR, fun v H2 e2 d2 => hQ v H2 (e1.trans e2) d2⟩
/-- what is a scalar is so whatever is hidden: owned lists may be read for it -/
def scalD : PyData → Bool
  | .list _ => false
  | .tuple _ => false
  | .dict _ => false
  | _ => true
theorem scal_any {H H' : Hp} {v : V} (hs : scalD d = true) (h : Dt K H v d) : Dt K H' v d := by
  cases h with
  | non => exact .non
  | bl b => exact .bl b
  | int i => exact .int i
  | str x => exact .str x
  | lst _ _ => cases hs
  | tup _ _ => cases hs
theorem ev_view (h : Ev K T te (ρ.map Slot.view) d) (hs : scalD d = true) : Ev K T te ρ d := fun H0 B C H S σ g Q hQ =>
  h H0 _ [] H [] σ g.view Q fun v H2 e2 d2 => hQ v H2 e2 (scal_any hs d2)
theorem et_view {b : Bool} (h : EvT K T t (ρ.map Slot.view) b) : EvT K T t ρ b := fun H0 B C H S σ g Q hQ => h H0 _ [] H [] σ g.view Q hQ
end

/-! ### operations on data -/
/-- + of ints, texts, lists, tuples -/
def rAddA (K : PySem.W.Frag) : R2 := fun x y H Q => rI0 (fun i j => .int (i + j)) x y H Q ∨ (∃ i j, x = .str i ∧ y = .str j ∧ i.length + j.length ≤ sizeLine ∧ Q (.str (i ++ j)) H) ∨ rCat x y H Q ∨ rCatA K x y H Q
theorem op_addA {X : Cx} : OpR X (binaryOp .Add) (rAddA X.K) := .or op_add (.or op_add_str (.or op_cat op_catA))
/-- * of ints; a list times an int -/
def rMulA : R2 := fun x y H Q => rI IntMulOk (fun i j => .int (i * j)) x y H Q ∨ rRep x y H Q
theorem op_mulX {X : Cx} : OpR X (binaryOp .Mult) (rI IntMulOk fun i j => .int (i * j)) := opI fun _ _ _ _ _ _ _ hc q => PyProof.Rows.mul_int q hc
theorem op_mulA {X : Cx} : OpR X (binaryOp .Mult) rMulA := .or op_mulX op_rep
def CFd (i j : Int) : Prop := j ≠ 0 ∧ Builtin.divisionGoesByPylong i j = false
theorem op_fdX {X : Cx} : OpR X (binaryOp .FloorDiv) (rI CFd fun i j => .int (i.fdiv j)) := opI fun _ _ _ _ _ _ _ hc q => PyProof.Rows.floordiv_int hc.1 q (.inl hc.2)
abbrev rSubA : R2 := rI0 fun i j => .int (i - j)
abbrev rFdA : R2 := rI CFd fun i j => .int (i.fdiv j)
abbrev rModA : R2 := rI (fun _ j => j ≠ 0) fun i j => .int (i.fmod j)
abbrev rPowA : R2 := rI CPow fun i j => .int (i ^ j.toNat)
abbrev rLtA : R2 := rI0 fun i j => .bl (decide (i < j))
abbrev rLeA : R2 := rI0 fun i j => .bl (decide (i ≤ j))
abbrev rGtA : R2 := rI0 fun i j => .bl (decide (j < i))
abbrev rGeA : R2 := rI0 fun i j => .bl (decide (j ≤ i))
abbrev rIsNA : R2 := fun x y H Q => y = .non ∧ Q (.bl (decide (x = .non))) H
abbrev rNotNA : R2 := fun x y H Q => y = .non ∧ Q (.bl (!decide (x = .non))) H
section
variable {K : PySem.W.Frag} {T : Tb} {x y z d : PyData} {i j : Int}
theorem rv_add : RV K T (rAddA K) (.int i) (.int j) (.int (i + j)) := fun H S v u l dv du Q hQ => by
  cases dv; cases du
  exact .inl ⟨i, j, rfl, rfl, hQ _ H (.refl T H) (.int _)⟩
theorem rv_addS {a b : Str} (hl : a.length + b.length ≤ 1000000) : RV K T (rAddA K) (.str a) (.str b) (.str (a ++ b)) := fun H S v u l dv du Q hQ => by
  cases dv; cases du
  exact .inr (.inl ⟨a, b, rfl, rfl, Nat.le_trans hl (by decide), hQ _ H (.refl T H) (.str _)⟩)
theorem hide_get {H : Hp} {S : List Addr} {a : Addr} {o : HO} (h : hide H S a = some o) : H a = some o := (hide_some.mp h).2.1
theorem rf_addL {xs ys : List PyData} (hl : xs.length + ys.length ≤ 1000000) : RVF K T (rAddA K) (.list xs) (.list ys) (xs ++ ys) := fun H S v u l dv du Q hQ => by
  cases dv with
  | lst h1 a1 =>
    cases du with
    | lst h2 a2 =>
      refine .inr (.inr (.inl ⟨_, _, _, _, rfl, rfl, hide_get h1, hide_get h2, by rw [a1.len, a2.len]; exact Nat.le_trans hl (by decide), fun p hp => ?_⟩))
      refine hQ p _ _ (.new hp) (.of hp) upd_same ?_
      rw [hide_new (.of hp)]
      exact a1.app a2
theorem sqt_hide {H : Hp} {S : List Addr} {a : Addr} {xs : List V} (h : SqT K (hide H S) a xs) : SqT K H a xs := (hide_kp H S).sqt h
theorem rv_addT {xs ys : List PyData} (hl : xs.length + ys.length ≤ 1000000) : RV K T (rAddA K) (.tuple xs) (.tuple ys) (.tuple (xs ++ ys)) := fun H S v u l dv du Q hQ => by
  cases dv with
  | tup h1 a1 =>
    cases du with
    | tup h2 a2 =>
      refine .inr (.inr (.inr ⟨_, _, _, _, rfl, rfl, sqt_hide h1, sqt_hide h2, by rw [a1.len, a2.len]; exact Nat.le_trans hl (by decide), fun e => ?_, fun e e2 => ?_, fun e e2 p hp => ?_⟩))
      · subst e
        cases a1
        exact hQ _ H (.refl T H) (.tup h2 a2)
      · subst e2
        cases a2
        rw [List.append_nil] at hQ
        exact hQ _ H (.refl T H) (.tup h1 a1)
      · exact hQ _ _ (.new hp) (.tup (SqT.of (hide_at l (.of hp) rfl)) ((a1.app a2).kp ((Ext.new (T := T) hp).kp.hide S)))
theorem rv_sub : RV K T rSubA (.int i) (.int j) (.int (i - j)) := fun H S v u l dv du Q hQ => by
  cases dv; cases du
  exact ⟨i, j, rfl, rfl, hQ _ H (.refl T H) (.int _)⟩
theorem rv_mul (h : IntMulOk i j) : RV K T rMulA (.int i) (.int j) (.int (i * j)) := fun H S v u l dv du Q hQ => by
  cases dv; cases du
  exact .inl ⟨i, j, rfl, rfl, h, hQ _ H (.refl T H) (.int _)⟩
theorem DtAll.rep {H : Hp} {vs : List V} {ds : List PyData} (h : DtAll K H vs ds) : ∀ n : Nat, DtAll K H (List.replicate n vs).flatten (List.replicate n ds).flatten
  | 0 => .nil
  | n + 1 => by
    rw [List.replicate_succ, List.replicate_succ, List.flatten_cons, List.flatten_cons]
    exact h.app (h.rep n)
theorem rf_rep {xs : List PyData} (h1 : -(2 ^ 63) ≤ j) (h2 : j < 2 ^ 63) (hl : xs.length * j.toNat ≤ 1000000) : RVF K T rMulA (.list xs) (.int j) (List.replicate j.toNat xs).flatten := fun H S v u l dv du Q hQ => by
  cases du
  cases dv with
  | lst h3 a1 =>
    refine .inr ⟨_, j, _, rfl, rfl, hide_get h3, h1, h2, by rw [a1.len]; exact Nat.le_trans hl (by decide), fun p hp => ?_⟩
    refine hQ p _ _ (.new hp) (.of hp) upd_same ?_
    rw [hide_new (.of hp)]
    exact a1.rep _
theorem rv_fd (h : CFd i j) : RV K T rFdA (.int i) (.int j) (.int (i.fdiv j)) := fun H S v u l dv du Q hQ => by
  cases dv; cases du
  exact ⟨i, j, rfl, rfl, h, hQ _ H (.refl T H) (.int _)⟩
theorem rv_mod (h : j ≠ 0) : RV K T rModA (.int i) (.int j) (.int (i.fmod j)) := fun H S v u l dv du Q hQ => by
  cases dv; cases du
  exact ⟨i, j, rfl, rfl, h, hQ _ H (.refl T H) (.int _)⟩
theorem rv_pow (h : CPow i j) : RV K T rPowA (.int i) (.int j) (.int (i ^ j.toNat)) := fun H S v u l dv du Q hQ => by
  cases dv; cases du
  exact ⟨i, j, rfl, rfl, h, hQ _ H (.refl T H) (.int _)⟩
theorem rv_lt : RV K T rLtA (.int i) (.int j) (.bool (decide (i < j))) := fun H S v u l dv du Q hQ => by
  cases dv; cases du
  exact ⟨i, j, rfl, rfl, hQ _ H (.refl T H) (.bl _)⟩
theorem rv_le : RV K T rLeA (.int i) (.int j) (.bool (decide (i ≤ j))) := fun H S v u l dv du Q hQ => by
  cases dv; cases du
  exact ⟨i, j, rfl, rfl, hQ _ H (.refl T H) (.bl _)⟩
theorem rv_gt : RV K T rGtA (.int i) (.int j) (.bool (decide (j < i))) := fun H S v u l dv du Q hQ => by
  cases dv; cases du
  exact ⟨i, j, rfl, rfl, hQ _ H (.refl T H) (.bl _)⟩
theorem rv_ge : RV K T rGeA (.int i) (.int j) (.bool (decide (j ≤ i))) := fun H S v u l dv du Q hQ => by
  cases dv; cases du
  exact ⟨i, j, rfl, rfl, hQ _ H (.refl T H) (.bl _)⟩
theorem rv_eq (hx : SeqAt.shaped x = true) (hy : SeqAt.shaped y = true) : RV K T (rEqD K) x y (.bool (PyData.eqv x y)) := fun H S v u l dv du Q hQ =>
  ⟨x, y, dt_dp _ _ (dv.kp (hide_kp H S)), dt_dp _ _ (du.kp (hide_kp H S)), hx, hy, hQ _ H (.refl T H) (.bl _)⟩
theorem rv_ne (hx : SeqAt.shaped x = true) (hy : SeqAt.shaped y = true) : RV K T (rNeD K) x y (.bool (!PyData.eqv x y)) := fun H S v u l dv du Q hQ =>
  ⟨x, y, dt_dp _ _ (dv.kp (hide_kp H S)), dt_dp _ _ (du.kp (hide_kp H S)), hx, hy, hQ _ H (.refl T H) (.bl _)⟩
def isNone : PyData → Bool
  | .none => true
  | _ => false
theorem dt_non {H : Hp} {v : V} (h : Dt K H v x) : decide (v = .non) = isNone x := by
  cases h <;> rfl
theorem rv_isN : RV K T rIsNA x .none (.bool (isNone x)) := fun H S v u l dv du Q hQ => by
  cases du
  refine ⟨rfl, ?_⟩
  rw [dt_non dv]
  exact hQ _ H (.refl T H) (.bl _)
theorem rv_notN : RV K T rNotNA x .none (.bool (!isNone x)) := fun H S v u l dv du Q hQ => by
  cases du
  refine ⟨rfl, ?_⟩
  rw [dt_non dv]
  exact hQ _ H (.refl T H) (.bl _)
/-! ### subscripts -/
theorem DtAll.at {H : Hp} {vs : List V} {ds : List PyData} (h : DtAll K H vs ds) (e : atI ds i = some d) : ∃ v, atI vs i = some v ∧ Dt K H v d := by
  unfold atI at e ⊢
  rw [h.len]
  cases q : ixN ds.length i with
  | none => rw [q] at e; cases e
  | some k =>
    rw [q] at e
    exact h.get e
theorem rv_ixT {ds : List PyData} (e : atI ds i = some d) : RV K T (rIx K) (.tuple ds) (.int i) d := fun H S v u l dv du Q hQ => by
  cases du
  cases dv with
  | tup h1 a1 =>
    obtain ⟨w, hw, dw⟩ := a1.at e
    exact .inr (.inl ⟨_, _, i, w, rfl, rfl, sqt_hide h1, hw, hQ w H (.refl T H) dw⟩)
theorem rv_ixL {ds : List PyData} (e : atI ds i = some d) : RV K T (rIx K) (.list ds) (.int i) d := fun H S v u l dv du Q hQ => by
  cases du
  cases dv with
  | lst h1 a1 =>
    obtain ⟨w, hw, dw⟩ := a1.at e
    exact .inl ⟨_, _, i, w, rfl, rfl, SqL.of (hide_get h1), hw, hQ w H (.refl T H) dw⟩
theorem rv_ixS {a : Str} {c : Nat} (hl : a.length ≤ 1000000) (e : atI a.cps.toList i = some c) : RV K T (rIx K) (.str a) (.int i) (.str ⟨#[c]⟩) := fun H S v u l dv du Q hQ => by
  cases du; cases dv
  exact .inr (.inr ⟨a, i, c, rfl, rfl, Nat.le_trans hl (by decide), e, hQ _ H (.refl T H) (.str _)⟩)
/-- an item of an owned list -/
theorem ev_ixO {ρ : List Slot} {tb : TE} {k : Nat} {ds : List PyData} (h : ρ[k]? = some (.own (.lst ds))) (hb : Ev K T tb ρ (.int i)) (e : atI ds i = some d) : Ev K T (tOp (rIx K) (tVar k) tb) ρ d := fun H0 B C H S σ g Q hQ => by
  obtain ⟨p, u, h1, h2, h3, h4, h5⟩ := g.own k _ h
  cases h5 with | lst h5 =>
  refine ⟨.ref p, h1, ?_⟩
  refine hb H0 B C H S σ g _ fun v H1 e1 d1 => ?_
  cases d1
  obtain ⟨w, hw, dw⟩ := (h5.kp (e1.kp.hide S)).at e
  exact .inl ⟨p, _, i, w, rfl, rfl, SqL.of (e1.kp p _ h4 rfl), hw, hQ w H1 e1 dw⟩
def cutD (ds : List PyData) (lo hi : Option Int) : List PyData := (ds.drop (HT.sIx ds.length 0 lo)).take (HT.sIx ds.length ds.length hi - HT.sIx ds.length 0 lo)
/-- slices of lists, tuples, texts -/
def rSlX (K : PySem.W.Frag) : V → Option Int → Option Int → Hp → VK → Prop := fun x lo hi H Q => rSlL K x lo hi H Q ∨ rSlA K x lo hi H Q
theorem sl_any {X : Cx} : SlR X (rSlX X.K) := SlR.or sl_list sl_tupA
theorem rf_slL {ds : List PyData} {lo hi : Option Int} : RSF K T (rSlX K) (.list ds) lo hi (cutD ds lo hi) := fun H S v l dv Q hQ => by
  cases dv with
  | lst h1 a1 =>
    refine .inl ⟨_, _, rfl, SqL.of (hide_get h1), fun p hp => ?_⟩
    refine hQ p _ _ (.new hp) (.of hp) upd_same ?_
    rw [hide_new (.of hp)]
    exact a1.cut lo hi
theorem rs_slT {ds : List PyData} {lo hi : Option Int} : RS K T (rSlX K) (.tuple ds) lo hi (.tuple (cutD ds lo hi)) := fun H S v l dv Q hQ => by
  cases dv with
  | tup h1 a1 =>
    refine .inr ⟨_, _, rfl, sqt_hide h1, fun e => ?_, fun e p hp => ?_⟩
    · refine hQ _ H (.refl T H) (.tup h1 ?_)
      have q := a1.cut lo hi
      unfold cutV at q
      rw [e.1, e.2] at q
      rw [List.drop_zero, Nat.sub_zero, List.take_length] at q
      exact q
    · exact hQ _ _ (.new hp) (.tup (SqT.of (hide_at l (.of hp) rfl)) ((a1.cut lo hi).kp ((Ext.new (T := T) hp).kp.hide S)))
/-! ### built-ins -/
abbrev rLenA (K : PySem.W.Frag) : List V → Hp → VK → Prop := fun xs H Q => ∃ x n, xs = [x] ∧ LenV K x H n ∧ Q (.int n) H
theorem rc_lenL {ds : List PyData} : RC K T (rLenA K) [.list ds] (.int ds.length) := fun H S vs l dv Q hQ => by
  cases dv with
  | cons d1 d2 =>
    cases d2
    cases d1 with
    | lst h1 a1 => exact ⟨_, ds.length, rfl, .inl ⟨_, SqL.of (hide_get h1), a1.len.symm⟩, hQ _ H (.refl T H) (.int _)⟩
theorem rc_lenT {ds : List PyData} : RC K T (rLenA K) [.tuple ds] (.int ds.length) := fun H S vs l dv Q hQ => by
  cases dv with
  | cons d1 d2 =>
    cases d2
    cases d1 with
    | tup h1 a1 => exact ⟨_, ds.length, rfl, .inr ⟨_, sqt_hide h1, a1.len.symm⟩, hQ _ H (.refl T H) (.int _)⟩
theorem rc_lenS {a : Str} (hl : a.length ≤ 1000000) : RC K T (rLenA K) [.str a] (.int a.length) := fun H S vs l dv Q hQ => by
  cases dv with
  | cons d1 d2 =>
    cases d2
    cases d1
    exact ⟨_, a.length, rfl, ⟨Nat.le_trans hl (by decide), rfl⟩, hQ _ H (.refl T H) (.int _)⟩
abbrev rAbsA : List V → Hp → VK → Prop := fun xs H Q => ∃ i, xs = [.int i] ∧ Q (.int (if i < 0 then -i else i)) H
theorem rc_abs : RC K T rAbsA [.int i] (.int (if i < 0 then -i else i)) := fun H S vs l dv Q hQ => by
  cases dv with
  | cons d1 d2 => cases d2; cases d1; exact ⟨i, rfl, hQ _ H (.refl T H) (.int _)⟩
abbrev rIntA : List V → Hp → VK → Prop := fun xs H Q => (∃ i, xs = [.int i] ∧ Q (.int i) H) ∨ ∃ k, xs = [.bl k] ∧ Q (.int (if k then 1 else 0)) H
theorem rc_intB {k : Bool} : RC K T rIntA [.bool k] (.int (if k then 1 else 0)) := fun H S vs l dv Q hQ => by
  cases dv with
  | cons d1 d2 => cases d2; cases d1; exact .inr ⟨k, rfl, hQ _ H (.refl T H) (.int _)⟩
theorem rc_intI : RC K T rIntA [.int i] (.int i) := fun H S vs l dv Q hQ => by
  cases dv with
  | cons d1 d2 => cases d2; cases d1; exact .inl ⟨i, rfl, hQ _ H (.refl T H) (.int _)⟩
abbrev rListA (K : PySem.W.Frag) : List V → Hp → VK → Prop := fun xs H Q => ∃ p ys, xs = [.ref p] ∧ (SqL K H p ys ∨ SqT K H p ys) ∧ ∀ l, H l = none → Q (.ref l) (upd H l (.lst ys))
theorem rf_listL {ds : List PyData} : RCF K T (rListA K) [.list ds] ds := fun H S vs l dv Q hQ => by
  cases dv with
  | cons d1 d2 =>
    cases d2
    cases d1 with
    | lst h1 a1 =>
      refine ⟨_, _, rfl, .inl (SqL.of (hide_get h1)), fun p hp => hQ p _ _ (.new hp) (.of hp) upd_same ?_⟩
      rw [hide_new (.of hp)]
      exact a1
theorem rf_listT {ds : List PyData} : RCF K T (rListA K) [.tuple ds] ds := fun H S vs l dv Q hQ => by
  cases dv with
  | cons d1 d2 =>
    cases d2
    cases d1 with
    | tup h1 a1 =>
      refine ⟨_, _, rfl, .inr (sqt_hide h1), fun p hp => hQ p _ _ (.new hp) (.of hp) upd_same ?_⟩
      rw [hide_new (.of hp)]
      exact a1
abbrev rTupleA (K : PySem.W.Frag) : List V → Hp → VK → Prop := fun xs H Q => ∃ p ys, xs = [.ref p] ∧ ((SqL K H p ys ∧ ∀ l, H l = none → Q (.ref l) (upd H l (.tup ys))) ∨ (SqT K H p ys ∧ Q (.ref p) H))
theorem rc_tupleL {ds : List PyData} : RC K T (rTupleA K) [.list ds] (.tuple ds) := fun H S vs l dv Q hQ => by
  cases dv with
  | cons d1 d2 =>
    cases d2
    cases d1 with
    | lst h1 a1 => exact ⟨_, _, rfl, .inl ⟨SqL.of (hide_get h1), fun p hp => hQ _ _ (.new hp) (.tup (SqT.of (hide_at l (.of hp) rfl)) (a1.kp ((Ext.new (T := T) hp).kp.hide S)))⟩⟩
theorem rc_tupleT {ds : List PyData} : RC K T (rTupleA K) [.tuple ds] (.tuple ds) := fun H S vs l dv Q hQ => by
  cases dv with
  | cons d1 d2 =>
    cases d2
    cases d1 with
    | tup h1 a1 => exact ⟨_, _, rfl, .inr ⟨sqt_hide h1, hQ _ H (.refl T H) (.tup h1 a1)⟩⟩
theorem rc_all {bs : List Bool} : RC K T (rAll K) [.list (bs.map PyData.bool)] (.bool (bs.all id)) := fun H S vs l dv Q hQ => by
  cases dv with
  | cons d1 d2 =>
    cases d2
    cases d1 with
    | lst h1 a1 =>
      have e := a1.bls_inv
      subst e
      exact ⟨_, bs, rfl, SqL.of (hide_get h1), hQ _ H (.refl T H) (.bl _)⟩
theorem rc_any {bs : List Bool} : RC K T (rAny K) [.list (bs.map PyData.bool)] (.bool (bs.any id)) := fun H S vs l dv Q hQ => by
  cases dv with
  | cons d1 d2 =>
    cases d2
    cases d1 with
    | lst h1 a1 =>
      have e := a1.bls_inv
      subst e
      exact ⟨_, bs, rfl, SqL.of (hide_get h1), hQ _ H (.refl T H) (.bl _)⟩
end
end Lw

set_option Elab.async false
set_option linter.all false
set_option maxRecDepth 100000
set_option maxHeartbeats 4000000
set_option autoImplicit false
/-! Lw, part C: statements, loops, comprehensions, defs. -/
namespace Lw
open PySem L2
section
variable {K : PySem.W.Frag} {T : Tb} {H0 B : Hp} {C : List Addr} {H H' : Hp} {S : List Addr} {σ : St} {ρ : List Slot}
theorem set_get {α : Type} {l : List α} {i : Nat} {a b : α} (h : (l.set i a)[i]? = some b) : a = b := by
  have hl : i < l.length := by
    have := (List.getElem?_eq_some_iff.mp h).1
    rwa [List.length_set] at this
  rw [List.getElem?_set_self hl] at h
  exact Option.some.inj h
theorem Gd.lt (g : Gd K T H0 B C H S σ ρ) {i : Nat} {s : Slot} (h : ρ[i]? = some s) : i < σ.length := by
  rw [g.len]
  exact (List.getElem?_eq_some_iff.mp h).1
theorem seen_new {H2 : Hp} {p : Addr} (e : Kp H H2) (hp : Fresh H p) : Kp (hide H S) (hide H2 (p :: S)) := fun b o h n => by
  obtain ⟨h1, h2, h3⟩ := hide_some.mp h
  refine hide_some.mpr ⟨fun z => ?_, e b o h2 h3, h3⟩
  rcases List.mem_cons.mp z with z | z
  · subst z
    rw [hp o h2] at h3
    cases h3
  · exact h1 z
theorem Gd.bnone (g : Gd K T H0 B C H S σ ρ) {p : Addr} (hp : Fresh H p) : B p = none := by
  cases e : B p with
  | none => rfl
  | some o =>
    have q := (hp.back g.vis) o e
    rw [g.bno p o e] at q
    cases q
/-- a name gets a new list of its own -/
theorem Gd.mineO (g : Gd K T H0 B C H S σ ρ) {i : Nat} {p : Addr} {u : HO} {ds : Ob} (e : Ext T H H') (hp : Fresh H p) (h1 : H' p = some u) (h2 : ObD K (hide H' (p :: S)) u ds) :
    Gd K T H0 B C H' (p :: S) (σ.set i (some (.ref p))) (ρ.set i (.own ds)) where
  ext := g.ext.trans e
  vis := g.vis.trans e.kp
  bno := g.bno
  hid := fun q hq => by
    rcases List.mem_cons.mp hq with z | z
    · subst z; exact g.bnone hp
    · exact g.hid q z
  lst := fun q hq => by
    rcases List.mem_cons.mp hq with z | z
    · subst z; exact ⟨u, h1, h2.mut⟩
    · exact g.lst.kp e.kp q z
  sub := fun c hc => List.mem_cons_of_mem _ (g.sub c hc)
  cl := g.cl
  len := by rw [List.length_set, List.length_set]; exact g.len
  dat := fun j d q => by
    by_cases z : i = j
    · subst z; cases set_get q
    · rw [List.getElem?_set_ne z] at q ⊢
      obtain ⟨v, a, b⟩ := g.dat j d q
      exact ⟨v, a, b.kp (seen_new e.kp hp)⟩
  scr := fun j es q => by
    by_cases z : i = j
    · subst z; cases set_get q
    · rw [List.getElem?_set_ne z] at q ⊢
      obtain ⟨a, ys, h1, h2, h3⟩ := g.scr j es q
      exact ⟨a, ys, h1, (seen_new e.kp hp).sql h2, h3.kp (seen_new e.kp hp)⟩
  raw := fun j v q => by
    by_cases z : i = j
    · subst z; cases set_get q
    · rw [List.getElem?_set_ne z] at q ⊢
      exact g.raw j v q
  own := fun j es q => by
    by_cases z : i = j
    · subst z
      have hl : i < σ.length := by
        rw [g.len]
        have := (List.getElem?_eq_some_iff.mp q).1
        rwa [List.length_set] at this
      cases set_get q
      exact ⟨p, u, List.getElem?_set_self hl, List.mem_cons_self .., hp.back g.ext.kp, h1, h2⟩
    · rw [List.getElem?_set_ne z] at q ⊢
      obtain ⟨q', ys, a, b, c, d, f⟩ := g.own j es q
      exact ⟨q', ys, a, List.mem_cons_of_mem _ b, c, e.kp q' _ d f.nt, f.kp (seen_new e.kp hp)⟩
  sep := fun a b ds' es q ha hb sa sb => by
    have key : ∀ (j : Nat) (es : Ob), i ≠ j → (ρ.set i (.own ds))[j]? = some (.own es) → (σ.set i (some (.ref p)))[j]? = some (some (.ref p)) → False := fun j es z qa qs => by
      rw [List.getElem?_set_ne z] at qa qs
      obtain ⟨q', ys, a, b, c, d, f⟩ := g.own j es qa
      rw [qs] at a
      cases a
      exact Bool.false_ne_true (f.nt.symm.trans (hp _ d))
    by_cases za : i = a
    · by_cases zb : i = b
      · exact za.symm.trans zb
      · subst za
        have := set_get sa
        cases this
        exact (key b es zb hb sb).elim
    · by_cases zb : i = b
      · subst zb
        have := set_get sb
        cases this
        exact (key a ds' za ha sa).elim
      · rw [List.getElem?_set_ne za] at ha sa
        rw [List.getElem?_set_ne zb] at hb sb
        exact g.sep a b ds' es q ha hb sa sb
theorem Gd.mine (g : Gd K T H0 B C H S σ ρ) {i : Nat} {p : Addr} {xs : List V} {ds : List PyData} (e : Ext T H H') (hp : Fresh H p) (h1 : H' p = some (.lst xs)) (h2 : DtAll K (hide H' (p :: S)) xs ds) :
    Gd K T H0 B C H' (p :: S) (σ.set i (some (.ref p))) (ρ.set i (.own (.lst ds))) := g.mineO e hp h1 (.lst h2)
/-- an owned object is rewritten -/
theorem Gd.writeO (g : Gd K T H0 B C H S σ ρ) {i : Nat} {p : Addr} {u u' : HO} {ds es : Ob} (h : ρ[i]? = some (.own ds)) (hs : σ[i]? = some (some (.ref p))) (hp : H p = some u) (hd : ObD K (hide H S) u' es) :
    Gd K T H0 B C (upd H p u') S σ (ρ.set i (.own es)) := by
  obtain ⟨p', xs', a1, a2, a3, a4, a5⟩ := g.own i ds h
  rw [hs] at a1
  cases a1
  rw [hp] at a4
  cases a4
  have eh : hide (upd H p u') S = hide H S := hide_upd a2
  have keep : ∀ b o, H b = some o → b ≠ p → (upd H p u') b = some o := fun b o e z => by rw [upd_ne z]; exact e
  exact {
    ext := ⟨fun b o e n => keep b o (g.ext.kp b o e n) (fun z => by subst z; rw [a3 o e] at n; cases n), fun t => tabs_mut hp a5.mut (g.ext.tb t)⟩
    vis := fun b o e n => keep b o (g.vis b o e n) (fun z => by subst z; rw [g.hid _ a2] at e; cases e)
    bno := g.bno
    hid := g.hid
    lst := fun q hq => by
      by_cases z : q = p
      · subst z; exact ⟨u', upd_same, hd.mut⟩
      · obtain ⟨zs, e, m⟩ := g.lst q hq
        exact ⟨zs, keep q _ e z, m⟩
    sub := g.sub
    cl := g.cl
    len := by rw [List.length_set]; exact g.len
    dat := fun j d q => by
      rw [eh]
      by_cases z : i = j
      · subst z; cases set_get q
      · rw [List.getElem?_set_ne z] at q
        exact g.dat j d q
    scr := fun j d q => by
      rw [eh]
      by_cases z : i = j
      · subst z; cases set_get q
      · rw [List.getElem?_set_ne z] at q
        exact g.scr j d q
    raw := fun j v q => by
      by_cases z : i = j
      · subst z; cases set_get q
      · rw [List.getElem?_set_ne z] at q
        exact g.raw j v q
    own := fun j fs q => by
      rw [eh]
      by_cases z : i = j
      · subst z
        cases set_get q
        exact ⟨p, u', hs, a2, a3, upd_same, hd⟩
      · rw [List.getElem?_set_ne z] at q
        obtain ⟨q', zs, b1, b2, b3, b4, b5⟩ := g.own j fs q
        refine ⟨q', zs, b1, b2, b3, keep q' _ b4 (fun w => ?_), b5⟩
        subst w
        exact z (g.sep i j ds fs _ h q hs b1)
    sep := fun a b fs gs q ha hb sa sb => by
      have back : ∀ (j : Nat) (fs : Ob), (ρ.set i (.own es))[j]? = some (.own fs) → ∃ fs', ρ[j]? = some (.own fs') := fun j fs q => by
        by_cases z : i = j
        · subst z; exact ⟨ds, h⟩
        · rw [List.getElem?_set_ne z] at q
          exact ⟨fs, q⟩
      obtain ⟨f1, q1⟩ := back a fs ha
      obtain ⟨f2, q2⟩ := back b gs hb
      exact g.sep a b f1 f2 q q1 q2 sa sb }
theorem Gd.write (g : Gd K T H0 B C H S σ ρ) {i : Nat} {p : Addr} {xs ys : List V} {ds es : List PyData} (h : ρ[i]? = some (.own (.lst ds))) (hs : σ[i]? = some (some (.ref p))) (hp : H p = some (.lst xs)) (hd : DtAll K (hide H S) ys es) :
    Gd K T H0 B C (upd H p (.lst ys)) S σ (ρ.set i (.own (.lst es))) := g.writeO h hs hp (.lst hd)
/-- an owned list is given out: data from now on -/
theorem Gd.freeze (g : Gd K T H0 B C H S σ ρ) {i : Nat} {ds : List PyData} (h : ρ[i]? = some (.own (.lst ds))) : ∃ S', Gd K T H0 B C H S' σ (ρ.set i (.dat (.list ds))) := by
  obtain ⟨p, u, a1, a2, a3, a4, a5⟩ := g.own i _ h
  cases a5 with | lst a5 =>
  have hm : ∀ q, q ∈ S.filter (fun q => decide (q ≠ p)) ↔ q ∈ S ∧ q ≠ p := fun q => by
    rw [List.mem_filter]
    constructor
    · rintro ⟨x, y⟩; exact ⟨x, of_decide_eq_true y⟩
    · rintro ⟨x, y⟩; exact ⟨x, decide_eq_true y⟩
  have hk : Kp (hide H S) (hide H (S.filter fun q => decide (q ≠ p))) := hide_sub fun q hq => ((hm q).mp hq).1
  refine ⟨S.filter fun q => decide (q ≠ p), ?_⟩
  exact {
    ext := g.ext
    vis := g.vis
    bno := g.bno
    hid := fun q hq => g.hid q ((hm q).mp hq).1
    lst := fun q hq => g.lst q ((hm q).mp hq).1
    sub := fun c hc => (hm c).mpr ⟨g.sub c hc, fun z => by
      subst z
      obtain ⟨ys, e, m⟩ := g.cl.1 _ hc
      exact Bool.false_ne_true ((mutO.nt m).symm.trans (a3 _ e))⟩
    cl := g.cl
    len := by rw [List.length_set]; exact g.len
    dat := fun j d q => by
      by_cases z : i = j
      · subst z
        cases set_get q
        exact ⟨.ref p, a1, .lst (hide_some.mpr ⟨fun w => ((hm p).mp w).2 rfl, a4, rfl⟩) (a5.kp hk)⟩
      · rw [List.getElem?_set_ne z] at q
        obtain ⟨v, b1, b2⟩ := g.dat j d q
        exact ⟨v, b1, b2.kp hk⟩
    scr := fun j d q => by
      by_cases z : i = j
      · subst z; cases set_get q
      · rw [List.getElem?_set_ne z] at q
        obtain ⟨a, ys, h1, h2, h3⟩ := g.scr j d q
        exact ⟨a, ys, h1, hk.sql h2, h3.kp hk⟩
    raw := fun j v q => by
      by_cases z : i = j
      · subst z; cases set_get q
      · rw [List.getElem?_set_ne z] at q
        exact g.raw j v q
    own := fun j fs q => by
      by_cases z : i = j
      · subst z; cases set_get q
      · rw [List.getElem?_set_ne z] at q
        obtain ⟨q', zs, b1, b2, b3, b4, b5⟩ := g.own j fs q
        refine ⟨q', zs, b1, (hm q').mpr ⟨b2, fun w => ?_⟩, b3, b4, b5.kp hk⟩
        subst w
        exact z (g.sep i j _ fs _ h q a1 b1)
    sep := fun a b fs gs q ha hb sa sb => by
      have za : i ≠ a := fun z => by subst z; cases set_get ha
      have zb : i ≠ b := fun z => by subst z; cases set_get hb
      rw [List.getElem?_set_ne za] at ha
      rw [List.getElem?_set_ne zb] at hb
      exact g.sep a b fs gs q ha hb sa sb }
/-- another base of what is seen for good -/
theorem Gd.rebase (g : Gd K T H0 B C H S σ ρ) : Gd K T H0 (hide H S) C H S σ ρ where
  ext := g.ext
  vis := hide_kp H S
  bno := fun b o h => (hide_some.mp h).2.2
  hid := fun p hp => hide_mem hp
  lst := g.lst
  sub := g.sub
  cl := g.cl
  len := g.len
  dat := g.dat
  scr := g.scr
  raw := g.raw
  own := g.own
  sep := g.sep
theorem Gd.unbase {B' : Hp} (g : Gd K T H0 B' C H S σ ρ) (e : Kp B B') (hb : ∀ b o, B b = some o → isTbl o = false) : Gd K T H0 B C H S σ ρ where
  ext := g.ext
  vis := e.trans g.vis
  bno := hb
  hid := fun p hp => by
    cases q : B p with
    | none => rfl
    | some o =>
      have w := e p o q (hb p o q)
      rw [g.hid p hp] at w
      cases w
  lst := g.lst
  sub := g.sub
  cl := g.cl
  len := g.len
  dat := g.dat
  scr := g.scr
  raw := g.raw
  own := g.own
  sep := g.sep
end

/-! ### statements -/
def Tri (K : PySem.W.Frag) (T : Tb) (H0 B : Hp) (C : List Addr) (ρ : List Slot) (ts : TS) (D : Ends) : Prop := ∀ σ H, Good K T H0 B C ρ σ H → ts D σ H
/-- what may be returned -/
def Rt (K : PySem.W.Frag) (T : Tb) (H0 : Hp) (C : List Addr) (rt : VK) (d : PyData) : Prop := ∀ v H', Ext T H0 H' → Dt K (hide H' C) v d → rt v H'
section
variable {K : PySem.W.Frag} {T : Tb} {H0 B : Hp} {C : List Addr} {ρ : List Slot} {te ta tb : TE} {t : TT} {tu tw tz ts : TS} {D : Ends} {d : PyData} {i : Nat}
theorem s_seq (h : Tri K T H0 B C ρ tu { D with nx := tz D }) : Tri K T H0 B C ρ (tSeq tu tz) D := h
theorem s_to (h : Tri K T H0 B C ρ tz D) : Tri K T H0 B C ρ tNext { D with nx := tz D } := h
theorem s_asg (h : Ev K T te ρ d) (k : Tri K T H0 B C (ρ.set i (.dat d)) tNext D) : Tri K T H0 B C ρ (tAsg te (gName i)) D := fun σ H ⟨S, g⟩ =>
  h H0 B C H S σ g _ fun v H2 e dv => k _ _ ⟨S, (g.ex e).set dv⟩
theorem q_asg (h : Ev K T te ρ d) (k : Tri K T H0 B C (ρ.set i (.dat d)) tz D) : Tri K T H0 B C ρ (tSeq (tAsg te (gName i)) tz) D := s_seq (s_asg h (s_to k))
theorem s_own {ds : List PyData} (h : EvF K T te ρ ds) (k : Tri K T H0 B C (ρ.set i (.own (.lst ds))) tNext D) : Tri K T H0 B C ρ (tAsg te (gName i)) D := fun σ H ⟨S, g⟩ =>
  h H0 B C H S σ g _ fun p xs H2 e hp h1 h2 => k _ _ ⟨p :: S, g.mine e hp h1 h2⟩
theorem q_own {ds : List PyData} (h : EvF K T te ρ ds) (k : Tri K T H0 B C (ρ.set i (.own (.lst ds))) tz D) : Tri K T H0 B C ρ (tSeq (tAsg te (gName i)) tz) D := s_seq (s_own h (s_to k))
theorem s_ret (h : Ev K T te ρ d) (k : Rt K T H0 C D.rt d) : Tri K T H0 B C ρ (tRet te) D := fun σ H ⟨S, g⟩ =>
  h H0 B C H S σ g _ fun v H2 e dv => k v H2 (g.ext.trans e) (dv.kp (hide_sub g.sub))
theorem s_retN (k : Rt K T H0 C D.rt .none) : Tri K T H0 B C ρ tRetN D := fun σ H ⟨S, g⟩ => k .non H g.ext .non
theorem s_if {b : Bool} (h : EvT K T t ρ b) (h1 : b = true → Tri K T H0 B C ρ tu D) (h2 : b = false → Tri K T H0 B C ρ tw D) : Tri K T H0 B C ρ (tIfS t tu tw) D := fun σ H ⟨S, g⟩ =>
  h H0 B C H S σ g _ fun H2 e => by
    cases b with
    | true => exact iteT (h1 rfl σ H2 ⟨S, g.ex e⟩)
    | false => exact iteF (h2 rfl σ H2 ⟨S, g.ex e⟩)
theorem q_if {b : Bool} (h : EvT K T t ρ b) (h1 : b = true → Tri K T H0 B C ρ tu { D with nx := tz D }) (h2 : b = false → Tri K T H0 B C ρ tw { D with nx := tz D }) : Tri K T H0 B C ρ (tSeq (tIfS t tu tw) tz) D := s_seq (s_if h h1 h2)
/-- an if without else -/
theorem q_when {b : Bool} (h : EvT K T t ρ b) (h1 : b = true → Tri K T H0 B C ρ tu { D with nx := tz D }) (h2 : b = false → Tri K T H0 B C ρ tz D) : Tri K T H0 B C ρ (tSeq (tIfS t tu tNext) tz) D := s_seq (s_if h h1 fun e => s_to (h2 e))
/-- known ways -/
theorem q_ifT (h : EvT K T t ρ true) (h1 : Tri K T H0 B C ρ tu { D with nx := tz D }) : Tri K T H0 B C ρ (tSeq (tIfS t tu tw) tz) D := s_seq (s_if h (fun _ => h1) (fun z => by cases z))
theorem q_ifF (h : EvT K T t ρ false) (h1 : Tri K T H0 B C ρ tz D) : Tri K T H0 B C ρ (tSeq (tIfS t tu tNext) tz) D := s_seq (s_if h (fun z => by cases z) (fun _ => s_to h1))
theorem s_ifT (h : EvT K T t ρ true) (h1 : Tri K T H0 B C ρ tu D) : Tri K T H0 B C ρ (tIfS t tu tw) D := s_if h (fun _ => h1) (fun z => by cases z)
theorem s_ifF (h : EvT K T t ρ false) (h1 : Tri K T H0 B C ρ tw D) : Tri K T H0 B C ρ (tIfS t tu tw) D := s_if h (fun z => by cases z) (fun _ => h1)
theorem s_drop (h : Ev K T te ρ d) (k : Tri K T H0 B C ρ tNext D) : Tri K T H0 B C ρ (tDrop te) D := fun σ H ⟨S, g⟩ => h H0 B C H S σ g _ fun v H2 e dv => k _ _ ⟨S, g.ex e⟩
theorem q_drop (h : Ev K T te ρ d) (k : Tri K T H0 B C ρ tz D) : Tri K T H0 B C ρ (tSeq (tDrop te) tz) D := s_seq (s_drop h (s_to k))
theorem s_weak {ρ' : List Slot} (l : Le ρ' ρ) (k : Tri K T H0 B C ρ' ts D) : Tri K T H0 B C ρ ts D := fun σ H g => k σ H (g.weak l)
theorem s_freeze {ds : List PyData} (h : ρ[i]? = some (.own (.lst ds))) (k : Tri K T H0 B C (ρ.set i (.dat (.list ds))) ts D) : Tri K T H0 B C ρ ts D := fun σ H ⟨S, g⟩ => k σ H (g.freeze h)
/-- xs.append(e), xs owned -/
theorem s_app {ds : List PyData} (h : ρ[i]? = some (.own (.lst ds))) (he : Ev K T te ρ d) (hl : ds.length < 1000000) (k : Tri K T H0 B C (ρ.set i (.own (.lst (ds ++ [d])))) tNext D) :
    Tri K T H0 B C ρ (tDrop (tBM K "list" rAppend (tVar i) (tCons te tNil))) D := fun σ H ⟨S, g⟩ => by
  obtain ⟨p, u, a1, a2, a3, a4, a5⟩ := g.own i _ h
  cases a5 with | @lst xs _ a5 =>
  refine ⟨.ref p, a1, .inl ⟨rfl, xs, SqL.of a4⟩, ?_⟩
  refine he H0 B C H S σ g _ fun v H2 e dv => ?_
  have g2 := g.ex e
  have h2 : H2 p = some (.lst xs) := e.kp p _ a4 rfl
  refine ⟨p, xs, v, rfl, rfl, h2, by rw [a5.len]; exact Nat.lt_trans hl (by decide), ?_⟩
  exact k _ _ ⟨S, g2.write h a1 h2 ((a5.kp (e.kp.hide S)).app (.cons dv .nil))⟩
theorem q_app {ds : List PyData} (h : ρ[i]? = some (.own (.lst ds))) (he : Ev K T te ρ d) (hl : ds.length < 1000000) (k : Tri K T H0 B C (ρ.set i (.own (.lst (ds ++ [d])))) tz D) :
    Tri K T H0 B C ρ (tSeq (tDrop (tBM K "list" rAppend (tVar i) (tCons te tNil))) tz) D := s_seq (s_app h he hl (s_to k))
/-- xs[j] = e, xs owned -/
theorem s_put {ds : List PyData} {j : Int} {n : Nat} (h : ρ[i]? = some (.own (.lst ds))) (he : Ev K T te ρ d) (hj : Ev K T tb ρ (.int j)) (hn : ixN ds.length j = some n) (k : Tri K T H0 B C (ρ.set i (.own (.lst (ds.set n d)))) tNext D) :
    Tri K T H0 B C ρ (tAsg te (gSub (tVar i) tb rSetL)) D := fun σ H ⟨S, g⟩ => by
  obtain ⟨p, u, a1, a2, a3, a4, a5⟩ := g.own i _ h
  cases a5 with | @lst xs _ a5 =>
  refine he H0 B C H S σ g _ fun v H2 e dv => ?_
  refine ⟨.ref p, a1, ?_⟩
  refine hj H0 B C H2 S σ (g.ex e) _ fun w H3 e3 dw => ?_
  cases dw
  have e13 := e.trans e3
  have h3 : H3 p = some (.lst xs) := e13.kp p _ a4 rfl
  refine ⟨p, xs, j, n, rfl, rfl, h3, by rw [a5.len]; exact hn, ?_⟩
  exact k _ _ ⟨S, (g.ex e13).write h a1 h3 ((a5.kp (e13.kp.hide S)).set n (dv.kp (e3.kp.hide S)))⟩
theorem q_put {ds : List PyData} {j : Int} {n : Nat} (h : ρ[i]? = some (.own (.lst ds))) (he : Ev K T te ρ d) (hj : Ev K T tb ρ (.int j)) (hn : ixN ds.length j = some n) (k : Tri K T H0 B C (ρ.set i (.own (.lst (ds.set n d)))) tz D) :
    Tri K T H0 B C ρ (tSeq (tAsg te (gSub (tVar i) tb rSetL)) tz) D := s_seq (s_put h he hj hn (s_to k))
/-- a, b = x, y of plain names -/
theorem s_par {j : Nat} {tr : TA} {d1 d2 : PyData} (h : EvA K T tr ρ [d1, d2]) (k : Tri K T H0 B C ((ρ.set i (.dat d1)).set j (.dat d2)) tNext D) : Tri K T H0 B C ρ (tPar i j tr) D := fun σ H ⟨S, g⟩ =>
  h H0 B C H S σ g _ fun vs H2 e dv => by
    cases dv with
    | cons b1 b2 =>
      cases b2 with
      | cons b2 b3 =>
        cases b3
        exact ⟨_, _, rfl, k _ _ ⟨S, ((g.ex e).set b1).set b2⟩⟩
theorem q_par {j : Nat} {tr : TA} {d1 d2 : PyData} (h : EvA K T tr ρ [d1, d2]) (k : Tri K T H0 B C ((ρ.set i (.dat d1)).set j (.dat d2)) tz D) : Tri K T H0 B C ρ (tSeq (tPar i j tr) tz) D := s_seq (s_par h (s_to k))
/-- while, by a word of the slots and a measure -/
theorem s_while (I : Nat → List Slot → Prop) (m0 : Nat) (h0 : I m0 ρ)
    (hs : ∀ m ρ', I m ρ' → ∃ b, EvT K T t ρ' b ∧ (b = true → Tri K T H0 B C ρ' tu { D with nx := fun σ H => ∃ m' ρ2, m' < m ∧ I m' ρ2 ∧ Good K T H0 B C ρ2 σ H, ct := fun σ H => ∃ m' ρ2, m' < m ∧ I m' ρ2 ∧ Good K T H0 B C ρ2 σ H, bk := D.nx }) ∧ (b = false → Tri K T H0 B C ρ' tNext D)) :
    Tri K T H0 B C ρ (tWhile t tu) D := fun σ H g => by
  refine ⟨fun m σ H => ∃ ρ', I m ρ' ∧ Good K T H0 B C ρ' σ H, ⟨m0, ρ, h0, g⟩, ?_⟩
  rintro m σ H ⟨ρ', hI, S, g⟩
  obtain ⟨b, hb, h1, h2⟩ := hs m ρ' hI
  refine hb H0 B C H S σ g _ fun H2 e => ?_
  cases b with
  | true => exact iteT ⟨_, fun σ' H' ⟨m', ρ2, lt, i2, g2⟩ => ⟨m', lt, ρ2, i2, g2⟩, h1 rfl σ H2 ⟨S, g.ex e⟩⟩
  | false => exact iteF (h2 rfl σ H2 ⟨S, g.ex e⟩)
theorem q_while (I : Nat → List Slot → Prop) (m0 : Nat) (h0 : I m0 ρ)
    (hs : ∀ m ρ', I m ρ' → ∃ b, EvT K T t ρ' b ∧ (b = true → Tri K T H0 B C ρ' tu { D with nx := fun σ H => ∃ m' ρ2, m' < m ∧ I m' ρ2 ∧ Good K T H0 B C ρ2 σ H, ct := fun σ H => ∃ m' ρ2, m' < m ∧ I m' ρ2 ∧ Good K T H0 B C ρ2 σ H, bk := tz D }) ∧ (b = false → Tri K T H0 B C ρ' tz D)) :
    Tri K T H0 B C ρ (tSeq (tWhile t tu) tz) D := s_seq (s_while (D := { D with nx := tz D }) I m0 h0 hs)
end

/-! ### what is walked -/
section
variable (K : PySem.W.Frag) (T : Tb)
/-- the iterator gives these, while what is seen in B stays -/
def Feeds (J : It) (B : Hp) (items : List PyData) : Prop := ∀ (i : Nat) (H : Hp) (S : List Addr), Kp B (hide H S) → Lsts H S →
  (∀ d, items[i]? = some d → J.go i H ∧ ∀ x H2, J.yld i H x H2 → Ext T H H2 ∧ Dt K (hide H2 S) x d) ∧ (items.length ≤ i → J.stop i H)
def IterD (wi : TI) (ρ : List Slot) (items : List PyData) : Prop := ∀ (H0 B : Hp) (C : List Addr) (H : Hp) (S : List Addr) (σ : St), Gd K T H0 B C H S σ ρ →
  ∀ R : It → Hp → Prop, (∀ J H2, Ext T H H2 → Feeds K T J (hide H2 S) items → R J H2) → wi σ H R
/-- a target that takes d: js the slots it fills -/
def TgD (g : TG) (d : PyData) (js : List Nat) (f : List Slot → List Slot) : Prop := ∀ (H0 B : Hp) (C : List Addr) (H : Hp) (S : List Addr) (σ : St) (ρ : List Slot) (v : V), Gd K T H0 B C H S σ ρ → Dt K (hide H S) v d →
  ∀ Q : St → Hp → Prop, (∀ σ', Gd K T H0 B C H S σ' (f ρ) → (∀ vs : List Nat, (∀ j ∈ js, j ∈ vs) → wipe σ' vs = wipe σ vs) → Q σ' H) → g v σ H Q
def TgDs (g : TGs) (ds : List PyData) (js : List Nat) (f : List Slot → List Slot) : Prop := ∀ (H0 B : Hp) (C : List Addr) (H : Hp) (S : List Addr) (σ : St) (ρ : List Slot) (vs : List V), Gd K T H0 B C H S σ ρ → DtAll K (hide H S) vs ds →
  ∀ Q : St → Hp → Prop, (∀ σ', Gd K T H0 B C H S σ' (f ρ) → (∀ vs : List Nat, (∀ j ∈ js, j ∈ vs) → wipe σ' vs = wipe σ vs) → Q σ' H) → g vs σ H Q
end
theorem wipe_set {σ : St} {j : Nat} {o : Option V} : ∀ {vs : List Nat}, j ∈ vs → wipe (σ.set j o) vs = wipe σ vs
  | v :: vs, h => by
    show (wipe (σ.set j o) vs).set v none = (wipe σ vs).set v none
    by_cases m : j ∈ vs
    · rw [wipe_set m]
    · have e : j = v := by
        rcases List.mem_cons.mp h with z | z
        · exact z
        · exact (m z).elim
      subst e
      have key : ∀ ws : List Nat, j ∉ ws → wipe (σ.set j o) ws = (wipe σ ws).set j o := fun ws => by
        induction ws with
        | nil => intro _; rfl
        | cons w ws ih =>
          intro hn
          show (wipe (σ.set j o) ws).set w none = ((wipe σ ws).set w none).set j o
          rw [ih (fun z => hn (List.mem_cons_of_mem _ z))]
          exact List.set_comm _ _ (fun z => hn (z ▸ List.mem_cons_self ..))
      rw [key vs m, List.set_set]
section
variable {K : PySem.W.Frag} {T : Tb} {ρ : List Slot} {te ta tb : TE} {d : PyData} {i : Nat}
theorem tg_name : TgD K T (gName i) d [i] (fun ρ => ρ.set i (.dat d)) := fun H0 B C H S σ ρ v g dv Q hQ =>
  hQ _ (g.set dv) fun vs hv => wipe_set (hv i (List.mem_cons_self ..))
theorem tgs_nil : TgDs K T gNil [] [] (fun ρ => ρ) := fun H0 B C H S σ ρ vs g dv Q hQ => by
  cases dv
  exact ⟨rfl, hQ σ g fun vs hv => rfl⟩
theorem tgs_cons {t : TG} {u : TGs} {ds : List PyData} {js ks : List Nat} {f h : List Slot → List Slot} (h1 : TgD K T t d js f) (h2 : TgDs K T u ds ks h) : TgDs K T (gCons t u) (d :: ds) (js ++ ks) (fun ρ => h (f ρ)) := fun H0 B C H S σ ρ vs g dv Q hQ => by
  cases dv with
  | cons b1 b2 =>
    refine ⟨_, _, rfl, h1 H0 B C H S σ ρ _ g b1 _ fun σ' g' w' => ?_⟩
    refine h2 H0 B C H S σ' _ _ g' b2 _ fun σ2 g2 w2 => hQ σ2 g2 fun vs hv => ?_
    rw [w2 vs fun j hj => hv j (List.mem_append_right _ hj), w' vs fun j hj => hv j (List.mem_append_left _ hj)]
theorem tg_tup {u : TGs} {ds : List PyData} {js : List Nat} {f : List Slot → List Slot} {n : Nat} (h : TgDs K T u ds js f) (hn : ds.length = n) : TgD K T (gTup K n u) (.tuple ds) js f := fun H0 B C H S σ ρ v g dv Q hQ => by
  cases dv with
  | tup h1 a1 => exact ⟨_, _, rfl, sqt_hide h1, a1.len.trans hn, h H0 B C H S σ ρ _ g a1 Q hQ⟩
/-- a list, a tuple -/
def iSeq (K : PySem.W.Frag) (tl : TE) : TI := fun σ H R => tl σ H fun x H1 => ∃ a, x = .ref a ∧ ((∃ xs, SqL K H1 a xs ∧ R (Itl K a) H1) ∨ ∃ xs, SqT K H1 a xs ∧ R (Itt K a) H1)
theorem pi_seq {X : Cx} {tg l : Expr} {tl : TE} (hl : PE X l tl) : PI X tg l (iSeq X.K tl) := by
  refine ⟨fun pins s σ H R I h => ?_⟩
  refine thn (hl.run pins s σ H _ I h) fun v s1 ⟨x, H1, I1, r1, q1⟩ => ?_
  obtain ⟨a, e, q⟩ := q1
  subst e
  cases r1
  rcases q with ⟨xs, hq, q⟩ | ⟨xs, hq, q⟩
  · obtain ⟨its, rv, p, hz⟩ := I1.list hq
    refine wpAny_pyIter_list p.isList ?_
    refine ⟨s1.heap.objs.size, [s1.heap.objs.size], _, _, H1, rfl, I1.kept (t' := s1.toks) fun b o e => Heap.get?_push_of_some _ e, turn_list a _, ⟨_, Heap.get?_push_size _ rfl, rfl, rfl⟩, fun b hb => ?_, q⟩
    have e : b = s1.heap.objs.size := by simpa using hb
    subst e
    exact I1.fpOk (Nat.le_refl _) (I1.hok.fresh (Nat.le_refl _))
  · obtain ⟨its, rv, p, hz⟩ := I1.tuple hq
    refine wpAny_pyIter_tuple (show s1.heap.IsTuple a its.toArray from p) ?_
    refine ⟨s1.heap.objs.size, [s1.heap.objs.size], _, _, H1, rfl, I1.kept (t' := s1.toks) fun b o e => Heap.get?_push_of_some _ e, turn_tuple a _, ⟨_, Heap.get?_push_size _ rfl, rfl, rfl⟩, fun b hb => ?_, q⟩
    have e : b = s1.heap.objs.size := by simpa using hb
    subst e
    exact I1.fpOk (Nat.le_refl _) (I1.hok.fresh (Nat.le_refl _))
theorem it_list {ds : List PyData} (h : Ev K T te ρ (.list ds)) : IterD K T (iSeq K te) ρ ds := fun H0 B C H S σ g R hR => by
  refine h H0 B C H S σ g _ fun v H2 e dv => ?_
  cases dv with
  | lst h1 a1 =>
    refine ⟨_, rfl, .inl ⟨_, SqL.of (hide_get h1), hR _ _ e fun i H' S' k l => ?_⟩⟩
    have hq : SqL K H' _ _ := SqL.of (hide_get (k _ _ h1 rfl))
    refine ⟨fun d hd => ?_, fun hl => ⟨_, hq, by rw [a1.len]; exact hl⟩⟩
    obtain ⟨w, hw, dw⟩ := a1.get hd
    refine ⟨⟨_, w, hq, hw⟩, fun x H3 hy => ?_⟩
    obtain ⟨e3, hy⟩ := hy
    subst e3
    have := hy _ hq
    rw [hw] at this
    cases this
    exact ⟨.refl T _, dw.kp k⟩
theorem it_tup {ds : List PyData} (h : Ev K T te ρ (.tuple ds)) : IterD K T (iSeq K te) ρ ds := fun H0 B C H S σ g R hR => by
  refine h H0 B C H S σ g _ fun v H2 e dv => ?_
  cases dv with
  | tup h1 a1 =>
    refine ⟨_, rfl, .inr ⟨_, sqt_hide h1, hR _ _ e fun i H' S' k l => ?_⟩⟩
    have hq : SqT K H' _ _ := sqt_hide (k.sqt h1)
    refine ⟨fun d hd => ?_, fun hl => ⟨_, hq, by rw [a1.len]; exact hl⟩⟩
    obtain ⟨w, hw, dw⟩ := a1.get hd
    refine ⟨⟨_, w, hq, hw⟩, fun x H3 hy => ?_⟩
    obtain ⟨e3, hy⟩ := hy
    subst e3
    have := hy _ hq
    rw [hw] at this
    cases this
    exact ⟨.refl T _, dw.kp k⟩
/-- lo, lo + 1, .. (n of them) -/
def rgD (lo : Int) (n : Nat) : List PyData := (List.range n).map fun (k : Nat) => PyData.int (lo + k)
theorem rgD_len (lo : Int) (n : Nat) : (rgD lo n).length = n := by unfold rgD; simp
theorem rgD_get {lo : Int} {n i : Nat} {d : PyData} (h : (rgD lo n)[i]? = some d) : i < n ∧ d = .int (lo + i) := by
  unfold rgD at h
  rw [List.getElem?_map] at h
  cases e : (List.range n)[i]? with
  | none => rw [e] at h; cases h
  | some k =>
    rw [e] at h
    obtain ⟨h1, h2⟩ := List.getElem?_eq_some_iff.mp e
    rw [List.getElem_range] at h2
    subst h2
    rw [List.length_range] at h1
    exact ⟨h1, (Option.some.inj h).symm⟩
theorem feeds_range {lo : Int} {n : Nat} {B : Hp} : Feeds K T (Itr lo n) B (rgD lo n) := fun i H S k l => by
  refine ⟨fun d hd => ?_, fun hl => by rw [rgD_len] at hl; exact hl⟩
  obtain ⟨h1, h2⟩ := rgD_get hd
  refine ⟨h1, fun x H2 hy => ?_⟩
  obtain ⟨e, hx⟩ := hy
  subst e; subst hx; subst h2
  exact ⟨.refl T _, .int _⟩
theorem it_range1 {ta : TA} {j : Int} (h : EvA K T ta ρ [.int j]) (h1 : -(2 ^ 62) ≤ j) (h2 : j < 2 ^ 62) : IterD K T (iRng1 ta) ρ (rgD 0 j.toNat) := fun H0 B C H S σ g R hR =>
  h H0 B C H S σ g _ fun vs H2 e dv => by
    cases dv with
    | cons b1 b2 => cases b2; cases b1; exact ⟨j, rfl, h1, h2, hR _ _ e feeds_range⟩
theorem it_range2 {ta : TA} {a j : Int} (h : EvA K T ta ρ [.int a, .int j]) (h1 : -(2 ^ 62) ≤ a ∧ a < 2 ^ 62 ∧ -(2 ^ 62) ≤ j ∧ j < 2 ^ 62) : IterD K T (iRng2 ta) ρ (rgD a (j - a).toNat) := fun H0 B C H S σ g R hR =>
  h H0 B C H S σ g _ fun vs H2 e dv => by
    cases dv with
    | cons b1 b2 =>
      cases b2 with
      | cons b2 b3 => cases b3; cases b1; cases b2; exact ⟨a, j, rfl, h1, hR _ _ e feeds_range⟩
end

/-! ### for -/
section
variable {K : PySem.W.Frag} {T : Tb} {H0 B : Hp} {C : List Addr} {ρ : List Slot} {tb tz : TS} {D : Ends} {wi : TI} {g : TG} {items : List PyData}
/-- what holds between two turns -/
def Nxt (K : PySem.W.Frag) (T : Tb) (H0 B : Hp) (C : List Addr) (I : List Slot → Prop) : St → Hp → Prop := fun σ H => ∃ ρ', I ρ' ∧ Good K T H0 B C ρ' σ H
theorem s_nxt {I : List Slot → Prop} {D : Ends} {ρ' : List Slot} (h : I ρ') (l : Le ρ' ρ) (hD : D.nx = Nxt K T H0 B C I) : Tri K T H0 B C ρ tNext D := fun σ H gd => by
  show D.nx σ H
  rw [hD]
  exact ⟨ρ', h, gd.weak l⟩
theorem s_cont {I : List Slot → Prop} {D : Ends} {ρ' : List Slot} (h : I ρ') (l : Le ρ' ρ) (hD : D.ct = Nxt K T H0 B C I) : Tri K T H0 B C ρ tCont D := fun σ H gd => by
  show D.ct σ H
  rw [hD]
  exact ⟨ρ', h, gd.weak l⟩
theorem s_forG (hi : IterD K T wi ρ items) (I : Nat → List Slot → Prop) (h0 : I 0 ρ)
    (hs : ∀ (B' : Hp) (i : Nat) (d : PyData) (ρi : List Slot), Kp B B' → items[i]? = some d → I i ρi → ∃ js f, TgD K T g d js f ∧ Tri K T H0 B' C (f ρi) tb { D with nx := Nxt K T H0 B' C (I (i + 1)), ct := Nxt K T H0 B' C (I (i + 1)), bk := D.nx })
    (hd : ∀ ρn, I items.length ρn → Tri K T H0 B C ρn tNext D) : Tri K T H0 B C ρ (tFor wi g tb) D := fun σ H ⟨S, gd⟩ => by
  refine hi H0 B C H S σ gd _ fun J H2 e fd => ?_
  have g2 := (gd.ex e)
  have hB : Kp B (hide H2 S) := g2.see
  refine ⟨fun i m σ H => m = items.length - i ∧ i ≤ items.length ∧ Nxt K T H0 (hide H2 S) C (I i) σ H, ⟨items.length, by simp, Nat.zero_le _, ρ, h0, S, g2.rebase⟩, ?_⟩
  rintro i m σ H ⟨rfl, hil, ρi, hI, S', g'⟩
  obtain ⟨f1, f2⟩ := fd i H S' g'.see g'.lst
  by_cases hlt : i < items.length
  · obtain ⟨go, yl⟩ := f1 items[i] (List.getElem?_eq_getElem hlt)
    refine .inr ⟨go, Nxt K T H0 (hide H2 S) C (I (i + 1)), fun σ' H' n => ⟨items.length - (i + 1), by omega, rfl, hlt, n⟩, fun x H' hy => ?_⟩
    obtain ⟨ex, dx⟩ := yl x H' hy
    obtain ⟨js, f, tg, tr⟩ := hs (hide H2 S) i _ ρi hB (List.getElem?_eq_getElem hlt) hI
    exact tg H0 _ C H' S' σ ρi x (g'.ex ex) dx _ fun σ' gf _ => tr σ' H' ⟨S', gf⟩
  · have e1 : i = items.length := by omega
    subst e1
    exact .inl ⟨f2 (Nat.le_refl _), hd ρi hI σ H ⟨S', g'.unbase hB gd.bno⟩⟩
theorem q_forG (hi : IterD K T wi ρ items) (I : Nat → List Slot → Prop) (h0 : I 0 ρ)
    (hs : ∀ (B' : Hp) (i : Nat) (d : PyData) (ρi : List Slot), Kp B B' → items[i]? = some d → I i ρi → ∃ js f, TgD K T g d js f ∧ Tri K T H0 B' C (f ρi) tb { D with nx := Nxt K T H0 B' C (I (i + 1)), ct := Nxt K T H0 B' C (I (i + 1)), bk := tz D })
    (hd : ∀ ρn, I items.length ρn → Tri K T H0 B C ρn tz D) : Tri K T H0 B C ρ (tSeq (tFor wi g tb) tz) D := s_seq (s_forG (D := { D with nx := tz D }) hi I h0 hs hd)
/-- the slots behind i turns are told -/
theorem Le.set {a b : List Slot} (h : Le a b) : ∀ (j : Nat) (s : Slot), Le (a.set j s) (b.set j s) := by
  induction h with
  | nil => intro j s; exact .nil
  | no h ih =>
    intro j s
    cases j with
    | zero => exact .eq h
    | succ j => exact .no (ih j s)
  | eq h ih =>
    intro j s
    cases j with
    | zero => exact .eq h
    | succ j => exact .eq (ih j s)
theorem s_end {D : Ends} {ρ' : List Slot} (hD : D.nx = Nxt K T H0 B C (Le ρ')) (l : Le ρ' ρ) : Tri K T H0 B C ρ tNext D := s_nxt l (Le.refl _) hD
theorem s_endC {D : Ends} {ρ' : List Slot} (hD : D.ct = Nxt K T H0 B C (Le ρ')) (l : Le ρ' ρ) : Tri K T H0 B C ρ tCont D := s_cont l (Le.refl _) hD
theorem s_for {j : Nat} (hi : IterD K T wi ρ items) (R : Nat → List Slot) (h0 : Le (R 0) ρ)
    (hs : ∀ (B' : Hp) (i : Nat) (d : PyData), Kp B B' → items[i]? = some d → Tri K T H0 B' C ((R i).set j (.dat d)) tb { D with nx := Nxt K T H0 B' C (Le (R (i + 1))), ct := Nxt K T H0 B' C (Le (R (i + 1))), bk := D.nx })
    (hd : Tri K T H0 B C (R items.length) tNext D) : Tri K T H0 B C ρ (tFor wi (gName j) tb) D :=
  s_forG hi (fun i ρ' => Le (R i) ρ') h0 (fun B' i d ρi hB hd hI => ⟨[j], _, tg_name, s_weak (hI.set j _) (hs B' i d hB hd)⟩) fun ρn hI => s_weak hI hd
theorem q_for {j : Nat} (hi : IterD K T wi ρ items) (R : Nat → List Slot) (h0 : Le (R 0) ρ)
    (hs : ∀ (B' : Hp) (i : Nat) (d : PyData), Kp B B' → items[i]? = some d → Tri K T H0 B' C ((R i).set j (.dat d)) tb { D with nx := Nxt K T H0 B' C (Le (R (i + 1))), ct := Nxt K T H0 B' C (Le (R (i + 1))), bk := tz D })
    (hd : Tri K T H0 B C (R items.length) tz D) : Tri K T H0 B C ρ (tSeq (tFor wi (gName j) tb) tz) D := s_seq (s_for (D := { D with nx := tz D }) hi R h0 hs hd)
/-- any target: what it makes of the slots is told -/
theorem s_forT (hi : IterD K T wi ρ items) (R : Nat → List Slot) (h0 : Le (R 0) ρ)
    (hs : ∀ (B' : Hp) (i : Nat) (d : PyData), Kp B B' → items[i]? = some d → ∃ js f, TgD K T g d js f ∧ (∀ a b, Le a b → Le (f a) (f b)) ∧ Tri K T H0 B' C (f (R i)) tb { D with nx := Nxt K T H0 B' C (Le (R (i + 1))), ct := Nxt K T H0 B' C (Le (R (i + 1))), bk := D.nx })
    (hd : Tri K T H0 B C (R items.length) tNext D) : Tri K T H0 B C ρ (tFor wi g tb) D :=
  s_forG hi (fun i ρ' => Le (R i) ρ') h0 (fun B' i d ρi hB hd hI => let ⟨js, f, h1, h2, h3⟩ := hs B' i d hB hd; ⟨js, f, h1, s_weak (h2 _ _ hI) h3⟩) fun ρn hI => s_weak hI hd
theorem q_forT (hi : IterD K T wi ρ items) (R : Nat → List Slot) (h0 : Le (R 0) ρ)
    (hs : ∀ (B' : Hp) (i : Nat) (d : PyData), Kp B B' → items[i]? = some d → ∃ js f, TgD K T g d js f ∧ (∀ a b, Le a b → Le (f a) (f b)) ∧ Tri K T H0 B' C (f (R i)) tb { D with nx := Nxt K T H0 B' C (Le (R (i + 1))), ct := Nxt K T H0 B' C (Le (R (i + 1))), bk := tz D })
    (hd : Tri K T H0 B C (R items.length) tz D) : Tri K T H0 B C ρ (tSeq (tFor wi g tb) tz) D := s_seq (s_forT (D := { D with nx := tz D }) hi R h0 hs hd)
end

/-! ### list comprehensions -/
def wipeS (ρ : List Slot) : List Nat → List Slot
  | [] => ρ
  | v :: vs => (wipeS ρ vs).set v .no
section
variable {K : PySem.W.Frag} {T : Tb} {H0 B : Hp} {C : List Addr} {H H' : Hp} {S : List Addr} {σ : St} {ρ : List Slot}
theorem Gd.no (g : Gd K T H0 B C H S σ ρ) (i : Nat) : Gd K T H0 B C H S (σ.set i none) (ρ.set i .no) where
  ext := g.ext
  vis := g.vis
  bno := g.bno
  hid := g.hid
  lst := g.lst
  sub := g.sub
  cl := g.cl
  len := by rw [List.length_set, List.length_set]; exact g.len
  dat := fun j d e => by
    by_cases z : i = j
    · subst z; cases set_get e
    · rw [List.getElem?_set_ne z] at e ⊢
      exact g.dat j d e
  scr := fun j d e => by
    by_cases z : i = j
    · subst z; cases set_get e
    · rw [List.getElem?_set_ne z] at e ⊢
      exact g.scr j d e
  raw := fun j d e => by
    by_cases z : i = j
    · subst z; cases set_get e
    · rw [List.getElem?_set_ne z] at e ⊢
      exact g.raw j d e
  own := fun j d e => by
    by_cases z : i = j
    · subst z; cases set_get e
    · rw [List.getElem?_set_ne z] at e ⊢
      exact g.own j d e
  sep := fun a b ds es p ha hb sa sb => by
    have za : i ≠ a := fun z => by subst z; cases set_get ha
    have zb : i ≠ b := fun z => by subst z; cases set_get hb
    rw [List.getElem?_set_ne za] at ha sa
    rw [List.getElem?_set_ne zb] at hb sb
    exact g.sep a b ds es p ha hb sa sb
theorem Gd.wiped (g : Gd K T H0 B C H S σ ρ) : ∀ vs : List Nat, Gd K T H0 B C H S (wipe σ vs) (wipeS ρ vs)
  | [] => g
  | v :: vs => (g.wiped vs).no v
/-- a hidden list that no name owns -/
def NotMine (σ : St) (ρ : List Slot) (p : Addr) : Prop := ∀ (i : Nat) (ds : Ob), ρ[i]? = some (.own ds) → σ[i]? ≠ some (some (.ref p))
theorem Gd.lay (g : Gd K T H0 B C H S σ ρ) {p : Addr} {xs : List V} (hp : H p = none) : Gd K T H0 B C (upd H p (.lst xs)) (p :: S) σ ρ ∧ NotMine σ ρ p := by
  have e : Ext T H (upd H p (.lst xs)) := .new hp
  have fr : Fresh H p := .of hp
  have eh := hide_new (H := H) (S := S) (o := .lst xs) fr
  refine ⟨{ ext := g.ext.trans e, vis := g.vis.trans e.kp, bno := g.bno, hid := fun q hq => ?_, lst := fun q hq => ?_, sub := fun c hc => List.mem_cons_of_mem _ (g.sub c hc), cl := g.cl, len := g.len, dat := fun i d h => ?_, scr := fun i d h => ?_, raw := g.raw, own := fun i d h => ?_, sep := g.sep }, ?_⟩
  · rcases List.mem_cons.mp hq with z | z
    · subst z; exact g.bnone fr
    · exact g.hid q z
  · rcases List.mem_cons.mp hq with z | z
    · subst z; exact ⟨_, upd_same, rfl⟩
    · exact g.lst.kp e.kp q z
  · rw [eh]; exact g.dat i d h
  · rw [eh]; exact g.scr i d h
  · rw [eh]
    obtain ⟨q, ys, a, b, c, d, f⟩ := g.own i d h
    exact ⟨q, ys, a, List.mem_cons_of_mem _ b, c, e.kp q _ d f.nt, f⟩
  · intro i ds h z
    obtain ⟨q, ys, a, b, c, d, f⟩ := g.own i ds h
    rw [z] at a
    cases a
    rw [hp] at d
    cases d
theorem Gd.poke (g : Gd K T H0 B C H S σ ρ) {p : Addr} {xs ys : List V} (hm : p ∈ S) (h0 : Fresh H0 p) (hn : NotMine σ ρ p) (hp : H p = some (.lst xs)) : Gd K T H0 B C (upd H p (.lst ys)) S σ ρ := by
  have eh : hide (upd H p (.lst ys)) S = hide H S := hide_upd hm
  have keep : ∀ b o, H b = some o → b ≠ p → (upd H p (.lst ys)) b = some o := fun b o e z => by rw [upd_ne z]; exact e
  exact {
    ext := ⟨fun b o e n => keep b o (g.ext.kp b o e n) (fun z => by subst z; rw [h0 o e] at n; cases n), fun t => tabs_lst hp (g.ext.tb t)⟩
    vis := fun b o e n => keep b o (g.vis b o e n) (fun z => by subst z; rw [g.hid _ hm] at e; cases e)
    bno := g.bno
    hid := g.hid
    lst := fun q hq => by
      by_cases z : q = p
      · subst z; exact ⟨_, upd_same, rfl⟩
      · obtain ⟨zs, e, m⟩ := g.lst q hq
        exact ⟨zs, keep q _ e z, m⟩
    sub := g.sub
    cl := g.cl
    len := g.len
    dat := fun j d q => by rw [eh]; exact g.dat j d q
    scr := fun j d q => by rw [eh]; exact g.scr j d q
    raw := g.raw
    own := fun j fs q => by
      rw [eh]
      obtain ⟨q', zs, b1, b2, b3, b4, b5⟩ := g.own j fs q
      refine ⟨q', zs, b1, b2, b3, keep q' _ b4 (fun w => ?_), b5⟩
      subst w
      exact hn j fs q b1
    sep := g.sep }
theorem notMine_wipe {p : Addr} (h : NotMine σ ρ p) : ∀ vs : List Nat, NotMine (wipe σ vs) (wipeS ρ vs) p
  | [] => h
  | v :: vs => fun i ds e z => by
    have ih := notMine_wipe h vs
    by_cases w : v = i
    · subst w
      cases set_get (show ((wipeS ρ vs).set v .no)[v]? = some (.own ds) from e)
    · have e' : ((wipeS ρ vs).set v .no)[i]? = some (.own ds) := e
      have z' : ((wipe σ vs).set v none)[i]? = some (some (.ref p)) := z
      rw [List.getElem?_set_ne w] at e' z'
      exact ih i ds e' z'
variable {wi : TI} {g : TG} {tt : TT} {te : TE} {vs : List Nat} {items : List PyData}
theorem ef_lc (F : PyData → Option PyData) (hi : IterD K T wi ρ items) (hz : items.length ≤ 1000000)
    (hs : ∀ (i : Nat) (d : PyData), items[i]? = some d → ∃ js f b, TgD K T g d js f ∧ (∀ j ∈ js, j ∈ vs) ∧ EvT K T tt (f (wipeS ρ vs)) b ∧ (b = true → ∃ y, F d = some y ∧ Ev K T te (f (wipeS ρ vs)) y) ∧ (b = false → F d = none)) :
    EvF K T (tLc wi g tt te vs) ρ (items.filterMap F) := fun H0 B C H S σ gd Q hQ => by
  refine hi H0 B C H S σ gd _ fun J H1 e1 fd => ?_
  intro D hD
  have g1 := gd.ex e1
  obtain ⟨gl, nm⟩ := g1.lay (xs := []) hD
  have gw := gl.wiped vs
  have nw := notMine_wipe nm vs
  have frD : Fresh H D := (Fresh.of hD).back e1.kp
  have fr0 : Fresh H0 D := frD.back gd.ext.kp
  have sees : Kp (hide H1 S) (hide (upd H1 D (.lst [])) (D :: S)) := by rw [hide_new (.of hD)]; exact .refl _
  refine ⟨fun i m Hc => m = items.length - i ∧ i ≤ items.length ∧ ∃ acc, Gd K T H0 B C Hc (D :: S) (wipe σ vs) (wipeS ρ vs) ∧ Ext T H Hc ∧ Kp (hide H1 S) (hide Hc (D :: S)) ∧ Hc D = some (.lst acc) ∧ DtAll K (hide Hc (D :: S)) acc ((items.take i).filterMap F), ⟨items.length, by simp, Nat.zero_le _, [], gw, e1.trans (.new hD), sees, upd_same, .nil⟩, ?_⟩
  rintro i m Hc ⟨rfl, hil, acc, gc, ec, sc, hc, dc⟩
  obtain ⟨f1, f2⟩ := fd i Hc (D :: S) sc gc.lst
  by_cases hlt : i < items.length
  · obtain ⟨go, yl⟩ := f1 items[i] (List.getElem?_eq_getElem hlt)
    have htk : items.take (i + 1) = items.take i ++ [items[i]] := (List.take_append_getElem hlt).symm
    refine .inr ⟨go, fun Hn => ∃ acc, Gd K T H0 B C Hn (D :: S) (wipe σ vs) (wipeS ρ vs) ∧ Ext T H Hn ∧ Kp (hide H1 S) (hide Hn (D :: S)) ∧ Hn D = some (.lst acc) ∧ DtAll K (hide Hn (D :: S)) acc ((items.take (i + 1)).filterMap F), fun Hn hn => ⟨items.length - (i + 1), by omega, rfl, hlt, hn⟩, fun x H' hy => ?_⟩
    obtain ⟨ex, dx⟩ := yl x H' hy
    obtain ⟨js, f, b, tg, hj, ht, h1, h2⟩ := hs i _ (List.getElem?_eq_getElem hlt)
    refine tg H0 B C H' (D :: S) (wipe σ vs) (wipeS ρ vs) x (gc.ex ex) dx _ fun σ2 g2 w2 => ⟨?_, ?_⟩
    · have ww : wipe (wipe σ vs) vs = wipe σ vs := by
        have key : ∀ ws : List Nat, (∀ v ∈ ws, v ∈ vs) → wipe (wipe σ ws) vs = wipe σ vs := fun ws => by
          induction ws with
          | nil => intro _; rfl
          | cons v ws ih =>
            intro hv
            show wipe ((wipe σ ws).set v none) vs = wipe σ vs
            rw [wipe_set (hv v (List.mem_cons_self ..)), ih fun u hu => hv u (List.mem_cons_of_mem _ hu)]
        exact key vs fun v hv => hv
      rw [w2 vs hj, ww]
    · refine ht H0 B C H' (D :: S) σ2 g2 _ fun H3 e3 => ?_
      have g3 := g2.ex e3
      have ec3 : Ext T Hc H3 := ex.trans e3
      cases b with
      | true =>
        obtain ⟨y, hF, hy'⟩ := h1 rfl
        refine iteT (hy' H0 B C H3 (D :: S) σ2 g3 _ fun v H4 e4 dv => ?_)
        have ec4 := ec3.trans e4
        have hD4 : H4 D = some (.lst acc) := ec4.kp D _ hc rfl
        have gc4 := (gc.ex ec4)
        have dc4 := dc.kp (ec4.kp.hide (D :: S))
        refine ⟨acc, hD4, ?_, acc ++ [v], ?_, ?_, ?_, upd_same, ?_⟩
        · have q := dc.len
          have q2 : ((items.take i).filterMap F).length ≤ (items.take i).length := List.length_filterMap_le ..
          have q3 : (items.take i).length ≤ items.length := by rw [List.length_take]; omega
          have q4 : (1000000 : Nat) < sizeLine := by decide
          omega
        · exact gc4.poke (List.mem_cons_self ..) fr0 nw hD4
        · have q := ec.trans ec4
          exact ⟨fun b o hb n => by
            have hb' := q.kp b o hb n
            rw [upd_ne (fun z => by subst z; rw [frD o hb] at n; cases n)]
            exact hb', fun t => tabs_lst hD4 (q.tb t)⟩
        · rw [hide_upd (List.mem_cons_self ..)]
          exact sc.trans (ec4.kp.hide _)
        · rw [hide_upd (List.mem_cons_self ..), htk, List.filterMap_append]
          have : List.filterMap F [items[i]] = [y] := by simp [hF]
          rw [this]
          exact dc4.app (.cons dv .nil)
      | false =>
        refine iteF ⟨acc, gc.ex ec3, ec.trans ec3, sc.trans (ec3.kp.hide _), ec3.kp D _ hc rfl, ?_⟩
        rw [htk, List.filterMap_append]
        have : List.filterMap F [items[i]] = [] := by simp [h2 rfl]
        rw [this, List.append_nil]
        exact dc.kp (ec3.kp.hide _)
  · have e0 : i = items.length := by omega
    subst e0
    rw [List.take_length] at dc
    exact .inl ⟨f2 (Nat.le_refl _), hQ D acc Hc ec frD hc dc⟩
/-- without a test -/
theorem ef_lcM (F : PyData → PyData) (hi : IterD K T wi ρ items) (hz : items.length ≤ 1000000)
    (hs : ∀ (i : Nat) (d : PyData), items[i]? = some d → ∃ js f, TgD K T g d js f ∧ (∀ j ∈ js, j ∈ vs) ∧ Ev K T te (f (wipeS ρ vs)) (F d)) :
    EvF K T (tLc wi g tYes te vs) ρ (items.map F) := by
  have q := ef_lc (K := K) (T := T) (wi := wi) (g := g) (tt := tYes) (te := te) (vs := vs) (ρ := ρ) (items := items) (fun d => some (F d)) hi hz (fun i d h => by
    obtain ⟨js, f, h1, h2, h3⟩ := hs i d h
    exact ⟨js, f, true, h1, h2, et_yes, fun _ => ⟨F d, rfl, h3⟩, fun z => by cases z⟩)
  rw [show items.filterMap (fun d => some (F d)) = items.map F from by rw [List.filterMap_eq_map']] at q
  exact q
end

/-! ### defs -/
/-- a def of the text behind the top -/
abbrev FnP (K : PySem.W.Frag) (x : Str) (st : Stmt) (dvs : List V) (f : Addr) (fd : FuncData) : Prop := FunD K x x (defArgs st) (defBody st) (defScope st) dvs [] f fd
section
variable {P : Program} {w : World} {K : PySem.W.Frag} {T : Tb} {mg : Str → Option Value} {base : Heap}
def slots (n : Nat) (ds : List PyData) : List Slot := ds.map Slot.dat ++ List.replicate (n - ds.length) .no
theorem gd_start {H : Hp} {S : List Addr} {vs : List V} {ds : List PyData} {N : List Str} (l : LsT T H S) (h : DtAll K (hide H S) vs ds) : Gd K T H (hide H S) S H S (start N vs) (slots N.length ds) where
  ext := .refl T H
  vis := hide_kp H S
  bno := fun b o h => (hide_some.mp h).2.2
  hid := fun p hp => hide_mem hp
  lst := l.1
  sub := fun c hc => hc
  cl := l
  len := by unfold L2.start slots; simp [h.len]
  dat := fun i d e => by
    unfold slots at e
    unfold L2.start
    by_cases hi : i < ds.length
    · rw [List.getElem?_append_left (by rw [List.length_map]; exact hi), List.getElem?_map] at e
      cases q : ds[i]? with
      | none => rw [q] at e; cases e
      | some d' =>
        rw [q] at e
        cases e
        obtain ⟨v, hv, dv⟩ := h.get q
        refine ⟨v, ?_, dv⟩
        rw [List.getElem?_append_left (by rw [List.length_map, h.len]; exact hi), List.getElem?_map, hv]
        rfl
    · rw [List.getElem?_append_right (by rw [List.length_map]; omega)] at e
      have := List.mem_of_getElem? e
      have := (List.mem_replicate.mp this).2
      cases this
  scr := fun i d e => by
    unfold slots at e
    have := List.mem_of_getElem? e
    rcases List.mem_append.mp this with z | z
    · obtain ⟨_, _, z⟩ := List.mem_map.mp z; cases z
    · have := (List.mem_replicate.mp z).2; cases this
  own := fun i d e => by
    unfold slots at e
    have := List.mem_of_getElem? e
    rcases List.mem_append.mp this with z | z
    · obtain ⟨_, _, z⟩ := List.mem_map.mp z; cases z
    · have := (List.mem_replicate.mp z).2; cases this
  raw := fun i d e => by
    unfold slots at e
    have := List.mem_of_getElem? e
    rcases List.mem_append.mp this with z | z
    · obtain ⟨_, _, z⟩ := List.mem_map.mp z; cases z
    · have := (List.mem_replicate.mp z).2; cases this
  sep := fun i j d es p e => by
    unfold slots at e
    have := List.mem_of_getElem? e
    rcases List.mem_append.mp this with z | z
    · obtain ⟨_, _, z⟩ := List.mem_map.mp z; cases z
    · have := (List.mem_replicate.mp z).2; cases this
/-- THE RULE: a def that raises nothing -/
theorem fnR {x : Str} {st : Stmt} {dvs : List V} {f : Addr} {fd : FuncData} {N ps : List Str} {k : Nat} {R : List PyData → PyData → Prop} (F : FnP K x st dvs f fd) (S : FnScope N ps (defScope st)) (len : ∀ ds r, R ds r → ds.length = ps.length)
    (hbody : ∀ (cdv : Value) (A : Around) (outer : List Env) (s : Shared) (H : Hp) (E : XK), Room k (A.deeper (PyProof.Rows.envOfC x (defScope st) s.heap.objs.size f cdv)) →
      ∃ t, PSs (cxOf CX0 P w K mg base N x (defScope st) f cdv A outer s H E).nox (defBody st) t ∧ ∀ ds r, R ds r → ∀ (H0 : Hp) (C : List Addr) (D : Ends), Rt K T H0 C D.rt r → (∀ σ H', Ext T H0 H' → r = .none → D.nx σ H') → Tri K T H0 (hide H0 C) C (slots N.length ds) t D) :
    FnOk P w K mg base CX0 (k + 1) f fd ps (spR K T R) := by
  refine F.ok S (fun vs H Q E h => ?_) (fun cdv A outer s H vs Q E hr h => ?_)
  · obtain ⟨ds, r, S', l, hd, hR, _⟩ := h
    rw [hd.len]
    exact len ds r hR
  · obtain ⟨ds, r, S', l, hd, hR, hq⟩ := h
    obtain ⟨t, pt, tr⟩ := hbody cdv A outer s H E hr
    refine ⟨t, pt.nox, ?_⟩
    refine tr ds r hR H S' _ (fun v H' e dv => hq v H' e dv) (fun σ H' e z => hq _ H' e (by rw [z]; exact .non)) _ _ ⟨S', gd_start l hd⟩
end
end Lw

set_option Elab.async false
set_option linter.all false
set_option maxRecDepth 100000
set_option maxHeartbeats 4000000
set_option autoImplicit false
/-! Lw, part D: calls of defs by one word, built-ins' names, sizes of numbers. -/
namespace Lw
open PySem L2
/-- a def that can be called: at which level, by which promise (dvs: the defaults that fill up) -/
structure Cal (P : Program) (w : World) (K : PySem.W.Frag) (mg : Str → Option Value) (base : Heap) (k : Nat) (x : Str) (ps : List Str) (dvs : List V) (sp : Sp) : Prop where
  ex : ∃ (f : Addr) (fd : FuncData) (ds : List Value), FnOk P w K mg base CX0 k f fd ps sp ∧ mg x = some (.ref f) ∧ PySem.W.keepIn K (.ref f) = true ∧ Binds K fd ps ds ∧ Vals dvs ds
section
variable {X : Cx} {k j : Nat} {x : Str} {ps : List Str} {dvs : List V} {sp : Sp} {p pos : Pos} {e : Expr} {es : List Expr} {t : TA}
theorem pe_callC (c : Cal X.prog X.w X.K X.mg X.base k x ps dvs sp) (hr : Room j X.A) (hg : Gl X x) (ha : PA X (e :: es) t) (hk : k ≤ j := by decide) (hdb : (x == ("__debug__" : Str)) = false := by decide)
    (he : starEach (e :: es) X.env = (false, eval e X.env) :: starEach es X.env := by rfl) (hpl : (backTo pos (starEach es X.env)).any (·.1) = false := by rfl) : PE X (.Call (.Name x p) (e :: es) [] pos) (tCall sp dvs E0 t) := by
  obtain ⟨f, fd, ds, G, m, kp, b, v⟩ := c.ex
  exact pe_call G (hr.mono hk) hg m kp b v pass0 ha hdb he hpl
theorem pe_callC0 (c : Cal X.prog X.w X.K X.mg X.base k x ps dvs sp) (hr : Room j X.A) (hg : Gl X x) (hk : k ≤ j := by decide) (hdb : (x == ("__debug__" : Str)) = false := by decide) : PE X (.Call (.Name x p) [] [] pos) (tCall sp dvs E0 tNil) := by
  obtain ⟨f, fd, ds, G, m, kp, b, v⟩ := c.ex
  exact pe_call0 G (hr.mono hk) hg m kp b v pass0 hdb
end
/-- the built-ins' names are nobody's -/
structure Blt (mg : Str → Option Value) : Prop where
  len : mg "len" = none
  range : mg "range" = none
  abs : mg "abs" = none
  int : mg "int" = none
  list : mg "list" = none
  tuple : mg "tuple" = none
  all : mg "all" = none
  any : mg "any" = none
  str : mg "str" = none
  sum : mg "sum" = none
  max : mg "max" = none
  min : mg "min" = none
  zip : mg "zip" = none
  enumerate : mg "enumerate" = none
  isinstance : mg "isinstance" = none
  sorted : mg "sorted" = none
  reversed : mg "reversed" = none
  bool : mg "bool" = none
  ValueError : mg "ValueError" = none
  ZeroDivisionError : mg "ZeroDivisionError" = none
/-! ### a list unpacked into names -/
section
variable {K : PySem.W.Frag} {T : Tb} {H0 B : Hp} {C : List Addr} {ρ : List Slot} {te : TE} {tz : TS} {D : Ends}
theorem tg_unl {u : TGs} {ds : List PyData} {js : List Nat} {f : List Slot → List Slot} {n : Nat} (h : TgDs K T u ds js f) (hn : ds.length = n) : TgD K T (gUnl K n u) (.list ds) js f := fun H0 B C H S σ ρ v g dv Q hQ => by
  cases dv with
  | lst h1 a1 => exact ⟨_, _, rfl, SqL.of (hide_get h1), a1.len.trans hn, h H0 B C H S σ ρ _ g a1 Q hQ⟩
/-- any target -/
theorem s_asgT {g : TG} {d : PyData} {js : List Nat} {f : List Slot → List Slot} (h : Ev K T te ρ d) (hg : TgD K T g d js f) (k : Tri K T H0 B C (f ρ) tNext D) : Tri K T H0 B C ρ (tAsg te g) D := fun σ H ⟨S, gd⟩ =>
  h H0 B C H S σ gd _ fun v H2 e dv => hg H0 B C H2 S σ ρ v (gd.ex e) dv _ fun σ' g' _ => k σ' H2 ⟨S, g'⟩
theorem q_asgT {g : TG} {d : PyData} {js : List Nat} {f : List Slot → List Slot} (h : Ev K T te ρ d) (hg : TgD K T g d js f) (k : Tri K T H0 B C (f ρ) tz D) : Tri K T H0 B C ρ (tSeq (tAsg te g) tz) D := s_seq (s_asgT h hg (s_to k))
end
/-! ### sizes -/
/-- below 2 ^ n in size -/
def Bt (n : Nat) (i : Int) : Prop := i.natAbs < 2 ^ n
theorem Bt.mono {n m : Nat} {i : Int} (h : Bt n i) (l : n ≤ m) : Bt m i := Nat.lt_of_lt_of_le h (Nat.pow_le_pow_right (by decide) l)
theorem Bt.mul {n m : Nat} {i j : Int} (h : Bt n i) (h' : Bt m j) : Bt (n + m) (i * j) := by
  unfold Bt at *
  rw [Int.natAbs_mul, Nat.pow_add]
  exact Nat.mul_lt_mul'' h h'
theorem Bt.add {n : Nat} {i j : Int} (h : Bt n i) (h' : Bt n j) : Bt (n + 1) (i + j) := by
  unfold Bt at *
  rw [Nat.pow_succ]
  omega
theorem Bt.sub {n : Nat} {i j : Int} (h : Bt n i) (h' : Bt n j) : Bt (n + 1) (i - j) := by
  unfold Bt at *
  rw [Nat.pow_succ]
  omega
theorem Bt.neg {n : Nat} {i : Int} (h : Bt n i) : Bt n (-i) := by
  unfold Bt at *
  omega
theorem Bt.le {n : Nat} {i j : Int} (h : Bt n i) (l : j.natAbs ≤ i.natAbs) : Bt n j := Nat.lt_of_le_of_lt l h
theorem Bt.log {n : Nat} {i : Int} (h : Bt n i) (h0 : 0 < n) : i.natAbs.log2 < n := by
  rcases Nat.eq_zero_or_pos i.natAbs with z | z
  · rw [z]; exact h0
  · exact (Nat.log2_lt (Nat.ne_of_gt z)).mpr h
theorem Bt.bits {n : Nat} {i : Int} (h : Bt n i) : Builtin.Int.intBits i ≤ n := by
  unfold Builtin.Int.intBits
  split
  · exact Nat.zero_le _
  · rename_i hz
    have z : i.natAbs ≠ 0 := by
      intro e
      apply hz
      have : i = 0 := Int.natAbs_eq_zero.mp e
      rw [this]; rfl
    have : i.natAbs.log2 < n := (Nat.log2_lt z).mpr h
    omega
theorem mulOk {n m : Nat} {i j : Int} (h : Bt n i) (h' : Bt m j) (l : n + m ≤ 100000000) : IntMulOk i j := by
  unfold IntMulOk
  intro z
  have b1 := h.bits
  have b2 := h'.bits
  rw [Bool.and_eq_true] at z
  have z2 := z.2
  unfold Builtin.Int.intTooBig at z2
  have z3 := of_decide_eq_true z2
  have : bitsLine = 134217728 := by decide
  rw [this] at z3
  omega
theorem mulOkL {i j : Int} (h : i.natAbs < 18446744073709551616) : IntMulOk i j := .of_left (intBits_le_64 (by omega) (by omega))
theorem mulOkR {i j : Int} (h : j.natAbs < 18446744073709551616) : IntMulOk i j := .of_right (intBits_le_64 (by omega) (by omega))
theorem fdOk {n : Nat} {i j : Int} (h0 : j ≠ 0) (h : Bt n j) (l : n ≤ 9000) : CFd i j := ⟨h0, PyProof.noPylong_of_log2 (Nat.lt_of_lt_of_le ((Nat.log2_lt (fun z => h0 (Int.natAbs_eq_zero.mp z))).mpr h) l)⟩
theorem cpowOk {i j : Int} (h : 0 ≤ j ∧ j ≤ 1000000 ∧ i.natAbs < 18446744073709551616) : CPow i j := h
theorem fdOkS {i j : Int} (h0 : j ≠ 0) (h : j.natAbs < 1073741824) : CFd i j := ⟨h0, PyProof.noPylong_small h⟩
end Lw

set_option Elab.async false
set_option linter.all false
set_option maxRecDepth 100000
set_option maxHeartbeats 4000000
set_option autoImplicit false
/-! Lw, part R: parts as rational numbers. -/
namespace Lw
open PySem L2
/-- a part -/
def encR (q : Rat) : PyData := .tuple [.int q.num, .int (q.den : Int)]
/-- both numbers below 2 ^ n -/
def Sz (n : Nat) (q : Rat) : Prop := q.num.natAbs < 2 ^ n ∧ q.den < 2 ^ n
theorem Sz.mono {n m : Nat} {q : Rat} (h : Sz n q) (l : n ≤ m) : Sz m q := ⟨Nat.lt_of_lt_of_le h.1 (Nat.pow_le_pow_right (by decide) l), Nat.lt_of_lt_of_le h.2 (Nat.pow_le_pow_right (by decide) l)⟩
theorem Sz.num {n : Nat} {q : Rat} (h : Sz n q) : Bt n q.num := h.1
theorem Sz.den {n : Nat} {q : Rat} (h : Sz n q) : Bt n (q.den : Int) := by
  show ((q.den : Int)).natAbs < 2 ^ n
  rw [Int.natAbs_natCast]
  exact h.2
theorem eqv_encR (a b : Rat) : PyData.eqv (encR a) (encR b) = decide (a = b) := by
  unfold encR
  simp only [PyData.eqv, PyData.eqvAll, Bool.and_true]
  by_cases h : a = b
  · subst h; simp
  · rw [decide_eq_false h]
    by_cases h1 : a.num = b.num
    · have h2 : ¬ (a.den : Int) = (b.den : Int) := fun z => h (Rat.ext h1 (Int.ofNat.inj z))
      simp [h1, h2]
    · simp [h1]
theorem rv_ixP0 {K : PySem.W.Frag} {T : Tb} {q : Rat} : RV K T (rIx K) (encR q) (.int 0) (.int q.num) := rv_ixT (ds := [.int q.num, .int (q.den : Int)]) rfl
theorem rv_ixP1 {K : PySem.W.Frag} {T : Tb} {q : Rat} : RV K T (rIx K) (encR q) (.int 1) (.int (q.den : Int)) := rv_ixT (ds := [.int q.num, .int (q.den : Int)]) rfl
theorem eqv_int (i j : Int) : PyData.eqv (.int i) (.int j) = decide (i = j) := by
  show (i == j) = decide (i = j)
  by_cases h : i = j <;> simp [h]
theorem shaped_int (i : Int) : SeqAt.shaped (.int i) = true := rfl
theorem shaped_encR (a : Rat) : SeqAt.shaped (encR a) = true := by
  unfold encR SeqAt.shaped
  simp [PyData.canLay0, PyData.canLayAll0, PyData.depth, PyData.depthAll]
/-- less, the same, greater -/
def ordR (a b : Rat) : Int := if b < a then 1 else if a < b then -1 else 0
theorem ord_num (a b : Rat) : (if 0 < a.num * (b.den : Int) - b.num * (a.den : Int) then (1 : Int) else 0) - (if a.num * (b.den : Int) - b.num * (a.den : Int) < 0 then (1 : Int) else 0) = ordR a b := by
  unfold ordR
  have h1 := Rat.lt_iff a b
  have h2 := Rat.lt_iff b a
  by_cases c1 : b < a
  · have d1 := h2.mp c1
    rw [if_pos c1, if_pos (by omega), if_neg (by omega)]
    rfl
  · have d1 : ¬ b.num * (a.den : Int) < a.num * (b.den : Int) := fun z => c1 (h2.mpr z)
    by_cases c2 : a < b
    · have d2 := h1.mp c2
      rw [if_neg c1, if_pos c2, if_neg (by omega), if_pos (by omega)]
      rfl
    · have d2 : ¬ a.num * (b.den : Int) < b.num * (a.den : Int) := fun z => c2 (h1.mpr z)
      rw [if_neg c1, if_neg c2, if_neg (by omega), if_neg (by omega)]
      rfl
/-! ### the greatest number that goes into two -/
theorem gcd_step {a b : Int} (ha : 0 ≤ a) (hb : 0 < b) : Int.gcd b (a.fmod b) = Int.gcd a b := by
  rw [Int.fmod_eq_emod_of_nonneg a (by omega)]
  obtain ⟨m, rfl⟩ := Int.eq_ofNat_of_zero_le ha
  obtain ⟨n, rfl⟩ := Int.eq_ofNat_of_zero_le (Int.le_of_lt hb)
  rw [← Int.natCast_emod]
  show Nat.gcd n (m % n) = Nat.gcd m n
  rw [Nat.gcd_comm m n, Nat.gcd_rec n m, Nat.gcd_comm]
/-! ### the part of two numbers -/
theorem part_num {u l : Int} (hl : l ≠ 0) : (if l < 0 then -u else u).fdiv ((Int.gcd u l : Nat) : Int) = (Rat.divInt u l).num := by
  have hg : (0 : Int) ≤ ((Int.gcd u l : Nat) : Int) := Int.natCast_nonneg _
  rw [Int.fdiv_eq_ediv_of_nonneg _ hg, Rat.num_divInt, Int.gcd_comm u l]
  congr 1
  by_cases h : l < 0
  · rw [if_pos h, Int.sign_eq_neg_one_of_neg h]; omega
  · rw [if_neg h, Int.sign_eq_one_of_pos (by omega)]; omega
theorem part_den {u l : Int} (hl : l ≠ 0) : (if l < 0 then -l else l).fdiv ((Int.gcd u l : Nat) : Int) = ((Rat.divInt u l).den : Int) := by
  have hg : (0 : Int) ≤ ((Int.gcd u l : Nat) : Int) := Int.natCast_nonneg _
  rw [Int.fdiv_eq_ediv_of_nonneg _ hg, Rat.den_divInt, if_neg hl, Int.gcd_comm u l, Int.natCast_ediv]
  congr 1
  by_cases h : l < 0
  · rw [if_pos h]; omega
  · rw [if_neg h]; omega
theorem gcd_ne {u l : Int} (hl : l ≠ 0) : ((Int.gcd u l : Nat) : Int) ≠ 0 := by
  have := Int.gcd_pos_of_ne_zero_right u hl
  omega
theorem sz_divInt {n : Nat} {u l : Int} (hl : l ≠ 0) (hu : Bt n u) (hb : Bt n l) : Sz n (Rat.divInt u l) := by
  have g0 := Int.gcd_pos_of_ne_zero_right u hl
  refine ⟨?_, ?_⟩
  · rw [← part_num hl, Int.fdiv_eq_ediv_of_nonneg _ (Int.natCast_nonneg _)]
    have h2 : (if l < 0 then -u else u).natAbs = u.natAbs := by split <;> omega
    have h3 : ((if l < 0 then -u else u) / ((Int.gcd u l : Nat) : Int)).natAbs ≤ (if l < 0 then -u else u).natAbs := Int.natAbs_ediv_le_natAbs _ _
    exact Nat.lt_of_le_of_lt (h2 ▸ h3) hu
  · rw [Rat.den_divInt, if_neg hl]
    exact Nat.lt_of_le_of_lt (Nat.div_le_self _ _) hb
theorem add_divInt (a b : Rat) : a + b = Rat.divInt (a.num * b.den + b.num * a.den) (a.den * b.den) := by
  rw [Rat.add_def', ← Rat.divInt_ofNat]; simp
theorem sub_divInt (a b : Rat) : a - b = Rat.divInt (a.num * b.den - b.num * a.den) (a.den * b.den) := by
  rw [Rat.sub_def', ← Rat.divInt_ofNat]; simp
theorem mul_divInt (a b : Rat) : a * b = Rat.divInt (a.num * b.num) (a.den * b.den) := by
  rw [Rat.mul_def', ← Rat.divInt_ofNat]; simp
theorem div_divInt (a b : Rat) : a / b = Rat.divInt (a.num * b.den) (a.den * b.num) := by
  rw [Rat.div_def, Rat.inv_def]
  conv => lhs; rw [← Rat.num_divInt_den a]
  rw [Rat.divInt_mul_divInt]
theorem den_ne (a : Rat) : (a.den : Int) ≠ 0 := by have := a.den_nz; omega
theorem den_pos (a : Rat) : (0 : Int) < (a.den : Int) := by have := a.den_nz; omega
theorem dens_ne (a b : Rat) : (a.den : Int) * (b.den : Int) ≠ 0 := Int.mul_ne_zero (den_ne a) (den_ne b)
theorem sz_add {n m : Nat} {a b : Rat} (ha : Sz n a) (hb : Sz m b) : Sz (n + m + 1) (a + b) := by
  rw [add_divInt]
  refine sz_divInt (dens_ne a b) ?_ ?_
  · exact (ha.num.mul hb.den).add (((hb.num.mul ha.den).mono (by omega)))
  · exact (ha.den.mul hb.den).mono (by omega)
theorem sz_sub {n m : Nat} {a b : Rat} (ha : Sz n a) (hb : Sz m b) : Sz (n + m + 1) (a - b) := by
  rw [sub_divInt]
  refine sz_divInt (dens_ne a b) ?_ ?_
  · exact (ha.num.mul hb.den).sub (((hb.num.mul ha.den).mono (by omega)))
  · exact (ha.den.mul hb.den).mono (by omega)
theorem sz_mul {n m : Nat} {a b : Rat} (ha : Sz n a) (hb : Sz m b) : Sz (n + m) (a * b) := by
  rw [mul_divInt]
  exact sz_divInt (dens_ne a b) (ha.num.mul hb.num) (ha.den.mul hb.den)
theorem num_ne {b : Rat} (h : b ≠ 0) : b.num ≠ 0 := fun z => h (Rat.num_eq_zero.mp z)
theorem sz_div {n m : Nat} {a b : Rat} (ha : Sz n a) (hb : Sz m b) (h : b ≠ 0) : Sz (n + m) (a / b) := by
  rw [div_divInt]
  exact sz_divInt (Int.mul_ne_zero (den_ne a) (num_ne h)) (ha.num.mul hb.den) (ha.den.mul hb.num)
theorem num_pos_iff {q : Rat} : 0 < q.num ↔ 0 < q := by
  have h := Rat.lt_iff 0 q
  simp at h
  exact h.symm
theorem num_neg_iff {q : Rat} : q.num < 0 ↔ q < 0 := by
  have h := Rat.lt_iff q 0
  simp at h
  exact h.symm
end Lw

set_option Elab.async false
set_option linter.all false
set_option maxRecDepth 100000
set_option maxHeartbeats 4000000
set_option autoImplicit false
/-! Lw, part E: defs that get the script; the numbers drawn of it; the law itself. -/
namespace Lw
open PySem L2
/-- arguments: data, a list that is only read (the script) -/
inductive Ar (K : PySem.W.Frag) (H : Hp) : List V → List Slot → Prop
  | nil : Ar K H [] []
  | dat {v : V} {d : PyData} {vs : List V} {ss : List Slot} : Dt K H v d → Ar K H vs ss → Ar K H (v :: vs) (.dat d :: ss)
  | scr {a : Addr} {xs : List V} {ds : List PyData} {vs : List V} {ss : List Slot} : SqL K H a xs → DtAll K H xs ds → Ar K H vs ss → Ar K H (.ref a :: vs) (.scr ds :: ss)
  | raw {v : V} {vs : List V} {ss : List Slot} : Ar K H vs ss → Ar K H (v :: vs) (.raw v :: ss)
section
variable {K : PySem.W.Frag} {T : Tb} {H : Hp}
theorem Ar.len : ∀ {vs : List V} {ss : List Slot}, Ar K H vs ss → vs.length = ss.length := by
  intro vs ss h
  induction h with
  | nil => rfl
  | dat _ _ ih => rw [List.length_cons, List.length_cons, ih]
  | scr _ _ _ ih => rw [List.length_cons, List.length_cons, ih]
  | raw _ ih => rw [List.length_cons, List.length_cons, ih]
theorem Ar.getD {vs : List V} {ss : List Slot} (h : Ar K H vs ss) : ∀ {i : Nat} {d : PyData}, ss[i]? = some (.dat d) → ∃ v, vs[i]? = some v ∧ Dt K H v d := by
  induction h with
  | nil => intro i d e; simp at e
  | dat hd _ ih =>
    intro i d e
    cases i with
    | zero => cases e; exact ⟨_, rfl, hd⟩
    | succ i => exact ih e
  | scr _ _ _ ih =>
    intro i d e
    cases i with
    | zero => cases e
    | succ i => exact ih e
  | raw _ ih =>
    intro i d e
    cases i with
    | zero => cases e
    | succ i => exact ih e
theorem Ar.getS {vs : List V} {ss : List Slot} (h : Ar K H vs ss) : ∀ {i : Nat} {ds : List PyData}, ss[i]? = some (.scr ds) → ∃ a xs, vs[i]? = some (.ref a) ∧ SqL K H a xs ∧ DtAll K H xs ds := by
  induction h with
  | nil => intro i d e; simp at e
  | dat hd _ ih =>
    intro i d e
    cases i with
    | zero => cases e
    | succ i => exact ih e
  | scr h1 h2 _ ih =>
    intro i d e
    cases i with
    | zero => cases e; exact ⟨_, _, rfl, h1, h2⟩
    | succ i => exact ih e
  | raw _ ih =>
    intro i d e
    cases i with
    | zero => cases e
    | succ i => exact ih e
theorem Ar.noOwn {vs : List V} {ss : List Slot} (h : Ar K H vs ss) : ∀ {i : Nat} {ds : Ob}, ss[i]? ≠ some (.own ds) := by
  induction h with
  | nil => intro i d e; simp at e
  | dat hd _ ih =>
    intro i d e
    cases i with
    | zero => cases e
    | succ i => exact ih e
  | scr h1 h2 _ ih =>
    intro i d e
    cases i with
    | zero => cases e
    | succ i => exact ih e
  | raw _ ih =>
    intro i d e
    cases i with
    | zero => cases e
    | succ i => exact ih e
theorem Ar.getR {vs : List V} {ss : List Slot} (h : Ar K H vs ss) : ∀ {i : Nat} {v : V}, ss[i]? = some (.raw v) → vs[i]? = some v := by
  induction h with
  | nil => intro i d e; simp at e
  | dat hd _ ih =>
    intro i d e
    cases i with
    | zero => cases e
    | succ i => exact ih e
  | scr h1 h2 _ ih =>
    intro i d e
    cases i with
    | zero => cases e
    | succ i => exact ih e
  | raw _ ih =>
    intro i d e
    cases i with
    | zero => cases e; rfl
    | succ i => exact ih e
def slotsA (n : Nat) (ss : List Slot) : List Slot := ss ++ List.replicate (n - ss.length) .no
theorem slotsA_get {n : Nat} {ss : List Slot} {i : Nat} {s : Slot} (e : (slotsA n ss)[i]? = some s) (hs : s ≠ .no) : ss[i]? = some s := by
  unfold slotsA at e
  by_cases hi : i < ss.length
  · rwa [List.getElem?_append_left hi] at e
  · rw [List.getElem?_append_right (by omega)] at e
    have := (List.mem_replicate.mp (List.mem_of_getElem? e)).2
    exact absurd this hs
theorem start_get {N : List Str} {vs : List V} {i : Nat} {v : V} (h : vs[i]? = some v) : (L2.start N vs)[i]? = some (some v) := by
  unfold L2.start
  have hl := (List.getElem?_eq_some_iff.mp h).1
  rw [List.getElem?_append_left (by rw [List.length_map]; exact hl), List.getElem?_map, h]
  rfl
theorem gd_startA {S : List Addr} {vs : List V} {ss : List Slot} {N : List Str} (l : LsT T H S) (h : Ar K (hide H S) vs ss) : Gd K T H (hide H S) S H S (L2.start N vs) (slotsA N.length ss) where
  ext := .refl T H
  vis := hide_kp H S
  bno := fun b o h => (hide_some.mp h).2.2
  hid := fun p hp => hide_mem hp
  lst := l.1
  sub := fun c hc => hc
  cl := l
  len := by unfold L2.start slotsA; simp [h.len]
  dat := fun i d e => by
    obtain ⟨v, h1, h2⟩ := h.getD (slotsA_get e (fun z => by cases z))
    exact ⟨v, start_get h1, h2⟩
  scr := fun i d e => by
    obtain ⟨a, xs, h1, h2, h3⟩ := h.getS (slotsA_get e (fun z => by cases z))
    exact ⟨a, xs, start_get h1, h2, h3⟩
  own := fun i d e => (h.noOwn (slotsA_get e (fun z => by cases z))).elim
  raw := fun i v e => start_get (h.getR (slotsA_get e (fun z => by cases z)))
  sep := fun i j d es p e => (h.noOwn (slotsA_get e (fun z => by cases z))).elim
/-- a promise of such a def: R ss Post: called so it gives some data of Post -/
def spA (K : PySem.W.Frag) (T : Tb) (R : List Slot → (PyData → Prop) → Prop) : Sp := fun vs H Q _ => ∃ ss Post S, LsT T H S ∧ Ar K (hide H S) vs ss ∧ R ss Post ∧
  ∀ r, Post r → ∀ v H', Ext T H H' → Dt K (hide H' S) v r → Q v H'
theorem fnA {P : Program} {w : World} {mg : Str → Option Value} {base : Heap} {x : Str} {st : Stmt} {dvs : List V} {f : Addr} {fd : FuncData} {N ps : List Str} {k : Nat} {R : List Slot → (PyData → Prop) → Prop} (F : FnP K x st dvs f fd) (S : FnScope N ps (defScope st)) (len : ∀ ss p, R ss p → ss.length = ps.length)
    (hbody : ∀ (cdv : Value) (A : Around) (outer : List Env) (s : Shared) (H : Hp) (E : XK), Room k (A.deeper (PyProof.Rows.envOfC x (defScope st) s.heap.objs.size f cdv)) →
      ∃ t, PSs (cxOf CX0 P w K mg base N x (defScope st) f cdv A outer s H E).nox (defBody st) t ∧ ∀ ss Post, R ss Post → ∀ (H0 : Hp) (C : List Addr) (D : Ends), (∀ r, Post r → Rt K T H0 C D.rt r) → Tri K T H0 (hide H0 C) C (slotsA N.length ss) t D) :
    FnOk P w K mg base CX0 (k + 1) f fd ps (spA K T R) := by
  refine F.ok S (fun vs H Q E h => ?_) (fun cdv A outer s H vs Q E hr h => ?_)
  · obtain ⟨ss, p, S', l, hd, hR, _⟩ := h
    rw [hd.len]
    exact len ss p hR
  · obtain ⟨ss, p, S', l, hd, hR, hq⟩ := h
    obtain ⟨t, pt, tr⟩ := hbody cdv A outer s H E hr
    exact ⟨t, pt.nox, tr ss p hR H S' _ (fun r hr v H' e dv => hq r hr v H' e dv) _ _ ⟨S', gd_startA l hd⟩⟩
variable {ρ : List Slot}
/-- a slice of the script -/
theorem ef_slS {i : Nat} {ds : List PyData} {tl th : TO} {lo hi : Option Int} (h : ρ[i]? = some (.scr ds)) (h1 : EvP K T tl ρ lo) (h2 : EvP K T th ρ hi) : EvF K T (tSl (rSlX K) (tVar i) tl th) ρ (cutD ds lo hi) := fun H0 B C H S σ g Q hQ => by
  obtain ⟨a, xs, a1, a2, a3⟩ := g.scr i ds h
  refine ⟨.ref a, a1, ?_⟩
  refine h1 H0 B C H S σ g _ fun H2 e2 => h2 H0 B C H2 S σ (g.ex e2) _ fun H3 e3 => ?_
  have e23 := e2.trans e3
  refine .inl ⟨a, xs, rfl, (hide_kp H3 S).sql ((e23.kp.hide S).sql a2), fun p hp => ?_⟩
  refine hQ p _ _ (e23.trans (.new hp)) ((Fresh.of hp).back e23.kp) upd_same ?_
  rw [hide_new (.of hp)]
  exact (a3.kp (e23.kp.hide S)).cut lo hi
/-! ### the numbers of a script -/
def Few (xs : List Int) : Prop := ∀ x ∈ xs, 0 ≤ x ∧ x < 9967
def Rnumbers (ss : List Slot) (Post : PyData → Prop) : Prop := ∃ (ns : List Int) (many : Nat), ns.length ≤ 63 ∧ many ≤ 100000 ∧ ss = [.scr (ns.map .int), .dat (.int many)] ∧
  Post = fun r => ∃ xs : List Int, xs.length = many ∧ Few xs ∧ r = .list (xs.map .int)
theorem Few.app {xs ys : List Int} (h : Few xs) (h' : Few ys) : Few (xs ++ ys) := fun x hx => by
  rcases List.mem_append.mp hx with z | z
  · exact h x z
  · exact h' x z
theorem Few.one {x : Int} (h0 : 0 ≤ x) (h1 : x < 9967) : Few [x] := fun y hy => by
  rw [List.mem_singleton.mp hy]
  exact ⟨h0, h1⟩
/-- x = _law_numbers(script, n) -/
theorem q_num {H0 B : Hp} {C : List Addr} {i j many : Nat} {ns : List Int} {E : XK} {tz : TS} {D : Ends} (h : ρ[j]? = some (.scr (ns.map .int))) (hl : ns.length ≤ 63) (hm : many ≤ 100000)
    (k : ∀ xs : List Int, xs.length = many → Few xs → Tri K T H0 B C (ρ.set i (.dat (.list (xs.map .int)))) tz D) :
    Tri K T H0 B C ρ (tSeq (tAsg (tCall (spA K T Rnumbers) [] E (tCons (tVar j) (tCons (tC (.int (many : Int))) tNil))) (gName i)) tz) D := fun σ H ⟨S, g⟩ => by
  obtain ⟨a, xs, a1, a2, a3⟩ := g.scr j _ h
  refine ⟨.ref a, a1, ?_⟩
  refine ⟨[.scr (ns.map .int), .dat (.int many)], _, S, g.lsT (.refl T H), .scr a2 a3 (.dat (.int _) .nil), ⟨ns, many, hl, hm, rfl, rfl⟩, ?_⟩
  rintro r ⟨ys, hy, fy, rfl⟩ v H' e dv
  exact k ys hy fy _ _ ⟨S, (g.ex e).set dv⟩
end
/-! ### the law -/
/-- the law's promise -/
def Rlaw (ss : List Slot) (Post : PyData → Prop) : Prop := ∃ ns : List Int, ns.length ≤ 63 ∧ ss = [.scr (ns.map .int)] ∧ Post = fun r => r = .bool true
end Lw

set_option Elab.async false
set_option linter.all false
set_option maxRecDepth 100000
set_option maxHeartbeats 4000000
set_option autoImplicit false
/-! Lw, part F: items of lists of numbers at reckoned places. -/
namespace Lw
open PySem L2
def nthI (xs : List Int) (i : Int) : Int := xs.getD i.toNat 0
theorem atI_in {α : Type} {xs : List α} {i : Int} (h0 : 0 ≤ i) (h1 : i < xs.length) : atI xs i = xs[i.toNat]? := by
  unfold atI ixN
  rw [if_pos h0, if_pos h1]
  rfl
theorem at_nthI {xs : List Int} {i : Int} (h0 : 0 ≤ i) (h1 : i < xs.length) : atI (xs.map PyData.int) i = some (.int (nthI xs i)) := by
  rw [atI_in h0 (by rw [List.length_map]; exact h1), List.getElem?_map]
  have h2 : i.toNat < xs.length := by omega
  unfold nthI
  rw [List.getD_eq_getElem?_getD, List.getElem?_eq_getElem h2]
  rfl
theorem nthI_mem {P : Int → Prop} {xs : List Int} (h : ∀ x ∈ xs, P x) (h0 : P 0) (i : Int) : P (nthI xs i) := by
  unfold nthI
  rw [List.getD_eq_getElem?_getD]
  cases e : xs[i.toNat]? with
  | none => exact h0
  | some x => exact h x (List.mem_of_getElem? e)
theorem nthI_few {xs : List Int} (h : Few xs) (i : Int) : 0 ≤ nthI xs i ∧ nthI xs i < 9967 := nthI_mem (P := fun x => 0 ≤ x ∧ x < 9967) h ⟨by decide, by decide⟩ i
theorem nthI_of_lt {xs : List Int} {i : Int} (h0 : 0 ≤ i) (h1 : i < xs.length) : nthI xs i ∈ xs := by
  unfold nthI
  have h2 : i.toNat < xs.length := by omega
  rw [List.getD_eq_getElem?_getD, List.getElem?_eq_getElem h2]
  exact List.getElem_mem h2
/-- within bounds -/
theorem nthI_bds {xs : List Int} {lo hi : Int} (h : ∀ x ∈ xs, lo ≤ x ∧ x ≤ hi) (h0 : lo ≤ 0) (h1 : 0 ≤ hi) (i : Int) : lo ≤ nthI xs i ∧ nthI xs i ≤ hi := nthI_mem (P := fun x => lo ≤ x ∧ x ≤ hi) h ⟨h0, h1⟩ i
theorem nthI_bdsIn {xs : List Int} {lo hi : Int} (h : ∀ x ∈ xs, lo ≤ x ∧ x ≤ hi) {i : Int} (h0 : 0 ≤ i) (h1 : i < xs.length) : lo ≤ nthI xs i ∧ nthI xs i ≤ hi := h _ (nthI_of_lt h0 h1)
theorem fmod_in {a b : Int} (hb : 0 < b) : 0 ≤ a.fmod b ∧ a.fmod b < b := by
  rw [Int.fmod_eq_emod_of_nonneg a (by omega)]
  exact ⟨Int.emod_nonneg a (by omega), Int.emod_lt_of_pos a hb⟩
theorem fdiv_pos_eq {a b : Int} (hb : 0 < b) : a.fdiv b = a / b := Int.fdiv_eq_ediv_of_nonneg a (by omega)
/-- the rest of a list from a place -/
theorem cut_from (ds : List PyData) (k : Nat) (h : k ≤ ds.length) : cutD ds (some (k : Int)) none = ds.drop k := by
  unfold cutD
  rw [HT.sIx_nat, HT.sIx_none, Nat.min_eq_left h]
  exact List.take_of_length_le (by rw [List.length_drop]; omega)
theorem cut_fromI (xs : List Int) {i : Int} (h0 : 0 ≤ i) (h : i ≤ xs.length) : cutD (xs.map .int) (some i) none = (xs.drop i.toNat).map .int := by
  obtain ⟨k, rfl⟩ := Int.eq_ofNat_of_zero_le h0
  rw [cut_from _ k (by rw [List.length_map]; omega), List.map_drop]
  rfl
theorem cut_betweenI (xs : List Int) {i j : Int} (h0 : 0 ≤ i) (h1 : i ≤ j) (h : j ≤ xs.length) : cutD (xs.map .int) (some i) (some j) = ((xs.drop i.toNat).take (j - i).toNat).map .int := by
  obtain ⟨k, rfl⟩ := Int.eq_ofNat_of_zero_le h0
  obtain ⟨m, rfl⟩ := Int.eq_ofNat_of_zero_le (Int.le_trans h0 h1)
  unfold cutD
  rw [HT.sIx_nat, HT.sIx_nat, List.length_map, Nat.min_eq_left (by omega), Nat.min_eq_left (by omega), List.map_take, List.map_drop]
  congr 1
  omega
theorem Few.drop {xs : List Int} (h : Few xs) (n : Nat) : Few (xs.drop n) := fun x hx => h x (List.mem_of_mem_drop hx)
theorem Few.take {xs : List Int} (h : Few xs) (n : Nat) : Few (xs.take n) := fun x hx => h x (List.mem_of_mem_take hx)
theorem btOf {n : Nat} {i : Int} (m : Nat) (h : i.natAbs < m) (e : m ≤ 2 ^ n) : Bt n i := Nat.lt_of_lt_of_le h e
end Lw

set_option Elab.async false
set_option linter.all false
set_option maxRecDepth 100000
set_option maxHeartbeats 4000000
set_option autoImplicit false
/-! Lw, part G: the rules with the written part K told (within blocks). -/
namespace Lw
open PySem L2
section
variable {X : Cx} (K : PySem.W.Frag)
theorem op_addK (h : X.K = K := by rfl) : OpR X (binaryOp .Add) (rAddA K) := h ▸ op_addA
theorem op_eqK (hu : X.A.units + 64 < cLine) (h : X.K = K := by rfl) : OpR X (compareOp .Eq) (rEqD K) := h ▸ op_eqD hu
theorem op_neK (hu : X.A.units + 64 < cLine) (h : X.K = K := by rfl) : OpR X (compareOp .NotEq) (rNeD K) := h ▸ op_neD hu
theorem op_inK (h : X.K = K := by rfl) : OpR X (compareOp .In) (rIn K false) := h ▸ op_in_seq
theorem op_notInK (h : X.K = K := by rfl) : OpR X (compareOp .NotIn) (rIn K true) := h ▸ op_notIn_seq
theorem ix_seqK (h : X.K = K := by rfl) : IxR X (rIx K) := h ▸ ix_seq
theorem sl_anyK (h : X.K = K := by rfl) : SlR X (rSlX K) := h ▸ sl_any
theorem call_lenK (h : X.K = K := by rfl) : CallR X (.builtin "len") (rLenA K) := h ▸ call_len
theorem call_listK (h : X.K = K := by rfl) : CallR X (.type "list") (rListA K) := h ▸ call_list_of
theorem call_tupleK (h : X.K = K := by rfl) : CallR X (.type "tuple") (rTupleA K) := h ▸ call_tuple_of
theorem cr_allK (hc : X.calm = true) (h : X.K = K := by rfl) : CallR X (.builtin "all") (rAll K) := h ▸ cr_all hc
theorem cr_anyK (hc : X.calm = true) (h : X.K = K := by rfl) : CallR X (.builtin "any") (rAny K) := h ▸ cr_any hc
theorem pi_seqK {tg l : Expr} {tl : TE} (hl : PE X l tl) (h : X.K = K := by rfl) : PI X tg l (iSeq K tl) := h ▸ pi_seq hl
theorem pg_tupK {pos : Pos} {es : List Expr} {k : Nat} {t : TGs} {n : Nat} (hc : X.calm = true) (hh : PGs X es t) (h : X.K = K := by rfl)
    (hn : (assignEach es X.env).length = n := by rfl) (hst : (assignEach es X.env).findIdx? (·.1) = none := by rfl) : PG X (.Tuple es k pos) (gTup K n t) := h ▸ pg_tup hc hh hn hst
theorem pg_unlK {pos : Pos} {es : List Expr} {k : Nat} {t : TGs} {n : Nat} (hc : X.calm = true) (hh : PGs X es t) (h : X.K = K := by rfl)
    (hn : (assignEach es X.env).length = n := by rfl) (hst : (assignEach es X.env).findIdx? (·.1) = none := by rfl) : PG X (.Tuple es k pos) (gUnl K n t) := h ▸ pg_unl hc hh hn hst
variable {o e : Expr} {es : List Expr} {to : TE} {t : TA} {name : Str} {apos cpos : Pos} {T id : String} {r : V → List V → Hp → VK → Prop}
theorem pe_bmK (pa : PlainAttrs T) (slot : PySem.Slot T name id) (hty : typeOf (.builtin id) = pure (.type "method_descriptor")) (hm : MtR X id r) (ho : PE X o to) (ha : PA X (e :: es) t) (h : X.K = K := by rfl)
    (hbase : attributeBase o name X.env (eval o X.env) = eval o X.env := by rfl)
    (hfew : ((backTo cpos (starEach (e :: es) X.env)).all (fun x => !x.1) && (backToKw cpos (keywordEach [] X.env)).all (fun x => x.1.isSome)
      && decide ((e :: es).length + ([] : List Keyword).length + (if ([] : List Keyword).isEmpty then 0 else 1) < 30)) = true := by rfl)
    (hline : (apos.endLine == cpos.line) = true := by rfl) (hs : starEach (e :: es) X.env = (false, eval e X.env) :: starEach es X.env := by rfl) (hplain : (backTo cpos (starEach es X.env)).any (·.1) = false := by rfl) :
    PE X (.Call (.Attribute o name apos) (e :: es) [] cpos) (tBM K T r to t) := h ▸ pe_bm pa slot hty hm ho ha hbase hfew hline hs hplain
theorem pe_bm0K (pa : PlainAttrs T) (slot : PySem.Slot T name id) (hty : typeOf (.builtin id) = pure (.type "method_descriptor")) (hm : MtR X id r) (ho : PE X o to) (h : X.K = K := by rfl)
    (hbase : attributeBase o name X.env (eval o X.env) = eval o X.env := by rfl) (hline : (apos.endLine == cpos.line) = true := by rfl) : PE X (.Call (.Attribute o name apos) [] [] cpos) (tBM0 K T r to) := h ▸ pe_bm0 pa slot hty hm ho hbase hline
end
end Lw

set_option Elab.async false
set_option linter.all false
set_option maxRecDepth 100000
set_option maxHeartbeats 4000000
set_option autoImplicit false
/-! Lw, part Z: zip of two lists or tuples, strict or not, also where an exception is handled. -/
namespace LwZ
open PySem
open PySem.Sem (wp)
/-- nothing is handled, or an exception without a context -/
def Quiet (A : Around) (h : Heap) : Prop := A.handled = none ∨ ∃ x1, HotX.HotAt A x1 h
theorem Quiet.keep {A : Around} {h h' : Heap} {it : Addr} {o : Obj} {vs : Array Value} (q : Quiet A h) (ho : h.get? it = some o) (hd : o.data = .fields vs) (hv : vs[2]? ≠ some .none) (k : ∀ b u, b ≠ it → h.get? b = some u → h'.get? b = some u) : Quiet A h' := by
  rcases q with q | ⟨x1, hh, o1, v1, h1, d1, c1⟩
  · exact .inl q
  · refine .inr ⟨x1, hh, o1, v1, k x1 o1 (fun z => ?_) h1, d1, c1⟩
    subst z
    rw [ho] at h1
    cases h1
    rw [hd] at d1
    cases d1
    exact hv c1
theorem Quiet.all {A : Around} {h h' : Heap} (q : Quiet A h) (k : ∀ b u, h.get? b = some u → h'.get? b = some u) : Quiet A h' := by
  rcases q with q | ⟨x1, hh, o1, v1, h1, d1, c1⟩
  · exact .inl q
  · exact .inr ⟨x1, hh, o1, v1, k x1 o1 h1, d1, c1⟩
/-- a sequence of either kind; its iterator -/
def IsSq (tp : Bool) (h : Heap) (l : Addr) (items : Array Value) : Prop := match tp with
  | true => h.IsTuple l items
  | false => h.IsList l items
def IsIt (tp : Bool) (h : Heap) (it l : Addr) (i : Nat) : Prop := match tp with
  | true => h.IsTupleIter it l i
  | false => h.IsListIter it l i
def itN : Bool → String
  | true => "tuple_iterator"
  | false => "list_iterator"
theorem IsIt.get {tp : Bool} {h : Heap} {it l : Addr} {i : Nat} (x : IsIt tp h it l i) : ∃ o, h.get? it = some o ∧ o.cls = .type (itN tp) ∧ o.data = .fields #[.ref l, .int i 0] := by
  cases tp <;> exact x
theorem IsIt.mk {tp : Bool} {h : Heap} {it l : Addr} {i : Nat} (x : ∃ o, h.get? it = some o ∧ o.cls = .type (itN tp) ∧ o.data = .fields #[.ref l, .int i 0]) : IsIt tp h it l i := by
  cases tp <;> exact x
theorem IsIt.ext {tp : Bool} {h h' : Heap} {it l b : Addr} {i : Nat} (x : IsIt tp h it l i) (k : Heap.ExtBut b h h') (hb : it ≠ b) : IsIt tp h' it l i :=
  let ⟨o, h1, h2⟩ := x.get; .mk ⟨o, k it o hb h1, h2⟩
theorem IsIt.at {tp : Bool} {h h' : Heap} {it l : Addr} {i : Nat} (x : IsIt tp h it l i) (k : ∀ o, h.get? it = some o → h'.get? it = some o) : IsIt tp h' it l i :=
  let ⟨o, h1, h2⟩ := x.get; .mk ⟨o, k o h1, h2⟩
theorem IsSq.get {tp : Bool} {h : Heap} {l : Addr} {items : Array Value} (x : IsSq tp h l items) : ∃ o n, h.get? l = some o ∧ o.data = .seq items n := by
  cases tp
  · obtain ⟨o, a, _, n, d⟩ := x; exact ⟨o, n, a, d⟩
  · obtain ⟨o, a, _, n, d⟩ := x; exact ⟨o, n, a, d⟩
theorem IsSq.ext {tp : Bool} {h h' : Heap} {l b : Addr} {items : Array Value} (x : IsSq tp h l items) (k : Heap.ExtBut b h h') (hb : l ≠ b) : IsSq tp h' l items := by
  cases tp
  · exact Heap.IsList.extBut x k hb
  · exact Heap.IsTuple.extBut x k hb
section
variable {prog : Program} {w : World} {A : Around} {E : Value → Shared → Prop} {s : Shared}
theorem nextOf_item {tp : Bool} {it l : Addr} {i : Nat} {items : Array Value} {x : Value} {Q : Value → Shared → Prop} (hit : IsIt tp s.heap it l i) (hl : IsSq tp s.heap l items) (hx : items[i]? = some x)
    (hQ : ∀ h', IsIt tp h' it l (i + 1) → Heap.SameBut it s.heap h' → Q x { s with heap := h' }) : wpAny (model prog w) A (Builtin.SmallTypes.nextOf (.ref it)) Q E s := by
  cases tp with
  | true => exact RZ.nextOf_tuple_item hit hl hx hQ
  | false => exact wpAny_nextOf_list_item hit hl hx hQ
theorem stop_raised {Q : Fin → Shared → Prop} (q : Quiet A s.heap) (hE : ∀ h' e, (∀ b o, s.heap.get? b = some o → h'.get? b = some o) → (∃ o, h'.get? e = some o ∧ o.cls = .type "StopIteration") → E (.ref e) { s with heap := h' }) :
    wpAny (model prog w) A (Builtin.SmallTypes.stopIteration) Q E s := by
  show wpAny _ _ (newExc (.type "StopIteration") [] >>= _) _ _ _
  refine wpAny_bind ?_
  simp only [newExc, newTuple]
  refine wpAny_bind (wpAny_newObj_type ?_ (by size_fits))
  refine wpAny_bind (m := firstArgMember _ _) (wpAny_of_eq (a := Value.none) (by first | rfl | (simp only [firstArgMember]; rfl)) ?_)
  refine wpAny_newObj_type ?_ (by size_fits)
  rcases q with hh | ⟨x1, hh, o1, vs1, h1, d1, c1⟩
  · simp only [raiseNew]
    refine wpAny_bind (wpAny_handled ?_)
    rw [hh]
    refine wpAny_bind (wpAny_pure (wpAny_throw ?_))
    exact hE _ _ (fun b o e => Heap.get?_push_of_some _ (Heap.get?_push_of_some _ e)) ⟨_, Heap.get?_push_size _ rfl, rfl⟩
  · refine HotX.raiseNew_hot ⟨hh, o1, vs1, Heap.get?_push_of_some _ (Heap.get?_push_of_some _ h1), d1, c1⟩ (Nat.ne_of_lt (Heap.lt_size (Heap.get?_push_of_some _ h1))) (Heap.get?_push_size _ rfl) rfl (by first | (simp; done) | (simp; omega) | (simp only [Array.size_append]; simp; omega)) ?_
    refine hE _ _ (fun b o e => ?_) ⟨_, Heap.get?_update_self _ (Heap.get?_push_size _ rfl) rfl, rfl⟩
    rw [Heap.get?_update_other _ _ (Nat.ne_of_gt (Heap.lt_size (Heap.get?_push_of_some _ e)))]
    exact Heap.get?_push_of_some _ (Heap.get?_push_of_some _ e)
theorem nextOf_end {tp : Bool} {it l : Addr} {i : Nat} {items : Array Value} {Q : Value → Shared → Prop} (q : Quiet A s.heap) (hit : IsIt tp s.heap it l i) (hl : IsSq tp s.heap l items) (hx : items[i]? = none)
    (hE : ∀ h' e, Heap.ExtBut it s.heap h' → (∃ o, h'.get? e = some o ∧ o.cls = .type "StopIteration") → E (.ref e) { s with heap := h' }) : wpAny (model prog w) A (Builtin.SmallTypes.nextOf (.ref it)) Q E s := by
  obtain ⟨o, ho, hc, hd⟩ := hit.get
  obtain ⟨ol, nl, hol, hdl⟩ := hl.get
  have tail : ∀ (id : String) (Q' : Fin → Shared → Prop), wpAny (model prog w) A.in1 (do
      let seq ← field (.ref it) 0
      if seq == .none then rule s!"{id}.ended"; Builtin.SmallTypes.stopIteration
      let .int i _ ← field (.ref it) 1 | unsupported s!"internal:{id}"
      let some its ← seqItems? seq | unsupported s!"internal:{id}"
      match its[i.toNat]? with
      | some x => setField (.ref it) 1 (rawInt (i + 1)); ret x
      | none => rule s!"{id}.end"; setField (.ref it) 0 .none; Builtin.SmallTypes.stopIteration) Q' E s := by
    intro id Q'
    refine wpAny_bind (wpAny_field ho hd (x := .ref l) rfl ?_)
    show wpAny _ _ (if (Value.ref l == Value.none) = true then _ else _) _ _ s
    rw [if_neg (show ¬ ((Value.ref l == Value.none) = true) from Bool.false_ne_true)]
    refine wpAny_bind (wpAny_field ho hd (x := .int i 0) rfl ?_)
    refine wpAny_bind (wpAny_seqItems hol hdl ?_)
    simp only [Int.toNat_natCast, hx]
    refine wpAny_bind (wpAny_rule (wpAny_bind (wpAny_setField ho hd (by simp) ?_)))
    have q2 : Quiet A.in1 (s.heap.update it (Obj.mapFields (·.setIfInBounds 0 .none))) :=
      Quiet.keep (A := A.in1) (show Quiet A.in1 s.heap from q) ho hd (by simp) fun b u hb e => by rw [Heap.get?_update_other _ _ (Ne.symm hb)]; exact e
    refine stop_raised (s := { s with heap := s.heap.update it (Obj.mapFields (·.setIfInBounds 0 .none)) }) q2 fun h' e k ho' => hE h' e (fun b u hb z => k b u (by
      rw [Heap.get?_update_other _ _ (Ne.symm hb)]; exact z)) ho'
  unfold Builtin.SmallTypes.nextOf
  cases tp with
  | true =>
    refine wpAny_bind (wpAny_callSpecial?_slot (name := Str.ofString "__next__") (show s.TypeIs (.ref it) "tuple_iterator" from ⟨o, ho, hc⟩) F.slot_tuple_iterator_next
      (wpAny_call_entry F.slot_tuple_iterator_next ⟨o, ho, hc⟩ F.entry_tuple_iterator_next ?_ (F.args_tuple_iterator_next_1 _)))
    exact tail "tuple_iterator.__next__" _
  | false =>
    refine wpAny_bind (wpAny_callSpecial?_slot (name := Str.ofString "__next__") (show s.TypeIs (.ref it) "list_iterator" from ⟨o, ho, hc⟩) slot_listiter_next
      (wpAny_call_entry slot_listiter_next ⟨o, ho, hc⟩ entry_listiter_next ?_ (args_listiter_next _)))
    exact tail "list_iterator.__next__" _
/-- zip draws: the item, or (strict) none at the end -/
theorem orEnd_item {tp : Bool} {it l : Addr} {i : Nat} {items : Array Value} {x : Value} {Q : Option Value → Shared → Prop} (hit : IsIt tp s.heap it l i) (hl : IsSq tp s.heap l items) (hx : items[i]? = some x)
    (hQ : ∀ h', IsIt tp h' it l (i + 1) → Heap.SameBut it s.heap h' → Q (some x) { s with heap := h' }) : wpAny (model prog w) A (Builtin.SmallTypes.nextOrEnd (.ref it)) Q E s := by
  unfold Builtin.SmallTypes.nextOrEnd
  exact wpAny_bind (wpAny_attempt (nextOf_item hit hl hx fun h' a b => wpAny_pure (hQ h' a b)))
theorem orEnd_end {tp : Bool} {it l : Addr} {i : Nat} {items : Array Value} {Q : Option Value → Shared → Prop} (q : Quiet A s.heap) (hit : IsIt tp s.heap it l i) (hl : IsSq tp s.heap l items) (hx : items[i]? = none)
    (hQ : ∀ h', Heap.ExtBut it s.heap h' → Q none { s with heap := h' }) : wpAny (model prog w) A (Builtin.SmallTypes.nextOrEnd (.ref it)) Q E s := by
  unfold Builtin.SmallTypes.nextOrEnd
  refine wpAny_bind (wpAny_attempt (nextOf_end q hit hl hx fun h' e k ho => ?_))
  obtain ⟨o, ho, hc⟩ := ho
  refine wpAny_bind (wpAny_isInstance (T := "StopIteration") (b := true) ⟨o, ho, hc⟩ isSubtype_stop ?_)
  exact wpAny_pure (hQ h' k)
/-- a zip object, strict or not -/
abbrev IsZp (st : Bool) (h : Heap) (z TI TO : Addr) (f0 : Value) : Prop :=
  h.get? z = some { cls := .type "zip", dict := none, data := .fields #[f0, .bool false, .bool st, .ref TI, .ref TO], slots := #[] }
theorem zip_item {st p1 p2 : Bool} {z TI TO i1 i2 l1 l2 : Addr} {k1 k2 : Nat} {xs ys : Array Value} {x y a b : Value} {Q : Value → Shared → Prop} (D : ZipApart z TI TO i1 i2 l1 l2)
    (hz : IsZp st s.heap z TI TO .none) (hTI : IsPair s.heap TI (.ref i1) (.ref i2)) (hTO : IsPair s.heap TO a b)
    (h1 : IsIt p1 s.heap i1 l1 k1) (h2 : IsIt p2 s.heap i2 l2 k2) (hl1 : IsSq p1 s.heap l1 xs) (hl2 : IsSq p2 s.heap l2 ys) (hx : xs[k1]? = some x) (hy : ys[k2]? = some y)
    (hQ : ∀ h', IsZp st h' z TI TO (rawInt s.heap.objs.size) → IsPair h' TO x y → IsIt p1 h' i1 l1 (k1 + 1) → IsIt p2 h' i2 l2 (k2 + 1) → IsPair h' s.heap.objs.size x y → h'.objs.size = s.heap.objs.size + 1 →
      (∀ c o, c ≠ z → c ≠ TO → c ≠ i1 → c ≠ i2 → s.heap.get? c = some o → h'.get? c = some o) → Q (.ref s.heap.objs.size) { s with heap := h' }) :
    wpAny (model prog w) A (Builtin.«zip.__next__» ⟨[.ref z], []⟩) (fun fin s' => ∃ v, fin = .done (.ret v) ∧ Q v s') E s := by
  have draw1 : ∀ {h₁ : Heap} {Q' : Option Value → Shared → Prop} {E' : Value → Shared → Prop}, Heap.SameBut z s.heap h₁ → (∀ h₂, IsIt p1 h₂ i1 l1 (k1 + 1) → Heap.SameBut i1 h₁ h₂ → Q' (some x) { s with heap := h₂ }) →
      wpAny (model prog w) A (if st = true then Builtin.SmallTypes.nextOrEnd (.ref i1) else (do return some (← Builtin.SmallTypes.nextOf (.ref i1)))) Q' E' { s with heap := h₁ } := by
    intro h₁ Q' E' hs₁ k
    have a1 := h1.ext hs₁.extBut D.i1z
    have a2 := hl1.ext hs₁.extBut D.l1z
    cases st with
    | true => exact orEnd_item (s := { s with heap := h₁ }) a1 a2 hx k
    | false => exact wpAny_bind (nextOf_item (s := { s with heap := h₁ }) a1 a2 hx fun h₂ b1 b2 => wpAny_pure (k h₂ b1 b2))
  have draw2 : ∀ {h₁ : Heap} {Q' : Option Value → Shared → Prop} {E' : Value → Shared → Prop}, IsIt p2 h₁ i2 l2 k2 → IsSq p2 h₁ l2 ys → (∀ h₂, IsIt p2 h₂ i2 l2 (k2 + 1) → Heap.SameBut i2 h₁ h₂ → Q' (some y) { s with heap := h₂ }) →
      wpAny (model prog w) A (if st = true then Builtin.SmallTypes.nextOrEnd (.ref i2) else (do return some (← Builtin.SmallTypes.nextOf (.ref i2)))) Q' E' { s with heap := h₁ } := by
    intro h₁ Q' E' a1 a2 k
    cases st with
    | true => exact orEnd_item (s := { s with heap := h₁ }) a1 a2 hy k
    | false => exact wpAny_bind (nextOf_item (s := { s with heap := h₁ }) a1 a2 hy fun h₂ b1 b2 => wpAny_pure (k h₂ b1 b2))
  have est : (Value.bool st == Value.bool true) = st := by cases st <;> rfl
  show wpAny _ _ (field (.ref z) 2 >>= _) _ _ _
  refine wpAny_bind (wpAny_field hz rfl (x := .bool st) rfl ?_)
  rw [est]
  show wpAny _ _ (field (.ref z) 3 >>= _) _ _ _
  refine wpAny_bind (wpAny_field hz rfl (x := .ref TI) rfl ?_)
  refine wpAny_bind (wpAny_seqItems hTI rfl ?_)
  show wpAny _ _ (Builtin.SmallTypes.ownedTupleIsFree (.ref z) >>= _) _ _ _
  refine wpAny_bind ?_
  unfold Builtin.SmallTypes.ownedTupleIsFree
  refine wpAny_bind (wpAny_field hz rfl (x := .none) rfl (wpAny_pure ?_))
  simp only [if_true]
  refine wpAny_bind (wpAny_rule ?_)
  refine wpAny_bind (wpAny_field hz rfl (x := .ref TO) rfl ?_)
  refine wpAny_bind (wpAny_setField_rec hz (by simp) fun h₁ hz₁ hs₁ => ?_)
  replace hz₁ : IsZp st h₁ z TI TO .ellipsis := hz₁
  refine wpAny_bind ?_
  simp only [List.zipIdx_cons, List.zipIdx_nil, List.forIn_cons, List.forIn_nil]
  refine wpAny_bind (wpAny_bind (wpAny_onRaise ?_))
  refine draw1 hs₁ fun h₂ h1₂ hs₂ => ?_
  have hTO₂ : IsPair h₂ TO a b := hs₂.extBut _ _ D.TOi1 (hs₁.extBut _ _ D.TOz hTO)
  refine wpAny_bind (wpAny_seqItems (s := { s with heap := h₂ }) hTO₂ rfl ?_)
  refine wpAny_bind (wpAny_updateSeq_pair (s := { s with heap := h₂ }) hTO₂ fun h₃ hTO₃ hs₃ => ?_)
  replace hTO₃ : IsPair h₃ TO x b := hTO₃
  refine wpAny_bind (wpAny_letGo (wpAny_pure ?_))
  refine wpAny_bind (wpAny_bind (wpAny_onRaise ?_))
  refine draw2 (((h2.ext hs₁.extBut D.i2z).ext hs₂.extBut D.i12.symm).ext hs₃.extBut D.TOi2.symm) (((hl2.ext hs₁.extBut D.l2z).ext hs₂.extBut D.l2i1).ext hs₃.extBut D.l2TO) fun h₄ h2₄ hs₄ => ?_
  have hTO₄ : IsPair h₄ TO x b := hs₄.extBut _ _ D.TOi2 hTO₃
  refine wpAny_bind (wpAny_seqItems (s := { s with heap := h₄ }) hTO₄ rfl ?_)
  refine wpAny_bind (wpAny_updateSeq_pair (s := { s with heap := h₄ }) hTO₄ fun h₅ hTO₅ hs₅ => ?_)
  replace hTO₅ : IsPair h₅ TO x y := hTO₅
  refine wpAny_bind (wpAny_letGo (wpAny_pure (wpAny_pure ?_)))
  refine wpAny_bind (wpAny_seqItems (s := { s with heap := h₅ }) hTO₅ rfl ?_)
  refine wpAny_bind (wpAny_newTuple ?_)
  have hsz : h₅.objs.size = s.heap.objs.size := by rw [hs₅.1, hs₄.1, hs₃.1, hs₂.1, hs₁.1]
  have hz₅ : IsZp st h₅ z TI TO .ellipsis := hs₅.extBut _ _ D.TOz.symm (hs₄.extBut _ _ D.i2z.symm (hs₃.extBut _ _ D.TOz.symm (hs₂.extBut _ _ D.i1z.symm hz₁)))
  have hk₅ : ∀ c o, c ≠ z → c ≠ TO → c ≠ i1 → c ≠ i2 → s.heap.get? c = some o → h₅.get? c = some o := fun c o c1 c2 c3 c4 e =>
    hs₅.extBut _ _ c2 (hs₄.extBut _ _ c4 (hs₃.extBut _ _ c2 (hs₂.extBut _ _ c3 (hs₁.extBut _ _ c1 e))))
  have h1₅ : IsIt p1 h₅ i1 l1 (k1 + 1) := ((h1₂.ext hs₃.extBut D.TOi1.symm).ext hs₄.extBut D.i12).ext hs₅.extBut D.TOi1.symm
  have h2₅ : IsIt p2 h₅ i2 l2 (k2 + 1) := h2₄.ext hs₅.extBut D.TOi2.symm
  have hzlt : z < h₅.objs.size := Heap.lt_size hz₅
  show wpAny _ _ (Builtin.SmallTypes.ownedTupleHandOut (.ref z) (.ref h₅.objs.size) >>= _) _ _ _
  refine wpAny_bind ?_
  unfold Builtin.SmallTypes.ownedTupleHandOut
  have hz₆ : IsZp st (h₅.push { cls := .type "tuple", data := .seq #[x, y] }) z TI TO .ellipsis := Heap.get?_push_of_some _ hz₅
  refine wpAny_bind (wpAny_setField_rec hz₆ (by simp) fun h₇ hz₇ hs₇ => ?_)
  replace hz₇ : IsZp st h₇ z TI TO (rawInt h₅.objs.size) := hz₇
  refine wpAny_setField_rec hz₇ (by simp) fun h₈ hz₈ hs₈ => ?_
  replace hz₈ : IsZp st h₈ z TI TO (rawInt h₅.objs.size) := hz₈
  have up : ∀ c o, c ≠ z → h₅.get? c = some o → h₈.get? c = some o := fun c o c1 e => hs₈.extBut _ _ c1 (hs₇.extBut _ _ c1 (Heap.get?_push_of_some _ e))
  have hT₈ : IsPair h₈ h₅.objs.size x y := hs₈.extBut _ _ (Nat.ne_of_gt hzlt) (hs₇.extBut _ _ (Nat.ne_of_gt hzlt) (Heap.get?_push_size _ rfl))
  have hz8 : h₈.objs.size = h₅.objs.size + 1 := by rw [hs₈.1, hs₇.1, Heap.size_push]
  rw [hsz] at hz₈ hT₈ hz8
  refine wpAny_pure ⟨_, rfl, ?_⟩
  show Q (.ref h₅.objs.size) _
  rw [hsz]
  exact hQ h₈ hz₈ (up _ _ D.TOz hTO₅) (h1₅.at fun o e => up _ o D.i1z e) (h2₅.at fun o e => up _ o D.i2z e) hT₈ hz8 fun c o c1 c2 c3 c4 e => up c o c1 (hk₅ c o c1 c2 c3 c4 e)

theorem Quiet.out {h h' : Heap} {tp : Bool} {it l : Addr} {i : Nat} (q : Quiet A h) (x : IsIt tp h it l i) (k : Heap.ExtBut it h h') : Quiet A h' := by
  obtain ⟨o, ho, hc, hd⟩ := x.get
  exact q.keep ho hd (by simp) k
theorem Quiet.outZ {h h' : Heap} {st : Bool} {z TI TO : Addr} {f0 : Value} (q : Quiet A h) (x : IsZp st h z TI TO f0) (k : Heap.ExtBut z h h') : Quiet A h' :=
  q.keep x rfl (by simp) k
theorem Quiet.outP {h h' : Heap} {a : Addr} {x y : Value} (q : Quiet A h) (p : IsPair h a x y) (k : Heap.ExtBut a h h') : Quiet A h' := by
  rcases q with q | ⟨x1, hh, o1, v1, h1, d1, c1⟩
  · exact .inl q
  · refine .inr ⟨x1, hh, o1, v1, k x1 o1 (fun z => ?_) h1, d1, c1⟩
    subst z
    rw [p] at h1
    cases h1
    cases d1
theorem zip_end {st p1 p2 : Bool} {z TI TO i1 i2 l1 l2 : Addr} {k1 k2 : Nat} {xs ys : Array Value} {a b : Value} {Q : Fin → Shared → Prop} (q : Quiet A s.heap) (D : ZipApart z TI TO i1 i2 l1 l2)
    (hz : IsZp st s.heap z TI TO .none) (hTI : IsPair s.heap TI (.ref i1) (.ref i2)) (hTO : IsPair s.heap TO a b)
    (h1 : IsIt p1 s.heap i1 l1 k1) (h2 : IsIt p2 s.heap i2 l2 k2) (hl1 : IsSq p1 s.heap l1 xs) (hl2 : IsSq p2 s.heap l2 ys) (hend : (xs[k1]? = none ∧ ys[k2]? = none) ∨ (st = false ∧ (xs[k1]? = none ∨ ys[k2]? = none)))
    (hE : ∀ h' e, (∀ c o, c ≠ z → c ≠ TO → c ≠ i1 → c ≠ i2 → s.heap.get? c = some o → h'.get? c = some o) → (∃ o, h'.get? e = some o ∧ o.cls = .type "StopIteration") → E (.ref e) { s with heap := h' }) :
    wpAny (model prog w) A (Builtin.«zip.__next__» ⟨[.ref z], []⟩) Q E s := by
  have est : (Value.bool st == Value.bool true) = st := by cases st <;> rfl
  show wpAny _ _ (field (.ref z) 2 >>= _) _ _ _
  refine wpAny_bind (wpAny_field hz rfl (x := .bool st) rfl ?_)
  rw [est]
  show wpAny _ _ (field (.ref z) 3 >>= _) _ _ _
  refine wpAny_bind (wpAny_field hz rfl (x := .ref TI) rfl ?_)
  refine wpAny_bind (wpAny_seqItems hTI rfl ?_)
  show wpAny _ _ (Builtin.SmallTypes.ownedTupleIsFree (.ref z) >>= _) _ _ _
  refine wpAny_bind ?_
  unfold Builtin.SmallTypes.ownedTupleIsFree
  refine wpAny_bind (wpAny_field hz rfl (x := .none) rfl (wpAny_pure ?_))
  simp only [if_true]
  refine wpAny_bind (wpAny_rule ?_)
  refine wpAny_bind (wpAny_field hz rfl (x := .ref TO) rfl ?_)
  refine wpAny_bind (wpAny_setField_rec hz (by simp) fun h₁ hz₁ hs₁ => ?_)
  replace hz₁ : IsZp st h₁ z TI TO .ellipsis := hz₁
  have q₁ : Quiet A h₁ := q.outZ hz hs₁.extBut
  have a1 := h1.ext hs₁.extBut D.i1z
  have a2 := hl1.ext hs₁.extBut D.l1z
  refine wpAny_bind ?_
  simp only [List.zipIdx_cons, List.zipIdx_nil, List.forIn_cons, List.forIn_nil]
  refine wpAny_bind (wpAny_bind (wpAny_onRaise ?_))
  cases st with
  | false =>
    show wpAny _ _ (Builtin.SmallTypes.nextOf (.ref i1) >>= _) _ _ _
    replace hend : xs[k1]? = none ∨ ys[k2]? = none := by
      rcases hend with ⟨h, _⟩ | ⟨_, h⟩
      · exact .inl h
      · exact h
    cases hx : xs[k1]? with
    | none =>
      refine wpAny_bind (nextOf_end (s := { s with heap := h₁ }) q₁ a1 a2 hx fun h₂ e hs₂ he => ?_)
      obtain ⟨oe, hoe, hce⟩ := he
      have hz₂ : IsZp false h₂ z TI TO .ellipsis := hs₂ _ _ D.i1z.symm hz₁
      have hez : e ≠ z := fun x => by subst x; rw [hz₂] at hoe; cases hoe; simp at hce
      refine wpAny_setField_rec hz₂ (by simp) fun h₃ _ hs₃ => hE h₃ e (fun c o c1 _ c3 _ x => hs₃.extBut _ _ c1 (hs₂ _ _ c3 (hs₁.extBut _ _ c1 x))) ⟨oe, hs₃.extBut _ _ hez hoe, hce⟩
    | some x =>
      have hy : ys[k2]? = none := by rcases hend with h | h; rw [hx] at h; cases h; exact h
      refine wpAny_bind (nextOf_item (s := { s with heap := h₁ }) a1 a2 hx fun h₂ h1₂ hs₂ => wpAny_pure ?_)
      have q₂ : Quiet A h₂ := q₁.out a1 hs₂.extBut
      have hTO₂ : IsPair h₂ TO a b := hs₂.extBut _ _ D.TOi1 (hs₁.extBut _ _ D.TOz hTO)
      refine wpAny_bind (wpAny_seqItems (s := { s with heap := h₂ }) hTO₂ rfl ?_)
      refine wpAny_bind (wpAny_updateSeq_pair (s := { s with heap := h₂ }) hTO₂ fun h₃ hTO₃ hs₃ => ?_)
      have q₃ : Quiet A h₃ := q₂.outP hTO₂ hs₃.extBut
      refine wpAny_bind (wpAny_letGo (wpAny_pure ?_))
      refine wpAny_bind (wpAny_bind (wpAny_onRaise ?_))
      show wpAny _ _ (Builtin.SmallTypes.nextOf (.ref i2) >>= _) _ _ _
      refine wpAny_bind (nextOf_end (s := { s with heap := h₃ }) q₃ (((h2.ext hs₁.extBut D.i2z).ext hs₂.extBut D.i12.symm).ext hs₃.extBut D.TOi2.symm)
        (((hl2.ext hs₁.extBut D.l2z).ext hs₂.extBut D.l2i1).ext hs₃.extBut D.l2TO) hy fun h₄ e hs₄ he => ?_)
      obtain ⟨oe, hoe, hce⟩ := he
      have hz₄ : IsZp false h₄ z TI TO .ellipsis := hs₄ _ _ D.i2z.symm (hs₃.extBut _ _ D.TOz.symm (hs₂.extBut _ _ D.i1z.symm hz₁))
      have hez : e ≠ z := fun x => by subst x; rw [hz₄] at hoe; cases hoe; simp at hce
      refine wpAny_setField_rec hz₄ (by simp) fun h₅ _ hs₅ => hE h₅ e (fun c o c1 c2 c3 c4 x => hs₅.extBut _ _ c1 (hs₄ _ _ c4 (hs₃.extBut _ _ c2 (hs₂.extBut _ _ c3 (hs₁.extBut _ _ c1 x))))) ⟨oe, hs₅.extBut _ _ hez hoe, hce⟩
  | true =>
    obtain ⟨hx, hy⟩ : xs[k1]? = none ∧ ys[k2]? = none := by
      rcases hend with h | ⟨h, _⟩
      · exact h
      · cases h
    show wpAny _ _ (Builtin.SmallTypes.nextOrEnd (.ref i1)) _ _ _
    refine orEnd_end (s := { s with heap := h₁ }) q₁ a1 a2 hx fun h₂ hs₂ => ?_
    have q₂ : Quiet A h₂ := q₁.out a1 hs₂
    have hz₂ : IsZp true h₂ z TI TO .ellipsis := hs₂ _ _ D.i1z.symm hz₁
    refine wpAny_bind (wpAny_setField_rec hz₂ (by simp) fun h₃ _ hs₃ => ?_)
    have q₃ : Quiet A h₃ := q₂.outZ hz₂ hs₃.extBut
    have b1 := (((h2.ext hs₁.extBut D.i2z).ext hs₂ D.i12.symm).ext hs₃.extBut D.i2z)
    have b2 := (((hl2.ext hs₁.extBut D.l2z).ext hs₂ D.l2i1).ext hs₃.extBut D.l2z)
    refine wpAny_bind (wpAny_bind ?_)
    simp only [List.drop_succ_cons, List.drop_zero, List.zipIdx_cons, List.zipIdx_nil, List.forIn_cons, List.forIn_nil]
    refine wpAny_bind (wpAny_bind (orEnd_end (s := { s with heap := h₃ }) q₃ b1 b2 hy fun h₄ hs₄ => ?_))
    have q₄ : Quiet A h₄ := q₃.out b1 hs₄
    refine wpAny_pure (wpAny_pure (wpAny_bind (wpAny_rule ?_)))
    exact stop_raised (s := { s with heap := h₄ }) q₄ fun h₅ e k he => hE h₅ e (fun c o c1 c2 c3 c4 x => k _ _ (hs₄ _ _ c4 (hs₃.extBut _ _ c1 (hs₂ _ _ c3 (hs₁.extBut _ _ c1 x))))) he
end
end LwZ

set_option Elab.async false
set_option linter.all false
set_option maxRecDepth 100000
set_option maxHeartbeats 4000000
set_option autoImplicit false
/-! Lw, part Y: zip begun, its turns, the rules. -/
namespace LwZ
open PySem PySem.Spec PyProof.Rows L2 Lw
open PySem.Sem (wp)
theorem F_typeCall_zip_strict (a b v : Value) : checkTypeCall "zip" ⟨[a, b], [(Str.ofString "strict", v)]⟩ = pure () := by kernel_rfl
theorem F_newCall_zip_strict (a b v : Value) : checkBuiltinCall "zip.__new__" ⟨[.type "zip", a, b], [(Str.ofString "strict", v)]⟩ = pure () := by kernel_rfl
theorem F_args_object_init_strict (obj a b v : Value) : argsOk "object.__init__" ⟨[obj, a, b], [(Str.ofString "strict", v)]⟩ := by unfold argsOk; kernel_rfl
abbrev gzS2 (h : Heap) (o1 o2 : Obj) : Heap := (gzO2 h o1 o2).push { cls := .type "zip", data := .fields #[.none, .bool false, .bool true, .ref ((h.push o1).push o2).objs.size, .ref (gzT2 h o1 o2).objs.size] }
theorem meets_zip_newS2 {v1 v2 : Value} {o1 o2 : Obj} {H1 H2 : Heap → Prop} (B1 : Begins v1 o1 H1) (B2 : Begins v2 o2 H2) :
    Meets (Builtin.«zip.__new__» ⟨[.type "zip", v1, v2], [(Str.ofString "strict", .bool true)]⟩) (fun _ R s => (H1 s.heap ∧ H2 s.heap) ∧
      R (.ok (.ret (.ref (gzO2 s.heap o1 o2).objs.size))) { s with heap := gzS2 s.heap o1 o2 }) :=
  .of_wp fun prog w A R s h => by
    obtain ⟨hp, g, d, tk, os⟩ := s; obtain ⟨⟨h1, h2⟩, h⟩ := h
    have hsub := sub_zip
    have q1 : ∀ {A' : Around} {E : Value → Shared → Prop} {Q : Value → Shared → Prop}, Q (.ref hp.objs.size) ⟨(hp.push o1), g, d, tk, os⟩ → wpAny (model prog w) A' (pyIter v1) Q E ⟨hp, g, d, tk, os⟩ :=
      fun q => B1.iter prog w _ _ ⟨hp, g, d, tk, os⟩ _ (B1.keeps _ _ h1 fun b o' e => e) q
    have q2 : ∀ {A' : Around} {E : Value → Shared → Prop} {Q : Value → Shared → Prop}, Q (.ref (hp.push o1).objs.size) ⟨((hp.push o1).push o2), g, d, tk, os⟩ → wpAny (model prog w) A' (pyIter v2) Q E ⟨(hp.push o1), g, d, tk, os⟩ :=
      fun q => B2.iter prog w _ _ ⟨(hp.push o1), g, d, tk, os⟩ _ (B2.keeps _ _ h2 fun b o' e => (Heap.get?_push_of_some _ e)) q
    have e1 : (Str.ofString "strict" == ("strict" : Str)) = true := by decide +kernel
    have e2 : (Str.ofString "strict" != ("strict" : Str)) = false := by decide +kernel
    wp_walk using q1, q2
    exact ⟨_, rfl, h⟩
def itO (tp : Bool) (l : Addr) : Obj := { cls := .type (itN tp), data := .fields #[.ref l, .int 0 0] }
theorem begins_sq (tp : Bool) (l : Addr) (items : Array Value) : Begins (.ref l) (itO tp l) fun h => IsSq tp h l items := by
  cases tp
  · exact begins_list l items
  · exact begins_tuple l items
section
variable {prog : Program} {w : World} {A : Around} {E : Value → Shared → Prop} {s : Shared}
theorem zip_beginsS {v1 v2 : Value} {o1 o2 : Obj} {H1 H2 : Heap → Prop} {Q : Value → Shared → Prop} (B1 : Begins v1 o1 H1) (B2 : Begins v2 o2 H2) (h1 : H1 s.heap) (h2 : H2 s.heap)
    (h : ∀ h', IsZp true h' (s.heap.objs.size + 4) (s.heap.objs.size + 2) (s.heap.objs.size + 3) .none → IsTupOf2 h' (s.heap.objs.size + 2) (.ref s.heap.objs.size) (.ref (s.heap.objs.size + 1)) →
      IsTupOf2 h' (s.heap.objs.size + 3) .none .none → h'.get? s.heap.objs.size = some o1 → h'.get? (s.heap.objs.size + 1) = some o2 → h'.objs.size = s.heap.objs.size + 5 →
      (∀ c o, s.heap.get? c = some o → h'.get? c = some o) → Q (.ref (s.heap.objs.size + 4)) { s with heap := h' }) :
    wpAny (model prog w) A (call (.type "zip") [v1, v2] [(Str.ofString "strict", .bool true)]) Q E s := by
  refine callType_newKw F.called_zip (by decide) (F_typeCall_zip_strict _ _ _) (F_newCall_zip_strict _ _ _) (fun obj => F_args_object_init_strict obj _ _ _) F.entry_zip_new
    (meets_zip_newS2 B1 B2) ⟨⟨h1, h2⟩, ?_⟩
  have z1 : (s.heap.push o1).objs.size = s.heap.objs.size + 1 := by rw [Heap.size_push]
  have z2 : ((s.heap.push o1).push o2).objs.size = s.heap.objs.size + 2 := by rw [Heap.size_push, z1]
  have zT : (gzT2 s.heap o1 o2).objs.size = s.heap.objs.size + 3 := by rw [Heap.size_push, z2]
  have zO : (gzO2 s.heap o1 o2).objs.size = s.heap.objs.size + 4 := by rw [Heap.size_push, zT]
  have zZ : (gzS2 s.heap o1 o2).objs.size = s.heap.objs.size + 5 := by rw [Heap.size_push, zO]
  have gZ : (gzS2 s.heap o1 o2).get? (gzO2 s.heap o1 o2).objs.size = some { cls := .type "zip", data := .fields #[.none, .bool false, .bool true, .ref ((s.heap.push o1).push o2).objs.size, .ref (gzT2 s.heap o1 o2).objs.size] } := Heap.get?_push_size _ rfl
  have gO : (gzS2 s.heap o1 o2).get? (gzT2 s.heap o1 o2).objs.size = some { cls := .type "tuple", data := .seq #[.none, .none] } := Heap.get?_push_of_some _ (Heap.get?_push_size _ rfl)
  have gT : (gzS2 s.heap o1 o2).get? ((s.heap.push o1).push o2).objs.size = some { cls := .type "tuple", data := .seq #[.ref s.heap.objs.size, .ref (s.heap.push o1).objs.size] } := Heap.get?_push_of_some _ (Heap.get?_push_of_some _ (Heap.get?_push_size _ rfl))
  have g1 : (gzS2 s.heap o1 o2).get? s.heap.objs.size = some o1 := Heap.get?_push_of_some _ (Heap.get?_push_of_some _ (Heap.get?_push_of_some _ (Heap.get?_push_of_some _ (Heap.get?_push_size _ B1.free))))
  have g2 : (gzS2 s.heap o1 o2).get? (s.heap.push o1).objs.size = some o2 := Heap.get?_push_of_some _ (Heap.get?_push_of_some _ (Heap.get?_push_of_some _ (Heap.get?_push_size _ B2.free)))
  rw [zO, zT, z2] at gZ
  rw [zT] at gO
  rw [z2, z1] at gT
  rw [z1] at g2
  show _ ∧ _
  rw [zO]
  exact ⟨⟨_, gZ, rfl⟩, h _ gZ gT gO g1 g2 zZ fun c o x => Heap.get?_push_of_some _ (Heap.get?_push_of_some _ (Heap.get?_push_of_some _ (Heap.get?_push_of_some _ (Heap.get?_push_of_some _ x))))⟩
/-- zip(v1, v2) or zip(v1, v2, strict=True): begun -/
def zkw : Bool → List (Str × Value)
  | true => [(Str.ofString "strict", .bool true)]
  | false => []
theorem call_zp {st p1 p2 : Bool} {l1 l2 : Addr} {xs ys : Array Value} {Q : Value → Shared → Prop} (hl1 : IsSq p1 s.heap l1 xs) (hl2 : IsSq p2 s.heap l2 ys)
    (h : ∀ h', IsZp st h' (s.heap.objs.size + 4) (s.heap.objs.size + 2) (s.heap.objs.size + 3) .none → IsPair h' (s.heap.objs.size + 2) (.ref s.heap.objs.size) (.ref (s.heap.objs.size + 1)) →
      IsPair h' (s.heap.objs.size + 3) .none .none → IsIt p1 h' s.heap.objs.size l1 0 → IsIt p2 h' (s.heap.objs.size + 1) l2 0 → h'.objs.size = s.heap.objs.size + 5 →
      (∀ c o, s.heap.get? c = some o → h'.get? c = some o) → Q (.ref (s.heap.objs.size + 4)) { s with heap := h' }) :
    wpAny (model prog w) A (call (.type "zip") [.ref l1, .ref l2] (zkw st)) Q E s := by
  cases st with
  | false => exact zip_begins2 (begins_sq p1 l1 xs) (begins_sq p2 l2 ys) hl1 hl2 fun h' a1 a2 a3 a4 a5 a6 a7 => h h' a1 a2 a3 (.mk ⟨_, a4, rfl, rfl⟩) (.mk ⟨_, a5, rfl, rfl⟩) a6 a7
  | true => exact zip_beginsS (begins_sq p1 l1 xs) (begins_sq p2 l2 ys) hl1 hl2 fun h' a1 a2 a3 a4 a5 a6 a7 => h h' a1 a2 a3 (.mk ⟨_, a4, rfl, rfl⟩) (.mk ⟨_, a5, rfl, rfl⟩) a6 a7
theorem pyNext_zp_item {st p1 p2 : Bool} {z TI TO i1 i2 l1 l2 : Addr} {k1 k2 : Nat} {xs ys : Array Value} {x y a b : Value} {Q : Option Value → Shared → Prop} (D : ZipApart z TI TO i1 i2 l1 l2)
    (hz : IsZp st s.heap z TI TO .none) (hTI : IsPair s.heap TI (.ref i1) (.ref i2)) (hTO : IsPair s.heap TO a b)
    (h1 : IsIt p1 s.heap i1 l1 k1) (h2 : IsIt p2 s.heap i2 l2 k2) (hl1 : IsSq p1 s.heap l1 xs) (hl2 : IsSq p2 s.heap l2 ys) (hx : xs[k1]? = some x) (hy : ys[k2]? = some y)
    (hQ : ∀ h', IsZp st h' z TI TO (rawInt s.heap.objs.size) → IsPair h' TO x y → IsIt p1 h' i1 l1 (k1 + 1) → IsIt p2 h' i2 l2 (k2 + 1) → IsPair h' s.heap.objs.size x y → h'.objs.size = s.heap.objs.size + 1 →
      (∀ c o, c ≠ z → c ≠ TO → c ≠ i1 → c ≠ i2 → s.heap.get? c = some o → h'.get? c = some o) → Q (some (.ref s.heap.objs.size)) { s with heap := h' }) :
    wpAny (model prog w) A (pyNext (.ref z)) Q E s := by
  have hT : s.TypeIs (.ref z) "zip" := ⟨_, hz, rfl⟩
  unfold pyNext
  exact wpAny_bind (wpAny_attempt (wpAny_callSpecial?_slot (name := Str.ofString "__next__") hT F.slot_zip_next
    (wpAny_call_entry F.slot_zip_next hT F.entry_zip_next
      (zip_item D hz hTI hTO h1 h2 hl1 hl2 hx hy fun h' a1 a2 a3 a4 a5 a6 a7 => wpAny_pure (hQ h' a1 a2 a3 a4 a5 a6 a7)) (F.args_zip_next_1 _))))
theorem pyNext_zp_end {st p1 p2 : Bool} {z TI TO i1 i2 l1 l2 : Addr} {k1 k2 : Nat} {xs ys : Array Value} {a b : Value} {Q : Option Value → Shared → Prop} (q : Quiet A s.heap) (D : ZipApart z TI TO i1 i2 l1 l2)
    (hz : IsZp st s.heap z TI TO .none) (hTI : IsPair s.heap TI (.ref i1) (.ref i2)) (hTO : IsPair s.heap TO a b)
    (h1 : IsIt p1 s.heap i1 l1 k1) (h2 : IsIt p2 s.heap i2 l2 k2) (hl1 : IsSq p1 s.heap l1 xs) (hl2 : IsSq p2 s.heap l2 ys) (hend : (xs[k1]? = none ∧ ys[k2]? = none) ∨ (st = false ∧ (xs[k1]? = none ∨ ys[k2]? = none)))
    (hQ : ∀ h', (∀ c o, c ≠ z → c ≠ TO → c ≠ i1 → c ≠ i2 → s.heap.get? c = some o → h'.get? c = some o) → Q none { s with heap := h' }) : wpAny (model prog w) A (pyNext (.ref z)) Q E s := by
  have hT : s.TypeIs (.ref z) "zip" := ⟨_, hz, rfl⟩
  unfold pyNext
  refine wpAny_bind (wpAny_attempt (wpAny_callSpecial?_slot (name := Str.ofString "__next__") hT F.slot_zip_next
    (wpAny_call_entry F.slot_zip_next hT F.entry_zip_next (zip_end (A := A.in1) q D hz hTI hTO h1 h2 hl1 hl2 hend fun h' e hk he => ?_) (F.args_zip_next_1 _))))
  obtain ⟨o, ho, hc⟩ := he
  refine wpAny_bind (wpAny_isInstance (T := "StopIteration") (b := true) ⟨o, ho, hc⟩ isSubtype_stop ?_)
  exact wpAny_pure (hQ _ hk)
theorem pyIter_zp {st : Bool} {z TI TO : Addr} {f0 : Value} {Q : Value → Shared → Prop} (hz : IsZp st s.heap z TI TO f0) (h : Q (.ref z) s) : wpAny (model prog w) A (pyIter (.ref z)) Q E s := by
  have hT : s.TypeIs (.ref z) "zip" := ⟨_, hz, rfl⟩
  refine wpAny_pyIter_slot hT F.slot_zip_iter (wpAny_call_entry F.slot_zip_iter hT F.entry_zip_iter ?_ (F.args_zip_iter_1 _))
  show wpAny _ _ (ret (.ref z)) _ _ s
  exact wpAny_pure ⟨_, rfl, "zip", _, hT, F.slot_zip_next.lookup, h⟩
theorem letGo_zp {st : Bool} {elts : List Expr} {kk : Nat} {tpos : Pos} {z TI TO T : Addr} {Q : Unit → Shared → Prop} (hz : IsZp st s.heap z TI TO (rawInt T))
    (h : ∀ h', IsZp st h' z TI TO .none → Heap.SameBut z s.heap h' → Q () { s with heap := h' }) : wpAny (model prog w) A (letOwnedTupleGo (.Tuple elts kk tpos) (.ref z) (.ref T)) Q E s := by
  unfold letOwnedTupleGo
  refine wpAny_bind (wpAny_load hz ?_)
  show wpAny _ _ (if (["enumerate", "zip", "dict_itemiterator", "dict_reverseitemiterator", "odict_iterator", "itertools.zip_longest", "itertools.pairwise"].contains "zip" &&
      (#[rawInt T, .bool false, .bool st, .ref TI, .ref TO] : Array Value)[0]? == some (rawInt T)) = true then _ else _) Q E s
  rw [if_pos (by simp)]
  refine wpAny_bind (wpAny_rule ?_)
  show wpAny _ _ (setField (.ref z) 0 .none) Q E s
  exact wpAny_setField_rec hz (by simp) fun h' hz' hs' => h h' hz' hs'
end
/-- a list or a tuple, as the analysis sees it -/
def SqB (K : PySem.W.Frag) (tp : Bool) (H : Hp) (a : Addr) (xs : List V) : Prop := match tp with
  | true => SqT K H a xs
  | false => SqL K H a xs
theorem inv_sq {X : Cx} {pins : List (Addr × Obj)} {σ : L2.St} {H : Hp} {s : Shared} {tp : Bool} {a : Addr} {xs : List V} (I : Inv X pins σ H s) (h : SqB X.K tp H a xs) : ∃ its : List Value, Vals xs its ∧ IsSq tp s.heap a its.toArray := by
  cases tp
  · obtain ⟨its, rv, p, _⟩ := I.list h
    exact ⟨its, rv, p.isList⟩
  · obtain ⟨its, rv, p, _⟩ := I.tuple h
    exact ⟨its, rv, p⟩
theorem inv_sq_inj {X : Cx} {pins : List (Addr × Obj)} {σ : L2.St} {H : Hp} {s : Shared} {tp : Bool} {a : Addr} {xs ys : List V} (I : Inv X pins σ H s) (h : SqB X.K tp H a xs) (h2 : SqB X.K tp H a ys) : xs = ys := by
  cases tp
  · exact I.list_inj h h2
  · exact I.tuple_inj h h2
/-- the two sequences as they stand at each turn, the items in new pairs -/
def ItZ (K : PySem.W.Frag) (st p1 p2 : Bool) (a b : Addr) : It :=
  ⟨fun i H => ∃ (xs ys : List V) (x y : V), SqB K p1 H a xs ∧ SqB K p2 H b ys ∧ xs[i]? = some x ∧ ys[i]? = some y,
    fun i H v H' => ∃ T x y, v = .ref T ∧ H T = none ∧ H' = upd H T (.tup [x, y]) ∧ (∀ xs, SqB K p1 H a xs → xs[i]? = some x) ∧ ∀ ys, SqB K p2 H b ys → ys[i]? = some y,
    fun i H => ∃ xs ys : List V, SqB K p1 H a xs ∧ SqB K p2 H b ys ∧ ((xs.length ≤ i ∧ ys.length ≤ i) ∨ (st = false ∧ (xs.length ≤ i ∨ ys.length ≤ i)))⟩
abbrev zTn (st p1 p2 : Bool) (a b z TI TO i1 i2 : Addr) (i : Nat) (h : Heap) : Prop := IsZp st h z TI TO .none ∧ IsPair h TI (.ref i1) (.ref i2) ∧ (∃ x y, IsPair h TO x y) ∧ IsIt p1 h i1 a i ∧ IsIt p2 h i2 b i
section
variable {st p1 p2 : Bool} {a b z TI TO i1 i2 : Addr}
theorem zp_obj (i : Nat) (h : Heap) (t : zTn st p1 p2 a b z TI TO i1 i2 i h) (c : Addr) (hc : c ∈ [z, TI, TO, i1, i2]) : ∃ o, h.get? c = some o ∧ ∀ v, o.data ≠ .cell v := by
  obtain ⟨hz, hTI, ⟨x, y, hTO⟩, j1, j2⟩ := t
  obtain ⟨o1, e1, _, d1⟩ := j1.get
  obtain ⟨o2, e2, _, d2⟩ := j2.get
  have e' : c = z ∨ c = TI ∨ c = TO ∨ c = i1 ∨ c = i2 := by simpa using hc
  rcases e' with q | q | q | q | q
  · rw [q]; exact ⟨_, hz, fun v q => nomatch q⟩
  · rw [q]; exact ⟨_, hTI, fun v q => nomatch q⟩
  · rw [q]; exact ⟨_, hTO, fun v q => nomatch q⟩
  · rw [q]; exact ⟨o1, e1, fun v q => by rw [d1] at q; cases q⟩
  · rw [q]; exact ⟨o2, e2, fun v q => by rw [d2] at q; cases q⟩
theorem zp_keep (i : Nat) (h h' : Heap) (t : zTn st p1 p2 a b z TI TO i1 i2 i h) (k : ∀ c ∈ [z, TI, TO, i1, i2], ∀ o, h.get? c = some o → h'.get? c = some o) : zTn st p1 p2 a b z TI TO i1 i2 i h' := by
  obtain ⟨hz, hTI, ⟨x, y, hTO⟩, h1, h2⟩ := t
  exact ⟨k z (by simp) _ hz, k TI (by simp) _ hTI, ⟨x, y, k TO (by simp) _ hTO⟩, h1.at fun o q => k i1 (by simp) o q, h2.at fun o q => k i2 (by simp) o q⟩
theorem zp_item {elts : List Expr} {kk : Nat} {tpos : Pos} (D : ZipApart z TI TO i1 i2 a b) (X : Cx) (i : Nat) (pins : List (Addr × Obj)) (s : Shared) (σ : L2.St) (H : Hp) (E : Value → Shared → Prop) (I : Inv X pins σ H s) (hf : ∀ c ∈ [z, TI, TO, i1, i2], FpOk X pins H c)
    (t : zTn st p1 p2 a b z TI TO i1 i2 i s.heap) (hg : (ItZ X.K st p1 p2 a b).go i H) :
    wpAny (model X.prog X.w) X.A (pyNext (.ref z)) (fun r s1 => ∃ u, r = some u ∧
      wpAny (model X.prog X.w) X.A (letOwnedTupleGo (.Tuple elts kk tpos) (.ref z) u) (fun _ s2 => ∃ x H', Inv X pins σ H' s2 ∧ RelV x u ∧ (ItZ X.K st p1 p2 a b).yld i H x H' ∧ zTn st p1 p2 a b z TI TO i1 i2 (i + 1) s2.heap ∧ ∀ b ∈ [z, TI, TO, i1, i2], H' b = none) E s1) E s := by
  obtain ⟨hz, hTI, ⟨x0, y0, hTO⟩, h1, h2⟩ := t
  obtain ⟨xs, ys, x, y, hqx, hqy, hx, hy⟩ := hg
  obtain ⟨its, rv, p⟩ := inv_sq I hqx
  obtain ⟨its2, rv2, p2⟩ := inv_sq I hqy
  obtain ⟨u, hu, ru⟩ := rv.get hx
  obtain ⟨u2, hu2, ru2⟩ := rv2.get hy
  have hzl : z < s.heap.objs.size := Heap.lt_size hz
  refine pyNext_zp_item D hz hTI hTO h1 h2 p p2 (x := u) (y := u2) (by simpa using hu) (by simpa using hu2) fun h' z' TO' h1' h2' hT hsz hk => ?_
  refine ⟨_, rfl, letGo_zp (s := { s with heap := h' }) z' fun h'' z'' sb => ?_⟩
  have hT2 : h''.get? s.heap.objs.size = some { cls := .type "tuple", data := .seq #[u, u2] } := (sb.2 _ (Nat.ne_of_gt hzl)).trans hT
  have new : ObjOk X.prog X.w (upd H s.heap.objs.size (.tup [x, y])) h'' s.heap.objs.size (.tup [x, y]) :=
    ⟨by show 2 ≤ sizeLine; decide, [u, u2], .cons ru (.cons ru2 .nil), ⟨_, hT2, rfl, _, rfl⟩⟩
  have I1 : Inv X pins σ (upd H s.heap.objs.size (.tup [x, y])) { s with heap := h'' } :=
    I.turnedNew (t' := s.toks) (ch := [z, TI, TO, i1, i2]) (fun c o hb q => (sb.2 c (fun q' => hb (by simp [q']))).trans (hk c o (fun q' => hb (by simp [q'])) (fun q' => hb (by simp [q'])) (fun q' => hb (by simp [q'])) (fun q' => hb (by simp [q'])) q)) hf (Nat.le_refl _) new
  refine ⟨.ref s.heap.objs.size, _, I1, rfl, ⟨_, x, y, rfl, I.hok.fresh (Nat.le_refl _), rfl, fun l hl => by rw [inv_sq_inj I hl hqx]; exact hx, fun l hl => by rw [inv_sq_inj I hl hqy]; exact hy⟩, ⟨z'', ?_, ⟨u, u2, ?_⟩, ?_, ?_⟩, fun c hcm => ?_⟩
  · exact (sb.2 _ D.TIz).trans (hk _ _ D.TIz D.TITO D.TIi1 D.TIi2 hTI)
  · exact (sb.2 _ D.TOz).trans TO'
  · exact h1'.at fun o q => (sb.2 _ D.i1z).trans q
  · exact h2'.at fun o q => (sb.2 _ D.i2z).trans q
  · have hlt : c < s.heap.objs.size := by
      have e' : c = z ∨ c = TI ∨ c = TO ∨ c = i1 ∨ c = i2 := by simpa using hcm
      rcases e' with q | q | q | q | q
      · rw [q]; exact hzl
      · rw [q]; exact Heap.lt_size hTI
      · rw [q]; exact Heap.lt_size hTO
      · rw [q]; obtain ⟨_, e1, _⟩ := h1.get; exact Heap.lt_size e1
      · rw [q]; obtain ⟨_, e2, _⟩ := h2.get; exact Heap.lt_size e2
    rw [upd_ne (Nat.ne_of_lt hlt)]
    exact (hf c hcm).1
theorem zp_done (D : ZipApart z TI TO i1 i2 a b) (X : Cx) (i : Nat) (pins : List (Addr × Obj)) (s : Shared) (σ : L2.St) (H : Hp) (E : Value → Shared → Prop) (qt : Quiet X.A s.heap) (I : Inv X pins σ H s) (hf : ∀ c ∈ [z, TI, TO, i1, i2], FpOk X pins H c)
    (t : zTn st p1 p2 a b z TI TO i1 i2 i s.heap) (hg : (ItZ X.K st p1 p2 a b).stop i H) : wpAny (model X.prog X.w) X.A (pyNext (.ref z)) (fun r s1 => r = none ∧ Inv X pins σ H s1) E s := by
  obtain ⟨hz, hTI, ⟨x0, y0, hTO⟩, h1, h2⟩ := t
  obtain ⟨xs, ys, hqx, hqy, hend⟩ := hg
  obtain ⟨its, rv, p⟩ := inv_sq I hqx
  obtain ⟨its2, rv2, p2⟩ := inv_sq I hqy
  have l1 := rv.length
  have l2 := rv2.length
  have he : (its.toArray[i]? = none ∧ its2.toArray[i]? = none) ∨ (st = false ∧ (its.toArray[i]? = none ∨ its2.toArray[i]? = none)) := by
    rcases hend with ⟨q, q2⟩ | ⟨e, q | q⟩
    · exact .inl ⟨by simp; omega, by simp; omega⟩
    · exact .inr ⟨e, .inl (by simp; omega)⟩
    · exact .inr ⟨e, .inr (by simp; omega)⟩
  exact pyNext_zp_end qt D hz hTI hTO h1 h2 p p2 he fun h' hk => ⟨rfl, I.turnedL (t' := s.toks) (ch := [z, TI, TO, i1, i2]) (fun c o hb q =>
    hk c o (fun q' => hb (by simp [q'])) (fun q' => hb (by simp [q'])) (fun q' => hb (by simp [q'])) (fun q' => hb (by simp [q'])) q) hf⟩
theorem turn_zp {P : Program} {w : World} {K : PySem.W.Frag} {elts : List Expr} {kk : Nat} {tpos : Pos} (D : ZipApart z TI TO i1 i2 a b) :
    Turn P w K (.Tuple elts kk tpos) (ItZ K st p1 p2 a b) [z, TI, TO, i1, i2] z (zTn st p1 p2 a b z TI TO i1 i2) where
  mem := by simp
  obj := zp_obj
  keep := zp_keep
  item := by
    intro X hP hw hK hc i pins s σ H E I hf t hg
    subst hP hw hK
    exact zp_item D X i pins s σ H E I hf t hg
  done := by
    intro X hP hw hK hc i pins s σ H E I hf t hg
    subst hP hw hK
    exact zp_done D X i pins s σ H E (.inl (I.ok.hd hc)) I hf t hg
  self := fun A i s Q E t h => pyIter_zp t.1 h
theorem turn_zpH {P : Program} {w : World} {K : PySem.W.Frag} {elts : List Expr} {kk : Nat} {tpos : Pos} (D : ZipApart z TI TO i1 i2 a b) :
    L2H.TurnH P w K (.Tuple elts kk tpos) (ItZ K st p1 p2 a b) [z, TI, TO, i1, i2] z (zTn st p1 p2 a b z TI TO i1 i2) where
  mem := by simp
  obj := zp_obj
  keep := zp_keep
  item := by
    intro X hP hw hK hc i pins s σ H E I hf t hg
    subst hP hw hK
    exact zp_item D X i pins s σ H E I hf t hg
  done := by
    intro X hP hw hK hc i pins s σ H E I hf t hg
    subst hP hw hK
    exact zp_done D X i pins s σ H E (.inr (L2H.HotC.at hc I)) I hf t hg
  self := fun A i s Q E t h => pyIter_zp t.1 h
end
def iZip (K : PySem.W.Frag) (st : Bool) (ta : TA) : TI := fun σ H R => ta σ H fun vs H1 => ∃ a b p1 p2 xs ys, vs = [.ref a, .ref b] ∧ SqB K p1 H1 a xs ∧ SqB K p2 H1 b ys ∧ R (ItZ K st p1 p2 a b) H1
theorem callWith_typeKw {M : Model} {A : Around} {E : Value → Shared → Prop} {s : Shared} {pos : Pos} {T : String} {args : List (Bool × Sem Value)} {keywords : List (Option Str × Sem Value)} {Q : Value → Shared → Prop}
    (hplain : args.any (·.1) = false) (hkw : keywords.any (·.1.isNone) = false)
    (h : wpAny M A (evalArgs (.type T) true args keywords) (fun a s₁ => wpAny M A (call (.type T) a.pos a.kw) Q E s₁) E s) :
    wpAny M A (callWith pos (.type T) [] args keywords) Q E s := by
  unfold callWith
  refine wpAny_bind (wpAny_holding (wpAny_mono h (fun a s₁ h₁ => wpAny_bind (wpAny_standAt ?_)) fun _ _ x => x))
  simp only [hplain, hkw, Bool.or_false]
  refine wpAny_bind (wpAny_pure ?_)
  exact wpAny_bind (wpAny_mono h₁ (fun r s₂ hr => wpAny_bind (wpAny_holding (wpAny_point (wpAny_pure hr)))) fun _ _ x => x)
section
variable {X : Cx} {pins : List (Addr × Obj)} {σ : L2.St} {H1 : Hp} {s1 : Shared} {R : It → Hp → Prop} {elts : List Expr} {kk : Nat} {tpos : Pos} {st : Bool}
theorem zp_go {Q : Value → Shared → Prop} {us : List Value} {vs : List V} (hD : ∀ {p1 p2 : Bool} {a b : Addr} {xs ys : List V}, SqB X.K p1 H1 a xs → SqB X.K p2 H1 b ys → R (ItZ X.K st p1 p2 a b) H1 →
      ∀ h', zTn st p1 p2 a b (s1.heap.objs.size + 4) (s1.heap.objs.size + 2) (s1.heap.objs.size + 3) s1.heap.objs.size (s1.heap.objs.size + 1) 0 h' → ZipApart (s1.heap.objs.size + 4) (s1.heap.objs.size + 2) (s1.heap.objs.size + 3) s1.heap.objs.size (s1.heap.objs.size + 1) a b →
      Inv X pins σ H1 { s1 with heap := h' } → (∀ c, c ∈ [s1.heap.objs.size + 4, s1.heap.objs.size + 2, s1.heap.objs.size + 3, s1.heap.objs.size, s1.heap.objs.size + 1] → FpOk X pins H1 c) → wpAny (model X.prog X.w) X.A (pyIter (.ref (s1.heap.objs.size + 4))) Q X.xe { s1 with heap := h' })
    (I1 : Inv X pins σ H1 s1) (r1 : Vals vs us) (q1 : ∃ a b p1 p2 xs ys, vs = [.ref a, .ref b] ∧ SqB X.K p1 H1 a xs ∧ SqB X.K p2 H1 b ys ∧ R (ItZ X.K st p1 p2 a b) H1) :
    wpAny (model X.prog X.w) X.A (call (.type "zip") us (zkw st)) (fun v s2 => wpAny (model X.prog X.w) X.A (pyIter v) Q X.xe s2) X.xe s1 := by
  obtain ⟨a, b, p1, p2, xs, ys, ex, hqx, hqy, q⟩ := q1
  subst ex
  cases r1 with
  | cons r rr =>
    cases rr with
    | cons r' rr =>
      cases rr
      cases r
      cases r'
      have fresh5 : ∀ c, c ∈ [s1.heap.objs.size + 4, s1.heap.objs.size + 2, s1.heap.objs.size + 3, s1.heap.objs.size, s1.heap.objs.size + 1] → FpOk X pins H1 c := fun c hcm => by
        have e' : c = s1.heap.objs.size + 4 ∨ c = s1.heap.objs.size + 2 ∨ c = s1.heap.objs.size + 3 ∨ c = s1.heap.objs.size ∨ c = s1.heap.objs.size + 1 := by simpa using hcm
        have hle : s1.heap.objs.size ≤ c := by
          rcases e' with z | z | z | z | z <;> rw [z] <;> first | exact Nat.le_add_right _ _ | exact Nat.le_refl _
        exact I1.fpOk hle (I1.hok.fresh hle)
      obtain ⟨its, rv, e1⟩ := inv_sq I1 hqx
      obtain ⟨its2, rv2, e2⟩ := inv_sq I1 hqy
      obtain ⟨o1, n1, ho1, _⟩ := e1.get
      obtain ⟨o2, n2, ho2, _⟩ := e2.get
      refine call_zp e1 e2 fun h' hz hTI hTO h1 h2 hsz hk => ?_
      exact hD hqx hqy q h' ⟨hz, hTI, ⟨_, _, hTO⟩, h1, h2⟩ (PySem.W.ktu_apart s1.heap.objs.size a b (Heap.lt_size ho1) (Heap.lt_size ho2)) (I1.kept (t' := s1.toks) hk) fresh5
end
theorem pi_zipM {X : Cx} (K : PySem.W.Frag) {e e2 : Expr} {ta : TA} {p pos tpos : Pos} {elts : List Expr} {kk : Nat} (hg : Gl X "zip") (hm : X.mg "zip" = none) (ha : PA X [e, e2] ta) (hK : X.K = K := by rfl)
    (hs : starEach [e, e2] X.env = (false, eval e X.env) :: starEach [e2] X.env := by rfl) (hpl : (backTo pos (starEach [e2] X.env)).any (·.1) = false := by rfl) :
    PI X (.Tuple elts kk tpos) (.Call (.Name "zip" p) [e, e2] [] pos) (iZip K false ta) := by
  subst hK
  refine ⟨fun pins s σ H R I h => ?_⟩
  refine Call_ (ld_blt I hg hm PyProof.Rows.boot_zip (PyProof.Rows.callWith_type1 (thn (ha.run pos pins s σ H _ I h) fun us s1 ⟨vs, H1, I1, r1, q1⟩ => ?_) hs hpl))
  exact zp_go (st := false) (fun {p1 p2 a b xs ys} hqx hqy q h' t D I2 f => pyIter_zp t.1 ⟨_, _, _, _, H1, rfl, I2, turn_zp D, t, f, q⟩) I1 r1 q1
theorem pi_zipS {X : Cx} (K : PySem.W.Frag) {e e2 : Expr} {ta : TA} {p pos tpos kp : Pos} {cn : Nat} {cp : Pos} {elts : List Expr} {kk : Nat} (hg : Gl X "zip") (hm : X.mg "zip" = none) (ha : PA X [e, e2] ta) (hK : X.K = K := by rfl)
    (hs : backTo pos (starEach [e, e2] X.env) = (false, eval e X.env) :: backTo pos (starEach [e2] X.env) := by rfl) (hpl : (backTo pos (starEach [e, e2] X.env)).any (·.1) = false := by rfl) :
    PI X (.Tuple elts kk tpos) (.Call (.Name "zip" p) [e, e2] [⟨some "strict", .Constant (.bool true) cn cp, kp⟩] pos) (iZip K true ta) := by
  subst hK
  refine ⟨fun pins s σ H R I h => ?_⟩
  show wpAny _ _ (eval (.Name "zip" p) X.env >>= _) _ _ _
  refine wpAny_bind (ld_blt I hg hm PyProof.Rows.boot_zip (callWith_typeKw hpl rfl ?_))
  have hr := ha.run pos pins s σ H _ I h
  rw [hs] at hr ⊢
  refine evalArgs_kwB rfl (thn hr fun us s1 ⟨vs, H1, I1, r1, q1⟩ => kws_cons (thn ?_ fun v s2 (hv : v = .bool true ∧ s2 = s1) => kws_nil ?_))
  · exact wpAny_pure ⟨rfl, rfl⟩
  · obtain ⟨rfl, rfl⟩ := hv
    exact zp_go (st := true) (fun {p1 p2 a b xs ys} hqx hqy q h' t D I2 f => pyIter_zp t.1 ⟨_, _, _, _, H1, rfl, I2, turn_zp D, t, f, q⟩) I1 r1 q1
/-! ### the data that zip feeds -/
inductive SeqD : PyData → List PyData → Prop
  | lst (ds : List PyData) : SeqD (.list ds) ds
  | tup (ds : List PyData) : SeqD (.tuple ds) ds
def zipD (ds es : List PyData) : List PyData := List.zipWith (fun a b => .tuple [a, b]) ds es
section
variable {K : PySem.W.Frag} {T : Tb} {ρ : List Slot} {ta : TA}
theorem seqD_sq {H : Hp} {S : List Addr} {v : V} {d : PyData} {ds : List PyData} (hd : SeqD d ds) (dv : Dt K (hide H S) v d) : ∃ (a : Addr) (tp : Bool) (xs : List V), v = .ref a ∧ DtAll K (hide H S) xs ds ∧
    ∀ (H' : Hp) (S' : List Addr), Kp (hide H S) (hide H' S') → SqB K tp H' a xs := by
  cases hd with
  | lst =>
    cases dv with
    | lst h1 a1 => exact ⟨_, false, _, rfl, a1, fun H' S' k => SqL.of (hide_get (k _ _ h1 rfl))⟩
  | tup =>
    cases dv with
    | tup h1 a1 => exact ⟨_, true, _, rfl, a1, fun H' S' k => sqt_hide (k.sqt h1)⟩
theorem feeds_zip {st : Bool} {B : Hp} {a b : Addr} {p1 p2 : Bool} {xs ys : List V} {ds es : List PyData} (hl : st = true → ds.length = es.length) (d1 : DtAll K B xs ds) (d2 : DtAll K B ys es)
    (s1 : ∀ (H' : Hp) (S' : List Addr), Kp B (hide H' S') → SqB K p1 H' a xs) (s2 : ∀ (H' : Hp) (S' : List Addr), Kp B (hide H' S') → SqB K p2 H' b ys) : Feeds K T (ItZ K st p1 p2 a b) B (zipD ds es) := by
  intro i H S k l
  have q1 := s1 H S k
  have q2 := s2 H S k
  refine ⟨fun d hd => ?_, fun hle => ⟨xs, ys, q1, q2, ?_⟩⟩
  · have hz : (zipD ds es)[i]? = some d := hd
    unfold zipD at hz
    rw [List.getElem?_zipWith] at hz
    cases hx : ds[i]? with
    | none => rw [hx] at hz; cases hz
    | some x =>
      cases hy : es[i]? with
      | none => rw [hx, hy] at hz; cases hz
      | some y =>
        rw [hx, hy] at hz
        cases hz
        obtain ⟨v1, hv1, e1⟩ := d1.get hx
        obtain ⟨v2, hv2, e2⟩ := d2.get hy
        refine ⟨⟨xs, ys, v1, v2, q1, q2, hv1, hv2⟩, fun x' H2 hyl => ?_⟩
        obtain ⟨Ta, w1, w2, rfl, hT, rfl, f1, f2⟩ := hyl
        have g1 := f1 _ q1
        have g2 := f2 _ q2
        rw [hv1] at g1
        rw [hv2] at g2
        cases g1
        cases g2
        have k2 : Kp B (hide (upd H Ta (.tup [v1, v2])) S) := k.trans ((Ext.new (T := T) hT).kp.hide S)
        exact ⟨.new hT, .tup (.inl (.inl (hide_at l (.of hT) rfl))) (.cons (e1.kp k2) (.cons (e2.kp k2) .nil))⟩
  · have hz : (zipD ds es).length = min ds.length es.length := by simp [zipD]
    rw [hz] at hle
    rw [d1.len, d2.len]
    cases st with
    | true => have := hl rfl; exact .inl ⟨by omega, by omega⟩
    | false => exact .inr ⟨rfl, by omega⟩
theorem it_zip {st : Bool} {d e : PyData} {ds es : List PyData} (h : EvA K T ta ρ [d, e]) (hd : SeqD d ds) (he : SeqD e es) (hl : st = true → ds.length = es.length) : IterD K T (iZip K st ta) ρ (zipD ds es) := fun H0 B C H S σ g R hR =>
  h H0 B C H S σ g _ fun vs H2 ex dv => by
    cases dv with
    | cons b1 b2 =>
      cases b2 with
      | cons b2 b3 =>
        cases b3
        obtain ⟨a, p1, xs, rfl, a1, q1⟩ := seqD_sq hd b1
        obtain ⟨b, p2, ys, rfl, a2, q2⟩ := seqD_sq he b2
        exact ⟨a, b, p1, p2, xs, ys, rfl, q1 _ _ (.refl _), q2 _ _ (.refl _), hR _ _ ex (feeds_zip hl a1 a2 q1 q2)⟩
theorem it_zipN {d e : PyData} {ds es : List PyData} (h : EvA K T ta ρ [d, e]) (hd : SeqD d ds) (he : SeqD e es) : IterD K T (iZip K false ta) ρ (zipD ds es) := it_zip h hd he nofun
theorem it_zipS {d e : PyData} {ds es : List PyData} (h : EvA K T ta ρ [d, e]) (hd : SeqD d ds) (he : SeqD e es) (hl : ds.length = es.length) : IterD K T (iZip K true ta) ρ (zipD ds es) := it_zip h hd he fun _ => hl
theorem zipD_get {ds es : List PyData} {i : Nat} {d : PyData} (h : (zipD ds es)[i]? = some d) : ∃ x y, d = .tuple [x, y] ∧ ds[i]? = some x ∧ es[i]? = some y := by
  unfold zipD at h
  rw [List.getElem?_zipWith] at h
  cases hx : ds[i]? with
  | none => rw [hx] at h; cases h
  | some x =>
    cases hy : es[i]? with
    | none => rw [hx, hy] at h; cases h
    | some y => rw [hx, hy] at h; cases h; exact ⟨x, y, rfl, rfl, rfl⟩
end
end LwZ

set_option Elab.async false
set_option linter.all false
set_option maxRecDepth 100000
set_option maxHeartbeats 4000000
set_option autoImplicit false
/-! Lw, part X: results told by a property alone. -/
namespace Lw
open PySem L2
section
variable (K : PySem.W.Frag) (T : Tb)
def EvX (te : TE) (ρ : List Slot) (Po : PyData → Prop) : Prop := ∀ (H0 B : Hp) (C : List Addr) (H : Hp) (S : List Addr) (σ : St), Gd K T H0 B C H S σ ρ →
  ∀ Q : VK, (∀ d v H2, Po d → Ext T H H2 → Dt K (hide H2 S) v d → Q v H2) → te σ H Q
def EvXF (te : TE) (ρ : List Slot) (Po : List PyData → Prop) : Prop := ∀ (H0 B : Hp) (C : List Addr) (H : Hp) (S : List Addr) (σ : St), Gd K T H0 B C H S σ ρ →
  ∀ Q : VK, (∀ ds p xs H2, Po ds → Ext T H H2 → Fresh H p → H2 p = some (.lst xs) → DtAll K (hide H2 (p :: S)) xs ds → Q (.ref p) H2) → te σ H Q
def EvXA (ta : TA) (ρ : List Slot) (Po : List PyData → Prop) : Prop := ∀ (H0 B : Hp) (C : List Addr) (H : Hp) (S : List Addr) (σ : St), Gd K T H0 B C H S σ ρ →
  ∀ Q : List V → Hp → Prop, (∀ ds vs H2, Po ds → Ext T H H2 → DtAll K (hide H2 S) vs ds → Q vs H2) → ta σ H Q
def EvXT (tt : TT) (ρ : List Slot) (Po : Bool → Prop) : Prop := ∀ (H0 B : Hp) (C : List Addr) (H : Hp) (S : List Addr) (σ : St), Gd K T H0 B C H S σ ρ →
  ∀ Q : Bool → Hp → Prop, (∀ b H2, Po b → Ext T H H2 → Q b H2) → tt σ H Q
end
section
variable {K : PySem.W.Frag} {T : Tb} {ρ : List Slot} {te : TE} {ta : TA} {Po : PyData → Prop} {d : PyData}
theorem Ev.x (h : Ev K T te ρ d) : EvX K T te ρ (fun x => x = d) := fun H0 B C H S σ g Q hQ => h H0 B C H S σ g Q fun v H2 e dv => hQ d v H2 rfl e dv
theorem EvX.mono {Po' : PyData → Prop} (h : EvX K T te ρ Po) (i : ∀ d, Po d → Po' d) : EvX K T te ρ Po' := fun H0 B C H S σ g Q hQ => h H0 B C H S σ g Q fun d v H2 p e dv => hQ d v H2 (i d p) e dv
theorem EvF.x {ds : List PyData} (h : EvF K T te ρ ds) : EvXF K T te ρ (fun x => x = ds) := fun H0 B C H S σ g Q hQ => h H0 B C H S σ g Q fun p xs H2 e f a b => hQ ds p xs H2 rfl e f a b
theorem EvXF.mono {Po Po' : List PyData → Prop} (h : EvXF K T te ρ Po) (i : ∀ d, Po d → Po' d) : EvXF K T te ρ Po' := fun H0 B C H S σ g Q hQ => h H0 B C H S σ g Q fun ds p xs H2 q e f a b => hQ ds p xs H2 (i ds q) e f a b
theorem EvXF.ev {Po : List PyData → Prop} (h : EvXF K T te ρ Po) : EvX K T te ρ (fun d => ∃ ds, d = .list ds ∧ Po ds) := fun H0 B C H S σ g Q hQ => h H0 B C H S σ g Q fun ds p xs H2 q e f a b =>
  hQ (.list ds) _ H2 ⟨ds, rfl, q⟩ e (.lst (hide_some.mpr ⟨(g.lst.not f), a, rfl⟩) (b.kp (hide_sub fun c hc => List.mem_cons_of_mem _ hc)))
theorem EvA.x {ds : List PyData} (h : EvA K T ta ρ ds) : EvXA K T ta ρ (fun x => x = ds) := fun H0 B C H S σ g Q hQ => h H0 B C H S σ g Q fun v H2 e dv => hQ ds v H2 rfl e dv
theorem EvXA.mono {Po Po' : List PyData → Prop} (h : EvXA K T ta ρ Po) (i : ∀ d, Po d → Po' d) : EvXA K T ta ρ Po' := fun H0 B C H S σ g Q hQ => h H0 B C H S σ g Q fun d v H2 p e dv => hQ d v H2 (i d p) e dv
theorem exa_nil : EvXA K T tNil ρ (fun x => x = []) := EvA.x ea_nil
theorem exa_cons {tr : TA} {Pr : List PyData → Prop} (h : EvX K T te ρ Po) (hr : EvXA K T tr ρ Pr) : EvXA K T (tCons te tr) ρ (fun ds => ∃ d es, ds = d :: es ∧ Po d ∧ Pr es) := fun H0 B C H S σ g Q hQ =>
  h H0 B C H S σ g _ fun d v H1 p1 e1 d1 => hr H0 B C H1 S σ (g.ex e1) _ fun es vs H2 p2 e2 d2 => hQ _ _ H2 ⟨d, es, rfl, p1, p2⟩ (e1.trans e2) (.cons (d1.kp (e2.kp.hide S)) d2)
/-- a promise by a property -/
def spP (K : PySem.W.Frag) (T : Tb) (R : List PyData → (PyData → Prop) → Prop) : Sp := fun vs H Q _ => ∃ ds Po S, LsT T H S ∧ DtAll K (hide H S) vs ds ∧ R ds Po ∧
  ∀ r, Po r → ∀ v H', Ext T H H' → Dt K (hide H' S) v r → Q v H'
theorem ex_callX {R : List PyData → (PyData → Prop) → Prop} {Pa : List PyData → Prop} {E : XK} (h : EvXA K T ta ρ Pa) (hR : ∀ ds, Pa ds → ∃ Po', R ds Po' ∧ ∀ r, Po' r → Po r) : EvX K T (tCall (spP K T R) [] E ta) ρ Po := fun H0 B C H S σ g Q hQ =>
  h H0 B C H S σ g _ fun ds vs H1 p1 e1 d1 => let ⟨Po', hR', im⟩ := hR ds p1; ⟨ds, Po', S, g.lsT e1, by rw [List.append_nil]; exact d1, hR', fun r pr v H2 e2 d2 => hQ r v H2 (im r pr) (e1.trans e2) d2⟩
theorem ex_call {R : List PyData → (PyData → Prop) → Prop} {ds : List PyData} {E : XK} (h : EvA K T ta ρ ds) (hR : R ds Po) : EvX K T (tCall (spP K T R) [] E ta) ρ Po :=
  ex_callX (EvA.x h) fun ds' e => ⟨Po, by rw [e]; exact hR, fun _ p => p⟩
/-- a promise of a function, its arguments told by a property -/
theorem ex_callR {R : List PyData → PyData → Prop} {Pa : List PyData → Prop} {E : XK} (h : EvXA K T ta ρ Pa) (hR : ∀ ds, Pa ds → ∃ r, R ds r ∧ Po r) : EvX K T (tCall (spR K T R) [] E ta) ρ Po := fun H0 B C H S σ g Q hQ =>
  h H0 B C H S σ g _ fun ds vs H1 p1 e1 d1 => let ⟨r, hR', im⟩ := hR ds p1; ⟨ds, r, S, g.lsT e1, by rw [List.append_nil]; exact d1, hR', fun v H2 e2 d2 => hQ r v H2 im (e1.trans e2) d2⟩
theorem fnP {P : Program} {w : World} {mg : Str → Option Value} {base : Heap} {x : Str} {st : Stmt} {dvs : List V} {f : Addr} {fd : FuncData} {N ps : List Str} {k : Nat} {R : List PyData → (PyData → Prop) → Prop} (F : FnP K x st dvs f fd) (S : FnScope N ps (defScope st)) (len : ∀ ds r, R ds r → ds.length = ps.length)
    (hbody : ∀ (cdv : Value) (A : Around) (outer : List Env) (s : Shared) (H : Hp) (E : XK), Room k (A.deeper (PyProof.Rows.envOfC x (defScope st) s.heap.objs.size f cdv)) →
      ∃ t, PSs (cxOf CX0 P w K mg base N x (defScope st) f cdv A outer s H E).nox (defBody st) t ∧ ∀ ds Po, R ds Po → ∀ (H0 : Hp) (C : List Addr) (D : Ends), (∀ r, Po r → Rt K T H0 C D.rt r) → (∀ σ H', Ext T H0 H' → Po .none → D.nx σ H') → Tri K T H0 (hide H0 C) C (slots N.length ds) t D) :
    FnOk P w K mg base CX0 (k + 1) f fd ps (spP K T R) := by
  refine F.ok S (fun vs H Q E h => ?_) (fun cdv A outer s H vs Q E hr h => ?_)
  · obtain ⟨ds, r, S', l, hd, hR, _⟩ := h
    rw [hd.len]
    exact len ds r hR
  · obtain ⟨ds, Po, S', l, hd, hR, hq⟩ := h
    obtain ⟨t, pt, tr⟩ := hbody cdv A outer s H E hr
    refine ⟨t, pt.nox, ?_⟩
    exact tr ds Po hR H S' _ (fun r pr v H' e dv => hq r pr v H' e dv) (fun σ H' e z => hq _ z _ H' e .non) _ _ ⟨S', gd_start l hd⟩
variable {H0 B : Hp} {C : List Addr} {D : Ends} {tz : TS} {i : Nat}
theorem s_asgX (h : EvX K T te ρ Po) (k : ∀ d, Po d → Tri K T H0 B C (ρ.set i (.dat d)) tNext D) : Tri K T H0 B C ρ (tAsg te (gName i)) D := fun σ H ⟨S, g⟩ =>
  h H0 B C H S σ g _ fun d v H2 p e dv => k d p _ _ ⟨S, (g.ex e).set dv⟩
theorem q_asgX (h : EvX K T te ρ Po) (k : ∀ d, Po d → Tri K T H0 B C (ρ.set i (.dat d)) tz D) : Tri K T H0 B C ρ (tSeq (tAsg te (gName i)) tz) D := s_seq (s_asgX h fun d p => s_to (k d p))
theorem s_ownX {Po : List PyData → Prop} (h : EvXF K T te ρ Po) (k : ∀ ds, Po ds → Tri K T H0 B C (ρ.set i (.own (.lst ds))) tNext D) : Tri K T H0 B C ρ (tAsg te (gName i)) D := fun σ H ⟨S, g⟩ =>
  h H0 B C H S σ g _ fun ds p xs H2 q e hp h1 h2 => k ds q _ _ ⟨p :: S, g.mine e hp h1 h2⟩
theorem q_ownX {Po : List PyData → Prop} (h : EvXF K T te ρ Po) (k : ∀ ds, Po ds → Tri K T H0 B C (ρ.set i (.own (.lst ds))) tz D) : Tri K T H0 B C ρ (tSeq (tAsg te (gName i)) tz) D := s_seq (s_ownX h fun d p => s_to (k d p))
theorem s_retX (h : EvX K T te ρ Po) (k : ∀ d, Po d → Rt K T H0 C D.rt d) : Tri K T H0 B C ρ (tRet te) D := fun σ H ⟨S, g⟩ =>
  h H0 B C H S σ g _ fun d v H2 p e dv => k d p v H2 (g.ext.trans e) (dv.kp (hide_sub g.sub))
theorem s_ifX {Pb : Bool → Prop} {t : TT} {tu tw : TS} (h : EvXT K T t ρ Pb) (h1 : Pb true → Tri K T H0 B C ρ tu D) (h2 : Pb false → Tri K T H0 B C ρ tw D) : Tri K T H0 B C ρ (tIfS t tu tw) D := fun σ H ⟨S, g⟩ =>
  h H0 B C H S σ g _ fun b H2 p e => by
    cases b with
    | true => exact iteT (h1 p σ H2 ⟨S, g.ex e⟩)
    | false => exact iteF (h2 p σ H2 ⟨S, g.ex e⟩)
theorem q_ifX {Pb : Bool → Prop} {t : TT} {tu tw : TS} (h : EvXT K T t ρ Pb) (h1 : Pb true → Tri K T H0 B C ρ tu { D with nx := tz D }) (h2 : Pb false → Tri K T H0 B C ρ tw { D with nx := tz D }) : Tri K T H0 B C ρ (tSeq (tIfS t tu tw) tz) D := s_seq (s_ifX h h1 h2)
theorem s_appX {ds : List PyData} (h : ρ[i]? = some (.own (.lst ds))) (he : EvX K T te ρ Po) (hl : ds.length < 1000000) (k : ∀ d, Po d → Tri K T H0 B C (ρ.set i (.own (.lst (ds ++ [d])))) tNext D) :
    Tri K T H0 B C ρ (tDrop (tBM K "list" rAppend (tVar i) (tCons te tNil))) D := fun σ H ⟨S, g⟩ => by
  obtain ⟨p, u, a1, a2, a3, a4, a5⟩ := g.own i _ h
  cases a5 with | @lst xs _ a5 =>
  refine ⟨.ref p, a1, .inl ⟨rfl, xs, SqL.of a4⟩, ?_⟩
  refine he H0 B C H S σ g _ fun d v H2 pd e dv => ?_
  have g2 := g.ex e
  have h2 : H2 p = some (.lst xs) := e.kp p _ a4 rfl
  refine ⟨p, xs, v, rfl, rfl, h2, by rw [a5.len]; exact Nat.lt_trans hl (by decide), ?_⟩
  exact k d pd _ _ ⟨S, g2.write h a1 h2 ((a5.kp (e.kp.hide S)).app (.cons dv .nil))⟩
theorem q_appX {ds : List PyData} (h : ρ[i]? = some (.own (.lst ds))) (he : EvX K T te ρ Po) (hl : ds.length < 1000000) (k : ∀ d, Po d → Tri K T H0 B C (ρ.set i (.own (.lst (ds ++ [d])))) tz D) :
    Tri K T H0 B C ρ (tSeq (tDrop (tBM K "list" rAppend (tVar i) (tCons te tNil))) tz) D := s_seq (s_appX h he hl fun d p => s_to (k d p))
theorem s_parX {j : Nat} {tr : TA} {Pa : List PyData → Prop} (h : EvXA K T tr ρ Pa) (hl : ∀ ds, Pa ds → ds.length = 2) (k : ∀ d1 d2, Pa [d1, d2] → Tri K T H0 B C ((ρ.set i (.dat d1)).set j (.dat d2)) tNext D) : Tri K T H0 B C ρ (tPar i j tr) D := fun σ H ⟨S, g⟩ =>
  h H0 B C H S σ g _ fun ds vs H2 p e dv => by
    have l2 := hl ds p
    match ds, l2, p, dv with
    | [d1, d2], _, p, .cons b1 (.cons b2 .nil) => exact ⟨_, _, rfl, k d1 d2 p _ _ ⟨S, ((g.ex e).set b1).set b2⟩⟩
theorem q_parX {j : Nat} {tr : TA} {Pa : List PyData → Prop} (h : EvXA K T tr ρ Pa) (hl : ∀ ds, Pa ds → ds.length = 2) (k : ∀ d1 d2, Pa [d1, d2] → Tri K T H0 B C ((ρ.set i (.dat d1)).set j (.dat d2)) tz D) : Tri K T H0 B C ρ (tSeq (tPar i j tr) tz) D := s_seq (s_parX h hl fun a b p => s_to (k a b p))
variable {wi : TI} {g : TG} {tt : TT} {vs : List Nat} {items : List PyData}
/-- a comprehension, by what holds behind i items -/
theorem ef_lcG (I : Nat → List PyData → Prop) (hi : IterD K T wi ρ items) (hz : items.length ≤ 1000000) (h0 : I 0 [])
    (hs : ∀ (i : Nat) (d : PyData) (ys : List PyData), items[i]? = some d → I i ys → ∃ js f, TgD K T g d js f ∧ (∀ j ∈ js, j ∈ vs) ∧ ∃ Pb : Bool → Prop, EvXT K T tt (f (wipeS ρ vs)) Pb ∧ (Pb true → ∃ Po, EvX K T te (f (wipeS ρ vs)) Po ∧ ∀ y, Po y → I (i + 1) (ys ++ [y])) ∧ (Pb false → I (i + 1) ys)) :
    EvXF K T (tLc wi g tt te vs) ρ (I items.length) := fun H0 B C H S σ gd Q hQ => by
  refine hi H0 B C H S σ gd _ fun J H1 e1 fd => ?_
  intro D hD
  have g1 := gd.ex e1
  obtain ⟨gl, nm⟩ := g1.lay (xs := []) hD
  have gw := gl.wiped vs
  have nw := notMine_wipe nm vs
  have frD : Fresh H D := (Fresh.of hD).back e1.kp
  have fr0 : Fresh H0 D := frD.back gd.ext.kp
  have sees : Kp (hide H1 S) (hide (upd H1 D (.lst [])) (D :: S)) := by rw [hide_new (.of hD)]; exact .refl _
  refine ⟨fun i m Hc => m = items.length - i ∧ i ≤ items.length ∧ ∃ acc ys, I i ys ∧ ys.length ≤ i ∧ Gd K T H0 B C Hc (D :: S) (wipe σ vs) (wipeS ρ vs) ∧ Ext T H Hc ∧ Kp (hide H1 S) (hide Hc (D :: S)) ∧ Hc D = some (.lst acc) ∧ DtAll K (hide Hc (D :: S)) acc ys, ⟨items.length, by simp, Nat.zero_le _, [], [], h0, Nat.le_refl _, gw, e1.trans (.new hD), sees, upd_same, .nil⟩, ?_⟩
  rintro i m Hc ⟨rfl, hil, acc, ys, hI, hly, gc, ec, sc, hc, dc⟩
  obtain ⟨f1, f2⟩ := fd i Hc (D :: S) sc gc.lst
  by_cases hlt : i < items.length
  · obtain ⟨go, yl⟩ := f1 items[i] (List.getElem?_eq_getElem hlt)
    refine .inr ⟨go, fun Hn => ∃ acc ys, I (i + 1) ys ∧ ys.length ≤ i + 1 ∧ Gd K T H0 B C Hn (D :: S) (wipe σ vs) (wipeS ρ vs) ∧ Ext T H Hn ∧ Kp (hide H1 S) (hide Hn (D :: S)) ∧ Hn D = some (.lst acc) ∧ DtAll K (hide Hn (D :: S)) acc ys, fun Hn hn => ⟨items.length - (i + 1), by omega, rfl, hlt, hn⟩, fun x H' hy => ?_⟩
    obtain ⟨ex, dx⟩ := yl x H' hy
    obtain ⟨js, f, tg, hj, Pb, ht, h1, h2⟩ := hs i _ ys (List.getElem?_eq_getElem hlt) hI
    refine tg H0 B C H' (D :: S) (wipe σ vs) (wipeS ρ vs) x (gc.ex ex) dx _ fun σ2 g2 w2 => ⟨?_, ?_⟩
    · have ww : wipe (wipe σ vs) vs = wipe σ vs := by
        have key : ∀ ws : List Nat, (∀ v ∈ ws, v ∈ vs) → wipe (wipe σ ws) vs = wipe σ vs := fun ws => by
          induction ws with
          | nil => intro _; rfl
          | cons v ws ih =>
            intro hv
            show wipe ((wipe σ ws).set v none) vs = wipe σ vs
            rw [wipe_set (hv v (List.mem_cons_self ..)), ih fun u hu => hv u (List.mem_cons_of_mem _ hu)]
        exact key vs fun v hv => hv
      rw [w2 vs hj, ww]
    · refine ht H0 B C H' (D :: S) σ2 g2 _ fun b H3 pb e3 => ?_
      have g3 := g2.ex e3
      have ec3 : Ext T Hc H3 := ex.trans e3
      cases b with
      | true =>
        obtain ⟨Po, hy', hn⟩ := h1 pb
        refine iteT (hy' H0 B C H3 (D :: S) σ2 g3 _ fun y v H4 py e4 dv => ?_)
        have ec4 := ec3.trans e4
        have hD4 : H4 D = some (.lst acc) := ec4.kp D _ hc rfl
        have gc4 := (gc.ex ec4)
        have dc4 := dc.kp (ec4.kp.hide (D :: S))
        refine ⟨acc, hD4, ?_, acc ++ [v], ys ++ [y], hn y py, ?_, ?_, ?_, ?_, upd_same, ?_⟩
        · have q := dc.len
          have q4 : (1000000 : Nat) < sizeLine := by decide
          omega
        · rw [List.length_append]; simp only [List.length_cons, List.length_nil]; omega
        · exact gc4.poke (List.mem_cons_self ..) fr0 nw hD4
        · have q := ec.trans ec4
          exact ⟨fun b o hb n => by
            have hb' := q.kp b o hb n
            rw [upd_ne (fun z => by subst z; rw [frD o hb] at n; cases n)]
            exact hb', fun t => tabs_lst hD4 (q.tb t)⟩
        · rw [hide_upd (List.mem_cons_self ..)]
          exact sc.trans (ec4.kp.hide _)
        · rw [hide_upd (List.mem_cons_self ..)]
          exact dc4.app (.cons dv .nil)
      | false => exact iteF ⟨acc, ys, h2 pb, by omega, gc.ex ec3, ec.trans ec3, sc.trans (ec3.kp.hide _), ec3.kp D _ hc rfl, dc.kp (ec3.kp.hide _)⟩
  · have e0 : i = items.length := by omega
    subst e0
    exact .inl ⟨f2 (Nat.le_refl _), hQ ys D acc Hc hI ec frD hc dc⟩
theorem ext_yes : EvXT K T tYes ρ (fun b => b = true) := fun H0 B C H S σ g Q hQ => et_yes H0 B C H S σ g Q fun H2 e => hQ true H2 rfl e
theorem EvT.x {b : Bool} {t : TT} (h : EvT K T t ρ b) : EvXT K T t ρ (fun x => x = b) := fun H0 B C H S σ g Q hQ => h H0 B C H S σ g Q fun H2 e => hQ b H2 rfl e
/-- each item by itself, no test -/
inductive All2 (P : PyData → PyData → Prop) : List PyData → List PyData → Prop
  | nil : All2 P [] []
  | cons {x y : PyData} {xs ys : List PyData} : P x y → All2 P xs ys → All2 P (x :: xs) (y :: ys)
theorem All2.snoc {P : PyData → PyData → Prop} {xs ys : List PyData} {x y : PyData} (h : All2 P xs ys) (p : P x y) : All2 P (xs ++ [x]) (ys ++ [y]) := by
  induction h with
  | nil => exact .cons p .nil
  | cons a b ih => exact .cons a ih
theorem ef_lcX (P : PyData → PyData → Prop) (hi : IterD K T wi ρ items) (hz : items.length ≤ 1000000)
    (hs : ∀ (i : Nat) (d : PyData), items[i]? = some d → ∃ js f, TgD K T g d js f ∧ (∀ j ∈ js, j ∈ vs) ∧ EvX K T te (f (wipeS ρ vs)) (P d)) :
    EvXF K T (tLc wi g tYes te vs) ρ (All2 P items) := by
  have q := ef_lcG (K := K) (T := T) (te := te) (fun i ys => All2 P (items.take i) ys) hi hz (by rw [List.take_zero]; exact .nil) (fun i d ys h hI => by
    obtain ⟨js, f, h1, h2, h3⟩ := hs i d h
    refine ⟨js, f, h1, h2, _, ext_yes, fun _ => ⟨_, h3, fun y py => ?_⟩, fun z => by cases z⟩
    obtain ⟨hlt, rfl⟩ := List.getElem?_eq_some_iff.mp h
    rw [← List.take_append_getElem hlt]
    exact hI.snoc py)
  rw [List.take_length] at q
  exact q
end
end Lw

set_option Elab.async false
set_option linter.all false
set_option maxRecDepth 100000
set_option maxHeartbeats 4000000
set_option autoImplicit false
/-! Lw, part W: expressions that take from owned lists; two owned lists at once. -/
namespace Lw
open PySem L2
section
variable (K : PySem.W.Frag) (T : Tb)
/-- te gives d, the slots are then ρ' -/
def EvS (te : TE) (ρ : List Slot) (Po : PyData → List Slot → Prop) : Prop := ∀ (H0 B : Hp) (C : List Addr) (H : Hp) (S : List Addr) (σ : St), Gd K T H0 B C H S σ ρ →
  ∀ Q : VK, (∀ d ρ' v H2, Po d ρ' → Gd K T H0 B C H2 S σ ρ' → Kp (hide H S) (hide H2 S) → Dt K (hide H2 S) v d → Q v H2) → te σ H Q
end
section
variable {K : PySem.W.Frag} {T : Tb} {ρ : List Slot} {te : TE} {ta tb : TE} {Po : PyData → List Slot → Prop} {d : PyData}
theorem EvX.s {P : PyData → Prop} (h : EvX K T te ρ P) : EvS K T te ρ (fun d ρ' => P d ∧ ρ' = ρ) := fun H0 B C H S σ g Q hQ => h H0 B C H S σ g Q fun d v H2 p e dv => hQ d ρ v H2 ⟨p, rfl⟩ (g.ex e) (e.kp.hide S) dv
theorem EvS.mono {Po' : PyData → List Slot → Prop} (h : EvS K T te ρ Po) (i : ∀ d ρ', Po d ρ' → Po' d ρ') : EvS K T te ρ Po' := fun H0 B C H S σ g Q hQ => h H0 B C H S σ g Q fun d ρ' v H2 p a b c => hQ d ρ' v H2 (i d ρ' p) a b c
theorem es_pop0 {i : Nat} {x : PyData} {xs : List PyData} (h : ρ[i]? = some (.own (.lst (x :: xs)))) (hl : xs.length < 1000000) : EvS K T (tBM K "list" rPopAt (tVar i) (tCons (tC (.int 0)) tNil)) ρ (fun d ρ' => d = x ∧ ρ' = ρ.set i (.own (.lst xs))) := fun H0 B C H S σ g Q hQ => by
  obtain ⟨p, u, a1, a2, a3, a4, a5⟩ := g.own i _ h
  cases a5 with | @lst vs _ a5 =>
  refine ⟨.ref p, a1, .inl ⟨rfl, vs, SqL.of a4⟩, ?_⟩
  cases a5 with
  | cons b1 b2 =>
    rename_i v vs
    refine ⟨p, v :: vs, 0, 0, v, rfl, rfl, a4, by decide, by decide, ?_, rfl, ?_⟩
    · unfold seqIndex?
      simp
    · show Q v (upd H p (.lst vs))
      have e : hide (upd H p (.lst vs)) S = hide H S := hide_upd a2
      refine hQ x _ v _ ⟨rfl, rfl⟩ (g.write h a1 a4 b2) ?_ ?_
      · rw [e]; exact .refl _
      · rw [e]; exact b1
theorem es_if {t : TT} {b : Bool} (h : EvT K T t ρ b) (h1 : b = true → EvS K T ta ρ Po) (h2 : b = false → EvS K T tb ρ Po) : EvS K T (tIf t ta tb) ρ Po := fun H0 B C H S σ g Q hQ =>
  h H0 B C H S σ g _ fun H2 e => by
    have k := e.kp.hide S
    cases b with
    | true => exact iteT (h1 rfl H0 B C H2 S σ (g.ex e) Q fun d ρ' v H3 p a c dv => hQ d ρ' v H3 p a (k.trans c) dv)
    | false => exact iteF (h2 rfl H0 B C H2 S σ (g.ex e) Q fun d ρ' v H3 p a c dv => hQ d ρ' v H3 p a (k.trans c) dv)
/-- an operation whose second part takes from owned lists -/
theorem es_op {r : R2} {x : PyData} {Po' : PyData → List Slot → Prop} (h : Ev K T ta ρ x) (h2 : EvS K T tb ρ Po) (hr : ∀ y ρ', Po y ρ' → ∃ z, RV K T r x y z ∧ Po' z ρ') : EvS K T (tOp r ta tb) ρ Po' := fun H0 B C H S σ g Q hQ =>
  h H0 B C H S σ g _ fun v H1 e1 dv => h2 H0 B C H1 S σ (g.ex e1) _ fun y ρ' u H2 p g2 k du => by
    obtain ⟨z, hz, pz⟩ := hr y ρ' p
    exact hz H2 S v u g2.lst (dv.kp k) du Q fun w H3 e3 dw => hQ z ρ' w H3 pz (g2.ex e3) ((e1.kp.hide S).trans (k.trans (e3.kp.hide S))) dw
variable {H0 B : Hp} {C : List Addr} {D : Ends} {tz : TS} {i j : Nat}
theorem s_appS {ds : List PyData} (h : ρ[i]? = some (.own (.lst ds))) (he : EvS K T te ρ Po) (hl : ds.length < 1000000) (ho : ∀ d ρ', Po d ρ' → ρ'[i]? = some (.own (.lst ds))) (k : ∀ d ρ', Po d ρ' → Tri K T H0 B C (ρ'.set i (.own (.lst (ds ++ [d])))) tNext D) :
    Tri K T H0 B C ρ (tDrop (tBM K "list" rAppend (tVar i) (tCons te tNil))) D := fun σ H ⟨S, g⟩ => by
  obtain ⟨p, u, a1, a2, a3, a4, a5⟩ := g.own i _ h
  cases a5 with | @lst xs _ a5 =>
  refine ⟨.ref p, a1, .inl ⟨rfl, xs, SqL.of a4⟩, ?_⟩
  refine he H0 B C H S σ g _ fun d ρ' v H2 pd g2 kp dv => ?_
  obtain ⟨p', u', b1, b2, b3, b4, b5⟩ := g2.own i _ (ho d ρ' pd)
  cases b5 with | @lst xs' _ b5 =>
  rw [a1] at b1
  cases b1
  refine ⟨p, xs', v, rfl, rfl, b4, by rw [b5.len]; exact Nat.lt_trans hl (by decide), ?_⟩
  exact k d ρ' pd _ _ ⟨S, g2.write (ho d ρ' pd) a1 b4 (b5.app (.cons dv .nil))⟩
theorem q_appS {ds : List PyData} (h : ρ[i]? = some (.own (.lst ds))) (he : EvS K T te ρ Po) (hl : ds.length < 1000000) (ho : ∀ d ρ', Po d ρ' → ρ'[i]? = some (.own (.lst ds))) (k : ∀ d ρ', Po d ρ' → Tri K T H0 B C (ρ'.set i (.own (.lst (ds ++ [d])))) tz D) :
    Tri K T H0 B C ρ (tSeq (tDrop (tBM K "list" rAppend (tVar i) (tCons te tNil))) tz) D := s_seq (s_appS h he hl ho fun d ρ' p => s_to (k d ρ' p))
theorem set_len_id {α : Type} (xs : List α) (x : α) : xs.set xs.length x = xs := List.set_eq_of_length_le (Nat.le_refl _)
/-- two new lists, both owned -/
theorem s_parOwn {ds es : List PyData} (h1 : EvF K T ta ρ ds) (h2 : EvF K T tb ρ es) (k : Tri K T H0 B C ((ρ.set i (.own (.lst ds))).set j (.own (.lst es))) tNext D) : Tri K T H0 B C ρ (tPar i j (tCons ta (tCons tb tNil))) D := fun σ H ⟨S, g⟩ => by
  refine h1 H0 B C H S σ g _ fun p xs H1 e1 f1 l1 a1 => ?_
  have g1 := g.mine (i := ρ.length) e1 f1 l1 a1
  rw [set_len_id, ← g.len, set_len_id] at g1
  refine h2 H0 B C H1 (p :: S) σ g1 _ fun p2 xs2 H2 e2 f2 l2 a2 => ?_
  exact ⟨_, _, rfl, k _ _ ⟨_, (g.mine e1 f1 l1 a1).mine e2 f2 l2 a2⟩⟩
theorem q_parOwn {ds es : List PyData} (h1 : EvF K T ta ρ ds) (h2 : EvF K T tb ρ es) (k : Tri K T H0 B C ((ρ.set i (.own (.lst ds))).set j (.own (.lst es))) tz D) : Tri K T H0 B C ρ (tSeq (tPar i j (tCons ta (tCons tb tNil))) tz) D := s_seq (s_parOwn h1 h2 (s_to k))
end
end Lw

set_option Elab.async false
set_option linter.all false
set_option maxRecDepth 100000
set_option maxHeartbeats 4000000
set_option autoImplicit false
/-! Lw, part S: `//` of numbers of any size. -/
namespace Lw
open PySem L2
/-- what is asked of the module's part K and of the program -/
def seerB (K : PySem.W.Frag) : Bool := He.eqO (PySem.W.nsIn K cStatics "sys.audit-hooks") (some none) && (He.eqO (PySem.W.nsIn K cStatics "sys.dict") (some none) &&
  ((match K.lookup sysModules with
    | some ⟨_, _, .dict es _, _⟩ => (es.toList.all fun e => match e.key with | .str _ _ => true | _ => false) && He.eqO (some (nsFind es "_pylong")) (some none)
    | _ => false) &&
  (match PySem.W.nsIn K mainGlobals "__builtins__" with
    | some (some (.ref bm)) => (match K.lookup bm with
      | some ⟨.type c, some d, _, _⟩ => decide (c = "module") && decide (d = builtinsNs)
      | _ => false)
    | _ => false)))
structure Seer (P : Program) (K : PySem.W.Frag) : Prop where
  tree : P.given.tree = none
  ok : seerB K = true
theorem ns_none_of {K : PySem.W.Frag} {h : Heap} {a : Addr} {mg : Str → Option Value} {n : Str} (X : K.In h) (G : h.Ns a mg) (e : PySem.W.nsIn K a n = some none) : mg n = none := by
  obtain ⟨o, es, ep, ho, hd, hk, hf⟩ := G
  unfold PySem.W.nsIn at e
  split at e
  · rename_i c d es' n' sl q
    have := X _ _ q
    rw [ho] at this
    cases this
    cases hd
    rw [← hf]
    split at e
    · cases e
    · rename_i q2
      unfold nsFind findBy
      rw [← Array.find?_toList, q2]
      rfl
  · cases e
theorem seer_heap {K : PySem.W.Frag} {mg : Str → Option Value} {base : Heap} (c : seerB K = true) (M : Mod K mg base) : base.NoSeer := by
  unfold seerB at c
  obtain ⟨c1, c⟩ := He.ba c
  obtain ⟨c2, c⟩ := He.ba c
  obtain ⟨c3, c4⟩ := He.ba c
  refine ⟨?_, ?_, M.blt, ?_⟩
  · obtain ⟨mc, n, _⟩ := M.nolimit
    exact ⟨mc, n, ns_none_of M.kin n (He.eqO_ok c1), ns_none_of M.kin n (He.eqO_ok c2)⟩
  · split at c3
    · rename_i cl d es ep sl q
      obtain ⟨k1, k2⟩ := He.ba c3
      refine ⟨fun x => nsFind es x, ⟨_, es, ep, M.kin _ _ q, rfl, fun e he => ?_, fun _ => rfl⟩, ?_⟩
      · have := List.all_eq_true.mp k1 e (Array.mem_toList_iff.mpr he)
        split at this
        · rename_i n t hk
          exact ⟨n, t, hk⟩
        · cases this
      · exact Option.some.inj (He.eqO_ok k2)
    · cases c3
  · split at c4
    · rename_i bm q
      split at c4
      · rename_i cl d dt sl q2
        obtain ⟨k1, k2⟩ := He.ba c4
        exact ⟨mg, bm, _, M.glob, PySem.W.mg_of M.kin M.glob q, M.kin _ _ q2, congrArg Value.type (of_decide_eq_true k1), congrArg some (of_decide_eq_true k2)⟩
      · cases c4
    · cases c4
theorem op_fdB {X : Cx} {k : Nat} {env : Env} {l : List Env} (Se : Seer X.prog X.K) (hr : Room k X.A) (hk : 32 ≤ k) (hst : X.stack = env :: l) (h1 : env.scope.isGenerator = false) (h2 : env.scope.isCoroutine = false) (h3 : env.builtins = builtinsNs) (h4 : env.globals = mainGlobals) :
    OpR X (binaryOp .FloorDiv) (rI (fun _ j => j ≠ 0) fun i j => .int (i.fdiv j)) := fun pins s σ H x y v u Q I rx ry h => by
  obtain ⟨i, j, rfl, rfl, hj, q⟩ := h
  obtain ⟨t1, rfl⟩ := rx
  obtain ⟨t2, rfl⟩ := ry
  have sa : SeerAt (model X.prog X.w) X.A s.heap := SeerAt.of ((seer_heap Se.ok I.ok.mod).keeps I.bk) Se.tree (by rw [I.ok.frames, hst]) h1 h2 h3 h4
  refine PyProof.Rows.floordiv_int hj ?_ (.inr (PylongRoom.of I.nolimit (by have := hr.dp; have e : Builtin.pylongFrames = 100 := rfl; omega) sa))
  exact ⟨.int (i.fdiv j), H, I.tok _, ⟨_, rfl⟩, q⟩
section
variable {K : PySem.W.Frag} {T : Tb} {ρ : List Slot}
abbrev rFdB : R2 := rI (fun _ j => j ≠ 0) fun i j => .int (i.fdiv j)
theorem rv_fdB {i j : Int} (h : j ≠ 0) : RV K T rFdB (.int i) (.int j) (.int (i.fdiv j)) := fun H S v u l dv du Q hQ => by
  cases dv
  cases du
  exact ⟨i, j, rfl, rfl, h, hQ _ _ (.refl T H) (.int _)⟩
/-- a constant of the module -/
structure CstV (mg : Str → Option Value) (K : PySem.W.Frag) (x : Str) (v : V) (u : Value) (d : PyData) : Prop where
  m : mg x = some u
  r : RelV v u
  e : ∀ H, Dt K H v d
def Cst (mg : Str → Option Value) (K : PySem.W.Frag) (x : Str) (d : PyData) : Prop := ∃ v u, CstV mg K x v u d
theorem ev_cst {mg : Str → Option Value} {x : Str} {v : V} {u : Value} {d : PyData} (g : CstV mg K x v u d) : Ev K T (tC v) ρ d := fun H0 B C H S σ gd Q hQ => hQ v H (.refl T H) (g.e _)
end
theorem cst_tup {K : PySem.W.Frag} {mg : Str → Option Value} {x : Str} {vs : List He.Dv} {ds : List PyData} (m : mg x = some (.ref (He.ga K x))) (t : He.tupB K x vs = true) (h : ∀ H, DtAll K H (vs.map (He.Dv.v K)) ds) : Cst mg K x (.tuple ds) :=
  ⟨.ref (He.ga K x), _, m, rfl, fun H => .tup (He.tupB_ok t H) (h H)⟩
theorem cst_int {K : PySem.W.Frag} {mg : Str → Option Value} {x : Str} {i : Int} (m : ∃ t, mg x = some (.int i t)) : Cst mg K x (.int i) := let ⟨t, e⟩ := m; ⟨.int i, _, e, ⟨t, rfl⟩, fun H => .int i⟩
theorem cst_str {K : PySem.W.Frag} {mg : Str → Option Value} {x z : Str} (m : ∃ t, mg x = some (.str z t)) : Cst mg K x (.str z) := let ⟨t, e⟩ := m; ⟨.str z, _, e, ⟨t, rfl⟩, fun H => .str z⟩
/-! ### the hook: also what Ck asks -/
abbrev AlL : Type := He.AlD × Bool
def obsLK (fa : List He.Fa) (fn : List He.DefD) (ck : PySem.W.Frag → Bool) (K : PySem.W.Frag) : AlL := (He.obsD fa fn K, ck K)
def obsLG (n : Nat) (fa : List He.Fa) (fn : List He.DefD) (ck : PySem.W.Frag → Bool) (g : Addr → Option Obj) : AlL := obsLK fa fn ck (He.frG g (He.asD g n ++ [cStatics, sysModules]))
def hookL (n : Nat) (fa : List He.Fa) (fn : List He.DefD) (ck : PySem.W.Frag → Bool) : PySem.W.Hook where
  α := AlL
  obs := fun s => obsLG n fa fn ck s.heap.get?
  val := fun _ => (He.valD fn, true)
  says := fun _ h => ∃ K : PySem.W.Frag, K.In h ∧ He.SaysD fa fn K ∧ ck K = true
  of := fun _ _ e => ⟨_, He.frG_in, congrArg Prod.fst e, congrArg Prod.snd e⟩
  keeps := fun _ _ _ ⟨K, hK, c⟩ k => ⟨K, PySem.W.Frag.In.keeps hK k, c⟩
theorem obsLG_eq {n : Nat} {fa : List He.Fa} {fn : List He.DefD} {ck : PySem.W.Frag → Bool} {g : Addr → Option Obj} {s : Shared} (h : ∀ a, g a = s.heap.get? a) : obsLG n fa fn ck g = (hookL n fa fn ck).obs s := by
  have e : g = s.heap.get? := funext h
  rw [e] <;> rfl
end Lw

set_option Elab.async false
set_option linter.all false
set_option maxRecDepth 100000
set_option maxHeartbeats 4000000
set_option autoImplicit false
/-! Lw, part Q: data that can be compared; sequences of either kind. -/
namespace Lw
open PySem L2 LwZ
def ShD (n : Nat) (d : PyData) : Prop := d.canLay0 = true ∧ d.depth ≤ n
theorem ShD.mono {n m : Nat} {d : PyData} (h : ShD n d) (l : n ≤ m) : ShD m d := ⟨h.1, Nat.le_trans h.2 l⟩
theorem ShD.shaped {n : Nat} {d : PyData} (h : ShD n d) (l : n ≤ 64) : SeqAt.shaped d = true := by
  unfold SeqAt.shaped
  rw [h.1, decide_eq_true (Nat.le_trans h.2 l)]
  rfl
theorem ShD.refl {n : Nat} {d : PyData} (h : ShD n d) : PyData.eqv d d = true := PySem.SeqAt.eqv_refl d h.1
theorem lay_all : ∀ {ds : List PyData}, (∀ d ∈ ds, d.canLay0 = true) → PyData.canLayAll0 ds = true
  | [], _ => by simp only [PyData.canLayAll0]
  | d :: ds, h => by
    simp only [PyData.canLayAll0]
    rw [h d (List.mem_cons_self ..), lay_all fun x hx => h x (List.mem_cons_of_mem _ hx)]
    rfl
theorem depth_all {n : Nat} : ∀ {ds : List PyData}, (∀ d ∈ ds, d.depth ≤ n) → PyData.depthAll ds ≤ n
  | [], _ => by simp only [PyData.depthAll]; exact Nat.zero_le _
  | d :: ds, h => by
    simp only [PyData.depthAll]
    exact Nat.max_le.mpr ⟨h d (List.mem_cons_self ..), depth_all fun x hx => h x (List.mem_cons_of_mem _ hx)⟩
theorem shd_list {n : Nat} {ds : List PyData} (h : ∀ d ∈ ds, ShD n d) : ShD (n + 1) (.list ds) := by
  refine ⟨by simp only [PyData.canLay0]; exact lay_all fun d hd => (h d hd).1, ?_⟩
  simp only [PyData.depth]
  have := depth_all fun d hd => (h d hd).2
  omega
theorem shd_tuple {n : Nat} {ds : List PyData} (h : ∀ d ∈ ds, ShD n d) : ShD (n + 1) (.tuple ds) := by
  refine ⟨by simp only [PyData.canLay0]; exact lay_all fun d hd => (h d hd).1, ?_⟩
  simp only [PyData.depth]
  have := depth_all fun d hd => (h d hd).2
  omega
theorem shd_int (i : Int) : ShD 0 (.int i) := ⟨by simp only [PyData.canLay0], by simp only [PyData.depth]; exact Nat.le_refl _⟩
theorem shd_bool (b : Bool) : ShD 0 (.bool b) := ⟨by simp only [PyData.canLay0], by simp only [PyData.depth]; exact Nat.le_refl _⟩
theorem shd_none : ShD 0 .none := ⟨by simp only [PyData.canLay0], by simp only [PyData.depth]; exact Nat.le_refl _⟩
theorem mem_map_of {α β : Type} {P : β → Prop} {f : α → β} {xs : List α} (h : ∀ x ∈ xs, P (f x)) : ∀ y ∈ xs.map f, P y := fun y hy => by
  obtain ⟨x, hx, rfl⟩ := List.mem_map.mp hy
  exact h x hx
theorem shd_encR (q : Rat) : ShD 1 (encR q) := shd_tuple fun d hd => by
  simp only [List.mem_cons, List.mem_nil_iff, or_false] at hd
  rcases hd with rfl | rfl <;> exact shd_int _
theorem shd_encRs (qs : List Rat) : ShD 2 (.list (qs.map encR)) := shd_list (mem_map_of fun q _ => shd_encR q)
theorem shd_encRt (qs : List Rat) : ShD 2 (.tuple (qs.map encR)) := shd_tuple (mem_map_of fun q _ => shd_encR q)
section
variable {K : PySem.W.Frag} {T : Tb} {ρ : List Slot} {te ta tb : TE} {d : PyData} {ds : List PyData}
theorem it_sq (h : Ev K T te ρ d) (hd : SeqD d ds) : IterD K T (iSeq K te) ρ ds := by
  cases hd with
  | lst => exact it_list h
  | tup => exact it_tup h
theorem ev_lenSq (h : Ev K T te ρ d) (hd : SeqD d ds) : Ev K T (tCB (rLenA K) (tCons te tNil)) ρ (.int ds.length) := by
  cases hd with
  | lst => exact ev_cb (ea_cons h ea_nil) rc_lenL
  | tup => exact ev_cb (ea_cons h ea_nil) rc_lenT
theorem ev_ixSq {i : Int} {x : PyData} (h : Ev K T ta ρ d) (hd : SeqD d ds) (h2 : Ev K T tb ρ (.int i)) (hx : atI ds i = some x) : Ev K T (tOp (rIx K) ta tb) ρ x := by
  cases hd with
  | lst => exact ev_op h h2 (rv_ixL hx)
  | tup => exact ev_op h h2 (rv_ixT hx)
theorem ru_neg {i : Int} : RU K T (rU fun i => .int (-i)) (.int i) (.int (-i)) := fun H S v l dv Q hQ => by
  cases dv
  exact ⟨i, rfl, hQ _ _ (.refl T H) (.int _)⟩
theorem ef_to {es : List PyData} (h : EvF K T te ρ ds) (e : ds = es) : EvF K T te ρ es := e ▸ h
/-- same data: not unlike -/
theorem et_same {n : Nat} (h1 : Ev K T ta ρ d) (h2 : Ev K T tb ρ d) (s1 : ShD n d) (l1 : n ≤ 64) : EvT K T (tTest (tOp (rNeD K) ta tb)) ρ false := by
  have q := et_test (ev_op h1 h2 (rv_ne (s1.shaped l1) (s1.shaped l1)))
  rw [s1.refl] at q
  exact q
theorem et_sameE {n : Nat} (h1 : Ev K T ta ρ d) (h2 : Ev K T tb ρ d) (s1 : ShD n d) (l1 : n ≤ 64) : EvT K T (tTest (tOp (rEqD K) ta tb)) ρ true := by
  have q := et_test (ev_op h1 h2 (rv_eq (s1.shaped l1) (s1.shaped l1)))
  rw [s1.refl] at q
  exact q
end
section
variable {K : PySem.W.Frag} {T : Tb} {ρ : List Slot} {te : TE} {wi : TI} {g : TG} {vs : List Nat} {items : List PyData}
theorem ev_anyLc (F : PyData → Bool) (hi : IterD K T wi ρ items) (hz : items.length ≤ 1000000)
    (hs : ∀ (i : Nat) (d : PyData), items[i]? = some d → ∃ js f, TgD K T g d js f ∧ (∀ j ∈ js, j ∈ vs) ∧ Ev K T te (f (wipeS ρ vs)) (.bool (F d))) : Ev K T (tCB (rAny K) (tCons (tLc wi g tYes te vs) tNil)) ρ (.bool (items.any F)) := by
  have q := ef_lcM (K := K) (T := T) (fun d => .bool (F d)) hi hz hs
  have e : items.map (fun d => PyData.bool (F d)) = (items.map F).map PyData.bool := by rw [List.map_map]; rfl
  rw [e] at q
  have r := ev_cb (ea_cons q.ev ea_nil) (rc_any (K := K) (T := T))
  rw [List.any_map] at r
  exact r
theorem ev_allLc (F : PyData → Bool) (hi : IterD K T wi ρ items) (hz : items.length ≤ 1000000)
    (hs : ∀ (i : Nat) (d : PyData), items[i]? = some d → ∃ js f, TgD K T g d js f ∧ (∀ j ∈ js, j ∈ vs) ∧ Ev K T te (f (wipeS ρ vs)) (.bool (F d))) : Ev K T (tCB (rAll K) (tCons (tLc wi g tYes te vs) tNil)) ρ (.bool (items.all F)) := by
  have q := ef_lcM (K := K) (T := T) (fun d => .bool (F d)) hi hz hs
  have e : items.map (fun d => PyData.bool (F d)) = (items.map F).map PyData.bool := by rw [List.map_map]; rfl
  rw [e] at q
  have r := ev_cb (ea_cons q.ev ea_nil) (rc_all (K := K) (T := T))
  rw [List.all_map] at r
  exact r
end
/-! ### rows of parts -/
def dotQ : List Rat → List Rat → Rat
  | a :: r, b :: f => a * b + dotQ r f
  | _, _ => 0
/-- rows of parts, as lists or as tuples -/
inductive RowsD : List PyData → List (List Rat) → Prop
  | nil : RowsD [] []
  | cons {d : PyData} {ds : List PyData} {r : List Rat} {rs : List (List Rat)} : SeqD d (r.map encR) → RowsD ds rs → RowsD (d :: ds) (r :: rs)
theorem RowsD.len {ds : List PyData} {rs : List (List Rat)} (h : RowsD ds rs) : ds.length = rs.length := by
  induction h with
  | nil => rfl
  | cons a b ih => simp [ih]
theorem RowsD.get {ds : List PyData} {rs : List (List Rat)} (h : RowsD ds rs) : ∀ {i : Nat} {d : PyData}, ds[i]? = some d → ∃ r, rs[i]? = some r ∧ SeqD d (r.map encR) := by
  induction h with
  | nil => intro i d e; cases e
  | cons a b ih =>
    intro i d e
    cases i with
    | zero => cases e; exact ⟨_, rfl, a⟩
    | succ i => exact ih e
theorem rowsD_tup : ∀ rs : List (List Rat), RowsD (rs.map fun r => .tuple (r.map encR)) rs
  | [] => .nil
  | r :: rs => .cons (.tup _) (rowsD_tup rs)
section
variable {K : PySem.W.Frag} {T : Tb} {ρ : List Slot} {te : TE} {wi : TI} {ta : TA} {vs : List Nat}
theorem take_snoc {α : Type} {xs : List α} {i : Nat} {x : α} (h : xs[i]? = some x) : xs.take (i + 1) = xs.take i ++ [x] := by
  rw [List.take_succ, h]
  rfl
/-- a comprehension over parts -/
theorem ef_mapR {i : Nat} {as : List Rat} (F : Rat → PyData) (hi : IterD K T wi ρ (as.map encR)) (hz : as.length ≤ 1000000) (hv : i ∈ vs)
    (hs : ∀ a ∈ as, Ev K T te ((wipeS ρ vs).set i (.dat (encR a))) (F a)) : EvF K T (tLc wi (gName i) tYes te vs) ρ (as.map F) := by
  have q := ef_lcG (K := K) (T := T) (te := te) (g := gName i) (tt := tYes) (vs := vs) (fun k ys => ys = (as.take k).map F) hi (by rw [List.length_map]; exact hz) rfl (fun k d ys hd hI => by
    rw [List.getElem?_map] at hd
    cases e : as[k]? with
    | none => rw [e] at hd; cases hd
    | some a =>
      rw [e] at hd
      cases hd
      refine ⟨_, _, tg_name, (fun j hj => by rw [List.mem_singleton.mp hj]; exact hv), _, ext_yes, fun _ => ⟨_, Ev.x (hs a (List.mem_of_getElem? e)), fun y hy => ?_⟩, fun z => by cases z⟩
      rw [hy, hI, take_snoc e, List.map_append]
      rfl)
  rw [List.length_map, List.take_length] at q
  exact fun H0 B C H S σ g Q hQ => q H0 B C H S σ g Q fun ds p xs H2 e a b c d => by
    subst e
    exact hQ p xs H2 a b c d
/-- a comprehension over zip of parts -/
theorem ef_zipR {st : Bool} {i j : Nat} {as bs : List Rat} {d e : PyData} (F : Rat → Rat → PyData) (h : EvA K T ta ρ [d, e]) (hd : SeqD d (as.map encR)) (he : SeqD e (bs.map encR)) (hl : st = true → as.length = bs.length) (hz : as.length ≤ 1000000) (hv : i ∈ vs) (hw : j ∈ vs)
    (hs : ∀ a ∈ as, ∀ b ∈ bs, Ev K T te (((wipeS ρ vs).set i (.dat (encR a))).set j (.dat (encR b))) (F a b)) :
    EvF K T (tLc (iZip K st ta) (gTup K 2 (gCons (gName i) (gCons (gName j) gNil))) tYes te vs) ρ (List.zipWith F as bs) := by
  have q := ef_lcG (K := K) (T := T) (te := te) (g := gTup K 2 (gCons (gName i) (gCons (gName j) gNil))) (tt := tYes) (vs := vs) (fun k ys => ys = List.zipWith F (as.take k) (bs.take k)) (it_zip (K := K) (T := T) h hd he (fun z => by rw [List.length_map, List.length_map]; exact hl z)) (by simp [zipD]; omega) rfl (fun k x ys hx hI => by
    obtain ⟨x1, x2, rfl, h1, h2⟩ := zipD_get hx
    rw [List.getElem?_map] at h1 h2
    cases e1 : as[k]? with
    | none => rw [e1] at h1; cases h1
    | some a =>
      cases e2 : bs[k]? with
      | none => rw [e2] at h2; cases h2
      | some b =>
        rw [e1] at h1
        rw [e2] at h2
        cases h1
        cases h2
        refine ⟨_, _, tg_tup (tgs_cons tg_name (tgs_cons tg_name tgs_nil)) rfl, (fun k hk => by
          simp only [List.cons_append, List.nil_append, List.mem_cons, List.mem_nil_iff, or_false] at hk
          rcases hk with rfl | rfl
          · exact hv
          · exact hw), _, ext_yes, fun _ => ⟨_, Ev.x (hs a (List.mem_of_getElem? e1) b (List.mem_of_getElem? e2)), fun y hy => ?_⟩, fun z => by cases z⟩
        have l1 : k < as.length := (List.getElem?_eq_some_iff.mp e1).1
        have l2 : k < bs.length := (List.getElem?_eq_some_iff.mp e2).1
        rw [hy, hI, take_snoc e1, take_snoc e2, List.zipWith_append (by rw [List.length_take, List.length_take]; omega)]
        rfl)
  have hn : (zipD (as.map encR) (bs.map encR)).length = min as.length bs.length := by simp [zipD]
  rw [hn] at q
  have hf : List.zipWith F (as.take (min as.length bs.length)) (bs.take (min as.length bs.length)) = List.zipWith F as bs := by
    rw [← List.take_zipWith, List.take_of_length_le (by simp)]
  exact fun H0 B C H S σ g Q hQ => q H0 B C H S σ g Q fun ds p xs H2 e a b c d => by
    subst e
    rw [hf] at d
    exact hQ p xs H2 a b c d
end
/-! ### sums of products -/
theorem sz_dot {n m : Nat} : ∀ (r f : List Rat), (∀ q ∈ r, Sz n q) → (∀ q ∈ f, Sz m q) → Sz (1 + r.length * (n + m + 1)) (dotQ r f)
  | [], f, _, _ => by
    have e : dotQ [] f = 0 := by unfold dotQ; rfl
    rw [e]
    exact Sz.mono (n := 1) ⟨by decide, by decide⟩ (by omega)
  | a :: r, [], _, _ => by
    have e : dotQ (a :: r) [] = 0 := by unfold dotQ; rfl
    rw [e]
    exact Sz.mono (n := 1) ⟨by decide, by decide⟩ (by omega)
  | a :: r, b :: f, h1, h2 => by
    have ih := sz_dot r f (fun q hq => h1 q (List.mem_cons_of_mem _ hq)) fun q hq => h2 q (List.mem_cons_of_mem _ hq)
    have s := sz_add (sz_mul (h1 a (List.mem_cons_self ..)) (h2 b (List.mem_cons_self ..))) ih
    exact s.mono (by rw [List.length_cons, Nat.succ_mul]; omega)
theorem dot_add : ∀ (r a b : List Rat), a.length = b.length → dotQ r (List.zipWith (· + ·) a b) = dotQ r a + dotQ r b
  | [], a, b, _ => by simp [dotQ]; grind
  | x :: r, [], [], _ => by simp [dotQ]; grind
  | x :: r, [], b :: bs, h => by cases h
  | x :: r, a :: as, [], h => by cases h
  | x :: r, a :: as, b :: bs, h => by
    have ih := dot_add r as bs (by simpa using h)
    show x * (a + b) + dotQ r (List.zipWith (· + ·) as bs) = (x * a + dotQ r as) + (x * b + dotQ r bs)
    rw [ih]
    grind
theorem dot_scale (c : Rat) : ∀ (r a : List Rat), dotQ r (a.map (c * ·)) = c * dotQ r a
  | [], a => by simp [dotQ]
  | x :: r, [] => by simp [dotQ]
  | x :: r, a :: as => by
    have ih := dot_scale c r as
    show x * (c * a) + dotQ r (as.map (c * ·)) = c * (x * a + dotQ r as)
    rw [ih]
    grind
theorem dot_nn : ∀ (r a : List Rat), (∀ q ∈ r, 0 ≤ q) → (∀ q ∈ a, 0 ≤ q) → 0 ≤ dotQ r a
  | [], a, _, _ => by simp [dotQ]
  | x :: r, [], _, _ => by simp [dotQ]
  | x :: r, a :: as, h1, h2 => by
    have ih := dot_nn r as (fun q hq => h1 q (List.mem_cons_of_mem _ hq)) fun q hq => h2 q (List.mem_cons_of_mem _ hq)
    have p := Rat.mul_nonneg (h1 x (List.mem_cons_self ..)) (h2 a (List.mem_cons_self ..))
    show 0 ≤ x * a + dotQ r as
    grind
theorem atE_last {α : Type} {f : α → PyData} : ∀ {xs : List α}, xs ≠ [] → ∃ p ∈ xs, atI (xs.map f) (-1) = some (f p) := by
  intro xs h
  refine ⟨xs.getLast h, List.getLast_mem h, ?_⟩
  have hl : 0 < xs.length := List.length_pos_iff.mpr h
  unfold atI ixN
  rw [List.length_map, if_neg (by decide), if_pos (by omega)]
  show (xs.map f)[(-1 + (xs.length : Int)).toNat]? = _
  rw [show (-1 + (xs.length : Int)).toNat = xs.length - 1 from by omega, List.getElem?_map, List.getLast_eq_getElem, List.getElem?_eq_getElem (by omega)]
  rfl
theorem atE_first {α : Type} {f : α → PyData} : ∀ {xs : List α}, xs ≠ [] → ∃ p ∈ xs, atI (xs.map f) 0 = some (f p)
  | [], h => (h rfl).elim
  | x :: xs, _ => ⟨x, List.mem_cons_self .., by rw [atI_in (by decide) (by simp)]; rfl⟩
end Lw

set_option Elab.async false
set_option linter.all false
set_option maxRecDepth 100000
set_option maxHeartbeats 4000000
set_option autoImplicit false
/-! Lw, part P: isinstance of data; defs that raise; try. -/
namespace Lw
open PySem L2 LwZ
/-! ### isinstance -/
def tyN : PyData → String
  | .none => "NoneType"
  | .bool _ => "bool"
  | .int _ => "int"
  | .str _ => "str"
  | .list _ => "list"
  | .tuple _ => "tuple"
  | .dict _ => "dict"
section
variable {K : PySem.W.Frag} {T : Tb} {ρ : List Slot} {te : TE} {d : PyData}
theorem dt_ty {H : Hp} {S : List Addr} {v : V} (h : Dt K (hide H S) v d) : TyX K H v (.type (tyN d)) := by
  cases h with
  | non => exact .base .non
  | bl b => exact .base (.bl b)
  | int i => exact .base (.int i)
  | str x => exact .base (.str x)
  | lst h1 _ => exact .base (.lst (hide_get h1))
  | tup h1 _ =>
    rcases sqt_hide h1 with (e | ⟨o, e⟩) | ⟨o, its, n, e, c, _⟩
    · exact .base (.tup e)
    · exact .fTuple e
    · exact .kTuple e c
theorem ev_isi {t : String} {b : Bool} (h : Ev K T te ρ d) (hb : kitB (tyN d) t = some b) : Ev K T (tCB (rIsi K) (tCons te (tCons (tC (.ty t)) tNil))) ρ (.bool b) := fun H0 B C H S σ g Q hQ =>
  h H0 B C H S σ g _ fun v H2 e dv => ⟨v, .ty t, _, _, b, rfl, .ty t, dt_ty dv, kit_ty hb, hQ _ _ e (.bl b)⟩
theorem ev_isi2 {t u : String} {b c : Bool} (h : Ev K T te ρ d) (hb : kitB (tyN d) t = some b) (hc : kitB (tyN d) u = some c) :
    Ev K T (tCB (rIsiT K) (tCons te (tCons (tTup (tCons (tC (.ty t)) (tCons (tC (.ty u)) tNil))) tNil))) ρ (.bool (b || c)) := fun H0 B C H S σ g Q hQ =>
  h H0 B C H S σ g _ fun v H2 e dv => ⟨by show 2 ≤ sizeLine; decide, fun p hp => by
    have e2 : Ext T H2 (upd H2 p (.tup [.ty t, .ty u])) := .new hp
    refine ⟨v, p, [.ty t, .ty u], .type (tyN d), [.type t, .type u], b || c, rfl, upd_same, .cons (.ty t) (.cons (.ty u) .nil), dt_ty (dv.kp (e2.kp.hide S)), ?_, hQ _ _ (e.trans e2) (.bl _)⟩
    refine kitAny_cons (kit_ty hb) (fun z => kitAny_cons (kit_ty hc) (fun z2 => ?_) fun z2 => ?_) fun z => ?_
    · rw [z, z2]; exact kitAny_nil
    · rw [z2, Bool.or_true]
    · rw [z]; rfl⟩
end
theorem call_isiK {X : Cx} (K : PySem.W.Frag) (h : X.K = K := by rfl) : CallR X (.builtin "isinstance") (rIsi K) := h ▸ call_isi
theorem call_isiTK {X : Cx} (K : PySem.W.Frag) (h : X.K = K := by rfl) : CallR X (.builtin "isinstance") (rIsiT K) := h ▸ call_isiT
/-! ### an own exception class -/
structure ExF (K : PySem.W.Frag) (mg : Str → Option Value) (x : Str) (bm : List Value) (nw : String) : Prop where
  g : mg x = some (.ref (He.ga K x))
  q : PySem.W.excIn K (He.ga K x) bm nw = true
  k : PySem.W.keepIn K (.ref (He.ga K x)) = true
  s : PySem.W.subIn K (.ref (He.ga K x)) (.type "BaseException") = some true
  t : PySem.W.typeIn K (.ref (He.ga K x)) = some (.type "type")
/-- raise of the class x -/
def tRaise (K : PySem.W.Frag) (x : Str) (W : WX) : TS := fun _ σ H => W (.ref (He.ga K x)) none σ H
theorem ps_raiseX {X : Cx} {x m : Str} {j : Nat} {p p2 pos pos' : Pos} {bm : List Value} {B nw ini : String} {W : WX} (hc : X.calm = true) (tk : L2N.Takes X W) (F : ExcBaseFacts B nw ini bm) (e : ExF X.K X.mg x bm nw) (hg : Gl X x)
    (hdb : (x == ("__debug__" : Str)) = false := by decide) : PS X (.Raise (some (.Call (.Name x p) [.Constant (.str m) j p2] [] pos)) none pos') (tRaise X.K x W) :=
  L2N.ps_raise hc tk (L2N.pmk_own F e.q e.g e.k (raises_own e.s e.t) hg hdb)
/-! ### promises of defs that may raise -/
inductive Out where
  | ok (d : PyData)
  | ex (x : Str)
def spE (K : PySem.W.Frag) (T : Tb) (R : List PyData → Out → Prop) : Sp := fun vs H Q E => ∃ ds o S, LsT T H S ∧ DtAll K (hide H S) vs ds ∧ R ds o ∧
  match o with
  | .ok r => ∀ v H', Ext T H H' → Dt K (hide H' S) v r → Q v H'
  | .ex x => ∀ H', Ext T H H' → E (.ref (He.ga K x)) none H'
/-- what is wanted of the way out -/
def Ot (K : PySem.W.Frag) (T : Tb) (H0 : Hp) (C : List Addr) (rt : VK) (E : XK) : Out → Prop
  | .ok r => Rt K T H0 C rt r
  | .ex x => ∀ H', Ext T H0 H' → E (.ref (He.ga K x)) none H'
def WF (E : XK) : WX := fun cls d _ H => E cls d H
section
variable {P : Program} {w : World} {K : PySem.W.Frag} {T : Tb} {mg : Str → Option Value} {base : Heap}
theorem fnE {x : Str} {st : Stmt} {dvs : List V} {f : Addr} {fd : FuncData} {N ps : List Str} {k : Nat} {R : List PyData → Out → Prop} (F : FnP K x st dvs f fd) (S : FnScope N ps (defScope st)) (len : ∀ ds r, R ds r → ds.length = ps.length)
    (hbody : ∀ (cdv : Value) (A : Around) (outer : List Env) (s : Shared) (H : Hp) (E : XK), Room k (A.deeper (PyProof.Rows.envOfC x (defScope st) s.heap.objs.size f cdv)) →
      ∃ t, PSs (cxOf (L2N.CX P w) P w K mg base N x (defScope st) f cdv A outer s H E) (defBody st) t ∧ ∀ ds o, R ds o → ∀ (H0 : Hp) (C : List Addr) (D : Ends), Ot K T H0 C D.rt E o → (∀ σ H', Ext T H0 H' → o = .ok .none → D.nx σ H') → Tri K T H0 (hide H0 C) C (slots N.length ds) t D) :
    FnOk P w K mg base (L2N.CX P w) (k + 1) f fd ps (spE K T R) := by
  refine F.ok S (fun vs H Q E h => ?_) (fun cdv A outer s H vs Q E hr h => ?_)
  · obtain ⟨ds, r, S', l, hd, hR, _⟩ := h
    rw [hd.len]
    exact len ds r hR
  · obtain ⟨ds, o, S', l, hd, hR, hq⟩ := h
    obtain ⟨t, pt, tr⟩ := hbody cdv A outer s H E hr
    refine ⟨t, pt, ?_⟩
    refine tr ds o hR H S' _ ?_ (fun σ H' e z => ?_) _ _ ⟨S', gd_start l hd⟩
    · cases o with
      | ok r => exact fun v H' e dv => hq v H' e dv
      | ex x => exact fun H' e => hq H' e
    · subst z
      exact hq _ H' e .non
end
/-- a def that may raise, by its name -/
structure CalX (P : Program) (w : World) (K : PySem.W.Frag) (mg : Str → Option Value) (base : Heap) (k : Nat) (x : Str) (ps : List Str) (dvs : List V) (sp : Sp) : Prop where
  ex : ∃ (f : Addr) (fd : FuncData) (ds : List Value), FnOk P w K mg base (L2N.CX P w) k f fd ps sp ∧ mg x = some (.ref f) ∧ PySem.W.keepIn K (.ref f) = true ∧ Binds K fd ps ds ∧ Vals dvs ds
section
variable {X : Cx} {x : Str} {ps : List Str} {dvs : List V} {sp : Sp} {k j : Nat} {e : Expr} {es : List Expr} {t : TA} {p pos : Pos} {W : WX}
theorem pe_callX (c : CalX X.prog X.w X.K X.mg X.base k x ps dvs sp) (tk : L2N.Takes X W) (hr : Room j X.A) (hg : Gl X x) (ha : PA X (e :: es) t) (hk : k ≤ j := by decide) (hdb : (x == ("__debug__" : Str)) = false := by decide)
    (he : starEach (e :: es) X.env = (false, eval e X.env) :: starEach es X.env := by rfl) (hpl : (backTo pos (starEach es X.env)).any (·.1) = false := by rfl) : PE X (.Call (.Name x p) (e :: es) [] pos) (tCallSD sp dvs (WE W) t) := by
  obtain ⟨f, fd, ds, G, m, kp, b, v⟩ := c.ex
  exact pe_callSD G (hr.mono hk) hg m kp b v (fun σ => L2N.passAt tk σ) ha hdb he hpl
end
section
variable {K : PySem.W.Frag} {T : Tb} {ρ : List Slot} {te : TE} {ta : TA} {z : PyData} {W : WX} {H0 B : Hp} {C : List Addr} {D : Ends} {tz : TS} {g : TG}
theorem ev_callE {R : List PyData → Out → Prop} {ds : List PyData} {dvs : List V} {es : List PyData} (h : EvA K T ta ρ ds) (hd : ∀ H, DtAll K H dvs es) (hR : R (ds ++ es) (.ok z)) : Ev K T (tCallSD (spE K T R) dvs (WE W) ta) ρ z := fun H0 B C H S σ g Q hQ =>
  h H0 B C H S σ g _ fun vs H1 e1 d1 => ⟨ds ++ es, .ok z, S, g.lsT e1, d1.app (hd _), hR, fun v H2 e2 d2 => hQ v H2 (e1.trans e2) d2⟩
/-- te raises x -/
def EvR (K : PySem.W.Frag) (T : Tb) (te : TE) (ρ : List Slot) (x : Str) (W : WX) : Prop := ∀ (H0 B : Hp) (C : List Addr) (H : Hp) (S : List Addr) (σ : St), Gd K T H0 B C H S σ ρ →
  ∀ Q : VK, (∀ H2, Ext T H H2 → W (.ref (He.ga K x)) none σ H2) → te σ H Q
theorem er_callE {R : List PyData → Out → Prop} {ds : List PyData} {dvs : List V} {es : List PyData} {x : Str} (h : EvA K T ta ρ ds) (hd : ∀ H, DtAll K H dvs es) (hR : R (ds ++ es) (.ex x)) : EvR K T (tCallSD (spE K T R) dvs (WE W) ta) ρ x W := fun H0 B C H S σ g Q hQ =>
  h H0 B C H S σ g _ fun vs H1 e1 d1 => ⟨ds ++ es, .ex x, S, g.lsT e1, d1.app (hd _), hR, fun H2 e2 => hQ H2 (e1.trans e2)⟩
/-- the way out of the body -/
def Esc (K : PySem.W.Frag) (T : Tb) (H0 B : Hp) (C : List Addr) (ρ : List Slot) (x : Str) (W : WX) : Prop := ∀ σ H, Good K T H0 B C ρ σ H → W (.ref (He.ga K x)) none σ H
theorem esc_fn {x : Str} {E : XK} (h : ∀ H', Ext T H0 H' → E (.ref (He.ga K x)) none H') : Esc K T H0 B C ρ x (fun cls d _ H => E cls d H) := fun σ H ⟨S, g⟩ => h H g.ext
theorem s_asgR {x : Str} (h : EvR K T te ρ x W) (k : Esc K T H0 B C ρ x W) : Tri K T H0 B C ρ (tAsg te g) D := fun σ H ⟨S, gd⟩ => h H0 B C H S σ gd _ fun H2 e => k σ H2 ⟨S, gd.ex e⟩
theorem q_asgR {x : Str} (h : EvR K T te ρ x W) (k : Esc K T H0 B C ρ x W) : Tri K T H0 B C ρ (tSeq (tAsg te g) tz) D := s_seq (s_asgR h k)
theorem s_dropR {x : Str} (h : EvR K T te ρ x W) (k : Esc K T H0 B C ρ x W) : Tri K T H0 B C ρ (tDrop te) D := fun σ H ⟨S, gd⟩ => h H0 B C H S σ gd _ fun H2 e => k σ H2 ⟨S, gd.ex e⟩
theorem q_dropR {x : Str} (h : EvR K T te ρ x W) (k : Esc K T H0 B C ρ x W) : Tri K T H0 B C ρ (tSeq (tDrop te) tz) D := s_seq (s_dropR h k)
theorem s_retR {x : Str} (h : EvR K T te ρ x W) (k : Esc K T H0 B C ρ x W) : Tri K T H0 B C ρ (tRet te) D := fun σ H ⟨S, gd⟩ => h H0 B C H S σ gd _ fun H2 e => k σ H2 ⟨S, gd.ex e⟩
theorem s_raise {x : Str} (k : Esc K T H0 B C ρ x W) : Tri K T H0 B C ρ (tRaise K x W) D := fun σ H g => k σ H g
end
/-! ### the text's exception classes -/
structure ErC where
  name : Str
  ups : List Str
  bm : List Value
  nw : String
  ini : Bool
def veB : List Value := [.type "ValueError", .type "Exception", .type "BaseException", .type "object"]
def zeB : List Value := [.type "ZeroDivisionError", .type "ArithmeticError", .type "Exception", .type "BaseException", .type "object"]
def leB : List Value := [.type "LookupError", .type "Exception", .type "BaseException", .type "object"]
def ieB : List Value := [.type "IndexError", .type "LookupError", .type "Exception", .type "BaseException", .type "object"]
def subE (c d : ErC) : Bool := (c.name :: c.ups).contains d.name
def biE : List String := ["ValueError", "ZeroDivisionError", "LookupError", "IndexError"]
def excB (K : PySem.W.Frag) (D : Addr) : Bool := He.eqO (PySem.W.findIn K (.ref D) "__getattribute__") (some (some (.builtin "BaseException.__getattribute__"))) && (He.eqO (PySem.W.findIn K (.ref D) "__getattr__") (some none) &&
  (decide (PySem.W.subIn K (.ref D) (.type "BaseException") = some true) && (PySem.W.hasDictIn K D && (He.eqO (PySem.W.findIn K (.ref D) "__class__") (some (some (.builtin "object.__class__"))) &&
  (He.eqO (PySem.W.specialIn K (.builtin "object.__class__") "__get__") (some (some (.builtin "getset_descriptor.__get__"))) && (decide (PySem.W.takesIn K (.builtin "object.__class__") = some true) && decide (PySem.W.mroIn K D (.type "object") = some true)))))))
theorem excB_ok {K : PySem.W.Frag} {D : Addr} (h : excB K D = true) : ExcC K D := by
  unfold excB at h
  obtain ⟨h1, h⟩ := He.ba h
  obtain ⟨h2, h⟩ := He.ba h
  obtain ⟨h3, h⟩ := He.ba h
  obtain ⟨h4, h⟩ := He.ba h
  obtain ⟨h5, h⟩ := He.ba h
  obtain ⟨h6, h⟩ := He.ba h
  obtain ⟨h7, h8⟩ := He.ba h
  exact ⟨He.eqO_ok h1, He.eqO_ok h2, of_decide_eq_true h3, h4, He.eqO_ok h5, He.eqO_ok h6, of_decide_eq_true h7, of_decide_eq_true h8⟩
def erOne (K : PySem.W.Frag) (cl : List ErC) (c : ErC) : Bool := He.eqO (PySem.W.nsIn K mainGlobals c.name) (some (some (.ref (He.ga K c.name)))) && ((c.ini || PySem.W.excIn K (He.ga K c.name) c.bm c.nw) && (PySem.W.keepIn K (.ref (He.ga K c.name)) &&
  (decide (PySem.W.typeIn K (.ref (He.ga K c.name)) = some (.type "type")) && (excB K (He.ga K c.name) && ((cl.all fun d => decide (PySem.W.exmOne K (.ref (He.ga K c.name)) (.ref (He.ga K d.name)) = some (subE c d)) && decide (PySem.W.kitOne K (.ref (He.ga K c.name)) (.ref (He.ga K d.name)) = some (subE c d))) &&
  biE.all fun t => decide (PySem.W.kitOne K (.ref (He.ga K c.name)) (.type t) = some (c.bm.contains (.type t))))))))
def erB (cl : List ErC) (K : PySem.W.Frag) : Bool := cl.all (erOne K cl)
structure ErF (K : PySem.W.Frag) (mg : Str → Option Value) (cl : List ErC) (c : ErC) : Prop where
  g : mg c.name = some (.ref (He.ga K c.name))
  f : c.ini = false → ExF K mg c.name c.bm c.nw
  k : PySem.W.keepIn K (.ref (He.ga K c.name)) = true
  t : PySem.W.typeIn K (.ref (He.ga K c.name)) = some (.type "type")
  x : ExcC K (He.ga K c.name)
  m : ∀ d ∈ cl, PySem.W.exmOne K (.ref (He.ga K c.name)) (.ref (He.ga K d.name)) = some (subE c d) ∧ PySem.W.kitOne K (.ref (He.ga K c.name)) (.ref (He.ga K d.name)) = some (subE c d)
  b : ∀ t ∈ biE, PySem.W.kitOne K (.ref (He.ga K c.name)) (.type t) = some (c.bm.contains (.type t))
def ErrT (K : PySem.W.Frag) (mg : Str → Option Value) (cl : List ErC) : Prop := ∀ c ∈ cl, ErF K mg cl c
theorem erB_ok {K : PySem.W.Frag} {h : Heap} {mg : Str → Option Value} {cl : List ErC} (X : K.In h) (G : h.Ns mainGlobals mg) (e : erB cl K = true) : ErrT K mg cl := fun c hc => by
  have q := List.all_eq_true.mp e c hc
  unfold erOne at q
  obtain ⟨h1, q⟩ := He.ba q
  obtain ⟨h2, q⟩ := He.ba q
  obtain ⟨h3, q⟩ := He.ba q
  obtain ⟨h4, q⟩ := He.ba q
  obtain ⟨h5, q⟩ := He.ba q
  obtain ⟨h6, h7⟩ := He.ba q
  have g := PySem.W.mg_of X G (He.eqO_ok h1)
  have c5 := excB_ok h5
  refine ⟨g, fun z => ⟨g, ?_, h3, c5.hs, of_decide_eq_true h4⟩, h3, of_decide_eq_true h4, c5, fun d hd => ?_, fun t ht => of_decide_eq_true (List.all_eq_true.mp h7 t ht)⟩
  · rw [z, Bool.false_or] at h2
    exact h2
  · obtain ⟨a, b⟩ := He.ba (List.all_eq_true.mp h6 d hd)
    exact ⟨of_decide_eq_true a, of_decide_eq_true b⟩
/-! ### a promise that may raise, where it doesn't -/
theorem CalX.calm {P : Program} {w : World} {K : PySem.W.Frag} {T : Tb} {mg : Str → Option Value} {base : Heap} {k : Nat} {x : Str} {ps : List Str} {dvs : List V} {R : List PyData → Out → Prop} (c : CalX P w K mg base k x ps dvs (spE K T R)) :
    Cal P w K mg base k x ps dvs (spR K T fun ds r => R ds (.ok r)) := by
  obtain ⟨f, fd, ds, G, m, kp, b, v⟩ := c.ex
  refine ⟨f, fd, ds, ⟨fun vs H Q E h => ?_, fun A outer s H args us vs Q E hr e0 hb hv h => ?_⟩, m, kp, b, v⟩
  · obtain ⟨ds, r, S, l, hd, hR, hq⟩ := h
    exact G.len vs H Q (fun _ _ _ => False) ⟨ds, .ok r, S, l, hd, hR, hq⟩
  · obtain ⟨ds, r, S, l, hd, hR, hq⟩ := h
    refine codeAny_mono (G.run A outer s H args us vs Q (fun _ _ _ => False) hr e0 hb hv ⟨ds, .ok r, S, l, hd, hR, hq⟩) fun o s' h' => ?_
    cases o with
    | error e =>
      obtain ⟨_, _, _, _, _, _, _, _, _, _, _, _, z⟩ := h'
      exact z.elim
    | ok fl => cases fl <;> exact h'
/-! ### try: body, except x as n: suite -/
/-- isinstance(e, c), e the exception that the suite holds -/
def rIsX (K : PySem.W.Frag) (a : Addr) (cls : Value) (d : Option Addr) : List V → Hp → VK → Prop := fun xs H Q => ∃ (D : Addr) (c : V) (cv : Value) (b : Bool), cls = .ref D ∧ d = none ∧ ExcC K D ∧ xs = [.ref a, c] ∧ (∀ u, RelV c u → u = cv) ∧ PySem.W.kitOne K (.ref D) cv = some b ∧ Q (.bl b) H
theorem call_isX {X : Cx} (K : PySem.W.Frag) {a : Addr} {cls : Value} {d : Option Addr} {oe : Obj} {pn : List (Addr × Obj)} (hz : Zc cls d oe) (hf : ∃ vs, oe.data = .fields vs) (h : X.K = K := by rfl) : CallR (X.suite a ((a, oe) :: pn)) (.builtin "isinstance") (rIsX K a cls d) := by
  subst h
  intro pins s σ H xs us Q I r h
  obtain ⟨D, c, cv, b, rfl, rfl, C, e1, e2, e3, q⟩ := h
  exact call_isE C hz hf pins s σ H xs us Q I r ⟨c, cv, b, e1, e2, e3, q⟩
section
variable {K : PySem.W.Frag} {T : Tb} {ρ : List Slot} {H0 B : Hp} {C : List Addr} {D : Ends} {H : Hp} {S : List Addr} {σ : St}
theorem Gd.setRaw (g : Gd K T H0 B C H S σ ρ) {i : Nat} {v : V} : Gd K T H0 B C H S (σ.set i (some v)) (ρ.set i (.raw v)) where
  ext := g.ext
  vis := g.vis
  bno := g.bno
  hid := g.hid
  lst := g.lst
  sub := g.sub
  cl := g.cl
  len := by rw [List.length_set, List.length_set]; exact g.len
  dat := fun j d e => by
    by_cases z : i = j
    · subst z; cases set_get e
    · rw [List.getElem?_set_ne z] at e ⊢
      exact g.dat j d e
  scr := fun j d e => by
    by_cases z : i = j
    · subst z; cases set_get e
    · rw [List.getElem?_set_ne z] at e ⊢
      exact g.scr j d e
  raw := fun j d e => by
    by_cases z : i = j
    · subst z
      have hl : i < ρ.length := by
        have := (List.getElem?_eq_some_iff.mp e).1
        rwa [List.length_set] at this
      cases set_get e
      exact List.getElem?_set_self (g.len ▸ hl)
    · rw [List.getElem?_set_ne z] at e ⊢
      exact g.raw j d e
  own := fun j d e => by
    by_cases z : i = j
    · subst z; cases set_get e
    · rw [List.getElem?_set_ne z] at e ⊢
      exact g.own j d e
  sep := fun a b ds es p ha hb sa sb => by
    have za : i ≠ a := fun z => by subst z; cases set_get ha
    have zb : i ≠ b := fun z => by subst z; cases set_get hb
    rw [List.getElem?_set_ne za] at ha sa
    rw [List.getElem?_set_ne zb] at hb sb
    exact g.sep a b ds es p ha hb sa sb
theorem tri_app {ts : TS} (σ : St) (H : Hp) (g : Good K T H0 B C ρ σ H) (h : Tri K T H0 B C ρ ts D) : ts D σ H := h σ H g
/-- the clause's ends: its name is gone behind it -/
abbrev clEnds (i : Nat) (D : Ends) : Ends := { nx := fun σ' H' => D.nx (σ'.set i none) H', rt := D.rt, bk := fun σ' H' => D.bk (σ'.set i none) H', ct := fun σ' H' => D.ct (σ'.set i none) H' }
theorem s_gone {i : Nat} (k : Tri K T H0 B C (ρ.set i .no) tNext D) : Tri K T H0 B C ρ tNext (clEnds i D) := fun σ H ⟨S, g⟩ => k (σ.set i none) H ⟨S, g.no i⟩
theorem esc_as {x : Str} {i : Nat} {c : Value} {ts : Addr → Value → Option Addr → TS} {Wout : WX} (h : PySem.W.exmOne K (.ref (He.ga K x)) c = some true)
    (k : ∀ a, Tri K T H0 B C (ρ.set i (.raw (.ref a))) (ts a (.ref (He.ga K x)) none) (clEnds i D)) : Esc K T H0 B C ρ x (wAs K c i ts Wout D) := fun σ H ⟨S, g⟩ =>
  ⟨true, h, fun _ a _ => k a _ _ ⟨S, g.setRaw⟩, fun z => by cases z⟩
theorem ev_isX {i : Nat} {a : Addr} {x : Str} {c : V} {cv : Value} {b : Bool} (hi : ρ[i]? = some (.raw (.ref a))) (hc : ExcC K (He.ga K x)) (hv : ∀ u, RelV c u → u = cv) (hk : PySem.W.kitOne K (.ref (He.ga K x)) cv = some b) :
    Ev K T (tCB (rIsX K a (.ref (He.ga K x)) none) (tCons (tVar i) (tCons (tC c) tNil))) ρ (.bool b) := fun H0 B C H S σ g Q hQ =>
  ⟨.ref a, g.raw i _ hi, _, c, cv, b, rfl, rfl, hc, rfl, hv, hk, hQ _ _ (.refl T H) (.bl b)⟩
end
end Lw

set_option Elab.async false
set_option linter.all false
set_option maxRecDepth 100000
set_option maxHeartbeats 4000000
set_option autoImplicit false
/-! Lw, part T: try with several clauses `except X as n`, `except (X, Y) as n`. -/
namespace Lw
open PySem PySem.Spec PyProof.Rows L2
theorem flying_keeps {base h h' : Heap} {l : List Env} {e : Addr} {Z : Obj → Prop} (f : HandSPX.FlyingZ base l e Z h) (k : ∀ b o, h.get? b = some o → h'.get? b = some o) : HandSPX.FlyingZ base l e Z h' := by
  obtain ⟨f1, f2, f3, oe, vs, T, oT, ts, a1, a2, a3, a4, a5, a6, a7, a8, a9⟩ := f
  exact ⟨fun b o q => k b o (f1 b o q), f2, f3.of_keeps fun b o q _ => ⟨o, k b o q, rfl⟩, oe, vs, T, oT, ts, k _ _ a1, a2, a3, a4, a5, a6, k _ _ a7, a8, a9⟩
/-- what a clause names: a class, or two -/
inductive Cl2 where
  | one (c : Value)
  | two (c d : Value)
def exmC (K : PySem.W.Frag) (cls : Value) : Cl2 → Option Bool
  | .one c => PySem.W.exmOne K cls c
  | .two c d => PySem.W.exmAny K cls [c, d]
inductive TestOk (X : Cx) : Expr → Cl2 → Prop
  | one {x : Str} {c : Value} {np : Pos} (h : Names X x c) : TestOk X (.Name x np) (.one c)
  | two {x y : Str} {c d : Value} {p q pos : Pos} {k : Nat} (h : Names X x c) (h2 : Names X y d) : TestOk X (.Tuple [.Name x p, .Name y q] k pos) (.two c d)
abbrev Sui := Addr → Value → Option Addr → TS
/-- what the clauses wish of an exception of the body, one after the other; each binds the name of slot i -/
def wManyA (K : PySem.W.Frag) (i : Nat) (Wout : WX) (D : Ends) : List (Cl2 × Sui) → WX
  | [] => Wout
  | (c, ts) :: r => fun cls d σ H => ∃ b, exmC K cls c = some b ∧ (b = true → ∀ a, H a = none → ts a cls d (clEnds i D) (σ.set i (some (.ref a))) H) ∧ (b = false → wManyA K i Wout D r cls d σ H)
inductive HdsA (X : Cx) (n : Str) : List ExceptHandler → List (Cl2 × Sui) → Prop
  | nil : HdsA X n [] []
  | cons {e : Expr} {c : Cl2} {ts : Sui} {b₀ : Stmt} {suite : List Stmt} {pos' : Pos} {hds : List ExceptHandler} {l : List (Cl2 × Sui)} (hc : TestOk X e c)
      (hsu : ∀ (a : Addr) (oe : Obj) (cls : Value) (d : Option Addr) (pn : List (Addr × Obj)), L2N.Zn cls d oe → (∃ vs, oe.data = .fields vs) → PSs (X.suite a ((a, oe) :: pn)) (b₀ :: suite) (ts a cls d)) (r : HdsA X n hds l) :
      HdsA X n (.ExceptHandler (some e) (some n) (b₀ :: suite) pos' :: hds) ((c, ts) :: l)
section
variable {X : Cx} {body : List Stmt} {h₀ : ExceptHandler} {hds : List ExceptHandler} {l : List (Cl2 × Sui)} {pos : Pos} {tb : WX → TS} {Wout : WX} {n : Str} {i : Nat}
theorem ps_try_manyA (hs : X.stack = X.env :: X.outer) (hf : X.env.frame = some X.env.locals) (hN : X.N.Nodup) (hi : X.N[i]? = some n) (hln : X.env.kindOf n = some .local) (tk : L2N.Takes X Wout)
    (hb : ∀ (W : WX) (pn : List (Addr × Obj)) (xe : Value → Shared → Prop), L2N.Takes (X.tr pn xe) W → PassesOwn (model X.prog X.w) X.A X.env xe → PSs (X.tr pn xe) body (tb W))
    (hh : HdsA X n (h₀ :: hds) l) : PS X (.Try body (h₀ :: hds) [] [] pos) (fun D σ H => tb (wManyA X.K i Wout D l) D σ H) := by
  refine ⟨fun pins s σ H D I h => ?_⟩
  have ok := I.ok
  have hfr : X.A.frames = some (X.env :: X.outer) := by rw [ok.frames, hs]
  have hloc : Loc X.env.scope n := .inl hln
  refine wpAny_Try_except ?_
  refine wpAny_mono ((hb (wManyA X.K i Wout D l) (X.pn ++ pins) (fun e s₁ => wpAny (model X.prog X.w) X.A (noteFrame e X.env) (fun _ s₂ => wpAny (model X.prog X.w) X.A (setFlight e none) (fun _ s₃ =>
    wpAny (model X.prog X.w) X.A (handleBy e X.env (h₀ :: hds)) (SP X pins D) X.xe s₃) X.xe s₂) X.xe s₁) (fun u s' xx => ?_) PassesOwn.looking).run [] s σ H D (I.toTry _) h) (fun f s1 hsp => ?_) (fun e s1 he => he)
  · -- the catch
    obtain ⟨a, B, sI, pins', σ', H', cls, d, rfl, J', nb, up, sky, na, os, ag, w⟩ := xx
    have J : Inv X pins σ' H' sI := J'.ofTry ok
    have sky' : Sky B (X.env :: X.outer) a (L2N.Zn cls d) X.env.locals s'.heap := by rw [← hs]; exact sky
    show wpAny (model X.prog X.w) X.A (noteFrame (.ref a) X.env) _ _ _
    refine L2N.Sky.land L2N.Zn.steady hfr hf sky' fun h3 fl3 up3 => ?_
    have notFr : ∀ {h : Heap} {o : Obj} {vs : Array Value}, h.FunFrames B (X.env :: X.outer) → h.get? a = some o → o.data = .fields vs → a ∉ frs (X.env :: X.outer) := fun {h o vs} ff e dd hm => by
      obtain ⟨_, o', e', hnf⟩ := ff.mem hm
      rw [e] at e'; cases e'
      exact hnf _ dd
    obtain ⟨oe3, vs3, he3, hz3, hd3⟩ := fl3.there
    have nfr := notFr fl3.2.2.1 he3 hd3
    have nL : a ≠ X.env.locals := fun z => nfr (List.mem_filterMap.mpr ⟨X.env, List.mem_cons_self, by rw [hf, z]⟩)
    have nF : a ∉ X.fs := fun hm => by
      obtain ⟨e, he, q⟩ := List.mem_filterMap.mp hm
      exact nfr (List.mem_filterMap.mpr ⟨e, List.mem_cons_of_mem _ he, q⟩)
    have go : ∀ {hds' : List ExceptHandler} {l' : List (Cl2 × Sui)}, HdsA X n hds' l' → ∀ h3 : Heap, HandSPX.FlyingZ B (X.env :: X.outer) a (L2N.Zn cls d) h3 → sI.heap.UpToSlots h3 → wManyA X.K i Wout D l' cls d σ' H' →
        wpAny (model X.prog X.w) X.A (handleBy (.ref a) X.env hds') (SP X pins D) X.xe { s' with heap := h3 } := by
      intro hds' l' hk
      induction hk with
      | nil =>
        intro h3 fl3 up3 w
        refine wpAny_handleBy_nil ?_
        obtain ⟨k1, k2, k3, oe, vs, T, oT, ts', he, hz, hd, h1, hr⟩ := id fl3
        unfold PySem.passOn
        refine wpAny_bind (wpAny_field he hd h1 ?_)
        rw [if_neg (show ¬ ((Value.ref T == Value.none) = true) from by simp)]
        have fin : wpAny (model X.prog X.w) X.A (setFlight (.ref a) X.env.frame) (fun _ s4 => wpAny (model X.prog X.w) X.A (throw (.ref a) : Sem Flow) (SP X pins D) X.xe s4) X.xe { s' with heap := h3 } := by
          rw [hf]
          refine HandSPX.setFlight_upZ fl3 fun h4 hh4 up4 => wpAny_throw (tk _ _ ?_)
          exact ⟨a, B, sI, pins, σ', H', cls, d, rfl, J, nb, up3.trans up4, .inr (.inr (by rw [hs]; exact hh4)), na, os, ag, w⟩
        first
          | exact wpAny_bind (wpAny_pure (wpAny_bind fin))
          | exact wpAny_bind fin
      | @cons te c ts b₀ suite pos' hds2 l2 hc hsu r ih =>
        intro h3 fl3 up3 w
        obtain ⟨b, hb1, hyes, hno⟩ := w
        have J3 : Inv X pins σ' H' { s' with heap := h3 } := J.landed nb fl3.1 up3 os ag
        obtain ⟨oe3, vs3, he3, hz3, hd3⟩ := fl3.there
        have S3 := J3.suite he3 hd3 na nL nF
        refine wpAny_handleBy_cons (codeAny_handlers_test ?_) (by intro q; cases q)
        have name : ∀ {x : Str} {c : Value} {np : Pos} {Q : Value → Shared → Prop} {E : Value → Shared → Prop}, Names X x c → Q c { s' with heap := h3 } → wpAny (model X.prog X.w) (X.A.mark (some (.ref a))) (eval (.Name x np) X.env) Q E { s' with heap := h3 } := fun {x c np Q E} hc q => by
          obtain ⟨hg, hdbg, hm | ⟨hm, hv, hnn⟩⟩ := hc
          · exact ld_glob (X := X.suite a ((a, oe3) :: (X.pn ++ pins))) S3 hg hm q hdbg
          · exact ld_blt (X := X.suite a ((a, oe3) :: (X.pn ++ pins))) S3 hg hm hv q hnn hdbg
        have LT : PySem.W.Looks (model X.prog X.w) h3 (typeOf (.ref a)) cls := fun A Q E s k q => wpAny_typeOf_ref (k _ _ he3) (by rw [hz3.1]; exact q)
        have tst : ∀ {Q : Value → Shared → Prop} {E : Value → Shared → Prop}, (∀ (cv : Value) (h4 : Heap), HandSPX.FlyingZ B (X.env :: X.outer) a (L2N.Zn cls d) h4 → sI.heap.UpToSlots h4 → PySem.W.Looks (model X.prog X.w) h4 (excMatches (.ref a) cv) b → Q cv { s' with heap := h4 }) →
            wpAny (model X.prog X.w) (X.A.mark (some (.ref a))) (eval te X.env) Q E { s' with heap := h3 } := by
          intro Q E hQ
          cases hc with
          | one h => exact name h (hQ _ h3 fl3 up3 (PySem.W.exm_one (M := model X.prog X.w) J3.kIn LT hb1))
          | two h h2 =>
            rename_i c1 c2 p q tp k
            refine wpAny_Tuple_spliced (args_cons (name h (args_cons (name h2 (args_nil ⟨by show 2 ≤ sizeLine; decide, ?_⟩)) rfl)) rfl)
            have kp : ∀ b o, h3.get? b = some o → (h3.push { cls := .type "tuple", data := .seq [c1, c2].toArray }).get? b = some o := fun b o e => Heap.get?_push_of_some _ e
            exact hQ _ _ (flying_keeps fl3 kp) (up3.trans (Heap.UpToSlots.of_keeps kp)) (PySem.W.exm_tup2 (M := model X.prog X.w) (J3.kIn.keeps kp) (LT.keeps kp) (Heap.get?_push_size _ rfl) hb1)
        refine tst fun cv h3b fl3b up3b LM => LM.here ?_
        cases b with
        | true =>
          refine codeAny_handlers_suite_as ?_
          refine HandSPX.lands_againZ fl3b fun h4 fl4 up4 => ?_
          have J4 : Inv X pins σ' H' { s' with heap := h4 } := J.landed nb fl4.1 (up3b.trans up4) os ag
          obtain ⟨oe4, vs4, he4, hz4, hd4⟩ := fl4.there
          have S4 := J4.suite he4 hd4 na nL nF
          refine store_ok (X := X.suite a ((a, oe4) :: (X.pn ++ pins))) (v := .ref a) S4 hN hi hloc rfl (fun s5 S5 => ?_) (.inr hln)
          refine wpAny_mono ((hsu a oe4 cls d (X.pn ++ pins) hz4 ⟨_, hd4⟩).run [] s5 _ H' _ S5 (hyes rfl a na)) (fun f s6 hsp => ?_) (fun _ _ z => False.elim z)
          have end_ : ∀ {σ6 : L2.St} {H6 : Hp} {Q : Shared → Prop}, Inv (X.suite a ((a, oe4) :: (X.pn ++ pins))) [] σ6 H6 s6 → (∀ s7, Inv X pins (σ6.set i none) H6 s7 → Q s7) →
              wpAny (model X.prog X.w) X.A (do bindName X.env n .none; unbindBehindTheSuite X.env n pos') (fun _ s7 => Q s7) X.xe s6 := fun {σ6 H6 Q} S6 hq => gone_ok (S6.unsuite ok) hN hi hln hq
          cases f with
          | next =>
            obtain ⟨σ6, H6, S6, q6⟩ := hsp
            exact end_ S6 fun s7 J7 => ⟨_, _, J7, q6⟩
          | brk =>
            obtain ⟨σ6, H6, S6, q6⟩ := hsp
            exact end_ S6 fun s7 J7 => ⟨_, _, J7, q6⟩
          | cont =>
            obtain ⟨σ6, H6, S6, q6⟩ := hsp
            exact end_ S6 fun s7 J7 => ⟨_, _, J7, q6⟩
          | ret u =>
            obtain ⟨v6, σ6, H6, S6, r6, q6⟩ := hsp
            exact end_ S6 fun s7 J7 => ⟨_, _, _, J7, r6, q6⟩
        | false =>
          show wpAny _ X.A (handleBy (.ref a) X.env hds2) _ _ _
          exact ih h3b fl3b up3b (hno rfl)
    exact go hh h3 fl3 (up.trans up3) w
  · cases f with
    | next =>
      obtain ⟨σ', H', J', q⟩ := hsp
      exact wpAny_execs_nil ⟨σ', H', J'.ofTry ok, q⟩
    | brk =>
      obtain ⟨σ', H', J', q⟩ := hsp
      exact ⟨σ', H', J'.ofTry ok, q⟩
    | cont =>
      obtain ⟨σ', H', J', q⟩ := hsp
      exact ⟨σ', H', J'.ofTry ok, q⟩
    | ret u =>
      obtain ⟨v, σ', H', J', r, q⟩ := hsp
      exact ⟨v, σ', H', J'.ofTry ok, r, q⟩
end
end Lw

set_option Elab.async false
set_option linter.all false
set_option maxRecDepth 100000
set_option maxHeartbeats 4000000
set_option autoImplicit false
/-! Lw, part U: comprehensions where an exception may be handled. -/
namespace LwZ
open PySem PySem.Spec PyProof.Rows L2
/-- as Turn; at its end it wants to know that nothing, or an exception without a context, is handled -/
structure TurnQ (P : Program) (w : World) (K : PySem.W.Frag) (tg : Expr) (J : It) (fp : List Addr) (it : Addr) (tn : Nat → Heap → Prop) : Prop where
  mem : it ∈ fp
  obj : ∀ i h, tn i h → ∀ b ∈ fp, ∃ o, h.get? b = some o ∧ ∀ v, o.data ≠ .cell v
  keep : ∀ i h h', tn i h → (∀ b ∈ fp, ∀ o, h.get? b = some o → h'.get? b = some o) → tn i h'
  item : ∀ (X : Cx), X.prog = P → X.w = w → X.K = K → ∀ (i : Nat) (pins : List (Addr × Obj)) (s : Shared) (σ : L2.St) (H : Hp) (E : Value → Shared → Prop), Inv X pins σ H s → (∀ b ∈ fp, FpOk X pins H b) → tn i s.heap → J.go i H →
    wpAny (model P w) X.A (pyNext (.ref it)) (fun r s1 => ∃ u, r = some u ∧
      wpAny (model P w) X.A (letOwnedTupleGo tg (.ref it) u) (fun _ s2 => ∃ x H', Inv X pins σ H' s2 ∧ RelV x u ∧ J.yld i H x H' ∧ tn (i + 1) s2.heap ∧ ∀ b ∈ fp, H' b = none) E s1) E s
  done : ∀ (X : Cx), X.prog = P → X.w = w → X.K = K → ∀ (i : Nat) (pins : List (Addr × Obj)) (s : Shared) (σ : L2.St) (H : Hp) (E : Value → Shared → Prop), Quiet X.A s.heap → Inv X pins σ H s → (∀ b ∈ fp, FpOk X pins H b) → tn i s.heap → J.stop i H →
    wpAny (model P w) X.A (pyNext (.ref it)) (fun r s1 => r = none ∧ Inv X pins σ H s1) E s
  self : ∀ (A : Around) (i : Nat) (s : Shared) (Q : Value → Shared → Prop) (E : Value → Shared → Prop), tn i s.heap → Q (.ref it) s → wpAny (model P w) A (pyIter (.ref it)) Q E s
theorem turn_zpQ {st p1 p2 : Bool} {a b z TI TO i1 i2 : Addr} {P : Program} {w : World} {K : PySem.W.Frag} {elts : List Expr} {kk : Nat} {tpos : Pos} (D : ZipApart z TI TO i1 i2 a b) :
    TurnQ P w K (.Tuple elts kk tpos) (ItZ K st p1 p2 a b) [z, TI, TO, i1, i2] z (zTn st p1 p2 a b z TI TO i1 i2) where
  mem := by simp
  obj := zp_obj
  keep := zp_keep
  item := by
    intro X hP hw hK i pins s σ H E I hf t hg
    subst hP hw hK
    exact zp_item D X i pins s σ H E I hf t hg
  done := by
    intro X hP hw hK i pins s σ H E q I hf t hg
    subst hP hw hK
    exact zp_done D X i pins s σ H E q I hf t hg
  self := fun A i s Q E t h => pyIter_zp t.1 h
def PIEQ (X : Cx) (pins : List (Addr × Obj)) (σ : L2.St) (tg : Expr) (R : It → Hp → Prop) (itv : Value) (s2 : Shared) : Prop :=
  ∃ (it : Addr) (fp : List Addr) (tn : Nat → Heap → Prop) (J : It) (H' : Hp), itv = .ref it ∧ Inv X pins σ H' s2 ∧ TurnQ X.prog X.w X.K tg J fp it tn ∧ tn 0 s2.heap ∧ (∀ b ∈ fp, FpOk X pins H' b) ∧ R J H'
structure PIQ (X : Cx) (tg iter : Expr) (wi : TI) : Prop where
  run : ∀ (pins : List (Addr × Obj)) (s : Shared) (σ : L2.St) (H : Hp) (R : It → Hp → Prop), Inv X pins σ H s → wi σ H R →
    wpAny (model X.prog X.w) X.A (eval iter X.env) (fun v s1 => wpAny (model X.prog X.w) X.A (pyIter v) (PIEQ X pins σ tg R) X.xe s1) X.xe s
theorem pi_zipQ {X : Cx} (K : PySem.W.Frag) {e e2 : Expr} {ta : TA} {p pos tpos : Pos} {elts : List Expr} {kk : Nat} (hg : Gl X "zip") (hm : X.mg "zip" = none) (ha : PA X [e, e2] ta) (hK : X.K = K := by rfl)
    (hs : starEach [e, e2] X.env = (false, eval e X.env) :: starEach [e2] X.env := by rfl) (hpl : (backTo pos (starEach [e2] X.env)).any (·.1) = false := by rfl) :
    PIQ X (.Tuple elts kk tpos) (.Call (.Name "zip" p) [e, e2] [] pos) (iZip K false ta) := by
  subst hK
  refine ⟨fun pins s σ H R I h => ?_⟩
  refine Call_ (ld_blt I hg hm PyProof.Rows.boot_zip (PyProof.Rows.callWith_type1 (thn (ha.run pos pins s σ H _ I h) fun us s1 ⟨vs, H1, I1, r1, q1⟩ => ?_) hs hpl))
  exact zp_go (st := false) (fun {p1 p2 a b xs ys} hqx hqy q h' t D I2 f => pyIter_zp t.1 ⟨_, _, _, _, H1, rfl, I2, turn_zpQ D, t, f, q⟩) I1 r1 q1
section
variable {prog : Program} {w : World} {A : Around} {E : Value → Shared → Prop} {s : Shared}
theorem iter_end {tp : Bool} {it l : Addr} {i : Nat} {items : Array Value} {id : String} {Q' : Fin → Shared → Prop} (q : Quiet A s.heap) (hit : IsIt tp s.heap it l i) (hl : IsSq tp s.heap l items) (hx : items[i]? = none)
    (hE : ∀ h' e, Heap.ExtBut it s.heap h' → (∃ o, h'.get? e = some o ∧ o.cls = .type "StopIteration") → E (.ref e) { s with heap := h' }) : wpAny (model prog w) A.in1 (do
      let seq ← field (.ref it) 0
      if seq == .none then rule s!"{id}.ended"; Builtin.SmallTypes.stopIteration
      let .int i _ ← field (.ref it) 1 | unsupported s!"internal:{id}"
      let some its ← seqItems? seq | unsupported s!"internal:{id}"
      match its[i.toNat]? with
      | some x => setField (.ref it) 1 (rawInt (i + 1)); ret x
      | none => rule s!"{id}.end"; setField (.ref it) 0 .none; Builtin.SmallTypes.stopIteration) Q' E s := by
  obtain ⟨o, ho, hc, hd⟩ := hit.get
  obtain ⟨ol, nl, hol, hdl⟩ := hl.get
  refine wpAny_bind (wpAny_field ho hd (x := .ref l) rfl ?_)
  show wpAny _ _ (if (Value.ref l == Value.none) = true then _ else _) _ _ s
  rw [if_neg (show ¬ ((Value.ref l == Value.none) = true) from Bool.false_ne_true)]
  refine wpAny_bind (wpAny_field ho hd (x := .int i 0) rfl ?_)
  refine wpAny_bind (wpAny_seqItems hol hdl ?_)
  simp only [Int.toNat_natCast, hx]
  refine wpAny_bind (wpAny_rule (wpAny_bind (wpAny_setField ho hd (by simp) ?_)))
  have q2 : Quiet A.in1 (s.heap.update it (Obj.mapFields (·.setIfInBounds 0 .none))) :=
    Quiet.keep (A := A.in1) (show Quiet A.in1 s.heap from q) ho hd (by simp) fun b u hb e => by rw [Heap.get?_update_other _ _ (Ne.symm hb)]; exact e
  refine stop_raised (s := { s with heap := s.heap.update it (Obj.mapFields (·.setIfInBounds 0 .none)) }) q2 fun h' e k ho' => hE h' e (fun b u hb z => k b u (by
    rw [Heap.get?_update_other _ _ (Ne.symm hb)]; exact z)) ho'
theorem next_endQ {tp : Bool} {it l : Addr} {i : Nat} {items : Array Value} {Q : Option Value → Shared → Prop} (q : Quiet A s.heap) (hit : IsIt tp s.heap it l i) (hl : IsSq tp s.heap l items) (hx : items[i]? = none)
    (hQ : ∀ h', Heap.ExtBut it s.heap h' → Q none { s with heap := h' }) : wpAny (model prog w) A (pyNext (.ref it)) Q E s := by
  obtain ⟨o, ho, hc, hd⟩ := hit.get
  have fin : ∀ h' e, Heap.ExtBut it s.heap h' → (∃ o, h'.get? e = some o ∧ o.cls = .type "StopIteration") → wpAny (model prog w) A (do if ← isInstance (.ref e) (.type "StopIteration") then return none else throw (.ref e)) Q E { s with heap := h' } := fun h' e k ⟨oe, he, hce⟩ =>
    wpAny_bind (wpAny_isInstance (T := "StopIteration") (b := true) ⟨oe, he, hce⟩ isSubtype_stop (wpAny_pure (hQ _ k)))
  unfold pyNext
  cases tp with
  | true =>
    exact wpAny_bind (wpAny_attempt (wpAny_callSpecial?_slot (name := Str.ofString "__next__") (show s.TypeIs (.ref it) "tuple_iterator" from ⟨o, ho, hc⟩) F.slot_tuple_iterator_next
      (wpAny_call_entry F.slot_tuple_iterator_next ⟨o, ho, hc⟩ F.entry_tuple_iterator_next (iter_end (id := "tuple_iterator.__next__") q hit hl hx fin) (F.args_tuple_iterator_next_1 _))))
  | false =>
    exact wpAny_bind (wpAny_attempt (wpAny_callSpecial?_slot (name := Str.ofString "__next__") (show s.TypeIs (.ref it) "list_iterator" from ⟨o, ho, hc⟩) slot_listiter_next
      (wpAny_call_entry slot_listiter_next ⟨o, ho, hc⟩ entry_listiter_next (iter_end (id := "list_iterator.__next__") q hit hl hx fin) (args_listiter_next _))))
end
section
variable {prog : Program} {w : World} {A : Around} {E : Value → Shared → Prop} {s : Shared}
theorem unpackItemsQ {t : Addr} {items : Array Value} {Q : List Value → Shared → Prop} (q : Quiet A s.heap) (ht : IsTup s.heap t items)
    (hQ : ∀ h', Heap.ExtBut s.heap.objs.size s.heap h' → Q items.toList { s with heap := h' }) : wpAny (model prog w) A (unpackItems (.ref t) items.size none) Q E s := by
  have hlt : t ≠ s.heap.objs.size := by obtain ⟨o, ho, _⟩ := ht; exact Nat.ne_of_lt (Heap.lt_size ho)
  unfold unpackItems
  refine wpAny_bind ?_
  · unfold notIterableAtAll
    refine wpAny_bind (wpAny_specialOf ht.typeIs slot_tuple_iter.lookup ?_)
    refine wpAny_pure ?_
    simp only [Bool.false_eq_true, if_false]
    refine wpAny_bind (wpAny_holding (iter_tuple ht ?_))
    refine wpAny_bind (wpAny_holding (draw_tuple hlt items.size 0 _ _ ⟨_, Heap.get?_push_size _ rfl, rfl, rfl⟩ (ht.push _) (by omega) fun h₁ hit₁ hs₁ => ?_))
    have hall : List.take items.size (List.drop 0 items.toList) = items.toList := by
      rw [List.drop_zero]; exact List.take_of_length_le (by simp)
    rw [hall]
    rw [if_neg (by simp)]
    have ht₁ : IsTup h₁ t items := (ht.push _).extBut hs₁.extBut hlt
    have q1 : Quiet A (s.heap.push { cls := .type "tuple_iterator", data := .fields #[.ref t, .int 0 0] }) := q.all fun b u e => Heap.get?_push_of_some _ e
    have q2 : Quiet A h₁ := Quiet.keep q1 (Heap.get?_push_size _ rfl) rfl (by simp) hs₁.extBut
    refine wpAny_bind (wpAny_holding (next_endQ (tp := true) q2 hit₁ ht₁ (by simp) fun h₂ he₂ => ?_))
    simp only [Option.isSome_none, Bool.false_eq_true, if_false]
    refine wpAny_pure (hQ h₂ fun b o hb e => he₂ b o hb (hs₁.extBut b o hb (Heap.get?_push_of_some _ e)))
theorem assign_TupleQ {env : Env} {elts : List Expr} {x1} {pos : Pos} {t : Addr} {items : Array Value} {Q : Unit → Shared → Prop} (q : Quiet A s.heap) (ht : IsTup s.heap t items)
    (hn : (assignEach elts env).length = items.size) (hstar : (assignEach elts env).findIdx? (·.1) = none)
    (h : ∀ h', Heap.ExtBut s.heap.objs.size s.heap h' → wpAny (model prog w) A (assignInOrder ((assignEach elts env).map (·.2)) items.toList) Q E { s with heap := h' }) :
    wpAny (model prog w) A (assign (.Tuple elts x1 pos) env (.ref t)) Q E s := by
  rw [assign_Tuple]
  refine wpAny_bind (wpAny_standAt ?_)
  unfold unpack
  rw [hn, hstar]
  exact wpAny_bind (wpAny_holding (unpackItemsQ q ht h))
end
structure PGQ (X : Cx) (target : Expr) (t : TG) : Prop where
  run : ∀ (pins : List (Addr × Obj)) (s : Shared) (σ : L2.St) (H : Hp) (v : V) (u : Value) (Q : L2.St → Hp → Prop), Quiet X.A s.heap → Inv X pins σ H s → RelV v u → t v σ H Q →
    wpAny (model X.prog X.w) X.A (assign target X.env u) (fun _ s' => ∃ σ' H', Inv X pins σ' H' s' ∧ Q σ' H') X.xe s
theorem pgq_of {X : Cx} {tg : Expr} {g : TG} (h : PG X tg g) : PGQ X tg g := ⟨fun pins s σ H v u Q _ => h.run pins s σ H v u Q⟩
theorem pgq_tup {X : Cx} (K : PySem.W.Frag) {pos : Pos} {es : List Expr} {k : Nat} {t : TGs} {n : Nat} (h : PGs X es t) (hK : X.K = K := by rfl)
    (hn : (assignEach es X.env).length = n := by rfl) (hst : (assignEach es X.env).findIdx? (·.1) = none := by rfl) : PGQ X (.Tuple es k pos) (gTup K n t) := by
  subst hK
  refine ⟨fun pins s σ H v u Q q I r hw => ?_⟩
  obtain ⟨a, xs, e1, hq, hl, hw⟩ := hw
  subst e1
  cases r
  obtain ⟨its, rv, ht, hz⟩ := I.tuple hq
  refine assign_TupleQ q ht (by simp [hn, ← hl, rv.length]) hst fun h' hx => ?_
  have I1 : Inv X pins σ H { s with heap := h' } := I.kept (t' := s.toks) fun b o e => hx b o (Nat.ne_of_lt (Heap.lt_size e)) e
  exact h.run pins _ σ H xs _ Q I1 (by simpa using rv) hw
section
variable {X : Cx}
theorem lc_coreQ {pins : List (Addr × Obj)} {s : Shared} {σ : L2.St} {H : Hp} {Q : VK} {elt tg iter : Expr} {ifs : List Expr} {scope : Scope} {own : List (Str × Nat)} {pos pos' : Pos} {wi : TI} {g : TG} {tt : TT} {te : TE} {use : Option (Value → Sem Unit)} {Qf : Value → Shared → Prop}
    (qt : X.A.handled = none ∨ L2H.HotC X) (hN : X.N.Nodup) (I : Inv X pins σ H s) (hi : PIQ X tg iter wi) (ok : BlkOk X.N X.env.scope scope own)
    (hg : ∀ (s : Shared) (H : Hp) (C : Addr) (cl : List (Str × Addr)) (fp : List Addr), PGQ (X.blk s H scope (compEnvC scope cl C X.env) fp) tg g) (ht : ∀ (s : Shared) (H : Hp) (C : Addr) (cl : List (Str × Addr)) (fp : List Addr), PTs (X.blk s H scope (compEnvC scope cl C X.env) fp) ifs tt)
    (he : ∀ (s : Shared) (H : Hp) (C : Addr) (cl : List (Str × Addr)) (fp : List Addr), PE (X.blk s H scope (compEnvC scope cl C X.env) fp) elt te) (hs : ∀ x, foldedSetIterable iter X.env x = pure x)
    (h : tLc wi g tt te (own.map (·.2)) σ H Q)
    (hRR : ∀ D C s' m H', Inv X pins σ H' s' → Q (.ref D) H' → s'.heap.Ns C m → FpOk X pins H' C → compPost (model X.prog X.w) X.A X.xe use Qf (.ref D) C (.ok .next) s') :
    wpAny (model X.prog X.w) X.A (comprehension (.ListComp elt [⟨tg, iter, ifs, 0⟩] scope pos) scope X.env pos' (newList []) false (eval iter X.env) use) Qf X.xe s := by
  have hfree : ∀ y ∈ scope.names, y.2 = .free → ∃ c, X.env.cells.lookup y.1 = some c := fun y hy e => by
    rcases ok.free y hy e with k | k
    · exact I.ok.has _ (.inl k)
    · exact I.ok.has _ (.inr k)
  refine wpAny_comprehension_free (use := use) rfl hs (closure_ok hfree) ok.kind (fun y hy e => by rw [ok.uniq y hy, e])
    (thn (hi.run pins s σ H _ I h) fun xv s1 hx => thn hx fun itv s2 h2 => ?_)
  obtain ⟨it, fp, tn, J, H2, e, I2, T, st2, f2, q⟩ := h2
  subst e
  refine wpAny_newObj_type (newEnv_comp ?_) (by show 0 ≤ sizeLine; decide)
  generalize hD : s2.heap.objs.size = D
  have hDn : H2 D = none := I2.hok.fresh (Nat.le_of_eq hD)
  obtain ⟨W, ⟨m0, w0⟩, turn⟩ := q D hDn
  -- the new list
  generalize hs3 : ({ s2 with heap := s2.heap.push { cls := .type "list", data := .seq ([] : List Value).toArray } } : Shared) = s3
  have I3 : Inv X pins σ (upd H2 D (.lst [])) s3 := by
    rw [← hs3]
    refine I2.laid (t' := s2.toks) (fun b o e => Heap.get?_push_of_some _ e) (Nat.le_of_eq hD) ⟨Nat.zero_le _, [], 0, .nil, ?_⟩
    rw [← hD]
    exact Heap.get?_push_size _ rfl
  have h3 : s3.heap = s2.heap.push { cls := .type "list", data := .seq ([] : List Value).toArray } := by rw [← hs3]
  have sz : ∀ b ∈ fp, b < s2.heap.objs.size := fun b hb => by
    obtain ⟨o, e, _⟩ := T.obj _ _ st2 b hb
    exact Heap.lt_size e
  have f3 : ∀ b ∈ fp, FpOk X pins (upd H2 D (.lst [])) b ∧ b < s3.heap.objs.size := fun b hb => by
    have hlt := sz b hb
    refine ⟨⟨?_, (f2 b hb).2⟩, by rw [h3, Heap.size_push]; exact Nat.lt_succ_of_lt hlt⟩
    rw [upd_ne (by rw [← hD]; exact Nat.ne_of_lt hlt)]
    exact (f2 b hb).1
  have st3 : tn 0 s3.heap := T.keep _ _ _ st2 fun b _ o e => by rw [h3]; exact Heap.get?_push_of_some _ e
  have I4 := block_start I3 ok hN f3
  have pg := hg s3 (upd H2 D (.lst [])) s3.heap.objs.size (cellsFrom (s3.heap.objs.size + 1) scope.names (cloFrom X.env.cells scope.names [])) fp
  have pt := ht s3 (upd H2 D (.lst [])) s3.heap.objs.size (cellsFrom (s3.heap.objs.size + 1) scope.names (cloFrom X.env.cells scope.names [])) fp
  have pe := he s3 (upd H2 D (.lst [])) s3.heap.objs.size (cellsFrom (s3.heap.objs.size + 1) scope.names (cloFrom X.env.cells scope.names [])) fp
  show codeAny _ _ (.compStart (.ListComp elt [⟨tg, iter, ifs, 0⟩] scope pos) 0 (.ref it) (.ref D) (compEnvC scope (cellsFrom (s3.heap.objs.size + 1) scope.names (cloFrom X.env.cells scope.names [])) s3.heap.objs.size X.env)) (compPost (model X.prog X.w) X.A X.xe use Qf (.ref D) s3.heap.objs.size) { s3 with heap := pushCells (s3.heap.push { cls := .type "dict", data := .dict #[] }) scope.names }
  have nfp : ∀ b ∈ fp, (upd H2 D (.lst [])) b = none := fun b hb => (f3 b hb).1.1
  generalize hce : compEnvC scope (cellsFrom (s3.heap.objs.size + 1) scope.names (cloFrom X.env.cells scope.names [])) s3.heap.objs.size X.env = ce at I4 pg pt pe ⊢
  have cL : ce.locals = s3.heap.objs.size := by subst hce; rfl
  generalize hH3 : upd H2 D (.lst []) = H3 at I3 I4 pg pt pe w0 nfp f3
  generalize hs4 : ({ s3 with heap := pushCells (s3.heap.push { cls := .type "dict", data := .dict #[] }) scope.names } : Shared) = s4 at I4 ⊢
  have st4 : tn 0 s4.heap := T.keep _ _ _ st3 fun b _ o e => by rw [← hs4]; exact pushCells_keeps _ _ _ _ (Heap.get?_push_of_some _ e)
  have stat : ∀ {σ' : L2.St} {H' : Hp} {s' : Shared}, Inv (X.blk s3 H3 scope ce fp) [] σ' H' s' → (∀ b ∈ fp, H' b = none) → ∀ b ∈ fp, FpOk (X.blk s3 H3 scope ce fp) [] H' b := fun {σ' H' s'} I' hn b hb =>
    ⟨hn b hb, (I'.ok.exf b hb).1, I'.ok.exfs b hb, .inl hb, fun x c e => (I'.ok.exf b hb).2 x c e, fun p hp => absurd (show p ∈ ([] : List (Addr × Obj)) ++ [] from hp) (by simp)⟩
  have qb : ∀ {pp : List (Addr × Obj)} {σ' : L2.St} {H' : Hp} {s' : Shared}, Inv (X.blk s3 H3 scope ce fp) pp σ' H' s' → Quiet X.A s'.heap := fun {pp σ' H' s'} I' => by
    rcases qt with q | ⟨p, ⟨hh, v1, e1, c1⟩, hp⟩
    · exact .inl q
    · have P1 := I3.pin p (List.mem_append_left _ hp)
      exact .inr ⟨p.1, hh, p.2, v1, I'.base.keep p.1 p.2 P1.1 P1.2.1 (fun hm => (List.mem_cons.mp (I3.stkSub p.1 hm)).elim P1.2.2.1 P1.2.2.2.1) (fun hb => (f3 p.1 hb).1.2.2.2.2.2 p (List.mem_append_left _ hp) rfl), e1, c1⟩
  have loop : codeAny (model X.prog X.w) X.A (.compLoop (.ListComp elt [⟨tg, iter, ifs, 0⟩] scope pos) 0 (.ref it) (.ref D) ce) (compPost (model X.prog X.w) X.A X.xe use Qf (.ref D) s3.heap.objs.size) s4 := by
    refine compLoop_any (fun n s' => ∃ i H', Inv (X.blk s3 H3 scope ce fp) [] (wipe σ (own.map (·.2))) H' s' ∧ tn i s'.heap ∧ (∀ b ∈ fp, H' b = none) ∧ W i n H') ?_ m0 ⟨0, H3, I4, st4, nfp, w0⟩
    rintro n s5 ⟨i, H5, I5, st5, n5, w5⟩
    rcases turn i n H5 w5 with ⟨stop, qq⟩ | ⟨go, Nx, hNx, step⟩
    · have td := T.done (X.blk s3 H3 scope ce fp) rfl rfl rfl i [] s5 _ H5 (fun _ _ => False) (qb I5) I5 (stat I5 n5) st5 stop
      refine thnF td fun r s6 ⟨hr, I6⟩ => ?_
      subst hr
      -- back in the def's context
      have I7 : Inv X pins σ H5 s6 := I3.call' (ch := fp) I6.os I6.base I6.hok I6.bare fun b hb => ⟨(f3 b hb).1.2.2.2.1, (f3 b hb).1.2.1, (f3 b hb).1.2.2.2.2.1, (f3 b hb).1.2.2.2.2.2⟩
      have nC : H5 s3.heap.objs.size = none := by
        have z : H5 ce.locals = none := I6.free
        rw [cL] at z
        exact z
      obtain ⟨m, hn, _⟩ := I6.loc
      have hn : s6.heap.Ns ce.locals m := hn
      rw [cL] at hn
      exact hRR D s3.heap.objs.size s6 m H5 I7 qq hn (I3.fpOk (Nat.le_refl _) nC)
    · have ti := T.item (X.blk s3 H3 scope ce fp) rfl rfl rfl i [] s5 _ H5 (fun _ _ => False) I5 (stat I5 n5) st5 go
      refine thnF ti fun r s6 ⟨u, hr, h6⟩ => ?_
      subst hr
      refine thnF h6 fun _ s7 ⟨x, H7, I7, r7, y7, st7, n7⟩ => ?_
      have I7' := I7.pinned (stat I7 n7) (T.obj _ _ st7)
      refine thnF (pg.run _ s7 _ H7 x u _ (qb I7') I7' r7 (step x H7 y7)) fun _ s8 ⟨σ8, H8, I8, hw8, q8⟩ => ?_
      refine thnF (pt.run _ s8 σ8 H8 _ I8 q8) fun b s9 ⟨H9, I9, q9⟩ => ?_
      -- the turn's end
      have fin : ∀ {s' : Shared} {H' : Hp}, Inv (X.blk s3 H3 scope ce fp) ([] ++ pinsAt fp s7.heap) σ8 H' s' → Nx H' → ∃ m, m < n ∧ ∃ i H', Inv (X.blk s3 H3 scope ce fp) [] (wipe σ (own.map (·.2))) H' s' ∧ tn i s'.heap ∧ (∀ b ∈ fp, H' b = none) ∧ W i m H' := fun {s' H'} I' nx => by
        obtain ⟨m', hm, w'⟩ := hNx H' nx
        have pin' : ∀ b ∈ fp, ∀ o, s7.heap.get? b = some o → s'.heap.get? b = some o ∧ H' b = none := fun b hb o e =>
          let z := I'.pin (b, o) (List.mem_append_right _ (List.mem_append_right _ (mem_pinsAt hb e)))
          ⟨z.1, z.2.1⟩
        have hl : (wipe σ (own.map (·.2))).length = σ8.length := by rw [← hw8, wipe_length]
        refine ⟨m', hm, i + 1, H', (I'.unpinned (pins := [])).weak hl (fun j v e => ?_), T.keep _ _ _ st7 fun b hb o e => (pin' b hb o e).1, fun b hb => ?_, w'⟩
        · rw [← hw8] at e
          exact (wipe_some e).1
        · obtain ⟨o, e, _⟩ := T.obj _ _ st7 b hb
          exact (pin' b hb o e).2
      cases b with
      | false =>
        simp only [Bool.false_eq_true, if_false] at q9 ⊢
        exact fin I9 q9
      | true =>
        simp only [if_true] at q9 ⊢
        refine thnF (pe.run _ s9 σ8 H9 _ I9 q9) fun z s10 ⟨yv, H10, I10, r10, acc, hD10, hz10, nx⟩ => ?_
        exact app_ok (X := X.blk s3 H3 scope ce fp) I10 hD10 hz10 r10 fun s11 I11 => fin I11 nx
  exact codeAny_compStart_list loop (T.self X.A 0 _ _ _ st4 loop)
theorem pe_lcQ {elt tg iter : Expr} {ifs : List Expr} {scope : Scope} {own : List (Str × Nat)} {pos : Pos} {wi : TI} {g : TG} {tt : TT} {te : TE} (qt : X.A.handled = none ∨ L2H.HotC X) (hN : X.N.Nodup) (hi : PIQ X tg iter wi) (ok : BlkOk X.N X.env.scope scope own)
    (hg : ∀ (s : Shared) (H : Hp) (C : Addr) (cl : List (Str × Addr)) (fp : List Addr), PGQ (X.blk s H scope (compEnvC scope cl C X.env) fp) tg g) (ht : ∀ (s : Shared) (H : Hp) (C : Addr) (cl : List (Str × Addr)) (fp : List Addr), PTs (X.blk s H scope (compEnvC scope cl C X.env) fp) ifs tt)
    (he : ∀ (s : Shared) (H : Hp) (C : Addr) (cl : List (Str × Addr)) (fp : List Addr), PE (X.blk s H scope (compEnvC scope cl C X.env) fp) elt te) (hs : ∀ x, foldedSetIterable iter X.env x = pure x := by intro _; rfl) :
    PE X (.ListComp elt [⟨tg, iter, ifs, 0⟩] scope pos) (tLc wi g tt te (own.map (·.2))) := by
  refine ⟨fun pins s σ H Q I h => ?_⟩
  rw [eval_ListComp]
  refine lc_coreQ qt hN I hi ok hg ht he hs h fun D C s' m H' I' q hn f => ⟨m, hn, fun h'' sb => ?_⟩
  obtain ⟨f0, f1, f2, f3, f4, f5⟩ := f
  exact ⟨.ref D, H', I'.turned (t' := s'.toks) (fun b o hb e => (sb.2 b hb).trans e) f0 f1 f3 f4 f5, rfl, q⟩
end
end LwZ

set_option Elab.async false
set_option linter.all false
set_option maxRecDepth 100000
set_option maxHeartbeats 4000000
set_option autoImplicit false
/-! Lw, part V: enumerate of a list or a tuple. -/
namespace LwZ
open PySem PySem.Spec PyProof.Rows L2 Lw
set_option maxHeartbeats 4000000 in
theorem meets_enum0 {v : Value} {o : Obj} {H : Heap → Prop} (B : Begins v o H) :
    Meets (Builtin.«enumerate.__new__» ⟨[.type "enumerate", v], []⟩) (fun _ R s => H s.heap ∧
      R (.ok (.ret (.ref (s.heap.push o).objs.size))) { s with heap := (s.heap.push o).push { cls := .type "enumerate", data := .fields #[.none, .bool false, .ref s.heap.objs.size, rawInt 0, .none, .none] } }) :=
  .of_wp fun prog w A R s h => by
    obtain ⟨hp, g, d, tk, os⟩ := s; obtain ⟨h1, h⟩ := h
    have hsub := sub_enumerate
    have q1 : ∀ {A' : Around} {E : Value → Shared → Prop} {Q : Value → Shared → Prop}, Q (.ref hp.objs.size) ⟨hp.push o, g, d, tk, os⟩ → wpAny (model prog w) A' (pyIter v) Q E ⟨hp, g, d, tk, os⟩ :=
      fun q => B.iter prog w _ _ ⟨hp, g, d, tk, os⟩ _ h1 q
    wp_walk using q1
    refine wpAny_stack_any fun st => wpAny_pure ?_
    split
    · rename_i c _ _ _ _ _
      cases (c == Value.type "enumerate")
      · wp_walk using q1
        exact ⟨_, rfl, h⟩
      · wp_walk using q1
        exact ⟨_, rfl, h⟩
    · wp_walk using q1
      exact ⟨_, rfl, h⟩
section
variable {prog : Program} {w : World} {A : Around} {E : Value → Shared → Prop} {s : Shared}
theorem call_enum {tp : Bool} {l : Addr} {xs : Array Value} {Q : Value → Shared → Prop} (hl : IsSq tp s.heap l xs)
    (h : ∀ h', IsEnum h' (s.heap.objs.size + 1) s.heap.objs.size 0 .none → IsIt tp h' s.heap.objs.size l 0 → h'.objs.size = s.heap.objs.size + 2 →
      (∀ b o, s.heap.get? b = some o → h'.get? b = some o) → Q (.ref (s.heap.objs.size + 1)) { s with heap := h' }) : wpAny (model prog w) A (call (.type "enumerate") [.ref l]) Q E s := by
  refine callType_new F.called_enumerate (by decide) (F.typeCall_enumerate_1 _) (F.newCall_enumerate_1 _) (fun obj => F.args_object_init_2 obj _) F.entry_enumerate_new (meets_enum0 (begins_sq tp l xs)) ⟨hl, ?_⟩
  have hz : (s.heap.push (itO tp l)).objs.size = s.heap.objs.size + 1 := Heap.size_push ..
  show _ ∧ _
  rw [hz]
  have he : IsEnum ((s.heap.push (itO tp l)).push { cls := .type "enumerate", data := .fields #[.none, .bool false, .ref s.heap.objs.size, rawInt 0, .none, .none] }) (s.heap.objs.size + 1) s.heap.objs.size 0 .none := by
    have := Heap.get?_push_size (s.heap.push (itO tp l)) (o := { cls := .type "enumerate", data := .fields #[.none, .bool false, .ref s.heap.objs.size, rawInt 0, .none, .none] }) rfl
    rw [hz] at this; exact this
  refine ⟨⟨_, he, rfl⟩, h _ he (.mk ⟨_, Heap.get?_push_of_some _ (Heap.get?_push_size _ (by cases tp <;> rfl)), rfl, rfl⟩) (by rw [Heap.size_push, hz]) fun b o x => Heap.get?_push_of_some _ (Heap.get?_push_of_some _ x)⟩
end
theorem draws_sq {prog : Program} {w : World} {A : Around} (hh : A.handled = none) (tp : Bool) (it l : Addr) (hne : l ≠ it) (items : Array Value) :
    Draws prog w A it [it, l] items.size (fun i v => items[i]? = some v) (fun i h => IsIt tp h it l i ∧ IsSq tp h l items) := by
  cases tp
  · exact Draws.list hh it l hne items
  · exact Draws.tuple hh it l hne items
theorem en_end {prog : Program} {w : World} {A : Around} {E : Value → Shared → Prop} {s : Shared} {tp : Bool} {e it l : Addr} {i : Nat} {c : Int} {items : Array Value} {old : Value} {Q : Option Value → Shared → Prop} (q : Quiet A s.heap) (he : IsEnum s.heap e it c old) (hit : IsIt tp s.heap it l i)
    (hl : IsSq tp s.heap l items) (hx : items[i]? = none) (hQ : ∀ h', Heap.ExtBut it s.heap h' → Q none { s with heap := h' }) : wpAny (model prog w) A (pyNext (.ref e)) Q E s := by
  have hT : s.TypeIs (.ref e) "enumerate" := ⟨_, he, rfl⟩
  unfold pyNext
  refine wpAny_bind (wpAny_attempt (wpAny_callSpecial?_slot (name := Str.ofString "__next__") hT F.slot_enumerate_next
    (wpAny_call_entry F.slot_enumerate_next hT F.entry_enumerate_next ?_ (F.args_enumerate_next_1 _))))
  show wpAny _ _ (field (.ref e) 2 >>= _) _ _ _
  refine wpAny_bind (wpAny_field he rfl (x := .ref it) rfl ?_)
  refine wpAny_bind (nextOf_end (A := A.in1) q hit hl hx fun h' x he' hx' => ?_)
  obtain ⟨o, ho, hc⟩ := hx'
  refine wpAny_bind (wpAny_isInstance (T := "StopIteration") (b := true) ⟨o, ho, hc⟩ isSubtype_stop ?_)
  exact wpAny_pure (hQ _ he')
/-- the sequence at a as it stands at each turn, each item in a new pair with its place -/
def ItE (K : PySem.W.Frag) (tp : Bool) (a : Addr) : It :=
  ⟨fun i H => ∃ (xs : List V) (x : V), SqB K tp H a xs ∧ xs[i]? = some x, fun i H v H' => ∃ T x, v = .ref T ∧ H T = none ∧ H' = upd H T (.tup [.int (i : Nat), x]) ∧ ∀ xs, SqB K tp H a xs → xs[i]? = some x, fun i H => ∃ xs : List V, SqB K tp H a xs ∧ xs.length ≤ i⟩
theorem turn_en {P : Program} {w : World} {K : PySem.W.Frag} {elts : List Expr} {kk : Nat} {tpos : Pos} {tp : Bool} (a e it : Addr) (hat : a ≠ it) (hae : a ≠ e) :
    Turn P w K (.Tuple elts kk tpos) (ItE K tp a) [e, it] e (fun i h => (∃ old, IsEnum h e it ((i : Nat) : Int) old) ∧ IsIt tp h it a i ∧ e ≠ it) where
  mem := by simp
  obj := fun i h st b hb => by
    obtain ⟨⟨old, he⟩, hit, _⟩ := st
    obtain ⟨o, ho, hc, hd⟩ := hit.get
    have e' : b = e ∨ b = it := by simpa using hb
    rcases e' with z | z
    · rw [z]; exact ⟨_, he, fun v q => nomatch q⟩
    · rw [z]; exact ⟨o, ho, fun v q => by rw [hd] at q; cases q⟩
  keep := fun i h h' st k => let ⟨⟨old, he⟩, hi, hne⟩ := st; ⟨⟨old, k e (by simp) _ he⟩, hi.at fun o q => k it (by simp) o q, hne⟩
  item := by
    intro X hP hw hK hc i pins s σ H E I hf st hg
    subst hP hw hK
    obtain ⟨⟨old, he⟩, hit, hne⟩ := st
    obtain ⟨xs, x, hq, hx⟩ := hg
    obtain ⟨its, rv, p⟩ := inv_sq I hq
    obtain ⟨u, hu, ru⟩ := rv.get hx
    have hel : e < s.heap.objs.size := Heap.lt_size he
    have hil : it < s.heap.objs.size := by obtain ⟨_, q, _⟩ := hit.get; exact Heap.lt_size q
    have hlt : i < its.toArray.size := by
      have := (List.getElem?_eq_some_iff.mp hu).1
      simpa using this
    refine wpAny_pyNext_enum_itemD (draws_sq (A := X.A.in1) (I.ok.hd hc) tp it a hat its.toArray) he ⟨hit, p⟩ hlt hne (by simp; exact ⟨hne, Ne.symm hae⟩) fun u' h' tk hu' ho hst' hT hsz hk => ?_
    have eu : u' = u := by
      have h1 : its.toArray[i]? = some u := by simpa using hu
      rw [h1] at hu'
      exact (Option.some.inj hu').symm
    subst eu
    refine ⟨_, rfl, wpAny_letOwnedTupleGo_enum (s := { s with heap := h', toks := tk + 1 }) ho fun h'' he' sb => ?_⟩
    have hT2 : h''.get? s.heap.objs.size = some { cls := .type "tuple", data := .seq #[.int i tk, u'] } := (sb.2 _ (Nat.ne_of_gt hel)).trans hT
    have new : ObjOk X.prog X.w (upd H s.heap.objs.size (.tup [.int (i : Nat), x])) h'' s.heap.objs.size (.tup [.int (i : Nat), x]) :=
      ⟨by show 2 ≤ sizeLine; decide, [.int i tk, u'], .cons ⟨_, rfl⟩ (.cons ru .nil), ⟨_, hT2, rfl, _, rfl⟩⟩
    have I1 : Inv X pins σ (upd H s.heap.objs.size (.tup [.int (i : Nat), x])) { s with heap := h'', toks := tk + 1 } :=
      I.turnedNew (ch := [e, it]) (fun b ob hb q => (sb.2 b (fun z => hb (by simp [z]))).trans (hk b ob (fun z => hb (by simp [z])) (fun z => hb (by simp [z])) q)) hf (Nat.le_refl _) new
    refine ⟨.ref s.heap.objs.size, _, I1, rfl, ⟨_, x, rfl, I.hok.fresh (Nat.le_refl _), rfl, fun ys hy => by rw [inv_sq_inj I hy hq]; exact hx⟩, ⟨⟨u', ?_⟩, hst'.1.at fun o q => (sb.2 it (Ne.symm hne)).trans q, hne⟩, fun b hb => ?_⟩
    · have e1 : ((i + 1 : Nat) : Int) = (i : Int) + 1 := by omega
      rw [e1]; exact he'
    · have hb' : b < s.heap.objs.size := by
        have e' : b = e ∨ b = it := by simpa using hb
        rcases e' with z | z
        · rw [z]; exact hel
        · rw [z]; exact hil
      rw [upd_ne (Nat.ne_of_lt hb')]
      exact (hf b hb).1
  done := by
    intro X hP hw hK hc i pins s σ H E I hf st hg
    subst hP hw hK
    obtain ⟨⟨old, he⟩, hit, hne⟩ := st
    obtain ⟨xs, hq, hx⟩ := hg
    obtain ⟨its, rv, p⟩ := inv_sq I hq
    obtain ⟨f0, f1, f2, f3, f4, f5⟩ := hf it (by simp)
    have hl := rv.length
    exact en_end (.inl (I.ok.hd hc)) he hit p (by simp; omega) fun h' eb => ⟨rfl, I.turned (t' := s.toks) (fun b o hb q => eb b o hb q) f0 f1 f3 f4 f5⟩
  self := fun A i s Q E st h => let ⟨⟨_, he⟩, _⟩ := st; wpAny_pyIter_enum he h
def iEnumB (K : PySem.W.Frag) (ta : TA) : TI := fun σ H R => ta σ H fun vs H1 => ∃ a tp xs, vs = [.ref a] ∧ SqB K tp H1 a xs ∧ R (ItE K tp a) H1
theorem pi_enumA {X : Cx} (K : PySem.W.Frag) {e : Expr} {ta : TA} {p pos tpos : Pos} {elts : List Expr} {kk : Nat} (hg : Gl X "enumerate") (hm : X.mg "enumerate" = none) (ha : PA X [e] ta) (hK : X.K = K := by rfl) (hs : starEach [e] X.env = [(false, eval e X.env)] := by rfl) :
    PI X (.Tuple elts kk tpos) (.Call (.Name "enumerate" p) [e] [] pos) (iEnumB K ta) := by
  subst hK
  refine ⟨fun pins s σ H R I h => ?_⟩
  refine Call_ (ld_blt I hg hm boot_enumerate (PyProof.Rows.callWith_type1 (thn (ha.run pos pins s σ H _ I h) fun us s1 ⟨vs, H1, I1, r1, q1⟩ => ?_) hs rfl))
  obtain ⟨a, tp, xs, ex, hq, q⟩ := q1
  subst ex
  cases r1 with
  | cons r rr =>
    cases rr
    cases r
    obtain ⟨its, rv, p'⟩ := inv_sq I1 hq
    obtain ⟨oa, na, hoa, _⟩ := p'.get
    have hal := Heap.lt_size hoa
    refine call_enum p' fun h' he hit hsz hk => wpAny_pyIter_enum he ?_
    have I2 : Inv X pins σ H1 { s1 with heap := h' } := I1.kept (t' := s1.toks) hk
    refine ⟨s1.heap.objs.size + 1, [s1.heap.objs.size + 1, s1.heap.objs.size], _, _, H1, rfl, I2, turn_en a (s1.heap.objs.size + 1) s1.heap.objs.size (Nat.ne_of_lt hal) (Nat.ne_of_lt (Nat.lt_succ_of_lt hal)), ⟨⟨.none, he⟩, hit, Nat.succ_ne_self _⟩, fun b hb => ?_, q⟩
    have e' : b = s1.heap.objs.size + 1 ∨ b = s1.heap.objs.size := by simpa using hb
    have hle : s1.heap.objs.size ≤ b := by
      rcases e' with z | z
      · rw [z]; exact Nat.le_add_right _ _
      · rw [z]; exact Nat.le_refl _
    exact I1.fpOk hle (I1.hok.fresh hle)
/-! ### the data that enumerate feeds -/
def enD (k : Nat) : List PyData → List PyData
  | [] => []
  | d :: ds => .tuple [.int (k : Int), d] :: enD (k + 1) ds
theorem enD_len : ∀ (ds : List PyData) (k : Nat), (enD k ds).length = ds.length
  | [], _ => rfl
  | d :: ds, k => congrArg (· + 1) (enD_len ds (k + 1))
theorem enD_get : ∀ {ds : List PyData} {k i : Nat} {e : PyData}, (enD k ds)[i]? = some e → ∃ d, ds[i]? = some d ∧ e = .tuple [.int ((k + i : Nat) : Int), d]
  | [], k, i, e, h => by cases h
  | d :: ds, k, 0, e, h => by cases h; exact ⟨d, rfl, rfl⟩
  | d :: ds, k, i + 1, e, h => by
    obtain ⟨x, h1, h2⟩ := enD_get (ds := ds) (k := k + 1) (i := i) h
    exact ⟨x, h1, by rw [h2, show k + 1 + i = k + (i + 1) from by omega]⟩
section
variable {K : PySem.W.Frag} {T : Tb} {ρ : List Slot} {ta : TA}
theorem it_enum {d : PyData} {ds : List PyData} (h : EvA K T ta ρ [d]) (hd : SeqD d ds) : IterD K T (iEnumB K ta) ρ (enD 0 ds) := fun H0 B C H S σ g R hR =>
  h H0 B C H S σ g _ fun vs H2 ex dv => by
    cases dv with
    | cons b1 b2 =>
      cases b2
      obtain ⟨a, tp, xs, rfl, a1, q1⟩ := seqD_sq hd b1
      refine ⟨a, tp, xs, rfl, q1 _ _ (.refl _), hR _ _ ex fun i H' S' k l => ?_⟩
      have q := q1 H' S' k
      refine ⟨fun e he => ?_, fun hle => ⟨xs, q, by rw [a1.len]; rw [enD_len] at hle; exact hle⟩⟩
      obtain ⟨x, hx, rfl⟩ := enD_get he
      obtain ⟨v, hv, dx⟩ := a1.get hx
      refine ⟨⟨xs, v, q, hv⟩, fun x' H3 hy => ?_⟩
      obtain ⟨Ta, w1, rfl, hT, rfl, f1⟩ := hy
      have g1 := f1 _ q
      rw [hv] at g1
      cases g1
      have k2 : Kp (hide H2 S) (hide (upd H' Ta (.tup [.int (i : Nat), v])) S') := k.trans ((Ext.new (T := T) hT).kp.hide S')
      rw [Nat.zero_add]
      exact ⟨.new hT, .tup (.inl (.inl (hide_at l (.of hT) rfl))) (.cons (.int _) (.cons (dx.kp k2) .nil))⟩
end
end LwZ

set_option Elab.async false
set_option linter.all false
set_option maxRecDepth 100000
set_option maxHeartbeats 4000000
set_option autoImplicit false
/-! Lw, part M: defs called while an exception of a told class is handled. -/
namespace LwM
open PySem PySem.Spec PyProof.Rows L2 HotX L2H
structure FnHX (P : Program) (w : World) (K : PySem.W.Frag) (mg : Str → Option Value) (base : Heap) (CX : CXT) (k : Nat) (f : Addr) (fd : FuncData) (ps : List Str) (sp : Addr → Value → Option Addr → Sp) : Prop where
  len : ∀ a cls d vs H Q E, sp a cls d vs H Q E → vs.length = ps.length
  run : ∀ (A : Around) (outer : List Env) (s : Shared) (H : Hp) (args : Args) (us : List Value) (vs : List V) (Q : VK) (E : XK) (p : Addr × Obj) (cls : Value) (d : Option Addr), RoomH k A → Hot1 A p → Zc cls d p.2 → PinOk outer H s p → Env0 P w K mg base A outer s H → BindsTo s fd args (ps.zip us) → Vals vs us → sp p.1 cls d vs H Q E →
    codeAny (model P w) A (.call (.ref f) args) (CR CX outer P w H s Q E) s
theorem fn_ofHX {CX : CXT} {P : Program} {w : World} {K : PySem.W.Frag} {mg : Str → Option Value} {base : Heap} {k : Nat} {f : Addr} {name qual : Str} {params : Arguments} {body : List Stmt} {scope : Scope} {dV kV doc pm cdv ct oc : Value} {an od : Option Addr}
    {osl : Array (Option Value)} {N ps : List Str} {sp : Addr → Value → Option Addr → Sp} (lk : K.lookup f = some ⟨oc, od, .func (PySem.W.fnOf name qual params body scope dV kV doc pm an cdv ct), osl⟩) (hcd : PySem.W.codeIn K cdv qual = true) (S : FnScope N ps scope)
    (len : ∀ a cls d vs H Q E, sp a cls d vs H Q E → vs.length = ps.length)
    (hbody : ∀ (A : Around) (outer : List Env) (s : Shared) (H : Hp) (vs : List V) (Q : VK) (E : XK) (p : Addr × Obj) (cls : Value) (d : Option Addr), Hot1 A p → Zc cls d p.2 → (∃ vs, p.2.data = .fields vs) → RoomH k (A.deeper (envOfC qual scope s.heap.objs.size f cdv)) → sp p.1 cls d vs H Q E →
      ∃ t, PSs (cxH CX P w K mg base N qual scope f cdv A outer s H E p) body t ∧ t { nx := fun _ H' => Q .non H', rt := Q } (L2.start N vs) H) :
    FnHX P w K mg base CX (k + 1) f (PySem.W.fnOf name qual params body scope dV kV doc pm an cdv ct) ps sp := by
  refine ⟨len, fun A outer s H args us vs Q E p cls d hr hot hz hpin e0 hb r hsp => ?_⟩
  have hl := len _ _ _ _ _ _ _ hsp
  have hfl : ∃ vs, p.2.data = .fields vs := let ⟨_, vs, e, _⟩ := hot; ⟨vs, e⟩
  have KX : K.In s.heap := e0.mod.kin.keeps fun b o e => (e0.bs b o e).1
  have lim : s.heap.NoLimit := e0.mod.nolimit.keeps fun b o e => (e0.bs b o e).1
  have hkind : ∀ y ∈ ps.zip us, scope.names.lookup y.1 = some .local ∨ (scope.names.lookup y.1 = some .cell ∧ ((cellsFrom (s.heap.objs.size + 1) scope.names []).lookup y.1).isSome = true) := fun ⟨n, v⟩ hy => by
    rcases S.par n (List.of_mem_zip hy).1 with q | q
    · exact .inl q
    · exact .inr ⟨q, PySem.W.cellsFrom_some _ _ _ (.inl q)⟩
  refine codeAny_call_function hr.depth (KX _ _ lk) rfl S.co S.gen rfl (PySem.W.codeRec_of KX hcd) (hb _ _ _ _ ?_)
  refine wpAny_newFunctionEnv_cells S.kind hkind fun env he s1 x => ?_
  subst he
  refine ⟨lim.keeps x.toInCall.keep, codeAny_func ?_⟩
  obtain ⟨t, ht, hq⟩ := hbody A outer s H vs Q E p cls d hot hz hfl (hr.deeper _) hsp
  have I : Inv (cxH CX P w K mg base N qual scope f cdv A outer s H E p) [] (L2.start N vs) H s1 := inv_startH S hpin e0 hl r x
  refine wpAny_mono (ht.run [] s1 (L2.start N vs) H _ I hq) (fun fl s' hs => ?_) fun e s' hs => hs
  have fin : ∀ {σ' : L2.St} {H' : Hp} {v : V} {u : Value}, Inv (cxH CX P w K mg base N qual scope f cdv A outer s H E p) [] σ' H' s' → RelV v u → Q v H' → CE outer P w H s Q u s' :=
    fun {σ' H' v u} J rv q => ⟨v, H', J.os, J.bare, J.base, J.hok, rv, q⟩
  cases fl with
  | ret u =>
    obtain ⟨v, σ', H', J, rv, q⟩ := hs
    exact fin J rv q
  | next =>
    obtain ⟨σ', H', J, q⟩ := hs
    exact fin (v := V.non) (u := Value.none) J rfl q
  | brk =>
    obtain ⟨_, _, _, q⟩ := hs
    exact False.elim q
  | cont =>
    obtain ⟨_, _, _, q⟩ := hs
    exact False.elim q


end LwM

set_option Elab.async false
set_option linter.all false
set_option maxRecDepth 100000
set_option maxHeartbeats 4000000
set_option autoImplicit false
/-! Lw, part I: a functional reading of expressions: m tells what an expression gives at slots. -/
namespace Lw
open PySem L2 LwZ
/-- an exception: its class, its fields -/
structure Exn where
  cls : Str
  fs : List (Str × PyData)
inductive Rz (α : Type) where
  | ok (a : α)
  | ex (x : Exn)
  | bad
def Rz.bind {α β : Type} (m : Rz α) (k : α → Rz β) : Rz β := match m with
  | .ok a => k a
  | .ex x => .ex x
  | .bad => .bad
def Rz.of {α : Type} : Option α → Rz α
  | some a => .ok a
  | none => .bad
/-- where nothing may be raised -/
def Rz.calm {α : Type} : Rz α → Rz α
  | .ok a => .ok a
  | _ => .bad
theorem Rz.bind_ok {α β : Type} (a : α) (k : α → Rz β) : (Rz.ok a).bind k = k a := rfl
theorem Rz.of_some {α : Type} (a : α) : Rz.of (some a) = .ok a := rfl
theorem Rz.calm_ok {α : Type} (a : α) : (Rz.ok a).calm = .ok a := rfl
inductive XD (K : PySem.W.Frag) (H : Hp) : Option Addr → List (Str × PyData) → Prop
  | no : XD K H none []
  | fs {a : Addr} {kvs : List (Str × V)} {fs : List (Str × PyData)} : H a = some (.xd kvs) → kvs.map (·.1) = fs.map (·.1) → DtAll K H (kvs.map (·.2)) (fs.map (·.2)) → fs ≠ [] → XD K H (some a) fs
theorem XD.kp {K : PySem.W.Frag} {H H' : Hp} {d : Option Addr} {fs : List (Str × PyData)} (h : XD K H d fs) (e : Kp H H') : XD K H' d fs := by
  cases h with
  | no => exact .no
  | fs h1 h2 h3 h4 => exact .fs (e _ _ h1 rfl) h2 (h3.kp e) h4
section
variable (K : PySem.W.Frag) (T : Tb)
def EvRx {α : Type} (te : St → Hp → (α → Hp → Prop) → Prop) (ρ : List Slot) (x : Exn) (W : WX) : Prop := ∀ (H0 B : Hp) (C : List Addr) (H : Hp) (S : List Addr) (σ : St), Gd K T H0 B C H S σ ρ →
  ∀ Q : α → Hp → Prop, (∀ d H2, Ext T H H2 → XD K (hide H2 S) d x.fs → W (.ref (He.ga K x.cls)) d σ H2) → te σ H Q
abbrev ME := List Slot → Rz PyData
abbrev MT := List Slot → Rz Bool
abbrev MA := List Slot → Rz (List PyData)
abbrev MO := List Slot → Rz (Option Int)
def EzE (te : TE) (ρ : List Slot) (W : WX) : Rz PyData → Prop
  | .ok d => Ev K T te ρ d
  | .ex x => EvRx K T te ρ x W
  | .bad => True
/-- .. to a list that is new, or to no list -/
def EzF (te : TE) (ρ : List Slot) (W : WX) : Rz (List PyData) → Prop
  | .ok ds => EvF K T te ρ ds
  | .ex x => EvRx K T te ρ x W
  | .bad => True
def EzT (te : TT) (ρ : List Slot) (W : WX) : Rz Bool → Prop
  | .ok d => EvT K T te ρ d
  | .ex x => EvRx K T te ρ x W
  | .bad => True
def EzA (te : TA) (ρ : List Slot) (W : WX) : Rz (List PyData) → Prop
  | .ok d => EvA K T te ρ d
  | .ex x => EvRx K T te ρ x W
  | .bad => True
def EzP (te : TO) (ρ : List Slot) (W : WX) : Rz (Option Int) → Prop
  | .ok d => EvP K T te ρ d
  | .ex x => EvRx K T te ρ x W
  | .bad => True
def SimE (te : TE) (W : WX) (m : ME) : Prop := ∀ ρ, EzE K T te ρ W (m ρ)
def SimF (te : TE) (W : WX) (m : MA) : Prop := ∀ ρ, EzF K T te ρ W (m ρ)
def SimT (te : TT) (W : WX) (m : MT) : Prop := ∀ ρ, EzT K T te ρ W (m ρ)
def SimA (te : TA) (W : WX) (m : MA) : Prop := ∀ ρ, EzA K T te ρ W (m ρ)
def SimP (te : TO) (W : WX) (m : MO) : Prop := ∀ ρ, EzP K T te ρ W (m ρ)
def ROp (r : R2) (f : PyData → PyData → Option PyData) : Prop := ∀ x y z, f x y = some z → RV K T r x y z
def ROpF (r : R2) (f : PyData → PyData → Option (List PyData)) : Prop := ∀ x y z, f x y = some z → RVF K T r x y z
def RUn (r : V → Hp → VK → Prop) (f : PyData → Option PyData) : Prop := ∀ x z, f x = some z → RU K T r x z
def RCb (r : List V → Hp → VK → Prop) (f : List PyData → Option PyData) : Prop := ∀ xs z, f xs = some z → RC K T r xs z
def RCbF (r : List V → Hp → VK → Prop) (f : List PyData → Option (List PyData)) : Prop := ∀ xs z, f xs = some z → RCF K T r xs z
end
/-! ### the words -/
def xC (d : PyData) : ME := fun _ => .ok d
def xV (i : Nat) : ME := fun ρ => match ρ[i]? with
  | some (.dat d) => .ok d
  | _ => .bad
def xOp (f : PyData → PyData → Option PyData) (a b : ME) : ME := fun ρ => (a ρ).bind fun x => (b ρ).bind fun y => .of (f x y)
def fOp (f : PyData → PyData → Option (List PyData)) (a b : ME) : MA := fun ρ => (a ρ).bind fun x => (b ρ).bind fun y => .of (f x y)
def xUn (f : PyData → Option PyData) (a : ME) : ME := fun ρ => (a ρ).bind fun x => .of (f x)
/-- a truth -/
def asB : PyData → Option Bool
  | .bool b => some b
  | _ => none
def asI : PyData → Option Int
  | .int i => some i
  | _ => none
def xNot (a : ME) : ME := fun ρ => (a ρ).bind fun x => (Rz.of (asB x)).bind fun c => .ok (.bool (!c))
def xAnd (a b : ME) : ME := fun ρ => (a ρ).bind fun x => (Rz.of (asB x)).bind fun c => match c with
  | true => b ρ
  | false => .ok (.bool false)
def xOr (a b : ME) : ME := fun ρ => (a ρ).bind fun x => (Rz.of (asB x)).bind fun c => match c with
  | true => .ok (.bool true)
  | false => b ρ
def xIf (t : MT) (a b : ME) : ME := fun ρ => (t ρ).bind fun c => match c with
  | true => a ρ
  | false => b ρ
def xChain (f g : PyData → PyData → Option PyData) (a b c : ME) : ME := fun ρ => (a ρ).bind fun x => (b ρ).bind fun y => (Rz.of (f x y)).bind fun z => (Rz.of (asB z)).bind fun k => match k with
  | true => (c ρ).bind fun w => .of (g y w)
  | false => .ok (.bool false)
def zNil : MA := fun _ => .ok []
def zCons (a : ME) (r : MA) : MA := fun ρ => (a ρ).bind fun x => (r ρ).bind fun xs => .ok (x :: xs)
def xTup (a : MA) : ME := fun ρ => (a ρ).bind fun xs => if xs.length ≤ 1000000 then .ok (.tuple xs) else .bad
def fLst (a : MA) : MA := fun ρ => (a ρ).bind fun xs => if xs.length ≤ 1000000 then .ok xs else .bad
/-- a new list as a value -/
def xL (a : MA) : ME := fun ρ => (a ρ).bind fun xs => .ok (.list xs)
def xCB (f : List PyData → Option PyData) (a : MA) : ME := fun ρ => (a ρ).bind fun xs => .of (f xs)
def fCB (f : List PyData → Option (List PyData)) (a : MA) : MA := fun ρ => (a ρ).bind fun xs => .of (f xs)
def xF (f : List PyData → Rz PyData) (a : MA) : ME := fun ρ => (a ρ).bind f
def xFc (f : List PyData → Rz PyData) (a : MA) : ME := fun ρ => (a ρ).bind fun ds => (f ds).calm
def oNo : MO := fun _ => .ok none
def oAt (a : ME) : MO := fun ρ => (a ρ).bind fun x => (Rz.of (asI x)).bind fun i => .ok (some i)
def fSl (f : PyData → Option Int → Option Int → Option (List PyData)) (a : ME) (lo hi : MO) : MA := fun ρ => (a ρ).bind fun x => (lo ρ).bind fun l => (hi ρ).bind fun h => .of (f x l h)
def xSl (f : PyData → Option Int → Option Int → Option PyData) (a : ME) (lo hi : MO) : ME := fun ρ => (a ρ).bind fun x => (lo ρ).bind fun l => (hi ρ).bind fun h => .of (f x l h)
def yV (a : ME) : MT := fun ρ => (a ρ).bind fun x => .of (asB x)
def yAnd (a b : MT) : MT := fun ρ => (a ρ).bind fun c => match c with
  | true => b ρ
  | false => .ok false
def yOr (a b : MT) : MT := fun ρ => (a ρ).bind fun c => match c with
  | true => .ok true
  | false => b ρ
def yNot (a : MT) : MT := fun ρ => (a ρ).bind fun c => .ok (!c)
def yYes : MT := fun _ => .ok true
/-- an owned list's item, length -/
def ownL : Option Slot → Option (List PyData)
  | some (.own (.lst ds)) => some ds
  | _ => none
def ownD : Option Slot → Option (List (Key × PyData))
  | some (.own (.dct es)) => some es
  | _ => none
def xIxO (k : Nat) (b : ME) : ME := fun ρ => (Rz.of (ownL ρ[k]?)).bind fun ds => (b ρ).bind fun y => (Rz.of (asI y)).bind fun i => .of (atI ds i)
def xLenO (k : Nat) : ME := fun ρ => (Rz.of (ownL ρ[k]?)).bind fun ds => .ok (.int ds.length)
section
variable {K : PySem.W.Frag} {T : Tb} {W : WX} {te ta tb tc : TE} {t u : TT} {ma mb mc : ME} {mt mu : MT}
theorem sim_C {v : V} {d : PyData} (h : ∀ H, Dt K H v d) : SimE K T (tC v) W (xC d) := fun ρ => ev_con h
theorem sim_int {i : Int} : SimE K T (tC (.int i)) W (xC (.int i)) := fun ρ => ev_int
theorem sim_bl {b : Bool} : SimE K T (tC (.bl b)) W (xC (.bool b)) := fun ρ => ev_bl
theorem sim_str {s : Str} : SimE K T (tC (.str s)) W (xC (.str s)) := fun ρ => ev_str
theorem sim_non : SimE K T (tC .non) W (xC .none) := fun ρ => ev_non
theorem sim_cst {mg : Str → Option Value} {x : Str} {v : V} {u : Value} {d : PyData} (g : CstV mg K x v u d) : SimE K T (tC v) W (xC d) := fun ρ => ev_cst g
theorem sim_V {i : Nat} : SimE K T (tVar i) W (xV i) := fun ρ => by
  unfold xV
  split
  · rename_i d h
    exact ev_var h
  · exact True.intro
theorem sim_op {r : R2} {f : PyData → PyData → Option PyData} (hr : ROp K T r f) (ha : SimE K T ta W ma) (hb : SimE K T tb W mb) : SimE K T (tOp r ta tb) W (xOp f ma mb) := fun ρ => by
  have a := ha ρ
  have b := hb ρ
  unfold xOp
  cases h1 : ma ρ with
  | bad => exact True.intro
  | ex x => rw [h1] at a; exact fun H0 B C H S σ g Q hQ => a H0 B C H S σ g _ hQ
  | ok x =>
    rw [h1] at a
    cases h2 : mb ρ with
    | bad => exact True.intro
    | ex y => rw [h2] at b; exact fun H0 B C H S σ g Q hQ => a H0 B C H S σ g _ fun v H1 e1 d1 => b H0 B C H1 S σ (g.ex e1) _ fun d H2 e2 xd => hQ d H2 (e1.trans e2) xd
    | ok y =>
      rw [h2] at b
      show EzE K T _ ρ W (Rz.of (f x y))
      cases h3 : f x y with
      | none => exact True.intro
      | some z => exact ev_op a b (hr x y z h3)
theorem sim_opF {r : R2} {f : PyData → PyData → Option (List PyData)} (hr : ROpF K T r f) (ha : SimE K T ta W ma) (hb : SimE K T tb W mb) : SimF K T (tOp r ta tb) W (fOp f ma mb) := fun ρ => by
  have a := ha ρ
  have b := hb ρ
  unfold fOp
  cases h1 : ma ρ with
  | bad => exact True.intro
  | ex x => rw [h1] at a; exact fun H0 B C H S σ g Q hQ => a H0 B C H S σ g _ hQ
  | ok x =>
    rw [h1] at a
    cases h2 : mb ρ with
    | bad => exact True.intro
    | ex y => rw [h2] at b; exact fun H0 B C H S σ g Q hQ => a H0 B C H S σ g _ fun v H1 e1 d1 => b H0 B C H1 S σ (g.ex e1) _ fun d H2 e2 xd => hQ d H2 (e1.trans e2) xd
    | ok y =>
      rw [h2] at b
      show EzF K T _ ρ W (Rz.of (f x y))
      cases h3 : f x y with
      | none => exact True.intro
      | some z => exact ef_op a b (hr x y z h3)
theorem sim_un {r : V → Hp → VK → Prop} {f : PyData → Option PyData} (hr : RUn K T r f) (ha : SimE K T ta W ma) : SimE K T (tUn r ta) W (xUn f ma) := fun ρ => by
  have a := ha ρ
  unfold xUn
  cases h1 : ma ρ with
  | bad => exact True.intro
  | ex x => rw [h1] at a; exact fun H0 B C H S σ g Q hQ => a H0 B C H S σ g _ hQ
  | ok x =>
    rw [h1] at a
    show EzE K T _ ρ W (Rz.of (f x))
    cases h3 : f x with
    | none => exact True.intro
    | some z => exact ev_un a (hr x z h3)
theorem asB_eq {x : PyData} {b : Bool} (h : asB x = some b) : x = .bool b := by
  cases x <;> first | cases h; rfl | cases h
theorem asI_eq {x : PyData} {b : Int} (h : asI x = some b) : x = .int b := by
  cases x <;> first | cases h; rfl | cases h
theorem sim_not (ha : SimE K T ta W ma) : SimE K T (tNotV ta) W (xNot ma) := fun ρ => by
  have a := ha ρ
  unfold xNot
  cases h1 : ma ρ with
  | bad => exact True.intro
  | ex x => rw [h1] at a; exact fun H0 B C H S σ g Q hQ => a H0 B C H S σ g _ hQ
  | ok x =>
    rw [h1] at a
    show EzE K T _ ρ W ((Rz.of (asB x)).bind _)
    cases h2 : asB x with
    | none => exact True.intro
    | some c => cases asB_eq h2; exact ev_notV a
theorem sim_and (ha : SimE K T ta W ma) (hb : SimE K T tb W mb) : SimE K T (tAndV ta tb) W (xAnd ma mb) := fun ρ => by
  have a := ha ρ
  have b := hb ρ
  unfold xAnd
  cases h1 : ma ρ with
  | bad => exact True.intro
  | ex x => rw [h1] at a; exact fun H0 B C H S σ g Q hQ => a H0 B C H S σ g _ hQ
  | ok x =>
    rw [h1] at a
    show EzE K T _ ρ W ((Rz.of (asB x)).bind _)
    cases h2 : asB x with
    | none => exact True.intro
    | some c =>
      cases asB_eq h2
      cases c with
      | false =>
        exact fun H0 B C H S σ g Q hQ => a H0 B C H S σ g _ fun v H1 e1 d1 => by
          cases d1
          exact ⟨false, rfl, iteF (hQ _ H1 e1 (.bl false))⟩
      | true =>
        show EzE K T _ ρ W (mb ρ)
        cases h3 : mb ρ with
        | bad => exact True.intro
        | ex y =>
          rw [h3] at b
          exact fun H0 B C H S σ g Q hQ => a H0 B C H S σ g _ fun v H1 e1 d1 => by
            cases d1
            exact ⟨true, rfl, iteT (b H0 B C H1 S σ (g.ex e1) _ fun d H2 e2 xd => hQ d H2 (e1.trans e2) xd)⟩
        | ok y =>
          rw [h3] at b
          exact fun H0 B C H S σ g Q hQ => a H0 B C H S σ g _ fun v H1 e1 d1 => by
            cases d1
            exact ⟨true, rfl, iteT (b H0 B C H1 S σ (g.ex e1) _ fun d H2 e2 xd => hQ d H2 (e1.trans e2) xd)⟩
theorem sim_or (ha : SimE K T ta W ma) (hb : SimE K T tb W mb) : SimE K T (tOrV ta tb) W (xOr ma mb) := fun ρ => by
  have a := ha ρ
  have b := hb ρ
  unfold xOr
  cases h1 : ma ρ with
  | bad => exact True.intro
  | ex x => rw [h1] at a; exact fun H0 B C H S σ g Q hQ => a H0 B C H S σ g _ hQ
  | ok x =>
    rw [h1] at a
    show EzE K T _ ρ W ((Rz.of (asB x)).bind _)
    cases h2 : asB x with
    | none => exact True.intro
    | some c =>
      cases asB_eq h2
      cases c with
      | true =>
        exact fun H0 B C H S σ g Q hQ => a H0 B C H S σ g _ fun v H1 e1 d1 => by
          cases d1
          exact ⟨true, rfl, iteT (hQ _ H1 e1 (.bl true))⟩
      | false =>
        show EzE K T _ ρ W (mb ρ)
        cases h3 : mb ρ with
        | bad => exact True.intro
        | ex y =>
          rw [h3] at b
          exact fun H0 B C H S σ g Q hQ => a H0 B C H S σ g _ fun v H1 e1 d1 => by
            cases d1
            exact ⟨false, rfl, iteF (b H0 B C H1 S σ (g.ex e1) _ fun d H2 e2 xd => hQ d H2 (e1.trans e2) xd)⟩
        | ok y =>
          rw [h3] at b
          exact fun H0 B C H S σ g Q hQ => a H0 B C H S σ g _ fun v H1 e1 d1 => by
            cases d1
            exact ⟨false, rfl, iteF (b H0 B C H1 S σ (g.ex e1) _ fun d H2 e2 xd => hQ d H2 (e1.trans e2) xd)⟩
theorem sim_if (ht : SimT K T t W mt) (ha : SimE K T ta W ma) (hb : SimE K T tb W mb) : SimE K T (tIf t ta tb) W (xIf mt ma mb) := fun ρ => by
  have c := ht ρ
  have a := ha ρ
  have b := hb ρ
  unfold xIf
  cases h1 : mt ρ with
  | bad => exact True.intro
  | ex x => rw [h1] at c; exact fun H0 B C H S σ g Q hQ => c H0 B C H S σ g _ hQ
  | ok k =>
    rw [h1] at c
    cases k with
    | true =>
      show EzE K T _ ρ W (ma ρ)
      cases h2 : ma ρ with
      | bad => exact True.intro
      | ex y => rw [h2] at a; exact fun H0 B C H S σ g Q hQ => c H0 B C H S σ g _ fun H1 e1 => iteT (a H0 B C H1 S σ (g.ex e1) _ fun d H2 e2 xd => hQ d H2 (e1.trans e2) xd)
      | ok y => rw [h2] at a; exact ev_ifT c a
    | false =>
      show EzE K T _ ρ W (mb ρ)
      cases h2 : mb ρ with
      | bad => exact True.intro
      | ex y => rw [h2] at b; exact fun H0 B C H S σ g Q hQ => c H0 B C H S σ g _ fun H1 e1 => iteF (b H0 B C H1 S σ (g.ex e1) _ fun d H2 e2 xd => hQ d H2 (e1.trans e2) xd)
      | ok y => rw [h2] at b; exact ev_ifF c b
theorem sim_chain {r r' : R2} {f f' : PyData → PyData → Option PyData} (hr : ROp K T r f) (hr' : ROp K T r' f') (ha : SimE K T ta W ma) (hb : SimE K T tb W mb) (hc : SimE K T tc W mc) : SimE K T (tChain r r' ta tb tc) W (xChain f f' ma mb mc) := fun ρ => by
  have a := ha ρ
  have b := hb ρ
  have c := hc ρ
  unfold xChain
  cases h1 : ma ρ with
  | bad => exact True.intro
  | ex x => rw [h1] at a; exact fun H0 B C H S σ g Q hQ => a H0 B C H S σ g _ hQ
  | ok x =>
    rw [h1] at a
    cases h2 : mb ρ with
    | bad => exact True.intro
    | ex y => rw [h2] at b; exact fun H0 B C H S σ g Q hQ => a H0 B C H S σ g _ fun v H1 e1 d1 => b H0 B C H1 S σ (g.ex e1) _ fun d H2 e2 xd => hQ d H2 (e1.trans e2) xd
    | ok y =>
      rw [h2] at b
      show EzE K T _ ρ W ((Rz.of (f x y)).bind _)
      cases h3 : f x y with
      | none => exact True.intro
      | some z =>
        show EzE K T _ ρ W ((Rz.of (asB z)).bind _)
        cases h4 : asB z with
        | none => exact True.intro
        | some k =>
          cases asB_eq h4
          have rr := hr x y _ h3
          cases k with
          | false =>
            exact fun H0 B C H S σ g Q hQ => a H0 B C H S σ g _ fun v H1 e1 d1 => b H0 B C H1 S σ (g.ex e1) _ fun w H2 e2 d2 =>
              rr H2 S v w ((g.lst.kp e1.kp).kp e2.kp) (d1.kp (e2.kp.hide S)) d2 _ fun q H3 e3 d3 => by
                cases d3
                exact ⟨false, rfl, iteF (hQ _ H3 (e1.trans (e2.trans e3)) (.bl false))⟩
          | true =>
            show EzE K T _ ρ W ((mc ρ).bind _)
            cases h5 : mc ρ with
            | bad => exact True.intro
            | ex q =>
              rw [h5] at c
              exact fun H0 B C H S σ g Q hQ => a H0 B C H S σ g _ fun v H1 e1 d1 => b H0 B C H1 S σ (g.ex e1) _ fun w H2 e2 d2 =>
                rr H2 S v w ((g.lst.kp e1.kp).kp e2.kp) (d1.kp (e2.kp.hide S)) d2 _ fun q H3 e3 d3 => by
                  cases d3
                  exact ⟨true, rfl, iteT (c H0 B C H3 S σ (((g.ex e1).ex e2).ex e3) _ fun d H4 e4 xd => hQ d H4 (e1.trans (e2.trans (e3.trans e4))) xd)⟩
            | ok q =>
              rw [h5] at c
              show EzE K T _ ρ W (Rz.of (f' y q))
              cases h6 : f' y q with
              | none => exact True.intro
              | some z2 =>
                exact fun H0 B C H S σ g Q hQ => a H0 B C H S σ g _ fun v H1 e1 d1 => b H0 B C H1 S σ (g.ex e1) _ fun w H2 e2 d2 =>
                  rr H2 S v w ((g.lst.kp e1.kp).kp e2.kp) (d1.kp (e2.kp.hide S)) d2 _ fun q H3 e3 d3 => by
                    cases d3
                    refine ⟨true, rfl, iteT (c H0 B C H3 S σ (((g.ex e1).ex e2).ex e3) _ fun w' H4 e4 d4 => ?_)⟩
                    exact hr' y _ _ h6 H4 S w w' ((((g.lst.kp e1.kp).kp e2.kp).kp e3.kp).kp e4.kp) ((d2.kp (e3.kp.hide S)).kp (e4.kp.hide S)) d4 Q fun q5 H5 e5 d5 => hQ q5 H5 (e1.trans (e2.trans (e3.trans (e4.trans e5)))) d5
/-! ### arguments, displays -/
theorem sim_nil : SimA K T tNil W zNil := fun ρ => ea_nil
theorem sim_cons {tr : TA} {mr : MA} (ha : SimE K T ta W ma) (hr : SimA K T tr W mr) : SimA K T (tCons ta tr) W (zCons ma mr) := fun ρ => by
  have a := ha ρ
  have b := hr ρ
  unfold zCons
  cases h1 : ma ρ with
  | bad => exact True.intro
  | ex x => rw [h1] at a; exact fun H0 B C H S σ g Q hQ => a H0 B C H S σ g _ hQ
  | ok x =>
    rw [h1] at a
    cases h2 : mr ρ with
    | bad => exact True.intro
    | ex y => rw [h2] at b; exact fun H0 B C H S σ g Q hQ => a H0 B C H S σ g _ fun v H1 e1 d1 => b H0 B C H1 S σ (g.ex e1) _ fun d H2 e2 xd => hQ d H2 (e1.trans e2) xd
    | ok y => rw [h2] at b; exact ea_cons a b
variable {tr : TA} {mr : MA}
theorem sim_tup (h : SimA K T tr W mr) : SimE K T (tTup tr) W (xTup mr) := fun ρ => by
  have a := h ρ
  unfold xTup
  cases h1 : mr ρ with
  | bad => exact True.intro
  | ex x => rw [h1] at a; exact fun H0 B C H S σ g Q hQ => a H0 B C H S σ g _ hQ
  | ok xs =>
    rw [h1] at a
    show EzE K T _ ρ W (if _ then _ else _)
    by_cases hl : xs.length ≤ 1000000
    · rw [if_pos hl]; exact ev_tup a hl
    · rw [if_neg hl]; exact True.intro
theorem sim_lstF (h : SimA K T tr W mr) : SimF K T (tLst tr) W (fLst mr) := fun ρ => by
  have a := h ρ
  unfold fLst
  cases h1 : mr ρ with
  | bad => exact True.intro
  | ex x => rw [h1] at a; exact fun H0 B C H S σ g Q hQ => a H0 B C H S σ g _ hQ
  | ok xs =>
    rw [h1] at a
    show EzF K T _ ρ W (if _ then _ else _)
    by_cases hl : xs.length ≤ 1000000
    · rw [if_pos hl]; exact ef_lst a hl
    · rw [if_neg hl]; exact True.intro
theorem sim_L (h : SimF K T te W mr) : SimE K T te W (xL mr) := fun ρ => by
  have a := h ρ
  unfold xL
  cases h1 : mr ρ with
  | bad => exact True.intro
  | ex x => rw [h1] at a; exact a
  | ok xs => rw [h1] at a; exact EvF.ev a
theorem sim_cb {r : List V → Hp → VK → Prop} {f : List PyData → Option PyData} (hr : RCb K T r f) (h : SimA K T tr W mr) : SimE K T (tCB r tr) W (xCB f mr) := fun ρ => by
  have a := h ρ
  unfold xCB
  cases h1 : mr ρ with
  | bad => exact True.intro
  | ex x => rw [h1] at a; exact fun H0 B C H S σ g Q hQ => a H0 B C H S σ g _ hQ
  | ok xs =>
    rw [h1] at a
    show EzE K T _ ρ W (Rz.of (f xs))
    cases h3 : f xs with
    | none => exact True.intro
    | some z => exact ev_cb a (hr xs z h3)
theorem sim_cbF {r : List V → Hp → VK → Prop} {f : List PyData → Option (List PyData)} (hr : RCbF K T r f) (h : SimA K T tr W mr) : SimF K T (tCB r tr) W (fCB f mr) := fun ρ => by
  have a := h ρ
  unfold fCB
  cases h1 : mr ρ with
  | bad => exact True.intro
  | ex x => rw [h1] at a; exact fun H0 B C H S σ g Q hQ => a H0 B C H S σ g _ hQ
  | ok xs =>
    rw [h1] at a
    show EzF K T _ ρ W (Rz.of (f xs))
    cases h3 : f xs with
    | none => exact True.intro
    | some z => exact ef_cb a (hr xs z h3)
/-! ### slices -/
theorem sim_oNo : SimP K T tNoPart W oNo := fun ρ => ep_none
theorem sim_oAt (h : SimE K T te W ma) : SimP K T (tPart te) W (oAt ma) := fun ρ => by
  have a := h ρ
  unfold oAt
  cases h1 : ma ρ with
  | bad => exact True.intro
  | ex x => rw [h1] at a; exact fun H0 B C H S σ g Q hQ => a H0 B C H S σ g _ hQ
  | ok x =>
    rw [h1] at a
    show EzP K T _ ρ W ((Rz.of (asI x)).bind _)
    cases h2 : asI x with
    | none => exact True.intro
    | some i => cases asI_eq h2; exact ep_some a
theorem sim_slF {r : V → Option Int → Option Int → Hp → VK → Prop} {f : PyData → Option Int → Option Int → Option (List PyData)} {tl th : TO} {ml mh : MO} (hr : ∀ x l h z, f x l h = some z → RSF K T r x l h z) (ha : SimE K T te W ma) (h1 : SimP K T tl W ml) (h2 : SimP K T th W mh) : SimF K T (tSl r te tl th) W (fSl f ma ml mh) := fun ρ => by
  have a := ha ρ
  have b := h1 ρ
  have c := h2 ρ
  unfold fSl
  cases e1 : ma ρ with
  | bad => exact True.intro
  | ex x => rw [e1] at a; exact fun H0 B C H S σ g Q hQ => a H0 B C H S σ g _ hQ
  | ok x =>
    rw [e1] at a
    cases e2 : ml ρ with
    | bad => exact True.intro
    | ex y => rw [e2] at b; exact fun H0 B C H S σ g Q hQ => a H0 B C H S σ g _ fun v H1 e1 d1 => b H0 B C H1 S σ (g.ex e1) _ fun d H2 e2 xd => hQ d H2 (e1.trans e2) xd
    | ok lo =>
      rw [e2] at b
      cases e3 : mh ρ with
      | bad => exact True.intro
      | ex y => rw [e3] at c; exact fun H0 B C H S σ g Q hQ => a H0 B C H S σ g _ fun v H1 e1 d1 => b H0 B C H1 S σ (g.ex e1) _ fun H2 e2 => c H0 B C H2 S σ ((g.ex e1).ex e2) _ fun d H3 e3 xd => hQ d H3 (e1.trans (e2.trans e3)) xd
      | ok hi =>
        rw [e3] at c
        show EzF K T _ ρ W (Rz.of (f x lo hi))
        cases e4 : f x lo hi with
        | none => exact True.intro
        | some z => exact ef_sl a b c (hr x lo hi z e4)
theorem sim_sl {r : V → Option Int → Option Int → Hp → VK → Prop} {f : PyData → Option Int → Option Int → Option PyData} {tl th : TO} {ml mh : MO} (hr : ∀ x l h z, f x l h = some z → RS K T r x l h z) (ha : SimE K T te W ma) (h1 : SimP K T tl W ml) (h2 : SimP K T th W mh) : SimE K T (tSl r te tl th) W (xSl f ma ml mh) := fun ρ => by
  have a := ha ρ
  have b := h1 ρ
  have c := h2 ρ
  unfold xSl
  cases e1 : ma ρ with
  | bad => exact True.intro
  | ex x => rw [e1] at a; exact fun H0 B C H S σ g Q hQ => a H0 B C H S σ g _ hQ
  | ok x =>
    rw [e1] at a
    cases e2 : ml ρ with
    | bad => exact True.intro
    | ex y => rw [e2] at b; exact fun H0 B C H S σ g Q hQ => a H0 B C H S σ g _ fun v H1 e1 d1 => b H0 B C H1 S σ (g.ex e1) _ fun d H2 e2 xd => hQ d H2 (e1.trans e2) xd
    | ok lo =>
      rw [e2] at b
      cases e3 : mh ρ with
      | bad => exact True.intro
      | ex y => rw [e3] at c; exact fun H0 B C H S σ g Q hQ => a H0 B C H S σ g _ fun v H1 e1 d1 => b H0 B C H1 S σ (g.ex e1) _ fun H2 e2 => c H0 B C H2 S σ ((g.ex e1).ex e2) _ fun d H3 e3 xd => hQ d H3 (e1.trans (e2.trans e3)) xd
      | ok hi =>
        rw [e3] at c
        show EzE K T _ ρ W (Rz.of (f x lo hi))
        cases e4 : f x lo hi with
        | none => exact True.intro
        | some z => exact ev_sl a b c (hr x lo hi z e4)
/-! ### tests -/
theorem sim_yT (h : SimE K T te W ma) : SimT K T (tTest te) W (yV ma) := fun ρ => by
  have a := h ρ
  unfold yV
  cases h1 : ma ρ with
  | bad => exact True.intro
  | ex x => rw [h1] at a; exact fun H0 B C H S σ g Q hQ => a H0 B C H S σ g _ hQ
  | ok x =>
    rw [h1] at a
    show EzT K T _ ρ W (Rz.of (asB x))
    cases h2 : asB x with
    | none => exact True.intro
    | some i => cases asB_eq h2; exact et_test a
theorem sim_yB (h : SimE K T te W ma) : SimT K T (tB te) W (yV ma) := fun ρ => by
  have a := h ρ
  unfold yV
  cases h1 : ma ρ with
  | bad => exact True.intro
  | ex x => rw [h1] at a; exact fun H0 B C H S σ g Q hQ => a H0 B C H S σ g _ hQ
  | ok x =>
    rw [h1] at a
    show EzT K T _ ρ W (Rz.of (asB x))
    cases h2 : asB x with
    | none => exact True.intro
    | some i => cases asB_eq h2; exact et_B a
theorem sim_yNot (h : SimT K T t W mt) : SimT K T (tNot t) W (yNot mt) := fun ρ => by
  have a := h ρ
  unfold yNot
  cases h1 : mt ρ with
  | bad => exact True.intro
  | ex x => rw [h1] at a; exact fun H0 B C H S σ g Q hQ => a H0 B C H S σ g _ hQ
  | ok x => rw [h1] at a; exact et_not a
theorem sim_yYes : SimT K T tYes W yYes := fun ρ => et_yes
theorem sim_yAnd (h : SimT K T t W mt) (h' : SimT K T u W mu) : SimT K T (tAnd t u) W (yAnd mt mu) := fun ρ => by
  have a := h ρ
  have b := h' ρ
  unfold yAnd
  cases h1 : mt ρ with
  | bad => exact True.intro
  | ex x => rw [h1] at a; exact fun H0 B C H S σ g Q hQ => a H0 B C H S σ g _ hQ
  | ok x =>
    rw [h1] at a
    cases x with
    | false => exact fun H0 B C H S σ g Q hQ => a H0 B C H S σ g _ fun H1 e1 => iteF (hQ H1 e1)
    | true =>
      show EzT K T _ ρ W (mu ρ)
      cases h2 : mu ρ with
      | bad => exact True.intro
      | ex y => rw [h2] at b; exact fun H0 B C H S σ g Q hQ => a H0 B C H S σ g _ fun H1 e1 => iteT (b H0 B C H1 S σ (g.ex e1) _ fun d H2 e2 xd => hQ d H2 (e1.trans e2) xd)
      | ok y => rw [h2] at b; exact fun H0 B C H S σ g Q hQ => a H0 B C H S σ g _ fun H1 e1 => iteT (b H0 B C H1 S σ (g.ex e1) _ fun H2 e2 => hQ H2 (e1.trans e2))
theorem sim_yOr (h : SimT K T t W mt) (h' : SimT K T u W mu) : SimT K T (tOr t u) W (yOr mt mu) := fun ρ => by
  have a := h ρ
  have b := h' ρ
  unfold yOr
  cases h1 : mt ρ with
  | bad => exact True.intro
  | ex x => rw [h1] at a; exact fun H0 B C H S σ g Q hQ => a H0 B C H S σ g _ hQ
  | ok x =>
    rw [h1] at a
    cases x with
    | true => exact fun H0 B C H S σ g Q hQ => a H0 B C H S σ g _ fun H1 e1 => iteT (hQ H1 e1)
    | false =>
      show EzT K T _ ρ W (mu ρ)
      cases h2 : mu ρ with
      | bad => exact True.intro
      | ex y => rw [h2] at b; exact fun H0 B C H S σ g Q hQ => a H0 B C H S σ g _ fun H1 e1 => iteF (b H0 B C H1 S σ (g.ex e1) _ fun d H2 e2 xd => hQ d H2 (e1.trans e2) xd)
      | ok y => rw [h2] at b; exact fun H0 B C H S σ g Q hQ => a H0 B C H S σ g _ fun H1 e1 => iteF (b H0 B C H1 S σ (g.ex e1) _ fun H2 e2 => hQ H2 (e1.trans e2))
/-! ### owned lists -/
theorem ownL_eq {o : Option Slot} {ds : List PyData} (h : ownL o = some ds) : o = some (.own (.lst ds)) := by
  unfold ownL at h
  split at h
  · cases h; rfl
  · cases h
theorem ownD_eq {o : Option Slot} {ds : List (Key × PyData)} (h : ownD o = some ds) : o = some (.own (.dct ds)) := by
  unfold ownD at h
  split at h
  · cases h; rfl
  · cases h
theorem sim_ixO {k : Nat} (hb : SimE K T tb W mb) : SimE K T (tOp (rIx K) (tVar k) tb) W (xIxO k mb) := fun ρ => by
  have b := hb ρ
  unfold xIxO
  cases h0 : ownL ρ[k]? with
  | none => exact True.intro
  | some ds =>
    have ho := ownL_eq h0
    show EzE K T _ ρ W ((mb ρ).bind _)
    cases h1 : mb ρ with
    | bad => exact True.intro
    | ex x =>
      rw [h1] at b
      exact fun H0 B C H S σ g Q hQ => by
        obtain ⟨p, u, a1, a2, a3, a4, a5⟩ := g.own k _ ho
        exact ⟨.ref p, a1, b H0 B C H S σ g _ hQ⟩
    | ok y =>
      rw [h1] at b
      show EzE K T _ ρ W ((Rz.of (asI y)).bind _)
      cases h2 : asI y with
      | none => exact True.intro
      | some i =>
        cases asI_eq h2
        show EzE K T _ ρ W (Rz.of (atI ds i))
        cases h3 : atI ds i with
        | none => exact True.intro
        | some z => exact ev_ixO ho b h3
theorem sim_lenO {k : Nat} : SimE K T (tCB (rLenA K) (tCons (tVar k) tNil)) W (xLenO k) := fun ρ => by
  unfold xLenO
  cases h0 : ownL ρ[k]? with
  | none => exact True.intro
  | some ds =>
    have ho := ownL_eq h0
    show Ev K T _ ρ (.int ds.length)
    refine ev_view (ev_cb (ea_cons (ev_var (d := .list ds) ?_) ea_nil) rc_lenL) rfl
    rw [List.getElem?_map, ho]
    rfl
end
end Lw

set_option Elab.async false
set_option linter.all false
set_option maxRecDepth 100000
set_option maxHeartbeats 4000000
set_option autoImplicit false
/-! Lw, part J: a functional reading of statements, loops, comprehensions, defs. -/
namespace Lw
open PySem L2 LwZ
/-! ### targets -/
abbrev MG := PyData → Option (List Slot → List Slot)
abbrev MGs := List PyData → Option (List Slot → List Slot)
def SimG (K : PySem.W.Frag) (T : Tb) (g : TG) (js : List Nat) (m : MG) : Prop := ∀ d f, m d = some f → TgD K T g d js f
def SimGs (K : PySem.W.Frag) (T : Tb) (g : TGs) (js : List Nat) (m : MGs) : Prop := ∀ d f, m d = some f → TgDs K T g d js f
def gN (i : Nat) : MG := fun d => some fun ρ => ρ.set i (.dat d)
def gs0 : MGs := fun ds => match ds with
  | [] => some fun ρ => ρ
  | _ => none
def gsC (g : MG) (r : MGs) : MGs := fun ds => match ds with
  | d :: ds => (g d).bind fun f => (r ds).bind fun h => some fun ρ => h (f ρ)
  | [] => none
def gT (n : Nat) (r : MGs) : MG := fun d => match d with
  | .tuple ds => if ds.length = n then r ds else none
  | _ => none
def gU (n : Nat) (r : MGs) : MG := fun d => match d with
  | .list ds => if ds.length = n then r ds else none
  | _ => none
section
variable {K : PySem.W.Frag} {T : Tb}
theorem simG_N {i : Nat} : SimG K T (gName i) [i] (gN i) := fun d f h => by
  cases h; exact tg_name
theorem simG_0 : SimGs K T gNil [] gs0 := fun d f h => by
  unfold gs0 at h
  split at h
  · cases h; exact tgs_nil
  · cases h
theorem simG_C {g : TG} {u : TGs} {js ks : List Nat} {m : MG} {r : MGs} (h1 : SimG K T g js m) (h2 : SimGs K T u ks r) : SimGs K T (gCons g u) (js ++ ks) (gsC m r) := fun d f h => by
  unfold gsC at h
  split at h
  · rename_i d ds
    cases e1 : m d with
    | none => rw [e1] at h; cases h
    | some f1 =>
      rw [e1] at h
      cases e2 : r ds with
      | none => rw [Option.bind_some, e2] at h; cases h
      | some f2 =>
        rw [Option.bind_some, e2] at h
        cases h
        exact tgs_cons (h1 d f1 e1) (h2 ds f2 e2)
  · cases h
theorem simG_T {u : TGs} {js : List Nat} {n : Nat} {r : MGs} (h2 : SimGs K T u js r) : SimG K T (gTup K n u) js (gT n r) := fun d f h => by
  unfold gT at h
  split at h
  · rename_i ds
    by_cases hl : ds.length = n
    · rw [if_pos hl] at h; exact tg_tup (h2 ds f h) hl
    · rw [if_neg hl] at h; cases h
  · cases h
theorem simG_U {u : TGs} {js : List Nat} {n : Nat} {r : MGs} (h2 : SimGs K T u js r) : SimG K T (gUnl K n u) js (gU n r) := fun d f h => by
  unfold gU at h
  split at h
  · rename_i ds
    by_cases hl : ds.length = n
    · rw [if_pos hl] at h; exact tg_unl (h2 ds f h) hl
    · rw [if_neg hl] at h; cases h
  · cases h
end
/-! ### what is walked -/
def SimI (K : PySem.W.Frag) (T : Tb) (wi : TI) (W : WX) (m : MA) : Prop := ∀ ρ, match m ρ with
  | .ok items => IterD K T wi ρ items
  | .ex x => EvRx K T wi ρ x W
  | .bad => True
def seqOf : PyData → Option (List PyData)
  | .list ds => some ds
  | .tuple ds => some ds
  | _ => none
theorem seqOf_eq {d : PyData} {ds : List PyData} (h : seqOf d = some ds) : SeqD d ds := by
  cases d with
  | list xs => cases h; exact .lst _
  | tuple xs => cases h; exact .tup _
  | none => cases h
  | bool b => cases h
  | int i => cases h
  | str s => cases h
  | dict k => cases h
def iS (a : ME) : MA := fun ρ => (a ρ).bind fun d => .of (seqOf d)
def fitR (i : Int) : Bool := Nat.ble i.natAbs 4611686018427387903
def rng1 : List PyData → Option (List PyData)
  | [.int j] => if fitR j then some (rgD 0 j.toNat) else none
  | _ => none
def rng2 : List PyData → Option (List PyData)
  | [.int i, .int j] => if fitR i && fitR j then some (rgD i (j - i).toNat) else none
  | _ => none
def dnD (lo : Int) (n : Nat) : List PyData := (List.range n).map fun (k : Nat) => PyData.int (lo - k)
def rng3 : List PyData → Option (List PyData)
  | [.int i, .int j, .int c] => if fitR i && fitR j && decide (c = -1) then some (dnD i (i - j).toNat) else none
  | _ => none
def zipO (st : Bool) : List PyData → Option (List PyData)
  | [d, e] => (seqOf d).bind fun ds => (seqOf e).bind fun es => if st && decide (ds.length ≠ es.length) then none else some (zipD ds es)
  | _ => none
def enO : List PyData → Option (List PyData)
  | [d] => (seqOf d).bind fun ds => some (enD 0 ds)
  | _ => none
def iA (f : List PyData → Option (List PyData)) (a : MA) : MA := fun ρ => (a ρ).bind fun ds => .of (f ds)
section
variable {K : PySem.W.Frag} {T : Tb} {W : WX} {te : TE} {ta : TA} {m : ME} {ma : MA}
theorem sim_iS (h : SimE K T te W m) : SimI K T (iSeq K te) W (iS m) := fun ρ => by
  have a := h ρ
  unfold iS
  cases h1 : m ρ with
  | bad => exact True.intro
  | ex x => rw [h1] at a; exact fun H0 B C H S σ g Q hQ => a H0 B C H S σ g _ hQ
  | ok d =>
    rw [h1] at a
    show match Rz.of (seqOf d) with | .ok items => _ | .ex x => _ | .bad => _
    cases h2 : seqOf d with
    | none => exact True.intro
    | some ds => exact it_sq a (seqOf_eq h2)
theorem sim_iA {wi : TI} {f : List PyData → Option (List PyData)} (hf : ∀ ρ ds items, f ds = some items → EvA K T ta ρ ds → IterD K T wi ρ items) (hx : ∀ ρ x, EvRx K T ta ρ x W → EvRx K T wi ρ x W) (h : SimA K T ta W ma) : SimI K T wi W (iA f ma) := fun ρ => by
  have a := h ρ
  unfold iA
  cases h1 : ma ρ with
  | bad => exact True.intro
  | ex x => rw [h1] at a; exact hx ρ x a
  | ok ds =>
    rw [h1] at a
    show match Rz.of (f ds) with | .ok items => _ | .ex x => _ | .bad => _
    cases h2 : f ds with
    | none => exact True.intro
    | some items => exact hf ρ ds items h2 a
theorem fitR_eq {i : Int} (h : fitR i = true) : -(2 ^ 62) ≤ i ∧ i < 2 ^ 62 := by
  have h := Nat.le_of_ble_eq_true h
  exact ⟨by omega, by omega⟩
theorem sim_rng1 (h : SimA K T ta W ma) : SimI K T (iRng1 ta) W (iA rng1 ma) := sim_iA (fun ρ ds items e ea => by
  unfold rng1 at e
  split at e
  · rename_i j
    by_cases hf : fitR j = true
    · rw [if_pos hf] at e; cases e; exact it_range1 ea (fitR_eq hf).1 (fitR_eq hf).2
    · rw [if_neg hf] at e; cases e
  · cases e) (fun ρ x a H0 B C H S σ g Q hQ => a H0 B C H S σ g _ hQ) h
theorem sim_rng2 (h : SimA K T ta W ma) : SimI K T (iRng2 ta) W (iA rng2 ma) := sim_iA (fun ρ ds items e ea => by
  unfold rng2 at e
  split at e
  · rename_i i j
    by_cases hf : (fitR i && fitR j) = true
    · rw [if_pos hf] at e
      cases e
      rw [Bool.and_eq_true] at hf
      exact it_range2 ea ⟨(fitR_eq hf.1).1, (fitR_eq hf.1).2, (fitR_eq hf.2).1, (fitR_eq hf.2).2⟩
    · rw [if_neg hf] at e; cases e
  · cases e) (fun ρ x a H0 B C H S σ g Q hQ => a H0 B C H S σ g _ hQ) h
theorem sim_rng3 (h : SimA K T ta W ma) : SimI K T (iRng3 ta) W (iA rng3 ma) := sim_iA (fun ρ ds items e ea => by
  unfold rng3 at e
  split at e
  · rename_i i j c
    by_cases hf : (fitR i && fitR j && decide (c = -1)) = true
    · rw [if_pos hf] at e
      cases e
      rw [Bool.and_eq_true, Bool.and_eq_true, decide_eq_true_eq] at hf
      obtain ⟨⟨f1, f2⟩, rfl⟩ := hf
      intro H0 B C H S σ g R hR
      refine ea H0 B C H S σ g _ fun vs H2 e2 dv => ?_
      cases dv with
      | cons b1 b2 => cases b2 with
        | cons b2 b3 => cases b3 with
          | cons b3 b4 =>
            cases b4; cases b1; cases b2; cases b3
            refine ⟨i, j, -1, (i - j).toNat, rfl, RgC.neg (fitR_eq f1).1 (fitR_eq f1).2 (fitR_eq f2).1 (fitR_eq f2).2, hR _ H2 e2 fun k H' S' kp l => ⟨fun d hd => ?_, fun hl => ?_⟩⟩
            · unfold dnD at hd
              rw [List.getElem?_map] at hd
              by_cases hk : k < (i - j).toNat
              · rw [List.getElem?_range hk] at hd
                cases hd
                refine ⟨hk, fun x H3 hy => ?_⟩
                obtain ⟨rfl, rfl⟩ := hy
                refine ⟨.refl T _, ?_⟩
                rw [show i + ((k : Nat) : Int) * -1 = i - (k : Int) from by omega]
                exact .int _
              · rw [List.getElem?_eq_none (by rw [List.length_range]; omega)] at hd
                cases hd
            · unfold dnD at hl
              simp at hl
              show (i - j).toNat ≤ k
              omega
    · rw [if_neg hf] at e; cases e
  · cases e) (fun ρ x a H0 B C H S σ g Q hQ => a H0 B C H S σ g _ hQ) h
theorem sim_zip {st : Bool} (h : SimA K T ta W ma) : SimI K T (iZip K st ta) W (iA (zipO st) ma) := sim_iA (fun ρ ds items e ea => by
  unfold zipO at e
  split at e
  · rename_i d e'
    cases h1 : seqOf d with
    | none => rw [h1] at e; cases e
    | some xs =>
      rw [h1, Option.bind_some] at e
      cases h2 : seqOf e' with
      | none => rw [h2] at e; cases e
      | some ys =>
        rw [h2, Option.bind_some] at e
        split at e
        · cases e
        · rename_i hl
          cases e
          refine it_zip ea (seqOf_eq h1) (seqOf_eq h2) fun hs => ?_
          subst hs
          simpa using hl
  · cases e) (fun ρ x a H0 B C H S σ g Q hQ => a H0 B C H S σ g _ hQ) h
theorem sim_en (h : SimA K T ta W ma) : SimI K T (iEnumB K ta) W (iA enO ma) := sim_iA (fun ρ ds items e ea => by
  unfold enO at e
  split at e
  · rename_i d
    cases h1 : seqOf d with
    | none => rw [h1] at e; cases e
    | some xs =>
      rw [h1, Option.bind_some] at e
      cases e
      exact it_enum ea (seqOf_eq h1)
  · cases e) (fun ρ x a H0 B C H S σ g Q hQ => a H0 B C H S σ g _ hQ) h
end
/-! ### comprehensions -/
def lcL (g : MG) (mt : MT) (me : ME) (ρ : List Slot) : List PyData → Rz (List PyData)
  | [] => .ok []
  | d :: ds => match g d with
    | none => .bad
    | some f => (mt (f ρ)).calm.bind fun b => match b with
      | true => (me (f ρ)).calm.bind fun y => (lcL g mt me ρ ds).bind fun ys => .ok (y :: ys)
      | false => lcL g mt me ρ ds
def fLc (vs : List Nat) (it : MA) (g : MG) (mt : MT) (me : ME) : MA := fun ρ => (it ρ).bind fun items => if items.length ≤ 1000000 then lcL g mt me (wipeS ρ vs) items else .bad
/-- what an item gives -/
def lcF (g : MG) (mt : MT) (me : ME) (ρ : List Slot) (d : PyData) : Option PyData := match g d with
  | none => none
  | some f => match mt (f ρ) with
    | .ok true => match me (f ρ) with
      | .ok y => some y
      | _ => none
    | _ => none
theorem calm_inv {α β : Type} {m : Rz α} {k : α → Rz β} {y : β} (h : m.calm.bind k = .ok y) : ∃ a, m = .ok a ∧ k a = .ok y := by
  cases m with
  | ok a => exact ⟨a, rfl, h⟩
  | ex x => cases h
  | bad => cases h
theorem bind_inv {α β : Type} {m : Rz α} {k : α → Rz β} {y : β} (h : m.bind k = .ok y) : ∃ a, m = .ok a ∧ k a = .ok y := by
  cases m with
  | ok a => exact ⟨a, rfl, h⟩
  | ex x => cases h
  | bad => cases h
theorem lcL_inv {g : MG} {mt : MT} {me : ME} {ρ : List Slot} : ∀ {items ys : List PyData}, lcL g mt me ρ items = .ok ys →
    ys = items.filterMap (lcF g mt me ρ) ∧ ∀ d ∈ items, ∃ f b, g d = some f ∧ mt (f ρ) = .ok b ∧ (b = true → ∃ y, lcF g mt me ρ d = some y ∧ me (f ρ) = .ok y) ∧ (b = false → lcF g mt me ρ d = none)
  | [], ys, h => by
    cases h
    exact ⟨rfl, fun d hd => by cases hd⟩
  | d :: ds, ys, h => by
    unfold lcL at h
    cases hg : g d with
    | none => rw [hg] at h; cases h
    | some f =>
      rw [hg] at h
      obtain ⟨b, hb, h⟩ := calm_inv h
      cases b with
      | true =>
        obtain ⟨y, hy, h⟩ := calm_inv h
        obtain ⟨zs, hz, h⟩ := bind_inv h
        cases h
        obtain ⟨e1, e2⟩ := lcL_inv hz
        have hF : lcF g mt me ρ d = some y := by unfold lcF; rw [hg]; simp only; rw [hb]; simp only; rw [hy]
        refine ⟨by rw [List.filterMap_cons, hF, e1], fun x hx => ?_⟩
        rcases List.mem_cons.mp hx with z | z
        · subst z; exact ⟨f, true, hg, hb, fun _ => ⟨y, hF, hy⟩, fun z => by cases z⟩
        · exact e2 x z
      | false =>
        obtain ⟨e1, e2⟩ := lcL_inv (show lcL g mt me ρ ds = .ok ys from h)
        have hF : lcF g mt me ρ d = none := by unfold lcF; rw [hg]; simp only; rw [hb]
        refine ⟨by rw [List.filterMap_cons, hF, e1], fun x hx => ?_⟩
        rcases List.mem_cons.mp hx with z | z
        · subst z; exact ⟨f, false, hg, hb, nofun, fun _ => hF⟩
        · exact e2 x z
theorem lcL_noex {g : MG} {mt : MT} {me : ME} {ρ : List Slot} {x : Exn} : ∀ {items : List PyData}, lcL g mt me ρ items ≠ .ex x
  | [], h => by cases h
  | d :: ds, h => by
    unfold lcL at h
    cases hg : g d with
    | none => rw [hg] at h; cases h
    | some f =>
      rw [hg] at h
      simp only at h
      cases hm : mt (f ρ) with
      | bad => rw [hm] at h; cases h
      | ex y => rw [hm] at h; cases h
      | ok b =>
        rw [hm] at h
        cases b with
        | false => exact lcL_noex (show lcL g mt me ρ ds = .ex x from h)
        | true =>
          have h : (me (f ρ)).calm.bind _ = Rz.ex x := h
          cases he : me (f ρ) with
          | bad => rw [he] at h; cases h
          | ex y => rw [he] at h; cases h
          | ok y =>
            rw [he] at h
            have h : (lcL g mt me ρ ds).bind _ = Rz.ex x := h
            cases hz : lcL g mt me ρ ds with
            | bad => rw [hz] at h; cases h
            | ex y => exact lcL_noex hz
            | ok zs => rw [hz] at h; cases h
section
variable {K : PySem.W.Frag} {T : Tb} {W W' : WX} {wi : TI} {tg : TG} {tt : TT} {te : TE} {vs js : List Nat} {mi : MA} {g : MG} {mt : MT} {me : ME}
theorem sim_lc (hi : SimI K T wi W mi) (hg : SimG K T tg js g) (ht : SimT K T tt W' mt) (he : SimE K T te W' me) (hj : ∀ j ∈ js, j ∈ vs) : SimF K T (tLc wi tg tt te vs) W (fLc vs mi g mt me) := fun ρ => by
  have a := hi ρ
  unfold fLc
  cases h1 : mi ρ with
  | bad => exact True.intro
  | ex x => rw [h1] at a; exact fun H0 B C H S σ g Q hQ => a H0 B C H S σ g _ hQ
  | ok items =>
    rw [h1] at a
    show EzF K T _ ρ W (if _ then _ else _)
    by_cases hl : items.length ≤ 1000000
    · rw [if_pos hl]
      cases h2 : lcL g mt me (wipeS ρ vs) items with
      | bad => exact True.intro
      | ex x => exact (lcL_noex h2).elim
      | ok ys =>
        obtain ⟨e1, e2⟩ := lcL_inv h2
        rw [e1]
        refine ef_lc (lcF g mt me (wipeS ρ vs)) a hl fun i d hd => ?_
        obtain ⟨f, b, q1, q2, q3, q4⟩ := e2 d (List.mem_of_getElem? hd)
        refine ⟨js, f, b, hg d f q1, hj, ?_, fun hb => ?_, q4⟩
        · have := ht (f (wipeS ρ vs)); rw [q2] at this; exact this
        · obtain ⟨y, r1, r2⟩ := q3 hb
          have := he (f (wipeS ρ vs)); rw [r2] at this
          exact ⟨y, r1, this⟩
    · rw [if_neg hl]; exact True.intro
end
/-! ### statements -/
inductive Rs where
  | nx (ρ : List Slot)
  | rt (d : PyData)
  | bk (ρ : List Slot)
  | ct (ρ : List Slot)
  | ex (x : Exn) (ρ : List Slot)
  | bad
abbrev MS := List Slot → Rs
section
variable (K : PySem.W.Frag) (T : Tb)
/-- what may be returned: a new list where fr says so -/
def RtK (fr : Bool) (H0 : Hp) (C : List Addr) (rt : VK) (d : PyData) : Prop := match fr, d with
  | true, .list ds => ∀ p xs H', Ext T H0 H' → Fresh H0 p → H' p = some (.lst xs) → DtAll K (hide H' (p :: C)) xs ds → rt (.ref p) H'
  | _, _ => Rt K T H0 C rt d
def EscX (H0 B : Hp) (C : List Addr) (ρ : List Slot) (x : Exn) (W : WX) : Prop := ∀ (σ : St) (H : Hp) (S : List Addr), Gd K T H0 B C H S σ ρ → ∀ d, XD K (hide H S) d x.fs → W (.ref (He.ga K x.cls)) d σ H
def PostS (fr : Bool) (H0 B : Hp) (C : List Addr) (D : Ends) (W : WX) : Rs → Prop
  | .nx ρ => Tri K T H0 B C ρ tNext D
  | .rt d => RtK K T fr H0 C D.rt d
  | .bk ρ => Tri K T H0 B C ρ tBreak D
  | .ct ρ => Tri K T H0 B C ρ tCont D
  | .ex x ρ => EscX K T H0 B C ρ x W
  | .bad => False
def SimS (fr : Bool) (ts : TS) (W : WX) (m : MS) : Prop := ∀ ρ H0 B C D, PostS K T fr H0 B C D W (m ρ) → Tri K T H0 B C ρ ts D
end
def kSeq (a b : MS) : MS := fun ρ => match a ρ with
  | .nx ρ' => b ρ'
  | r => r
def kNx : MS := fun ρ => .nx ρ
def kE {α : Type} (m : List Slot → Rz α) (k : α → Rs) : MS := fun ρ => match m ρ with
  | .ok a => k a
  | .ex x => .ex x ρ
  | .bad => .bad
def kAsg (m : ME) (i : Nat) : MS := fun ρ => kE m (fun d => .nx (ρ.set i (.dat d))) ρ
def kOwn (m : MA) (i : Nat) : MS := fun ρ => kE m (fun ds => .nx (ρ.set i (.own (.lst ds)))) ρ
def kDrop (m : ME) : MS := fun ρ => kE m (fun _ => .nx ρ) ρ
def kRet (m : ME) : MS := fun ρ => kE m (fun d => .rt d) ρ
/-- a return from a def that gives new lists: of no list -/
def kRetP (m : ME) : MS := fun ρ => kE m (fun d => match d with | .list _ => .bad | _ => .rt d) ρ
def kRetF (m : MA) : MS := fun ρ => kE m (fun ds => .rt (.list ds)) ρ
/-- a return of an owned list -/
def kRetO (i : Nat) : MS := fun ρ => match ownL ρ[i]? with
  | some ds => .rt (.list ds)
  | none => .bad
def kRetN : MS := fun _ => .rt .none
def kIf (t : MT) (a b : MS) : MS := fun ρ => kE t (fun c => match c with | true => a ρ | false => b ρ) ρ
def kBk : MS := fun ρ => .bk ρ
def kCt : MS := fun ρ => .ct ρ
def kTg (m : ME) (g : MG) : MS := fun ρ => kE m (fun d => match g d with | some f => .nx (f ρ) | none => .bad) ρ
def kPar (m : MA) (i j : Nat) : MS := fun ρ => kE m (fun ds => match ds with | [a, b] => .nx ((ρ.set i (.dat a)).set j (.dat b)) | _ => .bad) ρ
def kApp (i : Nat) (m : ME) : MS := fun ρ => match ownL ρ[i]? with
  | some ds => kE m (fun d => if ds.length < 1000000 then .nx (ρ.set i (.own (.lst (ds ++ [d])))) else .bad) ρ
  | none => .bad
def kPut (i : Nat) (j m : ME) : MS := fun ρ => match ownL ρ[i]? with
  | some ds => kE m (fun d => kE j (fun e => match (asI e).bind (ixN ds.length) with | some n => .nx (ρ.set i (.own (.lst (ds.set n d)))) | none => .bad) ρ) ρ
  | none => .bad
/-- an owned list is given out -/
def kFrz (i : Nat) (a : MS) : MS := fun ρ => match ownL ρ[i]? with
  | some ds => a (ρ.set i (.dat (.list ds)))
  | none => .bad
def forL (g : MG) (wp : List Nat) (b : MS) : List PyData → MS
  | [] => fun ρ => .nx ρ
  | d :: ds => fun ρ => match g d with
    | none => .bad
    | some f => match b (f ρ) with
      | .nx ρ' => forL g wp b ds (wipeS ρ' wp)
      | .ct ρ' => forL g wp b ds (wipeS ρ' wp)
      | .bk ρ' => .nx ρ'
      | r => r
def kFor (it : MA) (g : MG) (wp : List Nat) (b : MS) : MS := fun ρ => kE it (fun items => forL g wp b items ρ) ρ
def whileN (t : MT) (wp : List Nat) (b : MS) : Nat → MS
  | 0 => fun _ => .bad
  | n + 1 => fun ρ => kE t (fun c => match c with
    | false => .nx ρ
    | true => match b ρ with
      | .nx ρ' => whileN t wp b n (wipeS ρ' wp)
      | .ct ρ' => whileN t wp b n (wipeS ρ' wp)
      | .bk ρ' => .nx ρ'
      | r => r) ρ
open Classical in
noncomputable def kWhile (t : MT) (wp : List Nat) (b : MS) : MS := fun ρ => if h : ∃ n, whileN t wp b n ρ ≠ .bad then whileN t wp b (choose h) ρ else .bad
theorem whileN_mono {t : MT} {wp : List Nat} {b : MS} : ∀ {n : Nat} {ρ : List Slot} {m : Nat}, whileN t wp b n ρ ≠ .bad → n ≤ m → whileN t wp b m ρ = whileN t wp b n ρ
  | 0, ρ, m, h, _ => (h rfl).elim
  | n + 1, ρ, 0, h, l => by omega
  | n + 1, ρ, m + 1, h, l => by
    have ih : ∀ ρ', whileN t wp b n ρ' ≠ .bad → whileN t wp b m ρ' = whileN t wp b n ρ' := fun ρ' h' => whileN_mono h' (by omega)
    unfold whileN at h ⊢
    unfold kE at h ⊢
    cases ht : t ρ with
    | bad => rfl
    | ex x => rfl
    | ok c =>
      rw [ht] at h
      cases c with
      | false => rfl
      | true =>
        simp only at h ⊢
        cases hb : b ρ with
        | nx ρ' => rw [hb] at h; exact ih _ h
        | ct ρ' => rw [hb] at h; exact ih _ h
        | bk ρ' => rfl
        | rt d => rfl
        | ex x ρ' => rfl
        | bad => rfl
theorem kWhile_of {t : MT} {wp : List Nat} {b : MS} {ρ : List Slot} {n : Nat} {r : Rs} (h : whileN t wp b n ρ = r) (hr : r ≠ .bad) : kWhile t wp b ρ = r := by
  have hx : ∃ n, whileN t wp b n ρ ≠ .bad := ⟨n, by rw [h]; exact hr⟩
  unfold kWhile
  rw [dif_pos hx]
  rcases Nat.le_total n (Classical.choose hx) with l | l
  · rw [whileN_mono (by rw [h]; exact hr) l, h]
  · rw [← whileN_mono (Classical.choose_spec hx) l, h]
theorem kWhile_inv {t : MT} {wp : List Nat} {b : MS} {ρ : List Slot} (h : kWhile t wp b ρ ≠ .bad) : ∃ n, whileN t wp b n ρ = kWhile t wp b ρ := by
  unfold kWhile at h ⊢
  split at h
  · rename_i hx
    rw [dif_pos hx]
    exact ⟨_, rfl⟩
  · exact (h rfl).elim
/-- the loop's steps -/
theorem kWhile_stop {t : MT} {wp : List Nat} {b : MS} {ρ : List Slot} (h : t ρ = .ok false) : kWhile t wp b ρ = .nx ρ := kWhile_of (n := 1) (by unfold whileN kE; rw [h]) nofun
theorem kWhile_go {t : MT} {wp : List Nat} {b : MS} {ρ ρ' : List Slot} {r : Rs} (h : t ρ = .ok true) (hb : b ρ = .nx ρ') (h' : kWhile t wp b (wipeS ρ' wp) = r) (hr : r ≠ .bad) : kWhile t wp b ρ = r := by
  obtain ⟨n, hn⟩ := kWhile_inv (h'.symm ▸ hr)
  exact kWhile_of (n := n + 1) (by unfold whileN kE; rw [h]; simp only; rw [hb]; simp only; rw [hn, h']) hr
theorem Le.trans : ∀ {a b c : List Slot}, Le a b → Le b c → Le a c
  | _, _, _, .nil, .nil => .nil
  | _, _, _, .no h, .no k => .no (Le.trans h k)
  | _, _, _, .no h, .eq k => .no (Le.trans h k)
  | _, _, _, .eq h, .no k => .no (Le.trans h k)
  | _, _, _, .eq h, .eq k => .eq (Le.trans h k)
theorem le_setNo : ∀ (ρ : List Slot) (i : Nat), Le (ρ.set i .no) ρ
  | [], i => by simp; exact .nil
  | s :: ρ, 0 => .no (Le.refl ρ)
  | s :: ρ, i + 1 => .eq (le_setNo ρ i)
theorem le_wipe (ρ : List Slot) : ∀ vs : List Nat, Le (wipeS ρ vs) ρ
  | [] => Le.refl ρ
  | v :: vs => (le_setNo (wipeS ρ vs) v).trans (le_wipe ρ vs)
section
variable {K : PySem.W.Frag} {T : Tb} {fr : Bool} {W : WX} {te : TE} {t : TT} {ta : TA} {tu tz : TS} {m : ME} {ma : MA} {mt : MT} {a b : MS} {i j : Nat}
theorem sim_seq (h1 : SimS K T fr tu W a) (h2 : SimS K T fr tz W b) : SimS K T fr (tSeq tu tz) W (kSeq a b) := fun ρ H0 B C D p => by
  refine s_seq (h1 ρ H0 B C _ ?_)
  unfold kSeq at p
  cases h : a ρ with
  | nx ρ' => rw [h] at p; exact h2 ρ' H0 B C D p
  | rt d => rw [h] at p; exact p
  | bk ρ' => rw [h] at p; exact p
  | ct ρ' => rw [h] at p; exact p
  | ex x ρ' => rw [h] at p; exact p
  | bad => rw [h] at p; exact p
theorem sim_kNx : SimS K T fr tNext W kNx := fun ρ H0 B C D p => p
theorem tri_ex {ρ : List Slot} {H0 B : Hp} {C : List Addr} {D : Ends} {x : Exn} {ts : TS} (h : ∀ σ H S, Gd K T H0 B C H S σ ρ → (∀ d H2, Ext T H H2 → XD K (hide H2 S) d x.fs → W (.ref (He.ga K x.cls)) d σ H2) → ts D σ H) (p : EscX K T H0 B C ρ x W) : Tri K T H0 B C ρ ts D := fun σ H ⟨S, g⟩ =>
  h σ H S g fun d H2 e xd => p σ H2 S (g.ex e) d xd
theorem sim_asg (h : SimE K T te W m) : SimS K T fr (tAsg te (gName i)) W (kAsg m i) := fun ρ H0 B C D p => by
  have a := h ρ
  unfold kAsg kE at p
  cases h1 : m ρ with
  | bad => rw [h1] at p; exact p.elim
  | ex x => rw [h1] at p a; exact tri_ex (fun σ H S g hQ => a H0 B C H S σ g _ hQ) p
  | ok d => rw [h1] at p a; exact s_asg a p
theorem sim_own (h : SimF K T te W ma) : SimS K T fr (tAsg te (gName i)) W (kOwn ma i) := fun ρ H0 B C D p => by
  have a := h ρ
  unfold kOwn kE at p
  cases h1 : ma ρ with
  | bad => rw [h1] at p; exact p.elim
  | ex x => rw [h1] at p a; exact tri_ex (fun σ H S g hQ => a H0 B C H S σ g _ hQ) p
  | ok d => rw [h1] at p a; exact s_own a p
theorem sim_drop (h : SimE K T te W m) : SimS K T fr (tDrop te) W (kDrop m) := fun ρ H0 B C D p => by
  have a := h ρ
  unfold kDrop kE at p
  cases h1 : m ρ with
  | bad => rw [h1] at p; exact p.elim
  | ex x => rw [h1] at p a; exact tri_ex (fun σ H S g hQ => a H0 B C H S σ g _ hQ) p
  | ok d => rw [h1] at p a; exact s_drop a p
theorem sim_ret (h : SimE K T te W m) : SimS K T false (tRet te) W (kRet m) := fun ρ H0 B C D p => by
  have a := h ρ
  unfold kRet kE at p
  cases h1 : m ρ with
  | bad => rw [h1] at p; exact p.elim
  | ex x => rw [h1] at p a; exact tri_ex (fun σ H S g hQ => a H0 B C H S σ g _ hQ) p
  | ok d => rw [h1] at p a; exact s_ret a p
theorem sim_retP (h : SimE K T te W m) : SimS K T fr (tRet te) W (kRetP m) := fun ρ H0 B C D p => by
  have a := h ρ
  unfold kRetP kE at p
  cases h1 : m ρ with
  | bad => rw [h1] at p; exact p.elim
  | ex x => rw [h1] at p a; exact tri_ex (fun σ H S g hQ => a H0 B C H S σ g _ hQ) p
  | ok d =>
    rw [h1] at p a
    refine s_ret a ?_
    cases d <;> cases fr <;> first | exact p | exact p.elim
theorem sim_retF (h : SimF K T te W ma) : SimS K T true (tRet te) W (kRetF ma) := fun ρ H0 B C D p => by
  have a := h ρ
  unfold kRetF kE at p
  cases h1 : ma ρ with
  | bad => rw [h1] at p; exact p.elim
  | ex x => rw [h1] at p a; exact tri_ex (fun σ H S g hQ => a H0 B C H S σ g _ hQ) p
  | ok ds =>
    rw [h1] at p a
    exact fun σ H ⟨S, g⟩ => a H0 B C H S σ g _ fun q xs H2 e hp h2 ha => p q xs H2 (g.ext.trans e) (hp.back g.ext.kp) h2 (ha.kp (hide_sub fun c hc => by
      rcases List.mem_cons.mp hc with z | z
      · rw [z]; exact List.mem_cons_self ..
      · exact List.mem_cons_of_mem _ (g.sub c z)))
theorem sim_retO : SimS K T true (tRet (tVar i)) W (kRetO i) := fun ρ H0 B C D p => by
  unfold kRetO at p
  cases h1 : ownL ρ[i]? with
  | none => rw [h1] at p; exact p.elim
  | some ds =>
    rw [h1] at p
    exact fun σ H ⟨S, g⟩ => by
      obtain ⟨q, u, a1, a2, a3, a4, a5⟩ := g.own i _ (ownL_eq h1)
      cases a5 with
      | lst a5 =>
        refine ⟨.ref q, a1, p q _ H g.ext a3 a4 (a5.kp (hide_sub fun c hc => ?_))⟩
        rcases List.mem_cons.mp hc with z | z
        · rw [z]; exact a2
        · exact g.sub c z
theorem sim_retN : SimS K T fr tRetN W kRetN := fun ρ H0 B C D p => s_retN (by cases fr <;> exact p)
theorem sim_kIf (h : SimT K T t W mt) (h1 : SimS K T fr tu W a) (h2 : SimS K T fr tz W b) : SimS K T fr (tIfS t tu tz) W (kIf mt a b) := fun ρ H0 B C D p => by
  have c := h ρ
  unfold kIf kE at p
  cases e : mt ρ with
  | bad => rw [e] at p; exact p.elim
  | ex x => rw [e] at p c; exact tri_ex (fun σ H S g hQ => c H0 B C H S σ g _ hQ) p
  | ok k =>
    rw [e] at p c
    cases k with
    | true => exact s_ifT c (h1 ρ H0 B C D p)
    | false => exact s_ifF c (h2 ρ H0 B C D p)
theorem sim_bk : SimS K T fr tBreak W kBk := fun ρ H0 B C D p => p
theorem sim_ct : SimS K T fr tCont W kCt := fun ρ H0 B C D p => p
theorem sim_tg {g : TG} {js : List Nat} {mg : MG} (h : SimE K T te W m) (hg : SimG K T g js mg) : SimS K T fr (tAsg te g) W (kTg m mg) := fun ρ H0 B C D p => by
  have a := h ρ
  unfold kTg kE at p
  cases h1 : m ρ with
  | bad => rw [h1] at p; exact p.elim
  | ex x => rw [h1] at p a; exact tri_ex (fun σ H S g hQ => a H0 B C H S σ g _ hQ) p
  | ok d =>
    rw [h1] at p a
    simp only at p
    cases h2 : mg d with
    | none => rw [h2] at p; exact p.elim
    | some f => rw [h2] at p; exact s_asgT a (hg d f h2) p
theorem sim_par (h : SimA K T ta W ma) : SimS K T fr (tPar i j ta) W (kPar ma i j) := fun ρ H0 B C D p => by
  have a := h ρ
  unfold kPar kE at p
  cases h1 : ma ρ with
  | bad => rw [h1] at p; exact p.elim
  | ex x => rw [h1] at p a; exact tri_ex (fun σ H S g hQ => a H0 B C H S σ g _ hQ) p
  | ok ds =>
    rw [h1] at p a
    match ds, p, a with
    | [x, y], p, a => exact s_par a p
    | [], p, a => exact p.elim
    | [x], p, a => exact p.elim
    | x :: y :: z :: r, p, a => exact p.elim
theorem sim_app (h : SimE K T te W m) : SimS K T fr (tDrop (tBM K "list" rAppend (tVar i) (tCons te tNil))) W (kApp i m) := fun ρ H0 B C D p => by
  have a := h ρ
  unfold kApp kE at p
  cases h0 : ownL ρ[i]? with
  | none => rw [h0] at p; exact p.elim
  | some ds =>
    rw [h0] at p
    have ho := ownL_eq h0
    cases h1 : m ρ with
    | bad => rw [h1] at p; exact p.elim
    | ex x =>
      rw [h1] at p a
      refine tri_ex (fun σ H S g hQ => ?_) p
      obtain ⟨q, u, a1, a2, a3, a4, a5⟩ := g.own i _ ho
      cases a5 with
      | lst a5 => exact ⟨.ref q, a1, .inl ⟨rfl, _, SqL.of a4⟩, a H0 B C H S σ g _ hQ⟩
    | ok d =>
      rw [h1] at p a
      simp only at p
      by_cases hl : ds.length < 1000000
      · rw [if_pos hl] at p; exact s_app ho a hl p
      · rw [if_neg hl] at p; exact p.elim
theorem sim_put {tb : TE} {mj : ME} (h : SimE K T te W m) (hj : SimE K T tb W mj) : SimS K T fr (tAsg te (gSub (tVar i) tb rSetL)) W (kPut i mj m) := fun ρ H0 B C D p => by
  have a := h ρ
  have b := hj ρ
  unfold kPut kE at p
  cases h0 : ownL ρ[i]? with
  | none => rw [h0] at p; exact p.elim
  | some ds =>
    rw [h0] at p
    have ho := ownL_eq h0
    cases h1 : m ρ with
    | bad => rw [h1] at p; exact p.elim
    | ex x => rw [h1] at p a; exact tri_ex (fun σ H S g hQ => a H0 B C H S σ g _ hQ) p
    | ok d =>
      rw [h1] at p a
      simp only at p
      cases h2 : mj ρ with
      | bad => rw [h2] at p; exact p.elim
      | ex x =>
        rw [h2] at p b
        refine tri_ex (fun σ H S g hQ => a H0 B C H S σ g _ fun v H1 e1 d1 => ?_) p
        obtain ⟨q, u, a1, a2, a3, a4, a5⟩ := (g.ex e1).own i _ ho
        exact ⟨.ref q, a1, b H0 B C H1 S σ (g.ex e1) _ fun d H2 e2 xd => hQ d H2 (e1.trans e2) xd⟩
      | ok e =>
        rw [h2] at p b
        simp only at p
        cases h3 : asI e with
        | none => rw [h3] at p; exact p.elim
        | some k =>
          cases asI_eq h3
          rw [h3, Option.bind_some] at p
          cases h4 : ixN ds.length k with
          | none => rw [h4] at p; exact p.elim
          | some n => rw [h4] at p; exact s_put ho a b h4 p
theorem sim_frz (h : SimS K T fr tu W a) : SimS K T fr tu W (kFrz i a) := fun ρ H0 B C D p => by
  unfold kFrz at p
  cases h0 : ownL ρ[i]? with
  | none => rw [h0] at p; exact p.elim
  | some ds => rw [h0] at p; exact s_freeze (ownL_eq h0) (h _ H0 B C D p)
theorem tri_base {H0 B B' : Hp} {C : List Addr} {ρ : List Slot} {ts : TS} {D : Ends} (e : Kp B B') (hb : ∀ b o, B b = some o → isTbl o = false) (h : Tri K T H0 B C ρ ts D) : Tri K T H0 B' C ρ ts D := fun σ H ⟨S, g⟩ => h σ H ⟨S, g.unbase e hb⟩
theorem sim_for {wi : TI} {g : TG} {js wp : List Nat} {mi : MA} {mg : MG} (hi : SimI K T wi W mi) (hg : SimG K T g js mg) (hb : SimS K T fr tu W b) : SimS K T fr (tFor wi g tu) W (kFor mi mg wp b) := fun ρ H0 B C D p => by
  have a := hi ρ
  unfold kFor kE at p
  cases h1 : mi ρ with
  | bad => rw [h1] at p; exact p.elim
  | ex x => rw [h1] at p a; exact tri_ex (fun σ H S g hQ => a H0 B C H S σ g _ hQ) p
  | ok items =>
    rw [h1] at p a
    simp only at p
    intro σ H hgood
    have bno : ∀ b o, B b = some o → isTbl o = false := let ⟨S, g⟩ := hgood; g.bno
    generalize hTot : forL mg wp b items ρ = Tot at p
    refine s_forG (D := D) a (fun i ρi => forL mg wp b (items.drop i) ρi = Tot) (by rw [List.drop_zero]; exact hTot) (fun B' i d ρi kb hd hI => ?_) (fun ρn hn => ?_) σ H hgood
    · have hlt := (List.getElem?_eq_some_iff.mp hd).1
      have hdrop : items.drop i = d :: items.drop (i + 1) := by
        rw [List.drop_eq_getElem_cons hlt, (List.getElem?_eq_some_iff.mp hd).2]
      rw [hdrop] at hI
      unfold forL at hI
      cases hm : mg d with
      | none => rw [hm] at hI; rw [← hI] at p; exact p.elim
      | some f =>
        rw [hm] at hI
        simp only at hI
        refine ⟨js, f, hg d f hm, hb (f ρi) H0 B' C _ ?_⟩
        cases hr : b (f ρi) with
        | nx ρ' => rw [hr] at hI; exact s_nxt (I := fun ρi => forL mg wp b (items.drop (i + 1)) ρi = Tot) hI (le_wipe ρ' wp) rfl
        | ct ρ' => rw [hr] at hI; exact s_cont (I := fun ρi => forL mg wp b (items.drop (i + 1)) ρi = Tot) hI (le_wipe ρ' wp) rfl
        | bk ρ' => rw [hr] at hI; rw [← hI] at p; exact fun σ H gd => tri_base kb bno p σ H gd
        | rt d => rw [hr] at hI; rw [← hI] at p; exact p
        | ex x ρ' => rw [hr] at hI; rw [← hI] at p; exact fun σ H S gd d xd => p σ H S (gd.unbase kb bno) d xd
        | bad => rw [hr] at hI; rw [← hI] at p; exact p.elim
    · rw [List.drop_length] at hn
      have hn : Rs.nx ρn = Tot := hn
      rw [← hn] at p
      exact p
theorem sim_whileN {wp : List Nat} (ht : SimT K T t W mt) (hb : SimS K T fr tu W b) (n : Nat) : SimS K T fr (tWhile t tu) W (whileN mt wp b n) := fun ρ H0 B C D p => by
  intro σ H hgood
  refine ⟨fun k σ H => ∃ ρ', Good K T H0 B C ρ' σ H ∧ PostS K T fr H0 B C D W (whileN mt wp b k ρ'), ⟨n, ρ, hgood, p⟩, ?_⟩
  rintro k σ H ⟨ρ', ⟨S, g⟩, q⟩
  cases k with
  | zero => exact q.elim
  | succ k =>
    have c := ht ρ'
    unfold whileN kE at q
    cases e : mt ρ' with
    | bad => rw [e] at q; exact q.elim
    | ex x => rw [e] at q c; exact c H0 B C H S σ g _ fun d H2 e2 xd => q σ H2 S (g.ex e2) d xd
    | ok k' =>
      rw [e] at q c
      refine c H0 B C H S σ g _ fun H1 e1 => ?_
      cases k' with
      | false => exact iteF (q σ H1 ⟨S, g.ex e1⟩)
      | true =>
        refine iteT ?_
        simp only at q
        have go : ∀ r, b ρ' = r → ∃ N : St → Hp → Prop, (∀ σ' H', N σ' H' → ∃ m', m' < k + 1 ∧ ∃ ρ', Good K T H0 B C ρ' σ' H' ∧ PostS K T fr H0 B C D W (whileN mt wp b m' ρ')) ∧ tu { D with nx := N, ct := N, bk := D.nx } σ H1 := fun r hr => by
          refine ⟨fun σ' H' => ∃ m', m' < k + 1 ∧ ∃ ρ', Good K T H0 B C ρ' σ' H' ∧ PostS K T fr H0 B C D W (whileN mt wp b m' ρ'), fun _ _ h => h, hb ρ' H0 B C _ ?_ σ H1 ⟨S, g.ex e1⟩⟩
          cases hr' : b ρ' with
          | nx ρ2 => rw [hr'] at q; exact fun σ2 H2 g2 => ⟨k, Nat.lt_succ_self k, _, g2.weak (le_wipe ρ2 wp), q⟩
          | ct ρ2 => rw [hr'] at q; exact fun σ2 H2 g2 => ⟨k, Nat.lt_succ_self k, _, g2.weak (le_wipe ρ2 wp), q⟩
          | bk ρ2 => rw [hr'] at q; exact q
          | rt d => rw [hr'] at q; exact q
          | ex x ρ2 => rw [hr'] at q; exact q
          | bad => rw [hr'] at q; exact q.elim
        exact go _ rfl
theorem sim_while {wp : List Nat} (ht : SimT K T t W mt) (hb : SimS K T fr tu W b) : SimS K T fr (tWhile t tu) W (kWhile mt wp b) := fun ρ H0 B C D p => by
  have hn : kWhile mt wp b ρ ≠ .bad := fun z => by rw [z] at p; exact p
  obtain ⟨n, e⟩ := kWhile_inv hn
  exact sim_whileN (wp := wp) ht hb n ρ H0 B C D (by rw [e]; exact p)
end
end Lw

set_option Elab.async false
set_option linter.all false
set_option maxRecDepth 100000
set_option maxHeartbeats 4000000
set_option autoImplicit false
/-! Lw, part K: defs by their functional reading; calls, operations, raise, owned dicts. -/
namespace Lw
open PySem L2 LwZ
/-- the promise of a def: what f says -/
def spZ (K : PySem.W.Frag) (T : Tb) (fr : Bool) (f : List PyData → Rz PyData) : Sp := fun vs H Q E => ∃ ds S, LsT T H S ∧ DtAll K (hide H S) vs ds ∧ match f ds with
  | .ok r => RtK K T fr H S Q r
  | .ex x => ∀ d H', Ext T H H' → XD K (hide H' S) d x.fs → E (.ref (He.ga K x.cls)) d H'
  | .bad => False
/-- a def of np parameters, n names -/
def fnD (np n : Nat) (m : MS) (ds : List PyData) : Rz PyData := if ds.length = np then match m (slots n ds) with
  | .rt d => .ok d
  | .nx _ => .ok .none
  | .ex x _ => .ex x
  | _ => .bad
  else .bad
section
variable {P : Program} {w : World} {K : PySem.W.Frag} {T : Tb} {mg : Str → Option Value} {base : Heap}
abbrev FnQ (K : PySem.W.Frag) (x : Str) (st : Stmt) (dvs : List V) (kws : List (Str × V)) (f : Addr) (fd : FuncData) : Prop := FunD K x x (defArgs st) (defBody st) (defScope st) dvs kws f fd
theorem spZ_len {fr : Bool} {np n : Nat} {m : MS} {vs : List V} {H : Hp} {Q : VK} {E : XK} (h : spZ K T fr (fnD np n m) vs H Q E) : vs.length = np := by
  obtain ⟨ds, S', l, hd, hR⟩ := h
  rw [hd.len]
  by_cases hl : ds.length = np
  · exact hl
  · unfold fnD at hR
    rw [if_neg hl] at hR
    exact hR.elim
theorem fnZ {fr : Bool} {x : Str} {st : Stmt} {dvs : List V} {kws : List (Str × V)} {f : Addr} {fd : FuncData} {N ps : List Str} {k : Nat} {m : MS} {n np : Nat} (F : FnQ K x st dvs kws f fd) (S : FnScope N ps (defScope st)) (hn : N.length = n) (hp : ps.length = np)
    (hbody : ∀ (cdv : Value) (A : Around) (outer : List Env) (s : Shared) (H : Hp) (E : XK), Room k (A.deeper (PyProof.Rows.envOfC x (defScope st) s.heap.objs.size f cdv)) →
      ∃ t, PSs (cxOf (L2N.CX P w) P w K mg base N x (defScope st) f cdv A outer s H E) (defBody st) t ∧ SimS K T fr t (WF E) m) :
    FnOk P w K mg base (L2N.CX P w) (k + 1) f fd ps (spZ K T fr (fnD np n m)) := by
  subst hn hp
  refine F.ok S (fun vs H Q E h => spZ_len h) (fun cdv A outer s H vs Q E hr h => ?_)
  have hl := spZ_len h
  obtain ⟨ds, S', l, hd, hR⟩ := h
  have hld : ds.length = ps.length := hd.len ▸ hl
  obtain ⟨t, pt, sm⟩ := hbody cdv A outer s H E hr
  refine ⟨t, pt, ?_⟩
  refine sm (slots N.length ds) H (hide H S') S' { nx := fun _ H' => Q .non H', rt := Q } ?_ _ _ ⟨S', gd_start l hd⟩
  unfold fnD at hR
  rw [if_pos hld] at hR
  cases hm : m (slots N.length ds) with
  | nx ρ' =>
    rw [hm] at hR
    exact fun σ H' ⟨S2, g⟩ => by
      have hR : RtK K T fr H S' Q .none := hR
      cases fr <;> exact hR .non H' g.ext .non
  | rt d => rw [hm] at hR; exact hR
  | bk ρ' => rw [hm] at hR; exact hR.elim
  | ct ρ' => rw [hm] at hR; exact hR.elim
  | ex y ρ' => rw [hm] at hR; exact fun σ H' S2 g d xd => hR d H' g.ext (xd.kp (hide_sub g.sub))
  | bad => rw [hm] at hR; exact hR.elim
/-- the same promise where nothing is raised -/
theorem CalX.calmZ {k : Nat} {x : Str} {ps : List Str} {dvs : List V} {fr : Bool} {F : List PyData → Rz PyData} (c : CalX P w K mg base k x ps dvs (spZ K T fr F)) :
    Cal P w K mg base k x ps dvs (spZ K T fr fun ds => (F ds).calm) := by
  have key : ∀ {vs : List V} {H : Hp} {Q : VK} {E : XK}, spZ K T fr (fun ds => (F ds).calm) vs H Q E → spZ K T fr F vs H Q (fun _ _ _ => False) := fun {vs H Q E} h => by
    obtain ⟨ds, S, l, hd, hR⟩ := h
    refine ⟨ds, S, l, hd, ?_⟩
    cases hf : F ds with
    | ok r => simp only [hf] at hR; exact hR
    | ex x => simp only [hf] at hR; exact hR.elim
    | bad => simp only [hf] at hR; exact hR.elim
  obtain ⟨f, fd, ds, G, m, kp, b, v⟩ := c.ex
  refine ⟨f, fd, ds, ⟨fun vs H Q E h => ?_, fun A outer s H args us vs Q E hr e0 hb hv h => ?_⟩, m, kp, b, v⟩
  · exact G.len vs H Q (fun _ _ _ => False) (key h)
  · refine codeAny_mono (G.run A outer s H args us vs Q (fun _ _ _ => False) hr e0 hb hv (key h)) fun o s' h' => ?_
    cases o with
    | error e =>
      obtain ⟨_, _, _, _, _, _, _, _, _, _, _, _, z⟩ := h'
      exact z.elim
    | ok fl => cases fl <;> exact h'
end
section
variable {K : PySem.W.Frag} {T : Tb} {W : WX} {ta : TA} {ma : MA} {dvs : List V} {es : List PyData} {F : List PyData → Rz PyData}
/-- .. with the defaults es behind -/
def zApp (a : MA) (es : List PyData) : MA := fun ρ => (a ρ).bind fun ds => .ok (ds ++ es)
theorem sim_call {fr : Bool} (hd : ∀ H, DtAll K H dvs es) (h : SimA K T ta W ma) : SimE K T (tCallSD (spZ K T fr F) dvs (WE W) ta) W (xF F (zApp ma es)) := fun ρ => by
  have a := h ρ
  unfold xF zApp
  cases h1 : ma ρ with
  | bad => exact True.intro
  | ex x => rw [h1] at a; exact fun H0 B C H S σ g Q hQ => a H0 B C H S σ g _ hQ
  | ok ds =>
    rw [h1] at a
    show EzE K T _ ρ W (F (ds ++ es))
    cases h2 : F (ds ++ es) with
    | bad => exact True.intro
    | ex x =>
      exact fun H0 B C H S σ g Q hQ => a H0 B C H S σ g _ fun vs H1 e1 d1 => ⟨ds ++ es, S, g.lsT e1, d1.app (hd _), by rw [h2]; exact fun d H' e2 xd => hQ d H' (e1.trans e2) xd⟩
    | ok r =>
      exact fun H0 B C H S σ g Q hQ => a H0 B C H S σ g _ fun vs H1 e1 d1 => ⟨ds ++ es, S, g.lsT e1, d1.app (hd _), by
        rw [h2]
        have l1 := g.lst.kp e1.kp
        cases fr with
        | false => exact fun v H2 e2 d2 => hQ v H2 (e1.trans e2) d2
        | true =>
          cases r with
          | list rs => exact fun p xs H' e2 hp h3 ha => hQ _ H' (e1.trans e2) (.lst (hide_some.mpr ⟨l1.not hp, h3, rfl⟩) (ha.kp (hide_sub fun a m => List.mem_cons_of_mem _ m)))
          | none => exact fun v H2 e2 d2 => hQ v H2 (e1.trans e2) d2
          | bool b => exact fun v H2 e2 d2 => hQ v H2 (e1.trans e2) d2
          | int b => exact fun v H2 e2 d2 => hQ v H2 (e1.trans e2) d2
          | str b => exact fun v H2 e2 d2 => hQ v H2 (e1.trans e2) d2
          | tuple b => exact fun v H2 e2 d2 => hQ v H2 (e1.trans e2) d2
          | dict b => exact fun v H2 e2 d2 => hQ v H2 (e1.trans e2) d2⟩
/-- a call that gives a new list -/
def asL : PyData → Option (List PyData)
  | .list ds => some ds
  | _ => none
def fF (f : List PyData → Rz PyData) (a : MA) : MA := fun ρ => (a ρ).bind fun ds => (f ds).bind fun r => .of (asL r)
theorem sim_callF (hd : ∀ H, DtAll K H dvs es) (h : SimA K T ta W ma) : SimF K T (tCallSD (spZ K T true F) dvs (WE W) ta) W (fF F (zApp ma es)) := fun ρ => by
  have a := h ρ
  unfold fF zApp
  cases h1 : ma ρ with
  | bad => exact True.intro
  | ex x => rw [h1] at a; exact fun H0 B C H S σ g Q hQ => a H0 B C H S σ g _ hQ
  | ok ds =>
    rw [h1] at a
    show EzF K T _ ρ W ((F (ds ++ es)).bind _)
    cases h2 : F (ds ++ es) with
    | bad => exact True.intro
    | ex x =>
      exact fun H0 B C H S σ g Q hQ => a H0 B C H S σ g _ fun vs H1 e1 d1 => ⟨ds ++ es, S, g.lsT e1, d1.app (hd _), by rw [h2]; exact fun d H' e2 xd => hQ d H' (e1.trans e2) xd⟩
    | ok r =>
      show EzF K T _ ρ W (Rz.of (asL r))
      cases r with
      | list rs =>
        exact fun H0 B C H S σ g Q hQ => a H0 B C H S σ g _ fun vs H1 e1 d1 => ⟨ds ++ es, S, g.lsT e1, d1.app (hd _), by
          rw [h2]
          exact fun p xs H' e2 hp h3 ha => hQ p xs H' (e1.trans e2) (hp.back e1.kp) h3 ha⟩
      | none => exact True.intro
      | bool b => exact True.intro
      | int b => exact True.intro
      | str b => exact True.intro
      | tuple b => exact True.intro
      | dict b => exact True.intro
/-- where nothing may be raised -/
theorem sim_callC {fr : Bool} {E : XK} (hd : ∀ H, DtAll K H dvs es) (h : SimA K T ta W ma) : SimE K T (tCall (spZ K T fr fun ds => (F ds).calm) dvs E ta) W (xFc F (zApp ma es)) := fun ρ => by
  have a := h ρ
  unfold xFc zApp
  cases h1 : ma ρ with
  | bad => exact True.intro
  | ex x => rw [h1] at a; exact fun H0 B C H S σ g Q hQ => a H0 B C H S σ g _ hQ
  | ok ds =>
    rw [h1] at a
    show EzE K T _ ρ W (F (ds ++ es)).calm
    cases h2 : F (ds ++ es) with
    | bad => exact True.intro
    | ex x => exact True.intro
    | ok r =>
      exact fun H0 B C H S σ g Q hQ => a H0 B C H S σ g _ fun vs H1 e1 d1 => ⟨ds ++ es, S, g.lsT e1, d1.app (hd _), by
        simp only [h2]
        have l1 := g.lst.kp e1.kp
        cases fr with
        | false => exact fun v H2 e2 d2 => hQ v H2 (e1.trans e2) d2
        | true =>
          cases r with
          | list rs => exact fun p xs H' e2 hp h3 ha => hQ _ H' (e1.trans e2) (.lst (hide_some.mpr ⟨l1.not hp, h3, rfl⟩) (ha.kp (hide_sub fun a m => List.mem_cons_of_mem _ m)))
          | none => exact fun v H2 e2 d2 => hQ v H2 (e1.trans e2) d2
          | bool b => exact fun v H2 e2 d2 => hQ v H2 (e1.trans e2) d2
          | int b => exact fun v H2 e2 d2 => hQ v H2 (e1.trans e2) d2
          | str b => exact fun v H2 e2 d2 => hQ v H2 (e1.trans e2) d2
          | tuple b => exact fun v H2 e2 d2 => hQ v H2 (e1.trans e2) d2
          | dict b => exact fun v H2 e2 d2 => hQ v H2 (e1.trans e2) d2⟩
def fFc (f : List PyData → Rz PyData) (a : MA) : MA := fun ρ => (a ρ).bind fun ds => (f ds).calm.bind fun r => .of (asL r)
theorem sim_callCF {E : XK} (hd : ∀ H, DtAll K H dvs es) (h : SimA K T ta W ma) : SimF K T (tCall (spZ K T true fun ds => (F ds).calm) dvs E ta) W (fFc F (zApp ma es)) := fun ρ => by
  have a := h ρ
  unfold fFc zApp
  cases h1 : ma ρ with
  | bad => exact True.intro
  | ex x => rw [h1] at a; exact fun H0 B C H S σ g Q hQ => a H0 B C H S σ g _ hQ
  | ok ds =>
    rw [h1] at a
    show EzF K T _ ρ W ((F (ds ++ es)).calm.bind _)
    cases h2 : F (ds ++ es) with
    | bad => exact True.intro
    | ex x => exact True.intro
    | ok r =>
      show EzF K T _ ρ W (Rz.of (asL r))
      cases r with
      | list rs =>
        exact fun H0 B C H S σ g Q hQ => a H0 B C H S σ g _ fun vs H1 e1 d1 => ⟨ds ++ es, S, g.lsT e1, d1.app (hd _), by
          simp only [h2]
          exact fun p xs H' e2 hp h3 ha => hQ p xs H' (e1.trans e2) (hp.back e1.kp) h3 ha⟩
      | none => exact True.intro
      | bool b => exact True.intro
      | int b => exact True.intro
      | str b => exact True.intro
      | tuple b => exact True.intro
      | dict b => exact True.intro
/-- a call of a def whose promise is of the elder form -/
theorem sim_callR {R : List PyData → PyData → Prop} {E : XK} (hR : ∀ ds r, F ds = .ok r → R ds r) (hx : ∀ ds x, F ds ≠ .ex x) (h : SimA K T ta W ma) : SimE K T (tCall (spR K T R) [] E ta) W (xF F ma) := fun ρ => by
  have a := h ρ
  unfold xF
  cases h1 : ma ρ with
  | bad => exact True.intro
  | ex x => rw [h1] at a; exact fun H0 B C H S σ g Q hQ => a H0 B C H S σ g _ hQ
  | ok ds =>
    rw [h1] at a
    show EzE K T _ ρ W (F ds)
    cases h2 : F ds with
    | bad => exact True.intro
    | ex x => exact (hx ds x h2).elim
    | ok r => exact ev_call a (hR ds r h2)
end
/-! ### raise -/
def kRaise (x : Str) : MS := fun ρ => .ex ⟨x, []⟩ ρ
theorem sim_raise {K : PySem.W.Frag} {T : Tb} {W : WX} {fr : Bool} {x : Str} : SimS K T fr (tRaise K x W) W (kRaise x) := fun ρ H0 B C D p => fun σ H ⟨S, g⟩ => p σ H S g none .no
/-! ### operations -/
def bitsOk (i j : Int) : Bool := decide (i.natAbs < 18446744073709551616) || decide (j.natAbs < 18446744073709551616) || decide (i.natAbs.log2 + j.natAbs.log2 + 2 ≤ 100000000)
def zAdd : PyData → PyData → Option PyData
  | .int i, .int j => some (.int (i + j))
  | .str a, .str b => if a.length + b.length ≤ 1000000 then some (.str (a ++ b)) else none
  | .tuple a, .tuple b => if a.length + b.length ≤ 1000000 then some (.tuple (a ++ b)) else none
  | _, _ => none
def zAddL : PyData → PyData → Option (List PyData)
  | .list a, .list b => if a.length + b.length ≤ 1000000 then some (a ++ b) else none
  | _, _ => none
def zSub : PyData → PyData → Option PyData
  | .int i, .int j => some (.int (i - j))
  | _, _ => none
def zMul : PyData → PyData → Option PyData
  | .int i, .int j => if bitsOk i j then some (.int (i * j)) else none
  | _, _ => none
def zRep : PyData → PyData → Option (List PyData)
  | .list a, .int j => if decide (-9223372036854775808 ≤ j) && decide (j < 9223372036854775808) && decide (a.length * j.toNat ≤ 1000000) then some (List.replicate j.toNat a).flatten else none
  | _, _ => none
def zFd : PyData → PyData → Option PyData
  | .int i, .int j => if j ≠ 0 ∧ j.natAbs < 1073741824 then some (.int (i.fdiv j)) else none
  | _, _ => none
def zFdB : PyData → PyData → Option PyData
  | .int i, .int j => if j ≠ 0 then some (.int (i.fdiv j)) else none
  | _, _ => none
def zMod : PyData → PyData → Option PyData
  | .int i, .int j => if j ≠ 0 then some (.int (i.fmod j)) else none
  | _, _ => none
def zPow : PyData → PyData → Option PyData
  | .int i, .int j => if 0 ≤ j ∧ j ≤ 1000000 ∧ i.natAbs < 18446744073709551616 then some (.int (i ^ j.toNat)) else none
  | _, _ => none
def zLt : PyData → PyData → Option PyData
  | .int i, .int j => some (.bool (decide (i < j)))
  | _, _ => none
def zLe : PyData → PyData → Option PyData
  | .int i, .int j => some (.bool (decide (i ≤ j)))
  | _, _ => none
def zGt : PyData → PyData → Option PyData
  | .int i, .int j => some (.bool (decide (j < i)))
  | _, _ => none
def zGe : PyData → PyData → Option PyData
  | .int i, .int j => some (.bool (decide (j ≤ i)))
  | _, _ => none
def zEq (x y : PyData) : Option PyData := if SeqAt.shaped x && SeqAt.shaped y then some (.bool (PyData.eqv x y)) else none
def zNe (x y : PyData) : Option PyData := if SeqAt.shaped x && SeqAt.shaped y then some (.bool (!PyData.eqv x y)) else none
def zIsN (x y : PyData) : Option PyData := if isNone y then some (.bool (isNone x)) else none
def zNotN (x y : PyData) : Option PyData := if isNone y then some (.bool (!isNone x)) else none
def zIx (x y : PyData) : Option PyData := match x, y with
  | .list ds, .int i => atI ds i
  | .tuple ds, .int i => atI ds i
  | .str s, .int i => if s.length ≤ 1000000 then (atI s.cps.toList i).map fun c => .str ⟨#[c]⟩ else none
  | _, _ => none
def zNeg : PyData → Option PyData
  | .int i => some (.int (-i))
  | _ => none
def zLen : List PyData → Option PyData
  | [.list ds] => some (.int ds.length)
  | [.tuple ds] => some (.int ds.length)
  | [.str s] => if s.length ≤ 1000000 then some (.int s.length) else none
  | _ => none
def zAbs : List PyData → Option PyData
  | [.int i] => some (.int (if i < 0 then -i else i))
  | _ => none
def zInt : List PyData → Option PyData
  | [.int i] => some (.int i)
  | [.bool b] => some (.int (if b then 1 else 0))
  | _ => none
def zList : List PyData → Option (List PyData)
  | [.list ds] => some ds
  | [.tuple ds] => some ds
  | _ => none
def zTuple : List PyData → Option PyData
  | [.list ds] => some (.tuple ds)
  | [.tuple ds] => some (.tuple ds)
  | _ => none
def allB : List PyData → Option (List Bool)
  | [] => some []
  | d :: ds => (asB d).bind fun b => (allB ds).bind fun bs => some (b :: bs)
def zAll : List PyData → Option PyData
  | [.list ds] => (allB ds).bind fun bs => some (.bool (bs.all id))
  | _ => none
def zAny : List PyData → Option PyData
  | [.list ds] => (allB ds).bind fun bs => some (.bool (bs.any id))
  | _ => none
def zSlL : PyData → Option Int → Option Int → Option (List PyData)
  | .list ds, l, h => some (cutD ds l h)
  | _, _, _ => none
def zSlT : PyData → Option Int → Option Int → Option PyData
  | .tuple ds, l, h => some (.tuple (cutD ds l h))
  | _, _, _ => none
theorem allB_eq : ∀ {ds : List PyData} {bs : List Bool}, allB ds = some bs → ds = bs.map PyData.bool
  | [], bs, h => by cases h; rfl
  | d :: ds, bs, h => by
    unfold allB at h
    cases h1 : asB d with
    | none => rw [h1] at h; cases h
    | some b =>
      rw [h1, Option.bind_some] at h
      cases h2 : allB ds with
      | none => rw [h2] at h; cases h
      | some cs =>
        rw [h2, Option.bind_some] at h
        cases h
        rw [asB_eq h1, allB_eq h2]
        rfl
theorem bits_ok {i j : Int} (h : bitsOk i j = true) : IntMulOk i j := by
  unfold bitsOk at h
  simp only [Bool.or_eq_true, decide_eq_true_eq] at h
  rcases h with (h | h) | h
  · exact mulOkL h
  · exact mulOkR h
  · exact mulOk (n := i.natAbs.log2 + 1) (m := j.natAbs.log2 + 1) Nat.lt_log2_self Nat.lt_log2_self (by omega)
section
variable {K : PySem.W.Frag} {T : Tb}
theorem r_add : ROp K T (rAddA K) zAdd := fun x y z h => by
  unfold zAdd at h
  split at h
  · cases h; exact rv_add
  · split at h
    · rename_i hl; cases h; exact rv_addS hl
    · cases h
  · split at h
    · rename_i hl; cases h; exact rv_addT hl
    · cases h
  · cases h
theorem r_addL : ROpF K T (rAddA K) zAddL := fun x y z h => by
  unfold zAddL at h
  split at h
  · split at h
    · rename_i hl; cases h; exact rf_addL hl
    · cases h
  · cases h
theorem r_sub : ROp K T rSubA zSub := fun x y z h => by
  unfold zSub at h
  split at h
  · cases h; exact rv_sub
  · cases h
theorem r_mul : ROp K T rMulA zMul := fun x y z h => by
  unfold zMul at h
  split at h
  · split at h
    · rename_i hl; cases h; exact rv_mul (bits_ok hl)
    · cases h
  · cases h
theorem r_rep : ROpF K T rMulA zRep := fun x y z h => by
  unfold zRep at h
  split at h
  · split at h
    · rename_i hl
      simp only [Bool.and_eq_true, decide_eq_true_eq] at hl
      cases h
      exact rf_rep (by omega) (by omega) hl.2
    · cases h
  · cases h
theorem r_fd : ROp K T rFdA zFd := fun x y z h => by
  unfold zFd at h
  split at h
  · split at h
    · rename_i hl; cases h; exact rv_fd (fdOkS hl.1 hl.2)
    · cases h
  · cases h
theorem r_fdB : ROp K T rFdB zFdB := fun x y z h => by
  unfold zFdB at h
  split at h
  · split at h
    · rename_i hl; cases h; exact rv_fdB hl
    · cases h
  · cases h
theorem r_mod : ROp K T rModA zMod := fun x y z h => by
  unfold zMod at h
  split at h
  · split at h
    · rename_i hl; cases h; exact rv_mod hl
    · cases h
  · cases h
theorem r_pow : ROp K T rPowA zPow := fun x y z h => by
  unfold zPow at h
  split at h
  · split at h
    · rename_i hl; cases h; exact rv_pow (cpowOk hl)
    · cases h
  · cases h
theorem r_lt : ROp K T rLtA zLt := fun x y z h => by
  unfold zLt at h
  split at h
  · cases h; exact rv_lt
  · cases h
theorem r_le : ROp K T rLeA zLe := fun x y z h => by
  unfold zLe at h
  split at h
  · cases h; exact rv_le
  · cases h
theorem r_gt : ROp K T rGtA zGt := fun x y z h => by
  unfold zGt at h
  split at h
  · cases h; exact rv_gt
  · cases h
theorem r_ge : ROp K T rGeA zGe := fun x y z h => by
  unfold zGe at h
  split at h
  · cases h; exact rv_ge
  · cases h
theorem r_eq : ROp K T (rEqD K) zEq := fun x y z h => by
  unfold zEq at h
  split at h
  · rename_i hl; rw [Bool.and_eq_true] at hl; cases h; exact rv_eq hl.1 hl.2
  · cases h
theorem r_ne : ROp K T (rNeD K) zNe := fun x y z h => by
  unfold zNe at h
  split at h
  · rename_i hl; rw [Bool.and_eq_true] at hl; cases h; exact rv_ne hl.1 hl.2
  · cases h
theorem isNone_eq {y : PyData} (h : isNone y = true) : y = .none := by cases y <;> first | rfl | cases h
theorem r_isN : ROp K T rIsNA zIsN := fun x y z h => by
  unfold zIsN at h
  split at h
  · rename_i hl; cases h; cases isNone_eq hl; exact rv_isN
  · cases h
theorem r_notN : ROp K T rNotNA zNotN := fun x y z h => by
  unfold zNotN at h
  split at h
  · rename_i hl; cases h; cases isNone_eq hl; exact rv_notN
  · cases h
theorem r_ix : ROp K T (rIx K) zIx := fun x y z h => by
  unfold zIx at h
  split at h
  · exact rv_ixL h
  · exact rv_ixT h
  · split at h
    · rename_i s i hl
      cases h1 : atI s.cps.toList i with
      | none => rw [h1] at h; cases h
      | some c => rw [h1] at h; cases h; exact rv_ixS hl h1
    · cases h
  · cases h
theorem r_neg : RUn K T (rU fun i => .int (-i)) zNeg := fun x z h => by
  unfold zNeg at h
  split at h
  · cases h; exact ru_neg
  · cases h
theorem r_len : RCb K T (rLenA K) zLen := fun xs z h => by
  unfold zLen at h
  split at h
  · cases h; exact rc_lenL
  · cases h; exact rc_lenT
  · split at h
    · rename_i hl; cases h; exact rc_lenS hl
    · cases h
  · cases h
theorem r_abs : RCb K T rAbsA zAbs := fun xs z h => by
  unfold zAbs at h
  split at h
  · cases h; exact rc_abs
  · cases h
theorem r_int : RCb K T rIntA zInt := fun xs z h => by
  unfold zInt at h
  split at h
  · cases h; exact rc_intI
  · cases h; exact rc_intB
  · cases h
theorem r_list : RCbF K T (rListA K) zList := fun xs z h => by
  unfold zList at h
  split at h
  · cases h; exact rf_listL
  · cases h; exact rf_listT
  · cases h
theorem r_tuple : RCb K T (rTupleA K) zTuple := fun xs z h => by
  unfold zTuple at h
  split at h
  · cases h; exact rc_tupleL
  · cases h; exact rc_tupleT
  · cases h
theorem r_all : RCb K T (rAll K) zAll := fun xs z h => by
  unfold zAll at h
  split at h
  · rename_i ds
    cases h1 : allB ds with
    | none => rw [h1] at h; cases h
    | some bs => rw [h1, Option.bind_some] at h; cases h; rw [allB_eq h1]; exact rc_all
  · cases h
theorem r_any : RCb K T (rAny K) zAny := fun xs z h => by
  unfold zAny at h
  split at h
  · rename_i ds
    cases h1 : allB ds with
    | none => rw [h1] at h; cases h
    | some bs => rw [h1, Option.bind_some] at h; cases h; rw [allB_eq h1]; exact rc_any
  · cases h
theorem r_slL (x : PyData) (l h : Option Int) (z : List PyData) (e : zSlL x l h = some z) : RSF K T (rSlX K) x l h z := by
  unfold zSlL at e
  split at e
  · cases e; exact rf_slL
  · cases e
theorem r_slT (x : PyData) (l h : Option Int) (z : PyData) (e : zSlT x l h = some z) : RS K T (rSlX K) x l h z := by
  unfold zSlT at e
  split at e
  · cases e; exact rs_slT
  · cases e
end
/-! ### owned dicts -/
def keyD : PyData → Option Key
  | .int i => some (.inl i)
  | .str s => some (.inr s)
  | _ => none
def getD? (k : Key) : List (Key × PyData) → Option PyData
  | [] => none
  | e :: es => if e.1 = k then some e.2 else getD? k es
def putD (es : List (Key × PyData)) (k : Key) (d : PyData) : List (Key × PyData) :=
  if (es.any fun e => decide (e.1 = k)) = true then es.map (fun e => if e.1 = k then (e.1, d) else e) else es ++ [(k, d)]
def kDict (i : Nat) : MS := fun ρ => .nx (ρ.set i (.own (.dct [])))
def kDput (i : Nat) (mk mv : ME) : MS := fun ρ => match ownD ρ[i]? with
  | some es => kE mv (fun v => kE mk (fun k => match keyD k with | some k => if es.length < 1000000 then .nx (ρ.set i (.own (.dct (putD es k v)))) else .bad | none => .bad) ρ) ρ
  | none => .bad
def xDg (i : Nat) (mk : ME) : ME := fun ρ => (Rz.of (ownD ρ[i]?)).bind fun es => (mk ρ).bind fun k => (Rz.of (keyD k)).bind fun k => .of (getD? k es)
def xDin (mk : ME) (i : Nat) : ME := fun ρ => (mk ρ).bind fun k => (Rz.of (ownD ρ[i]?)).bind fun es => (Rz.of (keyD k)).bind fun k => .ok (.bool (getD? k es).isSome)
def xDnotin (mk : ME) (i : Nat) : ME := fun ρ => (mk ρ).bind fun k => (Rz.of (ownD ρ[i]?)).bind fun es => (Rz.of (keyD k)).bind fun k => .ok (.bool (!(getD? k es).isSome))
theorem dt_key {K : PySem.W.Frag} {H : Hp} {v : V} {d : PyData} {k : Key} (h : Dt K H v d) (e : keyD d = some k) : v = kV k := by
  cases h with
  | int i => cases e; rfl
  | str s => cases e; rfl
  | non => cases e
  | bl b => cases e
  | lst _ _ => cases e
  | tup _ _ => cases e
theorem dct_get {K : PySem.W.Frag} {H : Hp} {k : Key} : ∀ {kvs : List (Key × V)} {es : List (Key × PyData)}, kvs.map (·.1) = es.map (·.1) → DtAll K H (kvs.map (·.2)) (es.map (·.2)) →
    (∀ d, getD? k es = some d → ∃ v, valV kvs k = some v ∧ Dt K H v d) ∧ (getD? k es = none → valV kvs k = none)
  | [], [], _, _ => ⟨nofun, fun _ => rfl⟩
  | [], e :: es, h, _ => by cases h
  | v :: kvs, [], h, _ => by cases h
  | v :: kvs, e :: es, h, ha => by
    have h1 : v.1 = e.1 := (List.cons.inj h).1
    have h2 : kvs.map (·.1) = es.map (·.1) := (List.cons.inj h).2
    cases ha with
    | cons a b =>
      have ih := dct_get (k := k) h2 b
      unfold getD?
      by_cases z : e.1 = k
      · rw [if_pos z]
        exact ⟨fun d hd => ⟨v.2, valV_pos (h1.trans z), by cases hd; exact a⟩, nofun⟩
      · rw [if_neg z, valV_neg (fun q => z (h1 ▸ q))]
        exact ih
theorem any_key {k : Key} : ∀ {kvs : List (Key × V)} {es : List (Key × PyData)}, kvs.map (·.1) = es.map (·.1) → (kvs.any fun kv => decide (kv.1 = k)) = es.any fun e => decide (e.1 = k)
  | [], [], _ => rfl
  | [], e :: es, h => by cases h
  | v :: kvs, [], h => by cases h
  | v :: kvs, e :: es, h => by
    have h1 : v.1 = e.1 := (List.cons.inj h).1
    have h2 : kvs.map (·.1) = es.map (·.1) := (List.cons.inj h).2
    rw [List.any_cons, List.any_cons, any_key h2, h1]
theorem map_key {k : Key} {v : V} {d : PyData} : ∀ {kvs : List (Key × V)} {es : List (Key × PyData)}, kvs.map (·.1) = es.map (·.1) →
    (kvs.map fun kv => if kv.1 = k then (kv.1, v) else kv).map (·.1) = (es.map fun e => if e.1 = k then (e.1, d) else e).map (·.1) ∧
    ∀ {K : PySem.W.Frag} {H : Hp}, DtAll K H (kvs.map (·.2)) (es.map (·.2)) → Dt K H v d → DtAll K H ((kvs.map fun kv => if kv.1 = k then (kv.1, v) else kv).map (·.2)) ((es.map fun e => if e.1 = k then (e.1, d) else e).map (·.2))
  | [], [], _ => ⟨rfl, fun a _ => a⟩
  | [], e :: es, h => by cases h
  | u :: kvs, [], h => by cases h
  | u :: kvs, e :: es, h => by
    have h1 : u.1 = e.1 := (List.cons.inj h).1
    have h2 : kvs.map (·.1) = es.map (·.1) := (List.cons.inj h).2
    obtain ⟨i1, i2⟩ := map_key (k := k) (v := v) (d := d) h2
    by_cases z : e.1 = k
    · have z' : u.1 = k := h1.trans z
      simp only [List.map_cons, if_pos z, if_pos z']
      refine ⟨by rw [i1, h1], fun a b => ?_⟩
      cases a with
      | cons a1 a2 => exact .cons b (i2 a2 b)
    · have z' : ¬ u.1 = k := fun q => z (h1 ▸ q)
      simp only [List.map_cons, if_neg z, if_neg z']
      refine ⟨by rw [i1, h1], fun a b => ?_⟩
      cases a with
      | cons a1 a2 => exact .cons a1 (i2 a2 b)
theorem obd_put {K : PySem.W.Frag} {H : Hp} {k : Key} {v : V} {d : PyData} {kvs : List (Key × V)} {es : List (Key × PyData)} (h : kvs.map (·.1) = es.map (·.1)) (ha : DtAll K H (kvs.map (·.2)) (es.map (·.2))) (dv : Dt K H v d) : ObD K H (.dK (putK kvs k v)) (.dct (putD es k d)) := by
  unfold putK putD
  rw [any_key h]
  by_cases z : (es.any fun e => decide (e.1 = k)) = true
  · rw [if_pos z, if_pos z]
    exact .dct (map_key h).1 ((map_key h).2 ha dv)
  · rw [if_neg z, if_neg z]
    refine .dct (by simp [h]) ?_
    rw [List.map_append, List.map_append]
    exact ha.app (.cons dv .nil)
section
variable {K : PySem.W.Frag} {T : Tb} {W : WX} {fr : Bool} {i : Nat} {tk tv : TE} {mk mv : ME}
theorem sim_dict : SimS K T fr (tAsg tDNewK (gName i)) W (kDict i) := fun ρ H0 B C D p => fun σ H ⟨S, g⟩ => fun q hq =>
  p _ _ ⟨q :: S, g.mineO (.new hq) (.of hq) upd_same (.dct rfl .nil)⟩
theorem sim_dput (hk : SimE K T tk W mk) (hv : SimE K T tv W mv) : SimS K T fr (sDPut (tVar i) tk tv) W (kDput i mk mv) := fun ρ H0 B C D p => by
  have a := hv ρ
  have b := hk ρ
  unfold kDput kE at p
  cases h0 : ownD ρ[i]? with
  | none => rw [h0] at p; exact p.elim
  | some es =>
    rw [h0] at p
    have ho := ownD_eq h0
    cases h1 : mv ρ with
    | bad => rw [h1] at p; exact p.elim
    | ex x => rw [h1] at p a; exact tri_ex (fun σ H S g hQ => a H0 B C H S σ g _ hQ) p
    | ok d =>
      rw [h1] at p a
      simp only at p
      cases h2 : mk ρ with
      | bad => rw [h2] at p; exact p.elim
      | ex x =>
        rw [h2] at p b
        refine tri_ex (fun σ H S g hQ => a H0 B C H S σ g _ fun v H1 e1 d1 => ?_) p
        obtain ⟨q, u, a1, a2, a3, a4, a5⟩ := (g.ex e1).own i _ ho
        exact ⟨.ref q, a1, b H0 B C H1 S σ (g.ex e1) _ fun d H2 e2 xd => hQ d H2 (e1.trans e2) xd⟩
      | ok e =>
        rw [h2] at p b
        simp only at p
        cases h3 : keyD e with
        | none => rw [h3] at p; exact p.elim
        | some k =>
          rw [h3] at p
          simp only at p
          by_cases hl : es.length < 1000000
          · rw [if_pos hl] at p
            exact fun σ H ⟨S, g⟩ => a H0 B C H S σ g _ fun v H1 e1 d1 => by
              obtain ⟨q, u, a1, a2, a3, a4, a5⟩ := (g.ex e1).own i _ ho
              refine ⟨.ref q, a1, b H0 B C H1 S σ (g.ex e1) _ fun y H2 e2 d2 => ?_⟩
              cases a5 with
              | @dct kvs _ b1 b2 =>
                have hl2 : kvs.length = es.length := by have := congrArg List.length b1; simpa using this
                have h4 : H2 q = some (.dK kvs) := e2.kp q _ a4 rfl
                refine ⟨q, _, rfl, by rw [dt_key d2 h3]; exact DPut.k (k := k) h4 (by rw [hl2]; exact Nat.lt_trans hl (by decide)), ?_⟩
                exact p _ _ ⟨S, ((g.ex e1).ex e2).writeO ho a1 h4 (obd_put b1 (b2.kp (e2.kp.hide S)) (d1.kp (e2.kp.hide S)))⟩
          · rw [if_neg hl] at p; exact p.elim
theorem sim_dg (hk : SimE K T tk W mk) : SimE K T (tDGet (tVar i) tk) W (xDg i mk) := fun ρ => by
  have b := hk ρ
  unfold xDg
  cases h0 : ownD ρ[i]? with
  | none => exact True.intro
  | some es =>
    have ho := ownD_eq h0
    show EzE K T _ ρ W ((mk ρ).bind _)
    cases h2 : mk ρ with
    | bad => exact True.intro
    | ex x =>
      rw [h2] at b
      exact fun H0 B C H S σ g Q hQ => by
        obtain ⟨q, u, a1, a2, a3, a4, a5⟩ := g.own i _ ho
        exact ⟨.ref q, a1, b H0 B C H S σ g _ hQ⟩
    | ok e =>
      rw [h2] at b
      show EzE K T _ ρ W ((Rz.of (keyD e)).bind _)
      cases h3 : keyD e with
      | none => exact True.intro
      | some k =>
        show EzE K T _ ρ W (Rz.of (getD? k es))
        cases h4 : getD? k es with
        | none => exact True.intro
        | some d =>
          exact fun H0 B C H S σ g Q hQ => by
            obtain ⟨q, u, a1, a2, a3, a4, a5⟩ := g.own i _ ho
            refine ⟨.ref q, a1, b H0 B C H S σ g _ fun y H2 e2 d2 => ?_⟩
            cases a5 with
            | @dct kvs _ b1 b2 =>
              obtain ⟨v, hv, dv⟩ := (dct_get (k := k) b1 b2).1 d h4
              refine ⟨q, v, rfl, ?_, hQ v H2 e2 (dv.kp (e2.kp.hide S))⟩
              rw [dt_key d2 h3, ← hv]
              exact DGet.k (e2.kp q _ a4 rfl)
theorem dct_some {es : List (Key × PyData)} {kvs : List (Key × V)} {k : Key} {H : Hp} (b1 : kvs.map (·.1) = es.map (·.1)) (b2 : DtAll K H (kvs.map (·.2)) (es.map (·.2))) : (valV kvs k).isSome = (getD? k es).isSome := by
  obtain ⟨h1, h2⟩ := dct_get (k := k) b1 b2
  cases h : getD? k es with
  | none => rw [h2 h]; rfl
  | some d => obtain ⟨v, hv, _⟩ := h1 d h; rw [hv]; rfl
theorem sim_din (hk : SimE K T tk W mk) : SimE K T (tDIn tk (tVar i)) W (xDin mk i) := fun ρ => by
  have b := hk ρ
  unfold xDin
  cases h2 : mk ρ with
  | bad => exact True.intro
  | ex x => rw [h2] at b; exact fun H0 B C H S σ g Q hQ => b H0 B C H S σ g _ hQ
  | ok e =>
    rw [h2] at b
    show EzE K T _ ρ W ((Rz.of (ownD ρ[i]?)).bind _)
    cases h0 : ownD ρ[i]? with
    | none => exact True.intro
    | some es =>
      have ho := ownD_eq h0
      show EzE K T _ ρ W ((Rz.of (keyD e)).bind _)
      cases h3 : keyD e with
      | none => exact True.intro
      | some k =>
        exact fun H0 B C H S σ g Q hQ => b H0 B C H S σ g _ fun y H2 e2 d2 => by
          obtain ⟨q, u, a1, a2, a3, a4, a5⟩ := (g.ex e2).own i _ ho
          cases a5 with
          | @dct kvs _ b1 b2 =>
            refine ⟨.ref q, a1, q, valV kvs k, rfl, by rw [dt_key d2 h3]; exact DGet.k a4, ?_⟩
            rw [dct_some b1 b2]
            exact hQ _ H2 e2 (.bl _)
theorem sim_dnotin (hk : SimE K T tk W mk) : SimE K T (tDNotIn tk (tVar i)) W (xDnotin mk i) := fun ρ => by
  have b := hk ρ
  unfold xDnotin
  cases h2 : mk ρ with
  | bad => exact True.intro
  | ex x => rw [h2] at b; exact fun H0 B C H S σ g Q hQ => b H0 B C H S σ g _ hQ
  | ok e =>
    rw [h2] at b
    show EzE K T _ ρ W ((Rz.of (ownD ρ[i]?)).bind _)
    cases h0 : ownD ρ[i]? with
    | none => exact True.intro
    | some es =>
      have ho := ownD_eq h0
      show EzE K T _ ρ W ((Rz.of (keyD e)).bind _)
      cases h3 : keyD e with
      | none => exact True.intro
      | some k =>
        exact fun H0 B C H S σ g Q hQ => b H0 B C H S σ g _ fun y H2 e2 d2 => by
          obtain ⟨q, u, a1, a2, a3, a4, a5⟩ := (g.ex e2).own i _ ho
          cases a5 with
          | @dct kvs _ b1 b2 =>
            refine ⟨.ref q, a1, q, valV kvs k, rfl, by rw [dt_key d2 h3]; exact DGet.k a4, ?_⟩
            rw [dct_some b1 b2]
            exact hQ _ H2 e2 (.bl _)
end
end Lw

set_option Elab.async false
set_option linter.all false
set_option maxRecDepth 100000
set_option maxHeartbeats 4000000
set_option autoImplicit false
/-! Lw, part L: further operations, calls by keywords. -/
namespace Lw
open PySem L2 LwZ
def zAddV (x y : PyData) : Option PyData := match zAdd x y with
  | some z => some z
  | none => (zAddL x y).map .list
def zMulV (x y : PyData) : Option PyData := match zMul x y with
  | some z => some z
  | none => (zRep x y).map .list
def zSlV (x : PyData) (l h : Option Int) : Option PyData := match zSlT x l h with
  | some z => some z
  | none => (zSlL x l h).map .list
def zListV (xs : List PyData) : Option PyData := (zList xs).map .list
def flatD : PyData → Bool
  | .none => true
  | .bool _ => true
  | .int _ => true
  | .str _ => true
  | _ => false
def zIn (x y : PyData) : Option PyData := (seqOf y).bind fun ds => if flatD x && ds.all flatD then some (.bool (ds.any fun z => PyData.eqv z x)) else none
def zNotIn (x y : PyData) : Option PyData := (seqOf y).bind fun ds => if flatD x && ds.all flatD then some (.bool (!ds.any fun z => PyData.eqv z x)) else none
section
variable {K : PySem.W.Frag} {T : Tb}
theorem r_addV : ROp K T (rAddA K) zAddV := fun x y z h => by
  unfold zAddV at h
  cases h1 : zAdd x y with
  | some w => rw [h1] at h; cases h; exact r_add x y _ h1
  | none =>
    rw [h1] at h
    cases h2 : zAddL x y with
    | none => rw [h2] at h; cases h
    | some ds => rw [h2] at h; cases h; exact (r_addL x y ds h2).rv
theorem r_mulV : ROp K T rMulA zMulV := fun x y z h => by
  unfold zMulV at h
  cases h1 : zMul x y with
  | some w => rw [h1] at h; cases h; exact r_mul x y _ h1
  | none =>
    rw [h1] at h
    cases h2 : zRep x y with
    | none => rw [h2] at h; cases h
    | some ds => rw [h2] at h; cases h; exact (r_rep x y ds h2).rv
theorem r_slV (x : PyData) (l h : Option Int) (z : PyData) (e : zSlV x l h = some z) : RS K T (rSlX K) x l h z := by
  unfold zSlV at e
  cases h1 : zSlT x l h with
  | some w => rw [h1] at e; cases e; exact r_slT x l h _ h1
  | none =>
    rw [h1] at e
    cases h2 : zSlL x l h with
    | none => rw [h2] at e; cases e
    | some ds => rw [h2] at e; cases e; exact (r_slL x l h ds h2).rs
theorem r_listV : RCb K T (rListA K) zListV := fun xs z h => by
  unfold zListV at h
  cases h2 : zList xs with
  | none => rw [h2] at h; cases h
  | some ds => rw [h2] at h; cases h; exact (r_list xs ds h2).rc
theorem flat_v {H : Hp} {v : V} {d : PyData} (h : Dt K H v d) (f : flatD d = true) : flatV v = true := by
  cases h <;> first | rfl | cases f
theorem eqv_v {H : Hp} {v u : V} {d e : PyData} (h : Dt K H v d) (h' : Dt K H u e) (f : flatD d = true) (f' : flatD e = true) : eqV v u = PyData.eqv d e := by
  cases h <;> cases h' <;> first | cases f; done | cases f'; done | (simp [eqV, PyData.eqv])
theorem in_v {H : Hp} {v : V} {d : PyData} (h : Dt K H v d) (f : flatD d = true) : ∀ {vs : List V} {ds : List PyData}, DtAll K H vs ds → ds.all flatD = true → vs.all flatV = true ∧ inV v vs = ds.any fun z => PyData.eqv z d
  | [], [], _, _ => ⟨rfl, rfl⟩
  | [], d :: ds, h, _ => by cases h
  | v :: vs, [], h, _ => by cases h
  | w :: vs, e :: ds, h2, fa => by
    cases h2 with
    | cons a b =>
      rw [List.all_cons, Bool.and_eq_true] at fa
      obtain ⟨i1, i2⟩ := in_v h f b fa.2
      unfold inV at i2 ⊢
      rw [List.all_cons, List.any_cons, List.any_cons, i2, eqv_v a h fa.1 f, flat_v a fa.1, i1]
      exact ⟨rfl, rfl⟩
theorem r_in : ROp K T (rIn K false) zIn := fun x y z h => fun H S v u l dv du Q hQ => by
  unfold zIn at h
  cases h1 : seqOf y with
  | none => rw [h1] at h; cases h
  | some ds =>
    rw [h1, Option.bind_some] at h
    split at h
    · rename_i hf
      rw [Bool.and_eq_true] at hf
      cases h
      cases seqOf_eq h1 with
      | lst _ =>
        cases du with
        | lst h3 a3 =>
          obtain ⟨q1, q2⟩ := in_v dv hf.1 a3 hf.2
          exact ⟨_, _, rfl, .inl (SqL.of (hide_get h3)), flat_v dv hf.1, q1, by rw [q2]; exact hQ _ H (.refl T H) (.bl _)⟩
      | tup _ =>
        cases du with
        | tup h3 a3 =>
          obtain ⟨q1, q2⟩ := in_v dv hf.1 a3 hf.2
          exact ⟨_, _, rfl, .inr (sqt_hide h3), flat_v dv hf.1, q1, by rw [q2]; exact hQ _ H (.refl T H) (.bl _)⟩
    · cases h
theorem r_notIn : ROp K T (rIn K true) zNotIn := fun x y z h => fun H S v u l dv du Q hQ => by
  unfold zNotIn at h
  cases h1 : seqOf y with
  | none => rw [h1] at h; cases h
  | some ds =>
    rw [h1, Option.bind_some] at h
    split at h
    · rename_i hf
      rw [Bool.and_eq_true] at hf
      cases h
      cases seqOf_eq h1 with
      | lst _ =>
        cases du with
        | lst h3 a3 =>
          obtain ⟨q1, q2⟩ := in_v dv hf.1 a3 hf.2
          exact ⟨_, _, rfl, .inl (SqL.of (hide_get h3)), flat_v dv hf.1, q1, by rw [q2]; exact hQ _ H (.refl T H) (.bl _)⟩
      | tup _ =>
        cases du with
        | tup h3 a3 =>
          obtain ⟨q1, q2⟩ := in_v dv hf.1 a3 hf.2
          exact ⟨_, _, rfl, .inr (sqt_hide h3), flat_v dv hf.1, q1, by rw [q2]; exact hQ _ H (.refl T H) (.bl _)⟩
    · cases h
end
/-! ### calls by keywords -/
structure CalK (P : Program) (w : World) (K : PySem.W.Frag) (mg : Str → Option Value) (base : Heap) (k : Nat) (x : Str) (ps : List Str) (n : Nat) (ks : List Str) (gV : List V → List V → List V) (sp : Sp) : Prop where
  ex : ∃ (f : Addr) (fd : FuncData) (g : List Value → List Value → List Value), FnOk P w K mg base (L2N.CX P w) k f fd ps sp ∧ mg x = some (.ref f) ∧ PySem.W.keepIn K (.ref f) = true ∧ KBn K fd ps n ks g gV
def tCallNS (n m : Nat) (sp : Sp) (gV : List V → List V → List V) (E : St → XK) (t tk : TA) : TE := fun σ H Q => t σ H fun vs H1 => tk σ H1 fun zs H2 => vs.length = n ∧ zs.length = m ∧ sp (gV vs zs) H2 Q (E σ)
structure CalKc (P : Program) (w : World) (K : PySem.W.Frag) (mg : Str → Option Value) (base : Heap) (k : Nat) (x : Str) (ps : List Str) (n : Nat) (ks : List Str) (gV : List V → List V → List V) (sp : Sp) : Prop where
  ex : ∃ (f : Addr) (fd : FuncData) (g : List Value → List Value → List Value), FnOk P w K mg base CX0 k f fd ps sp ∧ mg x = some (.ref f) ∧ PySem.W.keepIn K (.ref f) = true ∧ KBn K fd ps n ks g gV
section
variable {X : Cx} {k j n : Nat} {ps ks : List Str} {sp : Sp} {W : WX} {x : Str} {p pos : Pos} {e : Expr} {es : List Expr} {kws : List Keyword} {t tk : TA} {gV : List V → List V → List V}
theorem pe_callNX (c : CalK X.prog X.w X.K X.mg X.base k x ps n ks gV sp) (tko : L2N.Takes X W) (hr : Room j X.A) (hg : Gl X x) (ha : PA X (e :: es) t) (hkw : PK X kws tk) (hk : k ≤ j := by decide)
    (hall : (backToKw pos (keywordEach kws X.env)).all (·.1.isSome) = true := by rfl) (hks : (backToKw pos (keywordEach kws X.env)).filterMap (·.1) = ks := by rfl)
    (hdb : (x == ("__debug__" : Str)) = false := by decide) (he : starEach (e :: es) X.env = (false, eval e X.env) :: starEach es X.env := by rfl)
    (hpl : ((backTo pos (starEach (e :: es) X.env)).any (·.1) || (backToKw pos (keywordEach kws X.env)).any (·.1.isNone)) = false := by rfl) :
    PE X (.Call (.Name x p) (e :: es) kws pos) (tCallNS n ks.length sp gV (WE W) t tk) := by
  obtain ⟨f, fd, g, F, hm, hkp, hb⟩ := c.ex
  refine ⟨fun pins s σ H Q I h => ?_⟩
  refine wpAny_Call_Name_kw (ld_glob I hg hm ?_ hdb)
  refine PySem.W.callWith_KW (h₀ := X.base) I.ok.mod.kin hkp hall (thn (ha.run pos pins s σ H _ I h) fun us s1 ⟨vs, H1, I1, r, q⟩ => ?_) hpl he
  refine thn (hkw.run pos pins s1 σ H1 _ I1 q) fun ws s2 ⟨zs, H2, I2, rz, l1, l2, q2⟩ => ⟨I2.kIn, ?_⟩
  rw [hks]
  have r2 := hb.rel r rz
  refine wpAny_call (codeAny_mono (F.run X.A X.stack s2 H2 ⟨us, ks.zip ws⟩ (g us ws) (gV vs zs) Q (WE W σ) (hr.mono hk) I2.env0 (hb.to s2 us ws I2.kIn (r.length.symm.trans l1) (rz.length.symm.trans l2)) r2 q2) fun r s' hq => ?_)
  cases r with
  | error e => exact L2N.passAt tko σ pins H2 s2 e s' I2 hq
  | ok fl =>
    cases fl with
    | ret u => exact I2.after hq
    | next => exact False.elim hq
    | brk => exact False.elim hq
    | cont => exact False.elim hq
theorem pe_callNC (c : CalKc X.prog X.w X.K X.mg X.base k x ps n ks gV sp) (hr : Room j X.A) (hg : Gl X x) (ha : PA X (e :: es) t) (hkw : PK X kws tk) (hk : k ≤ j := by decide)
    (hall : (backToKw pos (keywordEach kws X.env)).all (·.1.isSome) = true := by rfl) (hks : (backToKw pos (keywordEach kws X.env)).filterMap (·.1) = ks := by rfl)
    (hdb : (x == ("__debug__" : Str)) = false := by decide) (he : starEach (e :: es) X.env = (false, eval e X.env) :: starEach es X.env := by rfl)
    (hpl : ((backTo pos (starEach (e :: es) X.env)).any (·.1) || (backToKw pos (keywordEach kws X.env)).any (·.1.isNone)) = false := by rfl) :
    PE X (.Call (.Name x p) (e :: es) kws pos) (tCallN n ks.length sp gV E0 t tk) := by
  obtain ⟨f, fd, g, F, hm, hkp, hb⟩ := c.ex
  exact pe_callN F (hr.mono hk) hg hm hkp hb pass0 ha hkw hall hks hdb he hpl
end
section
variable {P : Program} {w : World} {K : PySem.W.Frag} {T : Tb} {mg : Str → Option Value} {base : Heap}
theorem CalK.calmZ {k n : Nat} {x : Str} {ps ks : List Str} {gV : List V → List V → List V} {fr : Bool} {F : List PyData → Rz PyData} (c : CalK P w K mg base k x ps n ks gV (spZ K T fr F)) :
    CalKc P w K mg base k x ps n ks gV (spZ K T fr fun ds => (F ds).calm) := by
  have key : ∀ {vs : List V} {H : Hp} {Q : VK} {E : XK}, spZ K T fr (fun ds => (F ds).calm) vs H Q E → spZ K T fr F vs H Q (fun _ _ _ => False) := fun {vs H Q E} h => by
    obtain ⟨ds, S, l, hd, hR⟩ := h
    refine ⟨ds, S, l, hd, ?_⟩
    cases hf : F ds with
    | ok r => simp only [hf] at hR; exact hR
    | ex x => simp only [hf] at hR; exact hR.elim
    | bad => simp only [hf] at hR; exact hR.elim
  obtain ⟨f, fd, ds, G, m, kp, b⟩ := c.ex
  refine ⟨f, fd, ds, ⟨fun vs H Q E h => ?_, fun A outer s H args us vs Q E hr e0 hb hv h => ?_⟩, m, kp, b⟩
  · exact G.len vs H Q (fun _ _ _ => False) (key h)
  · refine codeAny_mono (G.run A outer s H args us vs Q (fun _ _ _ => False) hr e0 hb hv (key h)) fun o s' h' => ?_
    cases o with
    | error e =>
      obtain ⟨_, _, _, _, _, _, _, _, _, _, _, _, z⟩ := h'
      exact z.elim
    | ok fl => cases fl <;> exact h'
end
/-- arguments and keywords to the parameters' order -/
def zKw (n m : Nat) (gD : List PyData → List PyData → List PyData) (a k : MA) : MA := fun ρ => (a ρ).bind fun ds => (k ρ).bind fun es => if ds.length = n ∧ es.length = m then .ok (gD ds es) else .bad
section
variable {K : PySem.W.Frag} {T : Tb} {W : WX} {ta tk : TA} {ma mk : MA} {F : List PyData → Rz PyData} {n m : Nat} {gV : List V → List V → List V} {gD : List PyData → List PyData → List PyData}
theorem sim_callK {fr : Bool} (hg : ∀ {H : Hp} {vs zs : List V} {ds es : List PyData}, ds.length = n → es.length = m → DtAll K H vs ds → DtAll K H zs es → DtAll K H (gV vs zs) (gD ds es)) (h : SimA K T ta W ma) (h' : SimA K T tk W mk) :
    SimE K T (tCallNS n m (spZ K T fr F) gV (WE W) ta tk) W (xF F (zKw n m gD ma mk)) := fun ρ => by
  have a := h ρ
  have b := h' ρ
  unfold xF zKw
  cases h1 : ma ρ with
  | bad => exact True.intro
  | ex x => rw [h1] at a; exact fun H0 B C H S σ g Q hQ => a H0 B C H S σ g _ hQ
  | ok ds =>
    rw [h1] at a
    cases h2 : mk ρ with
    | bad => exact True.intro
    | ex x => rw [h2] at b; exact fun H0 B C H S σ g Q hQ => a H0 B C H S σ g _ fun vs H1 e1 d1 => b H0 B C H1 S σ (g.ex e1) _ fun d H2 e2 xd => hQ d H2 (e1.trans e2) xd
    | ok es =>
      rw [h2] at b
      show EzE K T _ ρ W ((if ds.length = n ∧ es.length = m then Rz.ok (gD ds es) else .bad).bind F)
      by_cases hl : ds.length = n ∧ es.length = m
      · rw [if_pos hl]
        show EzE K T _ ρ W (F (gD ds es))
        have pre : ∀ {H0 B : Hp} {C : List Addr} {H : Hp} {S : List Addr} {σ : St} {Q : VK}, Gd K T H0 B C H S σ ρ → (∀ vs H2, Ext T H H2 → DtAll K (hide H2 S) vs (gD ds es) → LsT T H2 S → spZ K T fr F vs H2 Q (WE W σ)) → tCallNS n m (spZ K T fr F) gV (WE W) ta tk σ H Q := fun {H0 B C H S σ Q} g hq =>
          a H0 B C H S σ g _ fun vs H1 e1 d1 => b H0 B C H1 S σ (g.ex e1) _ fun zs H2 e2 d2 => ⟨d1.len.trans hl.1, d2.len.trans hl.2, hq _ H2 (e1.trans e2) (hg hl.1 hl.2 (d1.kp (e2.kp.hide S)) d2) (g.lsT (e1.trans e2))⟩
        cases h3 : F (gD ds es) with
        | bad => exact True.intro
        | ex x => exact fun H0 B C H S σ g Q hQ => pre g fun vs H1 e1 d1 l1 => ⟨_, S, l1, d1, by rw [h3]; exact fun d H' e2 xd => hQ d H' (e1.trans e2) xd⟩
        | ok r =>
          exact fun H0 B C H S σ g Q hQ => pre g fun vs H1 e1 d1 l1 => ⟨_, S, l1, d1, by
            rw [h3]
            cases fr with
            | false => exact fun v H2 e2 d2 => hQ v H2 (e1.trans e2) d2
            | true =>
              cases r with
              | list rs => exact fun p xs H' e2 hp h3 ha => hQ _ H' (e1.trans e2) (.lst (hide_some.mpr ⟨l1.not hp, h3, rfl⟩) (ha.kp (hide_sub fun a m => List.mem_cons_of_mem _ m)))
              | none => exact fun v H2 e2 d2 => hQ v H2 (e1.trans e2) d2
              | bool b => exact fun v H2 e2 d2 => hQ v H2 (e1.trans e2) d2
              | int b => exact fun v H2 e2 d2 => hQ v H2 (e1.trans e2) d2
              | str b => exact fun v H2 e2 d2 => hQ v H2 (e1.trans e2) d2
              | tuple b => exact fun v H2 e2 d2 => hQ v H2 (e1.trans e2) d2
              | dict b => exact fun v H2 e2 d2 => hQ v H2 (e1.trans e2) d2⟩
      · rw [if_neg hl]; exact True.intro
theorem sim_callKC {fr : Bool} {E : XK} (hg : ∀ {H : Hp} {vs zs : List V} {ds es : List PyData}, ds.length = n → es.length = m → DtAll K H vs ds → DtAll K H zs es → DtAll K H (gV vs zs) (gD ds es)) (h : SimA K T ta W ma) (h' : SimA K T tk W mk) :
    SimE K T (tCallN n m (spZ K T fr fun ds => (F ds).calm) gV E ta tk) W (xFc F (zKw n m gD ma mk)) := fun ρ => by
  have a := h ρ
  have b := h' ρ
  unfold xFc zKw
  cases h1 : ma ρ with
  | bad => exact True.intro
  | ex x => rw [h1] at a; exact fun H0 B C H S σ g Q hQ => a H0 B C H S σ g _ hQ
  | ok ds =>
    rw [h1] at a
    cases h2 : mk ρ with
    | bad => exact True.intro
    | ex x => rw [h2] at b; exact fun H0 B C H S σ g Q hQ => a H0 B C H S σ g _ fun vs H1 e1 d1 => b H0 B C H1 S σ (g.ex e1) _ fun d H2 e2 xd => hQ d H2 (e1.trans e2) xd
    | ok es =>
      rw [h2] at b
      show EzE K T _ ρ W ((if ds.length = n ∧ es.length = m then Rz.ok (gD ds es) else .bad).bind fun ds => (F ds).calm)
      by_cases hl : ds.length = n ∧ es.length = m
      · rw [if_pos hl]
        show EzE K T _ ρ W (F (gD ds es)).calm
        cases h3 : F (gD ds es) with
        | bad => exact True.intro
        | ex x => exact True.intro
        | ok r =>
          exact fun H0 B C H S σ g Q hQ => a H0 B C H S σ g _ fun vs H1 e1 d1 => b H0 B C H1 S σ (g.ex e1) _ fun zs H2 e2 d2 => ⟨d1.len.trans hl.1, d2.len.trans hl.2, _, S, g.lsT (e1.trans e2), hg hl.1 hl.2 (d1.kp (e2.kp.hide S)) d2, by
            have l1 := (g.lst.kp e1.kp).kp e2.kp
            have e1 := e1.trans e2
            simp only [h3]
            cases fr with
            | false => exact fun v H2 e2 d2 => hQ v H2 (e1.trans e2) d2
            | true =>
              cases r with
              | list rs => exact fun p xs H' e2 hp h3 ha => hQ _ H' (e1.trans e2) (.lst (hide_some.mpr ⟨l1.not hp, h3, rfl⟩) (ha.kp (hide_sub fun a m => List.mem_cons_of_mem _ m)))
              | none => exact fun v H2 e2 d2 => hQ v H2 (e1.trans e2) d2
              | bool b => exact fun v H2 e2 d2 => hQ v H2 (e1.trans e2) d2
              | int b => exact fun v H2 e2 d2 => hQ v H2 (e1.trans e2) d2
              | str b => exact fun v H2 e2 d2 => hQ v H2 (e1.trans e2) d2
              | tuple b => exact fun v H2 e2 d2 => hQ v H2 (e1.trans e2) d2
              | dict b => exact fun v H2 e2 d2 => hQ v H2 (e1.trans e2) d2⟩
      · rw [if_neg hl]; exact True.intro
end
end Lw

set_option Elab.async false
set_option linter.all false
set_option maxRecDepth 100000
set_option maxHeartbeats 4000000
set_option autoImplicit false
/-! Lw, part N: the order of arguments; calls without defaults. -/
namespace Lw
open PySem L2 LwZ
inductive Arg where
  | p (i : Nat)
  | k (j : Nat)
  | d (j : Nat)
def Arg.get {α : Type} (us mv ws : List α) : Arg → Option α
  | .p i => us[i]?
  | .k j => ws[j]?
  | .d j => mv[j]?
def sel {α : Type} (o : List Arg) (us mv ws : List α) : List α := o.filterMap (Arg.get us mv ws)
theorem dtAll_iff {K : PySem.W.Frag} {H : Hp} {vs : List V} {ds : List PyData} (h : DtAll K H vs ds) (i : Nat) : (vs[i]? = none ∧ ds[i]? = none) ∨ ∃ v d, vs[i]? = some v ∧ ds[i]? = some d ∧ Dt K H v d := by
  cases e : ds[i]? with
  | none =>
    refine .inl ⟨?_, rfl⟩
    rw [List.getElem?_eq_none_iff] at e ⊢
    rw [h.len]; exact e
  | some d =>
    obtain ⟨v, hv, dv⟩ := h.get e
    exact .inr ⟨v, d, hv, rfl, dv⟩
theorem sel_dt {K : PySem.W.Frag} {H : Hp} {vs mz zs : List V} {ds ms es : List PyData} (h1 : DtAll K H vs ds) (h2 : DtAll K H mz ms) (h3 : DtAll K H zs es) : ∀ o : List Arg, DtAll K H (sel o vs mz zs) (sel o ds ms es)
  | [] => .nil
  | a :: o => by
    have ih := sel_dt h1 h2 h3 o
    have key : (Arg.get vs mz zs a = none ∧ Arg.get ds ms es a = none) ∨ ∃ v d, Arg.get vs mz zs a = some v ∧ Arg.get ds ms es a = some d ∧ Dt K H v d := by
      cases a with
      | p i => exact dtAll_iff h1 i
      | k i => exact dtAll_iff h3 i
      | d i => exact dtAll_iff h2 i
    unfold sel at ih ⊢
    rw [List.filterMap_cons, List.filterMap_cons]
    rcases key with ⟨a1, a2⟩ | ⟨v, d, a1, a2, a3⟩
    · rw [a1, a2]; exact ih
    · rw [a1, a2]; exact .cons a3 ih
theorem vals_iff {vs : List V} {us : List Value} (h : Vals vs us) (i : Nat) : (vs[i]? = none ∧ us[i]? = none) ∨ ∃ v u, vs[i]? = some v ∧ us[i]? = some u ∧ RelV v u := by
  induction h generalizing i with
  | nil => exact .inl ⟨rfl, rfl⟩
  | cons r t ih =>
    cases i with
    | zero => exact .inr ⟨_, _, rfl, rfl, r⟩
    | succ i => exact ih i
theorem sel_vals {vs mz zs : List V} {us mv ws : List Value} (h1 : Vals vs us) (h2 : Vals mz mv) (h3 : Vals zs ws) : ∀ o : List Arg, Vals (sel o vs mz zs) (sel o us mv ws)
  | [] => .nil
  | a :: o => by
    have ih := sel_vals h1 h2 h3 o
    have key : (Arg.get vs mz zs a = none ∧ Arg.get us mv ws a = none) ∨ ∃ v d, Arg.get vs mz zs a = some v ∧ Arg.get us mv ws a = some d ∧ RelV v d := by
      cases a with
      | p i => exact vals_iff h1 i
      | k i => exact vals_iff h3 i
      | d i => exact vals_iff h2 i
    unfold sel at ih ⊢
    rw [List.filterMap_cons, List.filterMap_cons]
    rcases key with ⟨a1, a2⟩ | ⟨v, d, a1, a2, a3⟩
    · rw [a1, a2]; exact ih
    · rw [a1, a2]; exact .cons a3 ih
section
variable {K : PySem.W.Frag} {x qual : Str} {params : Arguments} {body : List Stmt} {scope : Scope} {kws : List (Str × V)} {f : Addr} {fd : FuncData} {ps : List Str}
theorem kb_none (F : FunD K x qual params body scope [] kws f fd) (n : Nat) (ks : List Str) (o : List Arg)
    (h : ∀ (kV doc pm : Value) (an : Option Addr) (cdv ct : Value) (us ws : List Value), us.length = n → ws.length = ks.length → bindArgs (PySem.W.fnOf x qual params body scope .none kV doc pm an cdv ct) ⟨us, ks.zip ws⟩ = pure (ps.zip (sel o us [] ws))) :
    KBn K fd ps n ks (fun us ws => sel o us [] ws) (fun vs zs => sel o vs [] zs) := by
  obtain ⟨oc, od, dV, kV, doc, pm, an, cdv, ct, osl, rfl, lk, hcd, hD, hK⟩ := F.ex
  rcases hD with ⟨_, rfl⟩ | ⟨e, _⟩
  · exact ⟨fun s us ws X l1 l2 => .of_eq (h kV doc pm an cdv ct us ws l1 l2), fun r1 r2 => sel_vals r1 .nil r2 o⟩
  · exact absurd rfl e
theorem kb_some (F : FunD K x qual params body scope [] kws f fd) (n : Nat) (ks : List Str) (ms : List (Str × V)) (o : List Arg) (hk : kws ≠ []) (hms : ∀ q ∈ ms, q ∈ kws)
    (h : ∀ (D : Addr) (doc pm : Value) (an : Option Addr) (cdv ct : Value) (us mv ws : List Value), us.length = n → mv.length = ms.length → ws.length = ks.length →
      KwChain D ((ms.map (·.1)).zip mv) (bindArgs (PySem.W.fnOf x qual params body scope .none (.ref D) doc pm an cdv ct) ⟨us, ks.zip ws⟩) (ps.zip (sel o us mv ws))) :
    ∃ g, KBn K fd ps n ks g (fun vs zs => sel o vs (ms.map (·.2)) zs) := by
  obtain ⟨mv, h⟩ := F.kbinds0 n ks ms (fun {α} us mv ws => sel o us mv ws) hk hms (fun a b c => sel_vals a b c o) h
  exact ⟨_, h⟩
end
theorem calK_mk {P : Program} {w : World} {K : PySem.W.Frag} {mg : Str → Option Value} {base : Heap} {k n : Nat} {x : Str} {ps ks : List Str} {sp : Sp} {f : Addr} {fd : FuncData} {gV : List V → List V → List V}
    (G : FnOk P w K mg base (L2N.CX P w) k f fd ps sp) (m : mg x = some (.ref f)) (kp : PySem.W.keepIn K (.ref f) = true) (b : ∃ g, KBn K fd ps n ks g gV) : CalK P w K mg base k x ps n ks gV sp := let ⟨g, b⟩ := b; ⟨f, fd, g, G, m, kp, b⟩
section
variable {K : PySem.W.Frag} {T : Tb} {W : WX} {ta tk : TA} {ma mk : MA} {F : List PyData → Rz PyData} {n m : Nat} {o : List Arg} {mz : List V} {ms : List PyData} {fr : Bool}
theorem sim_callS (hd : ∀ H, DtAll K H mz ms) (h : SimA K T ta W ma) (h' : SimA K T tk W mk) : SimE K T (tCallNS n m (spZ K T fr F) (fun vs zs => sel o vs mz zs) (WE W) ta tk) W (xF F (zKw n m (fun ds es => sel o ds ms es) ma mk)) :=
  sim_callK (fun _ _ a b => sel_dt a (hd _) b o) h h'
theorem sim_callSC {E : XK} (hd : ∀ H, DtAll K H mz ms) (h : SimA K T ta W ma) (h' : SimA K T tk W mk) : SimE K T (tCallN n m (spZ K T fr fun ds => (F ds).calm) (fun vs zs => sel o vs mz zs) E ta tk) W (xFc F (zKw n m (fun ds es => sel o ds ms es) ma mk)) :=
  sim_callKC (fun _ _ a b => sel_dt a (hd _) b o) h h'
theorem zApp_nil (ma : MA) : zApp ma [] = ma := by
  funext ρ
  unfold zApp
  cases ma ρ with
  | ok a => show Rz.ok (a ++ []) = _; rw [List.append_nil]
  | ex x => rfl
  | bad => rfl
theorem sim_call0 (h : SimA K T ta W ma) : SimE K T (tCallSD (spZ K T fr F) [] (WE W) ta) W (xF F ma) := by
  have := sim_call (F := F) (fr := fr) (es := []) (fun _ => .nil) h
  rw [zApp_nil] at this; exact this
theorem sim_callF0 (h : SimA K T ta W ma) : SimF K T (tCallSD (spZ K T true F) [] (WE W) ta) W (fF F ma) := by
  have := sim_callF (F := F) (es := []) (fun _ => .nil) h
  rw [zApp_nil] at this; exact this
theorem sim_callC0 {E : XK} (h : SimA K T ta W ma) : SimE K T (tCall (spZ K T fr fun ds => (F ds).calm) [] E ta) W (xFc F ma) := by
  have := sim_callC (F := F) (fr := fr) (E := E) (es := []) (fun _ => .nil) h
  rw [zApp_nil] at this; exact this
theorem sim_callCF0 {E : XK} (h : SimA K T ta W ma) : SimF K T (tCall (spZ K T true fun ds => (F ds).calm) [] E ta) W (fFc F ma) := by
  have := sim_callCF (F := F) (E := E) (es := []) (fun _ => .nil) h
  rw [zApp_nil] at this; exact this
end
theorem tri_sim {K : PySem.W.Frag} {T : Tb} {fr : Bool} {H0 B : Hp} {C : List Addr} {ρ : List Slot} {ts : TS} {D : Ends} {W : WX} {m : MS} (h : SimS K T fr ts W m) (p : PostS K T fr H0 B C D W (m ρ)) : Tri K T H0 B C ρ ts D := h ρ H0 B C D p
/-! ### two new lists at once; found.append(e[l.pop(0) if t else r.pop(0)]) -/
def kPar2 (a b : MA) (i j : Nat) : MS := fun ρ => match a ρ, b ρ with
  | .ok xs, .ok ys => .nx ((ρ.set i (.own (.lst xs))).set j (.own (.lst ys)))
  | _, _ => .bad
def pop0 (ρ : List Slot) (k : Nat) : Option (PyData × List Slot) := match ownL ρ[k]? with
  | some (x :: xs) => if xs.length < 1000000 then some (x, ρ.set k (.own (.lst xs))) else none
  | _ => none
def kApp2 (i : Nat) (e : ME) (t : MT) (l r : Nat) : MS := fun ρ => match e ρ, t ρ with
  | .ok x, .ok c => match pop0 ρ (if c then l else r) with
    | some (y, ρ') => match zIx x y, ownL ρ[i]?, ownL ρ'[i]? with
      | some z, some ds, some ds' => if ds.length < 1000000 ∧ ds'.length = ds.length ∧ i ≠ l ∧ i ≠ r then .nx (ρ'.set i (.own (.lst (ds ++ [z])))) else .bad
      | _, _, _ => .bad
    | none => .bad
  | _, _ => .bad
section
variable {K : PySem.W.Frag} {T : Tb} {fr : Bool} {W : WX} {te ta tb : TE} {t : TT} {i j l r : Nat}
theorem sim_par2 {ma mb : MA} (h1 : SimF K T ta W ma) (h2 : SimF K T tb W mb) : SimS K T fr (tPar i j (tCons ta (tCons tb tNil))) W (kPar2 ma mb i j) := fun ρ H0 B C D p => by
  have a := h1 ρ
  have b := h2 ρ
  unfold kPar2 at p
  cases e1 : ma ρ with
  | bad => rw [e1] at p; exact p.elim
  | ex x => rw [e1] at p; exact p.elim
  | ok xs =>
    cases e2 : mb ρ with
    | bad => rw [e1, e2] at p; exact p.elim
    | ex x => rw [e1, e2] at p; exact p.elim
    | ok ys =>
      rw [e1, e2] at p
      rw [e1] at a
      rw [e2] at b
      exact s_parOwn a b p
theorem pop0_eq {ρ ρ' : List Slot} {k : Nat} {x : PyData} (h : pop0 ρ k = some (x, ρ')) : ∃ xs, ρ[k]? = some (.own (.lst (x :: xs))) ∧ xs.length < 1000000 ∧ ρ' = ρ.set k (.own (.lst xs)) := by
  unfold pop0 at h
  split at h
  · rename_i y xs e
    split at h
    · rename_i hl
      cases h
      exact ⟨xs, ownL_eq e, hl, rfl⟩
    · cases h
  · cases h
theorem sim_app2 {me : ME} {mt : MT} (he : SimE K T te W me) (ht : SimT K T t W mt) :
    SimS K T fr (tDrop (tBM K "list" rAppend (tVar i) (tCons (tOp (rIx K) te (tIf t (tBM K "list" rPopAt (tVar l) (tCons (tC (.int 0)) tNil)) (tBM K "list" rPopAt (tVar r) (tCons (tC (.int 0)) tNil)))) tNil))) W (kApp2 i me mt l r) := fun ρ H0 B C D p => by
  have a := he ρ
  have b := ht ρ
  unfold kApp2 at p
  cases e1 : me ρ with
  | bad => rw [e1] at p; exact p.elim
  | ex x => rw [e1] at p; exact p.elim
  | ok x =>
    cases e2 : mt ρ with
    | bad => rw [e1, e2] at p; exact p.elim
    | ex x => rw [e1, e2] at p; exact p.elim
    | ok c =>
      rw [e1, e2] at p
      rw [e1] at a
      rw [e2] at b
      simp only at p
      cases e3 : pop0 ρ (if c then l else r) with
      | none => rw [e3] at p; exact p.elim
      | some yq =>
        obtain ⟨y, ρ'⟩ := yq
        rw [e3] at p
        simp only at p
        obtain ⟨xs, q1, q2, q3⟩ := pop0_eq e3
        cases e4 : zIx x y with
        | none => rw [e4] at p; exact p.elim
        | some z =>
          rw [e4] at p
          cases e5 : ownL ρ[i]? with
          | none => rw [e5] at p; exact p.elim
          | some ds =>
            rw [e5] at p
            cases e6 : ownL ρ'[i]? with
            | none => rw [e6] at p; exact p.elim
            | some ds' =>
              rw [e6] at p
              simp only at p
              split at p
              · rename_i hl
                have hi : i ≠ (if c then l else r) := by
                  cases c with
                  | true => exact hl.2.2.1
                  | false => exact hl.2.2.2
                refine s_appS (Po := fun d ρ2 => d = z ∧ ρ2 = ρ') (ownL_eq e5) ?_ hl.1 (fun d ρ2 hp => ?_) (fun d ρ2 hp => ?_)
                · refine es_op a (es_if (Po := fun d ρ2 => d = y ∧ ρ2 = ρ') b (fun hc => ?_) (fun hc => ?_)) (fun d ρ2 hd => ⟨z, by rw [hd.1]; exact r_ix x y z e4, rfl, hd.2⟩)
                  · subst hc
                    exact (es_pop0 q1 q2).mono fun d ρ2 hd => ⟨hd.1, hd.2.trans q3.symm⟩
                  · subst hc
                    exact (es_pop0 q1 q2).mono fun d ρ2 hd => ⟨hd.1, hd.2.trans q3.symm⟩
                · rw [hp.2, q3, List.getElem?_set_ne (Ne.symm hi)]
                  exact ownL_eq e5
                · rw [hp.1, hp.2]
                  exact p
              · exact p.elim
end
end Lw

set_option Elab.async false
set_option linter.all false
set_option maxRecDepth 100000
set_option maxHeartbeats 4000000
set_option autoImplicit false
/-! Lw, part O: the functional reading, step by step (rules of rewriting). -/
namespace Lw
open PySem L2 LwZ
/-- rules that rewrite (no unfolding) -/
theorem nr {α : Sort _} {a b : α} (h : a = b) : a = b := h
section
variable (ρ : List Slot)
theorem fnD_a (np n : Nat) (m : MS) (ds : List PyData) : fnD np n m ds = if ds.length = np then (match m (slots n ds) with | .rt d => .ok d | .nx _ => .ok .none | .ex x _ => .ex x | _ => .bad) else .bad := nr rfl
theorem kSeq_a (a b : MS) : kSeq a b ρ = (match a ρ with | .nx ρ' => b ρ' | r => r) := nr rfl
theorem kNx_a : kNx ρ = .nx ρ := nr rfl
theorem kE_a {α : Type} (m : List Slot → Rz α) (k : α → Rs) : kE m k ρ = (match m ρ with | .ok a => k a | .ex x => .ex x ρ | .bad => .bad) := nr rfl
theorem kAsg_a (m : ME) (i : Nat) : kAsg m i ρ = kE m (fun d => .nx (ρ.set i (.dat d))) ρ := nr rfl
theorem kOwn_a (m : MA) (i : Nat) : kOwn m i ρ = kE m (fun ds => .nx (ρ.set i (.own (.lst ds)))) ρ := nr rfl
theorem kDrop_a (m : ME) : kDrop m ρ = kE m (fun _ => .nx ρ) ρ := nr rfl
theorem kRet_a (m : ME) : kRet m ρ = kE m (fun d => .rt d) ρ := nr rfl
theorem kRetP_a (m : ME) : kRetP m ρ = kE m (fun d => match d with | .list _ => .bad | _ => .rt d) ρ := nr rfl
theorem kRetF_a (m : MA) : kRetF m ρ = kE m (fun ds => .rt (.list ds)) ρ := nr rfl
theorem kRetO_a (i : Nat) : kRetO i ρ = (match ownL ρ[i]? with | some ds => .rt (.list ds) | none => .bad) := nr rfl
theorem kRetN_a : kRetN ρ = .rt .none := nr rfl
theorem kIf_a (t : MT) (a b : MS) : kIf t a b ρ = kE t (fun c => match c with | true => a ρ | false => b ρ) ρ := nr rfl
theorem kBk_a : kBk ρ = .bk ρ := nr rfl
theorem kCt_a : kCt ρ = .ct ρ := nr rfl
theorem kTg_a (m : ME) (g : MG) : kTg m g ρ = kE m (fun d => match g d with | some f => .nx (f ρ) | none => .bad) ρ := nr rfl
theorem kPar_a (m : MA) (i j : Nat) : kPar m i j ρ = kE m (fun ds => match ds with | [a, b] => .nx ((ρ.set i (.dat a)).set j (.dat b)) | _ => .bad) ρ := nr rfl
theorem kApp_a (i : Nat) (m : ME) : kApp i m ρ = (match ownL ρ[i]? with | some ds => kE m (fun d => if ds.length < 1000000 then .nx (ρ.set i (.own (.lst (ds ++ [d])))) else .bad) ρ | none => .bad) := nr rfl
theorem kPut_a (i : Nat) (j m : ME) : kPut i j m ρ = (match ownL ρ[i]? with | some ds => kE m (fun d => kE j (fun e => match (asI e).bind (ixN ds.length) with | some n => .nx (ρ.set i (.own (.lst (ds.set n d)))) | none => .bad) ρ) ρ | none => .bad) := nr rfl
theorem kFrz_a (i : Nat) (a : MS) : kFrz i a ρ = (match ownL ρ[i]? with | some ds => a (ρ.set i (.dat (.list ds))) | none => .bad) := nr rfl
theorem kFor_a (it : MA) (g : MG) (wp : List Nat) (b : MS) : kFor it g wp b ρ = kE it (fun items => forL g wp b items ρ) ρ := nr rfl
theorem forL_nil (g : MG) (wp : List Nat) (b : MS) : forL g wp b [] ρ = .nx ρ := nr rfl
theorem forL_cons (g : MG) (wp : List Nat) (b : MS) (d : PyData) (ds : List PyData) : forL g wp b (d :: ds) ρ = (match g d with
    | none => .bad
    | some f => match b (f ρ) with
      | .nx ρ' => forL g wp b ds (wipeS ρ' wp)
      | .ct ρ' => forL g wp b ds (wipeS ρ' wp)
      | .bk ρ' => .nx ρ'
      | r => r) := nr rfl
theorem kRaise_a (x : Str) : kRaise x ρ = .ex ⟨x, []⟩ ρ := nr rfl
theorem kDict_a (i : Nat) : kDict i ρ = .nx (ρ.set i (.own (.dct []))) := nr rfl
theorem kDput_a (i : Nat) (mk mv : ME) : kDput i mk mv ρ = (match ownD ρ[i]? with | some es => kE mv (fun v => kE mk (fun k => match keyD k with | some k => if es.length < 1000000 then .nx (ρ.set i (.own (.dct (putD es k v)))) else .bad | none => .bad) ρ) ρ | none => .bad) := nr rfl
theorem xC_a (d : PyData) : xC d ρ = .ok d := nr rfl
theorem xV_a (i : Nat) : xV i ρ = (match ρ[i]? with | some (.dat d) => .ok d | _ => .bad) := nr rfl
theorem xOp_a (f : PyData → PyData → Option PyData) (a b : ME) : xOp f a b ρ = (a ρ).bind fun x => (b ρ).bind fun y => .of (f x y) := nr rfl
theorem fOp_a (f : PyData → PyData → Option (List PyData)) (a b : ME) : fOp f a b ρ = (a ρ).bind fun x => (b ρ).bind fun y => .of (f x y) := nr rfl
theorem xUn_a (f : PyData → Option PyData) (a : ME) : xUn f a ρ = (a ρ).bind fun x => .of (f x) := nr rfl
theorem xNot_a (a : ME) : xNot a ρ = (a ρ).bind fun x => (Rz.of (asB x)).bind fun c => .ok (.bool (!c)) := nr rfl
theorem xAnd_a (a b : ME) : xAnd a b ρ = (a ρ).bind fun x => (Rz.of (asB x)).bind fun c => match c with | true => b ρ | false => .ok (.bool false) := nr rfl
theorem xOr_a (a b : ME) : xOr a b ρ = (a ρ).bind fun x => (Rz.of (asB x)).bind fun c => match c with | true => .ok (.bool true) | false => b ρ := nr rfl
theorem xIf_a (t : MT) (a b : ME) : xIf t a b ρ = (t ρ).bind fun c => match c with | true => a ρ | false => b ρ := nr rfl
theorem xChain_a (f g : PyData → PyData → Option PyData) (a b c : ME) : xChain f g a b c ρ = (a ρ).bind fun x => (b ρ).bind fun y => (Rz.of (f x y)).bind fun z => (Rz.of (asB z)).bind fun k => match k with
  | true => (c ρ).bind fun w => .of (g y w)
  | false => .ok (.bool false) := nr rfl
theorem zNil_a : zNil ρ = .ok [] := nr rfl
theorem zCons_a (a : ME) (r : MA) : zCons a r ρ = (a ρ).bind fun x => (r ρ).bind fun xs => .ok (x :: xs) := nr rfl
theorem xTup_a (a : MA) : xTup a ρ = (a ρ).bind fun xs => if xs.length ≤ 1000000 then .ok (.tuple xs) else .bad := nr rfl
theorem fLst_a (a : MA) : fLst a ρ = (a ρ).bind fun xs => if xs.length ≤ 1000000 then .ok xs else .bad := nr rfl
theorem xL_a (a : MA) : xL a ρ = (a ρ).bind fun xs => .ok (.list xs) := nr rfl
theorem xCB_a (f : List PyData → Option PyData) (a : MA) : xCB f a ρ = (a ρ).bind fun xs => .of (f xs) := nr rfl
theorem fCB_a (f : List PyData → Option (List PyData)) (a : MA) : fCB f a ρ = (a ρ).bind fun xs => .of (f xs) := nr rfl
theorem xF_a (f : List PyData → Rz PyData) (a : MA) : xF f a ρ = (a ρ).bind f := nr rfl
theorem xFc_a (f : List PyData → Rz PyData) (a : MA) : xFc f a ρ = (a ρ).bind fun ds => (f ds).calm := nr rfl
theorem fF_a (f : List PyData → Rz PyData) (a : MA) : fF f a ρ = (a ρ).bind fun ds => (f ds).bind fun r => .of (asL r) := nr rfl
theorem fFc_a (f : List PyData → Rz PyData) (a : MA) : fFc f a ρ = (a ρ).bind fun ds => (f ds).calm.bind fun r => .of (asL r) := nr rfl
theorem zApp_a (a : MA) (es : List PyData) : zApp a es ρ = (a ρ).bind fun ds => .ok (ds ++ es) := nr rfl
theorem zKw_a (n m : Nat) (gD : List PyData → List PyData → List PyData) (a k : MA) : zKw n m gD a k ρ = (a ρ).bind fun ds => (k ρ).bind fun es => if ds.length = n ∧ es.length = m then .ok (gD ds es) else .bad := nr rfl
theorem oNo_a : oNo ρ = .ok none := nr rfl
theorem oAt_a (a : ME) : oAt a ρ = (a ρ).bind fun x => (Rz.of (asI x)).bind fun i => .ok (some i) := nr rfl
theorem fSl_a (f : PyData → Option Int → Option Int → Option (List PyData)) (a : ME) (lo hi : MO) : fSl f a lo hi ρ = (a ρ).bind fun x => (lo ρ).bind fun l => (hi ρ).bind fun h => .of (f x l h) := nr rfl
theorem xSl_a (f : PyData → Option Int → Option Int → Option PyData) (a : ME) (lo hi : MO) : xSl f a lo hi ρ = (a ρ).bind fun x => (lo ρ).bind fun l => (hi ρ).bind fun h => .of (f x l h) := nr rfl
theorem yV_a (a : ME) : yV a ρ = (a ρ).bind fun x => .of (asB x) := nr rfl
theorem yAnd_a (a b : MT) : yAnd a b ρ = (a ρ).bind fun c => match c with | true => b ρ | false => .ok false := nr rfl
theorem yOr_a (a b : MT) : yOr a b ρ = (a ρ).bind fun c => match c with | true => .ok true | false => b ρ := nr rfl
theorem yNot_a (a : MT) : yNot a ρ = (a ρ).bind fun c => .ok (!c) := nr rfl
theorem yYes_a : yYes ρ = .ok true := nr rfl
theorem xIxO_a (k : Nat) (b : ME) : xIxO k b ρ = (Rz.of (ownL ρ[k]?)).bind fun ds => (b ρ).bind fun y => (Rz.of (asI y)).bind fun i => .of (atI ds i) := nr rfl
theorem xLenO_a (k : Nat) : xLenO k ρ = (Rz.of (ownL ρ[k]?)).bind fun ds => .ok (.int ds.length) := nr rfl
theorem xDg_a (i : Nat) (mk : ME) : xDg i mk ρ = (Rz.of (ownD ρ[i]?)).bind fun es => (mk ρ).bind fun k => (Rz.of (keyD k)).bind fun k => .of (getD? k es) := nr rfl
theorem xDin_a (mk : ME) (i : Nat) : xDin mk i ρ = (mk ρ).bind fun k => (Rz.of (ownD ρ[i]?)).bind fun es => (Rz.of (keyD k)).bind fun k => .ok (.bool (getD? k es).isSome) := nr rfl
theorem xDnotin_a (mk : ME) (i : Nat) : xDnotin mk i ρ = (mk ρ).bind fun k => (Rz.of (ownD ρ[i]?)).bind fun es => (Rz.of (keyD k)).bind fun k => .ok (.bool (!(getD? k es).isSome)) := nr rfl
theorem iS_a (a : ME) : iS a ρ = (a ρ).bind fun d => .of (seqOf d) := nr rfl
theorem iA_a (f : List PyData → Option (List PyData)) (a : MA) : iA f a ρ = (a ρ).bind fun ds => .of (f ds) := nr rfl
theorem fLc_a (vs : List Nat) (it : MA) (g : MG) (mt : MT) (me : ME) : fLc vs it g mt me ρ = (it ρ).bind fun items => if items.length ≤ 1000000 then lcL g mt me (wipeS ρ vs) items else .bad := nr rfl
theorem lcL_nil (g : MG) (mt : MT) (me : ME) : lcL g mt me ρ [] = .ok [] := nr rfl
theorem lcL_cons (g : MG) (mt : MT) (me : ME) (d : PyData) (ds : List PyData) : lcL g mt me ρ (d :: ds) = (match g d with
    | none => .bad
    | some f => (mt (f ρ)).calm.bind fun b => match b with
      | true => (me (f ρ)).calm.bind fun y => (lcL g mt me ρ ds).bind fun ys => .ok (y :: ys)
      | false => lcL g mt me ρ ds) := nr rfl
theorem wipeS_nil : wipeS ρ [] = ρ := nr rfl
theorem wipeS_cons (v : Nat) (vs : List Nat) : wipeS ρ (v :: vs) = (wipeS ρ vs).set v .no := nr rfl
end
theorem gN_a (i : Nat) (d : PyData) : gN i d = some fun ρ => ρ.set i (.dat d) := nr rfl
theorem gs0_a : gs0 [] = some fun ρ => ρ := nr rfl
theorem gsC_a (g : MG) (r : MGs) (d : PyData) (ds : List PyData) : gsC g r (d :: ds) = (g d).bind fun f => (r ds).bind fun h => some fun ρ => h (f ρ) := nr rfl
theorem gT_a (n : Nat) (r : MGs) (ds : List PyData) : gT n r (.tuple ds) = if ds.length = n then r ds else none := nr rfl
theorem gU_a (n : Nat) (r : MGs) (ds : List PyData) : gU n r (.list ds) = if ds.length = n then r ds else none := nr rfl
theorem ownL_a (ds : List PyData) : ownL (some (.own (.lst ds))) = some ds := nr rfl
theorem ownD_a (es : List (Key × PyData)) : ownD (some (.own (.dct es))) = some es := nr rfl
theorem asB_a (b : Bool) : asB (.bool b) = some b := nr rfl
theorem asI_a (b : Int) : asI (.int b) = some b := nr rfl
theorem asL_a (ds : List PyData) : asL (.list ds) = some ds := nr rfl
theorem seqOf_l (ds : List PyData) : seqOf (.list ds) = some ds := nr rfl
theorem seqOf_t (ds : List PyData) : seqOf (.tuple ds) = some ds := nr rfl
theorem keyD_i (i : Int) : keyD (.int i) = some (.inl i) := nr rfl
theorem keyD_s (s : Str) : keyD (.str s) = some (.inr s) := nr rfl
theorem bind_ex {α β : Type} (x : Exn) (k : α → Rz β) : (Rz.ex x : Rz α).bind k = .ex x := nr rfl
theorem bind_bad {α β : Type} (k : α → Rz β) : (Rz.bad : Rz α).bind k = .bad := nr rfl
theorem of_none {α : Type} : (Rz.of (none : Option α)) = .bad := nr rfl
/-! ### operations -/
theorem zAddV_i (i j : Int) : zAddV (.int i) (.int j) = some (.int (i + j)) := nr rfl
theorem zAddV_t {a b : List PyData} (h : a.length + b.length ≤ 1000000) : zAddV (.tuple a) (.tuple b) = some (.tuple (a ++ b)) := by unfold zAddV zAdd; simp only [if_pos h]
theorem zAddV_l {a b : List PyData} (h : a.length + b.length ≤ 1000000) : zAddV (.list a) (.list b) = some (.list (a ++ b)) := by unfold zAddV zAdd zAddL; simp only [if_pos h]; rfl
theorem zAddV_s {a b : Str} (h : a.length + b.length ≤ 1000000) : zAddV (.str a) (.str b) = some (.str (a ++ b)) := by unfold zAddV zAdd; simp only [if_pos h]
theorem zAddL_l {a b : List PyData} (h : a.length + b.length ≤ 1000000) : zAddL (.list a) (.list b) = some (a ++ b) := by unfold zAddL; simp only [if_pos h]
theorem zSub_i (i j : Int) : zSub (.int i) (.int j) = some (.int (i - j)) := nr rfl
theorem log_lt {n : Nat} {i : Int} (h : Bt n i) : i.natAbs.log2 ≤ n := by
  by_cases z : i.natAbs = 0
  · rw [z]; exact Nat.zero_le _
  · have := (Nat.log2_lt z).mpr h
    omega
theorem zMulV_b {n m : Nat} {i j : Int} (h : Bt n i) (h' : Bt m j) (l : n + m ≤ 99999998) : zMulV (.int i) (.int j) = some (.int (i * j)) := by
  have hb : bitsOk i j = true := by
    unfold bitsOk
    have h1 := log_lt h
    have h2 := log_lt h'
    simp only [Bool.or_eq_true, decide_eq_true_eq]
    exact .inr (by omega)
  unfold zMulV zMul
  simp only [if_pos hb]
theorem zMulV_l {i j : Int} (h : i.natAbs < 18446744073709551616) : zMulV (.int i) (.int j) = some (.int (i * j)) := by
  have hb : bitsOk i j = true := by unfold bitsOk; simp only [Bool.or_eq_true, decide_eq_true_eq]; exact .inl (.inl h)
  unfold zMulV zMul
  simp only [if_pos hb]
theorem zMulV_r {i j : Int} (h : j.natAbs < 18446744073709551616) : zMulV (.int i) (.int j) = some (.int (i * j)) := by
  have hb : bitsOk i j = true := by unfold bitsOk; simp only [Bool.or_eq_true, decide_eq_true_eq]; exact .inl (.inr h)
  unfold zMulV zMul
  simp only [if_pos hb]
theorem zFd_i {i j : Int} (h : 0 < j) (h2 : j < 1073741824) : zFd (.int i) (.int j) = some (.int (i.fdiv j)) := by
  unfold zFd
  simp only [if_pos (show j ≠ 0 ∧ j.natAbs < 1073741824 from ⟨by omega, by omega⟩)]
theorem zFdB_i {i j : Int} (h : j ≠ 0) : zFdB (.int i) (.int j) = some (.int (i.fdiv j)) := by
  unfold zFdB
  simp only [if_pos h]
theorem zMod_i {i j : Int} (h : j ≠ 0) : zMod (.int i) (.int j) = some (.int (i.fmod j)) := by
  unfold zMod
  simp only [if_pos h]
theorem zLt_i (i j : Int) : zLt (.int i) (.int j) = some (.bool (decide (i < j))) := nr rfl
theorem zLe_i (i j : Int) : zLe (.int i) (.int j) = some (.bool (decide (i ≤ j))) := nr rfl
theorem zGt_i (i j : Int) : zGt (.int i) (.int j) = some (.bool (decide (j < i))) := nr rfl
theorem zGe_i (i j : Int) : zGe (.int i) (.int j) = some (.bool (decide (j ≤ i))) := nr rfl
theorem zEq_sh {x y : PyData} (h : SeqAt.shaped x = true) (h' : SeqAt.shaped y = true) : zEq x y = some (.bool (PyData.eqv x y)) := by unfold zEq; rw [h, h']; rfl
theorem zNe_sh {x y : PyData} (h : SeqAt.shaped x = true) (h' : SeqAt.shaped y = true) : zNe x y = some (.bool (!PyData.eqv x y)) := by unfold zNe; rw [h, h']; rfl
theorem zEq_i (i j : Int) : zEq (.int i) (.int j) = some (.bool (decide (i = j))) := by rw [zEq_sh rfl rfl, eqv_int]
theorem zNe_i (i j : Int) : zNe (.int i) (.int j) = some (.bool (!decide (i = j))) := by rw [zNe_sh rfl rfl, eqv_int]
theorem zEq_s {i j : Str} (h : SeqAt.shaped (.str i) = true) (h' : SeqAt.shaped (.str j) = true) : zEq (.str i) (.str j) = some (.bool (i == j)) := by rw [zEq_sh h h']; simp [PyData.eqv]
theorem zNe_s {i j : Str} (h : SeqAt.shaped (.str i) = true) (h' : SeqAt.shaped (.str j) = true) : zNe (.str i) (.str j) = some (.bool (!(i == j))) := by rw [zNe_sh h h']; simp [PyData.eqv]
theorem zEq_r (a b : Rat) : zEq (encR a) (encR b) = some (.bool (decide (a = b))) := by rw [zEq_sh (shaped_encR _) (shaped_encR _), eqv_encR]
theorem zNe_r (a b : Rat) : zNe (encR a) (encR b) = some (.bool (!decide (a = b))) := by rw [zNe_sh (shaped_encR _) (shaped_encR _), eqv_encR]
theorem zIx_r0 (q : Rat) : zIx (encR q) (.int 0) = some (.int q.num) := nr rfl
theorem zIx_r1 (q : Rat) : zIx (encR q) (.int 1) = some (.int (q.den : Int)) := nr rfl
theorem zIx_t (ds : List PyData) (i : Int) : zIx (.tuple ds) (.int i) = atI ds i := nr rfl
theorem zIx_l (ds : List PyData) (i : Int) : zIx (.list ds) (.int i) = atI ds i := nr rfl
theorem zNeg_i (i : Int) : zNeg (.int i) = some (.int (-i)) := nr rfl
theorem zLen_l (ds : List PyData) : zLen [.list ds] = some (.int ds.length) := nr rfl
theorem zLen_t (ds : List PyData) : zLen [.tuple ds] = some (.int ds.length) := nr rfl
theorem zAbs_i (i : Int) : zAbs [.int i] = some (.int (if i < 0 then -i else i)) := nr rfl
theorem zInt_b (b : Bool) : zInt [.bool b] = some (.int (if b then 1 else 0)) := nr rfl
theorem zInt_i (i : Int) : zInt [.int i] = some (.int i) := nr rfl
theorem zListV_l (ds : List PyData) : zListV [.list ds] = some (.list ds) := nr rfl
theorem zListV_t (ds : List PyData) : zListV [.tuple ds] = some (.list ds) := nr rfl
theorem zList_l (ds : List PyData) : zList [.list ds] = some ds := nr rfl
theorem zList_t (ds : List PyData) : zList [.tuple ds] = some ds := nr rfl
theorem zTuple_l (ds : List PyData) : zTuple [.list ds] = some (.tuple ds) := nr rfl
theorem zTuple_t (ds : List PyData) : zTuple [.tuple ds] = some (.tuple ds) := nr rfl
theorem allB_map : ∀ bs : List Bool, allB (bs.map PyData.bool) = some bs
  | [] => rfl
  | b :: bs => by rw [List.map_cons]; unfold allB; rw [allB_map bs]; rfl
theorem zAll_l (bs : List Bool) : zAll [.list (bs.map PyData.bool)] = some (.bool (bs.all id)) := by unfold zAll; simp only [allB_map]; rfl
theorem zAny_l (bs : List Bool) : zAny [.list (bs.map PyData.bool)] = some (.bool (bs.any id)) := by unfold zAny; simp only [allB_map]; rfl
theorem zAll_m {α : Type} (xs : List α) (f : α → Bool) : zAll [.list (xs.map fun x => .bool (f x))] = some (.bool (xs.all f)) := by
  have e : (xs.map fun x => PyData.bool (f x)) = (xs.map f).map PyData.bool := by rw [List.map_map]; rfl
  rw [e, zAll_l, List.all_map]; rfl
theorem zAny_m {α : Type} (xs : List α) (f : α → Bool) : zAny [.list (xs.map fun x => .bool (f x))] = some (.bool (xs.any f)) := by
  have e : (xs.map fun x => PyData.bool (f x)) = (xs.map f).map PyData.bool := by rw [List.map_map]; rfl
  rw [e, zAny_l, List.any_map]; rfl
theorem zSlV_l (ds : List PyData) (l h : Option Int) : zSlV (.list ds) l h = some (.list (cutD ds l h)) := nr rfl
theorem zSlV_t (ds : List PyData) (l h : Option Int) : zSlV (.tuple ds) l h = some (.tuple (cutD ds l h)) := nr rfl
theorem zIsN_a (x : PyData) : zIsN x .none = some (.bool (isNone x)) := nr rfl
theorem zNotN_a (x : PyData) : zNotN x .none = some (.bool (!isNone x)) := nr rfl
theorem rng1_a {j : Int} (h1 : -4611686018427387903 ≤ j) (h2 : j < 4611686018427387904) : rng1 [.int j] = some (rgD 0 j.toNat) := by
  have h : fitR j = true := Nat.ble_eq_true_of_le (by omega)
  unfold rng1; simp only [h, if_true]
theorem rng1_n {n : Nat} (h : n ≤ 1000000) : rng1 [.int (n : Int)] = some (rgD 0 n) := by
  rw [rng1_a (by omega) (by omega)]; simp
theorem zipO_f {d e : PyData} {ds es : List PyData} (h : seqOf d = some ds) (h' : seqOf e = some es) : zipO false [d, e] = some (zipD ds es) := by unfold zipO; simp only [h, h']; rfl
theorem zipO_t {d e : PyData} {ds es : List PyData} (h : seqOf d = some ds) (h' : seqOf e = some es) (hl : ds.length = es.length) : zipO true [d, e] = some (zipD ds es) := by unfold zipO; simp [h, h', hl]
theorem enO_a {d : PyData} {ds : List PyData} (h : seqOf d = some ds) : enO [d] = some (enD 0 ds) := by unfold enO; simp only [h]; rfl
/-! ### comprehensions, loops over mapped lists -/
theorem lcL_map {α : Type} {g : MG} {mt : MT} {me : ME} {ρ : List Slot} {enc : α → PyData} {F : α → List Slot → List Slot} {out : α → PyData} : ∀ {xs : List α}, (∀ x ∈ xs, g (enc x) = some (F x)) → (∀ x ∈ xs, mt (F x ρ) = .ok true) → (∀ x ∈ xs, me (F x ρ) = .ok (out x)) →
    lcL g mt me ρ (xs.map enc) = .ok (xs.map out)
  | [], _, _, _ => rfl
  | x :: xs, h1, h2, h3 => by
    have ih := lcL_map (fun y hy => h1 y (List.mem_cons_of_mem _ hy)) (fun y hy => h2 y (List.mem_cons_of_mem _ hy)) (fun y hy => h3 y (List.mem_cons_of_mem _ hy))
    rw [List.map_cons, lcL_cons, h1 x (List.mem_cons_self ..)]
    simp only [h2 x (List.mem_cons_self ..), h3 x (List.mem_cons_self ..), ih, Rz.calm_ok, Rz.bind_ok, List.map_cons]
theorem lcL_filter {α : Type} {g : MG} {mt : MT} {me : ME} {ρ : List Slot} {enc : α → PyData} {F : α → List Slot → List Slot} {p : α → Bool} {out : α → PyData} : ∀ {xs : List α}, (∀ x ∈ xs, g (enc x) = some (F x)) → (∀ x ∈ xs, mt (F x ρ) = .ok (p x)) → (∀ x ∈ xs, p x = true → me (F x ρ) = .ok (out x)) →
    lcL g mt me ρ (xs.map enc) = .ok ((xs.filter p).map out)
  | [], _, _, _ => rfl
  | x :: xs, h1, h2, h3 => by
    have ih := lcL_filter (fun y hy => h1 y (List.mem_cons_of_mem _ hy)) (fun y hy => h2 y (List.mem_cons_of_mem _ hy)) (fun y hy => h3 y (List.mem_cons_of_mem _ hy))
    rw [List.map_cons, lcL_cons, h1 x (List.mem_cons_self ..)]
    cases hp : p x with
    | true => simp only [h2 x (List.mem_cons_self ..), h3 x (List.mem_cons_self ..) hp, hp, ih, Rz.calm_ok, Rz.bind_ok, List.map_cons, List.filter_cons, if_true]
    | false => simp only [h2 x (List.mem_cons_self ..), hp, ih, Rz.calm_ok, Rz.bind_ok, List.filter_cons, Bool.false_eq_true, if_false]
theorem seq_step {a b : MS} {ρ ρ' : List Slot} {r : Rs} (h : a ρ = .nx ρ') (h2 : b ρ' = r) : kSeq a b ρ = r := by rw [kSeq_a, h]; exact h2
/-- a loop whose turns leave the slots as they were -/
theorem forL_id {α : Type} {g : MG} {wp : List Nat} {b : MS} {enc : α → PyData} {F : α → List Slot → List Slot} {ρ : List Slot} : ∀ {xs : List α}, (∀ x ∈ xs, g (enc x) = some (F x)) → (∀ x ∈ xs, ∃ ρ', b (F x ρ) = .nx ρ' ∧ wipeS ρ' wp = ρ) → forL g wp b (xs.map enc) ρ = .nx ρ
  | [], _, _ => rfl
  | x :: xs, h1, h2 => by
    obtain ⟨ρ', e1, e2⟩ := h2 x (List.mem_cons_self ..)
    have ih := forL_id (fun y hy => h1 y (List.mem_cons_of_mem _ hy)) (fun y hy => h2 y (List.mem_cons_of_mem _ hy))
    rw [List.map_cons, forL_cons, h1 x (List.mem_cons_self ..)]
    simp only [e1, e2]
    exact ih
/-- a loop by a word of its slots -/
theorem forL_ex {α : Type} {g : MG} {wp : List Nat} {b : MS} {enc : α → PyData} {F : α → List Slot → List Slot} (P : Nat → List Slot → Prop) : ∀ (xs : List α) (k : Nat) (ρ : List Slot), (∀ x ∈ xs, g (enc x) = some (F x)) → P k ρ →
    (∀ i x ρ, xs[i]? = some x → P (k + i) ρ → ∃ ρ', b (F x ρ) = .nx ρ' ∧ P (k + i + 1) (wipeS ρ' wp)) → ∃ ρ', forL g wp b (xs.map enc) ρ = .nx ρ' ∧ P (k + xs.length) ρ'
  | [], k, ρ, _, hp, _ => ⟨ρ, rfl, hp⟩
  | x :: xs, k, ρ, h1, hp, h2 => by
    obtain ⟨ρ', e1, e2⟩ := h2 0 x ρ rfl hp
    obtain ⟨ρ2, e3, e4⟩ := forL_ex P xs (k + 1) (wipeS ρ' wp) (fun y hy => h1 y (List.mem_cons_of_mem _ hy)) e2 (fun i y ρ hi hp => by
      have := h2 (i + 1) y ρ hi (by rw [show k + (i + 1) = k + 1 + i from by omega]; exact hp)
      rw [show k + (i + 1) + 1 = k + 1 + i + 1 from by omega] at this
      exact this)
    refine ⟨ρ2, ?_, by rw [List.length_cons, show k + (xs.length + 1) = k + 1 + xs.length from by omega]; exact e4⟩
    rw [List.map_cons, forL_cons, h1 x (List.mem_cons_self ..)]
    simp only [e1, e3]
/-- a comprehension whose items are known by a word -/
theorem lcL_ex {α : Type} {g : MG} {mt : MT} {me : ME} {ρ : List Slot} {enc : α → PyData} {F : α → List Slot → List Slot} {β : Type} {dec : β → PyData} (Q : β → Prop) : ∀ (xs : List α), (∀ x ∈ xs, g (enc x) = some (F x)) → (∀ x ∈ xs, mt (F x ρ) = .ok true) → (∀ x ∈ xs, ∃ y, Q y ∧ me (F x ρ) = .ok (dec y)) →
    ∃ ys : List β, ys.length = xs.length ∧ (∀ y ∈ ys, Q y) ∧ lcL g mt me ρ (xs.map enc) = .ok (ys.map dec)
  | [], _, _, _ => ⟨[], rfl, fun y hy => (by cases hy), rfl⟩
  | x :: xs, h1, h2, h3 => by
    obtain ⟨ys, a, b, c⟩ := lcL_ex Q xs (fun y hy => h1 y (List.mem_cons_of_mem _ hy)) (fun y hy => h2 y (List.mem_cons_of_mem _ hy)) (fun y hy => h3 y (List.mem_cons_of_mem _ hy))
    obtain ⟨y, q1, q2⟩ := h3 x (List.mem_cons_self ..)
    refine ⟨y :: ys, by rw [List.length_cons, List.length_cons, a], fun z hz => ?_, ?_⟩
    · rcases List.mem_cons.mp hz with e | e
      · rw [e]; exact q1
      · exact b z e
    · rw [List.map_cons, lcL_cons, h1 x (List.mem_cons_self ..)]
      simp only [h2 x (List.mem_cons_self ..), q2, c, Rz.calm_ok, Rz.bind_ok, List.map_cons]
theorem enD_map {α : Type} (enc : α → PyData) : ∀ (xs : List α) (k : Nat), enD k (xs.map enc) = (xs.zipIdx k).map fun p => .tuple [.int (p.2 : Nat), enc p.1]
  | [], k => rfl
  | x :: xs, k => by
    rw [List.map_cons, List.zipIdx_cons, List.map_cons, ← enD_map enc xs (k + 1)]
    rfl
theorem zipD_map {α β : Type} (f : α → PyData) (g : β → PyData) : ∀ (xs : List α) (ys : List β), zipD (xs.map f) (ys.map g) = (xs.zip ys).map fun p => .tuple [f p.1, g p.2]
  | [], ys => rfl
  | x :: xs, [] => rfl
  | x :: xs, y :: ys => by
    rw [List.map_cons, List.map_cons, List.zip_cons_cons, List.map_cons, ← zipD_map f g xs ys]
    rfl
theorem rgD_map (n : Nat) : rgD 0 n = (List.range n).map fun (k : Nat) => PyData.int (k : Int) := by
  unfold rgD
  refine List.map_congr_left fun k _ => ?_
  rw [Int.zero_add]
theorem getD_put (es : List (Key × PyData)) (k j : Key) (d : PyData) : getD? j (putD es k d) = if j = k then some d else getD? j es := by
  unfold putD
  by_cases h : (es.any fun e => decide (e.1 = k)) = true
  · rw [if_pos h]
    induction es with
    | nil => cases h
    | cons e es ih =>
      rw [List.map_cons]
      unfold getD?
      by_cases hk : e.1 = k
      · rw [if_pos hk]
        by_cases hj : e.1 = j
        · have : j = k := hj.symm.trans hk
          simp only [if_pos hj, if_pos this]
        · have hjk : ¬ j = k := fun z => hj (hk.trans z.symm)
          simp only [if_neg hj, if_neg hjk]
          by_cases h2 : (es.any fun e => decide (e.1 = k)) = true
          · rw [ih h2, if_neg hjk]
          · have e1 : (es.map fun e => if e.1 = k then (e.1, d) else e) = es := by
              have : ∀ x ∈ es, (if x.1 = k then (x.1, d) else x) = x := fun x hx => by
                have : ¬ x.1 = k := fun z => h2 (List.any_eq_true.mpr ⟨x, hx, decide_eq_true z⟩)
                rw [if_neg this]
              rw [List.map_congr_left this, List.map_id']
            rw [e1]
      · rw [if_neg hk]
        have h2 : (es.any fun e => decide (e.1 = k)) = true := by
          rw [List.any_cons, decide_eq_false hk, Bool.false_or] at h; exact h
        by_cases hj : e.1 = j
        · have hjk : ¬ j = k := fun z => hk (hj.trans z)
          simp only [if_pos hj, if_neg hjk]
        · simp only [if_neg hj]
          exact ih h2
  · rw [if_neg h]
    have key : ∀ es : List (Key × PyData), ¬ (es.any fun e => decide (e.1 = k)) = true → getD? j (es ++ [(k, d)]) = if j = k then some d else getD? j es := fun es => by
      induction es with
      | nil =>
        intro _
        show (if k = j then some d else none) = if j = k then some d else none
        by_cases z : j = k
        · rw [if_pos z, if_pos z.symm]
        · rw [if_neg z, if_neg (fun q => z q.symm)]
      | cons e es ih =>
        intro hn
        rw [List.any_cons, Bool.or_eq_true, not_or] at hn
        have hk : ¬ e.1 = k := fun z => hn.1 (decide_eq_true z)
        show (if e.1 = j then some e.2 else getD? j (es ++ [(k, d)])) = if j = k then some d else (if e.1 = j then some e.2 else getD? j es)
        rw [ih hn.2]
        by_cases hj : e.1 = j
        · have hjk : ¬ j = k := fun z => hk (hj.trans z)
          simp only [if_pos hj, if_neg hjk]
        · simp only [if_neg hj]
    exact key es h
theorem putD_len (es : List (Key × PyData)) (k : Key) (d : PyData) : (putD es k d).length ≤ es.length + 1 := by
  unfold putD
  split
  · rw [List.length_map]; omega
  · rw [List.length_append]; exact Nat.le_refl _
/-- a loop that goes on, over a mapped list, by a state -/
theorem forL_fold {α σ : Type} {g : MG} {wp : List Nat} {b : MS} {enc : α → PyData} {F : α → List Slot → List Slot} {R : σ → List Slot} {stp : σ → α → σ} {I : σ → Prop} : ∀ {xs : List α} {s : σ}, (∀ x ∈ xs, g (enc x) = some (F x)) → I s →
    (∀ x ∈ xs, ∀ s, I s → ∃ ρ', b (F x (R s)) = .nx ρ' ∧ wipeS ρ' wp = R (stp s x) ∧ I (stp s x)) → forL g wp b (xs.map enc) (R s) = .nx (R (xs.foldl stp s)) ∧ I (xs.foldl stp s)
  | [], s, _, hi, _ => ⟨rfl, hi⟩
  | x :: xs, s, h1, hi, h2 => by
    obtain ⟨ρ', e1, e2, e3⟩ := h2 x (List.mem_cons_self ..) s hi
    have ih := forL_fold (s := stp s x) (fun y hy => h1 y (List.mem_cons_of_mem _ hy)) e3 (fun y hy => h2 y (List.mem_cons_of_mem _ hy))
    rw [List.map_cons, forL_cons, h1 x (List.mem_cons_self ..)]
    simp only [e1, e2]
    exact ih
end Lw

set_option Elab.async false
set_option linter.all false
set_option maxRecDepth 100000
set_option maxHeartbeats 4000000
set_option autoImplicit false
/-! Lw, part 1: defs called while an exception is handled; a lambda handed to a def. -/
namespace Lw
open PySem PySem.Spec PyProof.Rows L2 HotX L2H LwM LwZ
/-! ### isinstance of the handled exception -/
theorem call_isH {X : Cx} (K : PySem.W.Frag) {p : Addr × Obj} {cls : Value} {d : Option Addr} (hp : p ∈ X.pn) (hz : Zc cls d p.2) (hf : ∃ vs, p.2.data = .fields vs) (h : X.K = K := by rfl) : CallR X (.builtin "isinstance") (rIsX K p.1 cls d) := by
  subst h
  intro pins s σ H xs us Q I r h
  obtain ⟨D, c, cv, b, rfl, rfl, C, rfl, hcv, e, q⟩ := h
  cases r with
  | cons rx rr =>
    cases rr with
    | cons rt rr =>
      cases rr
      cases rx
      have ec := hcv _ rt
      subst ec
      obtain ⟨hget, _⟩ := I.pin p (List.mem_append_left _ hp)
      obtain ⟨vs, hv⟩ := hf
      have J : PySem.W.InstAt s.heap p.1 p.2 D none := by
        obtain ⟨a, ⟨oc, od, oda, osl⟩⟩ := p
        obtain ⟨h1, h2⟩ := hz
        dsimp only at h1 h2 hv
        subst h1 h2 hv
        exact ⟨hget, rfl, rfl, trivial⟩
      exact PySem.W.kia_one (PySem.W.handS_kitx_exc C.hg C.hk C.hs C.hd C.ha C.hn C.ht C.hm) I.kIn J e (fun z => nomatch z) fun tk => ⟨.bl b, H, I.kept (t' := tk) fun _ _ z => z, rfl, q⟩
/-! ### calls there -/
structure CalH (P : Program) (w : World) (K : PySem.W.Frag) (mg : Str → Option Value) (base : Heap) (k : Nat) (x : Str) (ps : List Str) (sp : Addr → Value → Option Addr → Sp) : Prop where
  ex : ∃ (f : Addr) (fd : FuncData), FnHX P w K mg base CX0 k f fd ps sp ∧ mg x = some (.ref f) ∧ PySem.W.keepIn K (.ref f) = true ∧ Binds K fd ps []
section
variable {X : Cx} {k j : Nat} {f : Addr} {fd : FuncData} {ps : List Str} {sp : Addr → Value → Option Addr → Sp} {x : Str} {q pos : Pos} {e : Expr} {es : List Expr} {t : TA} {p : Addr × Obj} {cls : Value} {d : Option Addr}
theorem run_fnHX {pins : List (Addr × Obj)} {σ : L2.St} {H : Hp} {s : Shared} {Q : VK} {us : List Value} {vs : List V} (F : FnHX X.prog X.w X.K X.mg X.base CX0 k f fd ps sp) (hr : RoomH k X.A) (hot : Hot1 X.A p) (hp : p ∈ X.pn) (hz : Zc cls d p.2) (hb : Binds X.K fd ps [])
    (I : Inv X pins σ H s) (r : Vals vs us) (h : sp p.1 cls d vs H Q (fun _ _ _ => False)) : wpAny (model X.prog X.w) X.A (call (.ref f) us) (EP X pins σ Q) X.xe s := by
  have hl : us.length = ps.length := by rw [← r.length]; exact F.len _ _ _ _ _ _ _ h
  have b := hb s us I.kIn (by rw [List.append_nil]; exact hl)
  rw [List.append_nil] at b
  have P1 := I.pin p (List.mem_append_left _ hp)
  have hpin : PinOk X.stack H s p := ⟨P1.1, P1.2.1, fun hm => (List.mem_cons.mp (I.stkSub p.1 hm)).elim P1.2.2.1 P1.2.2.2.1, P1.2.2.2.2⟩
  refine wpAny_call (codeAny_mono (F.run X.A X.stack s H ⟨us, []⟩ us vs Q _ p cls d hr hot hz hpin I.env0 b r h) fun r s' hq => ?_)
  cases r with
  | error e => exact False.elim hq
  | ok fl =>
    cases fl with
    | ret u => exact I.after hq
    | next => exact False.elim hq
    | brk => exact False.elim hq
    | cont => exact False.elim hq
theorem pe_callH1 (c : CalH X.prog X.w X.K X.mg X.base k x ps sp) (hr : RoomH j X.A) (hot : Hot1 X.A p) (hp : p ∈ X.pn) (hz : Zc cls d p.2) (hg : Gl X x)
    (ha : PA X (e :: es) t) (hk : k ≤ j := by decide) (hdb : (x == ("__debug__" : Str)) = false := by decide) (he : starEach (e :: es) X.env = (false, eval e X.env) :: starEach es X.env := by rfl) (hpl : (backTo pos (starEach es X.env)).any (·.1) = false := by rfl) :
    PE X (.Call (.Name x q) (e :: es) [] pos) (tCallS (sp p.1 cls d) (fun _ _ _ _ => False) t) := by
  obtain ⟨f, fd, F, hm, hkp, hb⟩ := c.ex
  refine ⟨fun pins s σ H Q I h => ?_⟩
  refine wpAny_Call_Name_kw (ld_glob I hg hm ?_ hdb)
  refine PySem.W.callWith_K (h₀ := X.base) I.ok.mod.kin hkp (thn (ha.run pos pins s σ H _ I h) fun us s1 ⟨vs, H1, I1, r, q⟩ => ⟨I1.kIn, ?_⟩) he hpl
  exact run_fnHX F (hr.mono hk) hot hp hz hb I1 r q
theorem pe_callH2 {a : Addr} {oe : Obj} (c : CalH X.prog X.w X.K X.mg X.base k x ps sp) (hr : RoomH j X.A) (hot : Hot1 X.A (a, oe)) (hp : (a, oe) ∈ X.pn) (hz : Zc cls d oe) (hg : Gl X x)
    (ha : PA X (e :: es) t) (hk : k ≤ j := by decide) (hdb : (x == ("__debug__" : Str)) = false := by decide) (he : starEach (e :: es) X.env = (false, eval e X.env) :: starEach es X.env := by rfl) (hpl : (backTo pos (starEach es X.env)).any (·.1) = false := by rfl) :
    PE X (.Call (.Name x q) (e :: es) [] pos) (tCallS (sp a cls d) (fun _ _ _ _ => False) t) := pe_callH1 (p := (a, oe)) c hr hot hp hz hg ha hk hdb he hpl
end
/-! ### defs' promises there -/
section
variable {P : Program} {w : World} {K : PySem.W.Frag} {T : Tb} {mg : Str → Option Value} {base : Heap}
/-- by data -/
theorem fnHZ {x : Str} {st : Stmt} {f : Addr} {fd : FuncData} {N ps : List Str} {k : Nat} {m : MS} {n np : Nat} (F : FnQ K x st [] [] f fd) (S : FnScope N ps (defScope st)) (hn : N.length = n) (hp : ps.length = np)
    (hbody : ∀ (cdv : Value) (A : Around) (outer : List Env) (s : Shared) (H : Hp) (E : XK) (p : Addr × Obj), Hot1 A p → RoomH k (A.deeper (PyProof.Rows.envOfC x (defScope st) s.heap.objs.size f cdv)) →
      ∃ t, PSs (cxH CX0 P w K mg base N x (defScope st) f cdv A outer s H E p).nox (defBody st) t ∧ SimS K T false t (fun _ _ _ _ => False) m) :
    FnHX P w K mg base CX0 (k + 1) f fd ps (fun _ _ _ => spZ K T false fun ds => (fnD np n m ds).calm) := by
  obtain ⟨oc, od, dV, kV, doc, pm, an, cdv, ct, osl, rfl, lk, hcd, _, _⟩ := F.ex
  subst hn hp
  have len : ∀ (vs : List V) (H : Hp) (Q : VK) (E : XK), spZ K T false (fun ds => (fnD ps.length N.length m ds).calm) vs H Q E → vs.length = ps.length := fun vs H Q E h => by
    obtain ⟨ds, S', l, hd, hR⟩ := h
    rw [hd.len]
    by_cases hl : ds.length = ps.length
    · exact hl
    · unfold fnD at hR
      simp only [if_neg hl] at hR
      exact hR.elim
  refine fn_ofHX lk hcd S (fun a cls d => len) fun A outer s H vs Q E p cls d hot hz hf hr h => ?_
  have hl := len _ _ _ _ h
  obtain ⟨ds, S', l, hd, hR⟩ := h
  have hld : ds.length = ps.length := hd.len ▸ hl
  obtain ⟨t, pt, sm⟩ := hbody cdv A outer s H E p hot hr
  refine ⟨t, pt.nox, ?_⟩
  refine sm (slots N.length ds) H (hide H S') S' { nx := fun _ H' => Q .non H', rt := Q } ?_ _ _ ⟨S', gd_start l hd⟩
  unfold fnD at hR
  simp only [if_pos hld] at hR
  cases hm : m (slots N.length ds) with
  | nx ρ' =>
    rw [hm] at hR
    exact fun σ H' ⟨S2, g⟩ => hR .non H' g.ext .non
  | rt d => rw [hm] at hR; exact hR
  | bk ρ' => rw [hm] at hR; exact hR.elim
  | ct ρ' => rw [hm] at hR; exact hR.elim
  | ex y ρ' => rw [hm] at hR; exact hR.elim
  | bad => rw [hm] at hR; exact hR.elim
/-- of the exception: R c d: what is said of class c -/
def spX (K : PySem.W.Frag) (T : Tb) (cl : List ErC) (R : ErC → Rz PyData) : Addr → Value → Option Addr → Sp := fun a cls d vs H Q _ => ∃ c S, c ∈ cl ∧ cls = .ref (He.ga K c.name) ∧ d = none ∧ vs = [.ref a] ∧ LsT T H S ∧ match R c with
  | .ok r => ∀ v H', Ext T H H' → Dt K (hide H' S) v r → Q v H'
  | _ => False
theorem fnHC {cl : List ErC} {x : Str} {st : Stmt} {f : Addr} {fd : FuncData} {N : List Str} {y : Str} {k : Nat} {m : Addr → ErC → MS} {R : ErC → Rz PyData} {n : Nat} (F : FnQ K x st [] [] f fd) (S : FnScope N [y] (defScope st)) (hn : N.length = n)
    (hR : ∀ a c, c ∈ cl → ∀ r, R c = .ok r → m a c (.raw (.ref a) :: List.replicate (n - 1) .no) = .rt r)
    (hbody : ∀ (cdv : Value) (A : Around) (outer : List Env) (s : Shared) (H : Hp) (E : XK) (p : Addr × Obj) (c : ErC), c ∈ cl → Hot1 A p → Zc (.ref (He.ga K c.name)) none p.2 → (∃ vs, p.2.data = .fields vs) → RoomH k (A.deeper (PyProof.Rows.envOfC x (defScope st) s.heap.objs.size f cdv)) →
      ∃ t, PSs (cxH CX0 P w K mg base N x (defScope st) f cdv A outer s H E p).nox (defBody st) t ∧ SimS K T false t (fun _ _ _ _ => False) (m p.1 c)) :
    FnHX P w K mg base CX0 (k + 1) f fd [y] (spX K T cl R) := by
  obtain ⟨oc, od, dV, kV, doc, pm, an, cdv, ct, osl, rfl, lk, hcd, _, _⟩ := F.ex
  subst hn
  refine fn_ofHX lk hcd S (fun a cls d vs H Q E h => ?_) fun A outer s H vs Q E p cls d hot hz hf hr h => ?_
  · obtain ⟨c, S', _, _, _, rfl, _⟩ := h
    rfl
  · obtain ⟨c, S', hc, rfl, rfl, rfl, l, hq⟩ := h
    obtain ⟨t, pt, sm⟩ := hbody cdv A outer s H E p c hc hot hz hf hr
    refine ⟨t, pt.nox, ?_⟩
    have g : Gd K T H (hide H S') S' H S' (L2.start N [.ref p.1]) (slotsA N.length [.raw (.ref p.1)]) := gd_startA l (.raw .nil)
    refine sm _ H (hide H S') S' { nx := fun _ H' => Q .non H', rt := Q } ?_ _ _ ⟨S', g⟩
    cases hRc : R c with
    | bad => rw [hRc] at hq; exact hq.elim
    | ex y => rw [hRc] at hq; exact hq.elim
    | ok r =>
      have e : m p.1 c (slotsA N.length [.raw (.ref p.1)]) = .rt r := hR p.1 c hc r hRc
      rw [e]
      rw [hRc] at hq
      exact hq
end
end Lw

set_option Elab.async false
set_option linter.all false
set_option maxRecDepth 100000
set_option maxHeartbeats 4000000
set_option autoImplicit false
/-! Lw, part 2: a lambda handed to a def that tries it. -/
namespace Lw
open PySem PySem.Spec PyProof.Rows L2 HotX L2H LwM LwZ LamX
/-- the lambda's context; what it lets out has no context of its own -/
abbrev lamN (X : Cx) (A : Around) (outer : List Env) (s : Shared) (H : Hp) (E : XK) (scope : Scope) (f c' : Addr) : Cx := (lamCx X A outer s H E scope f c').wish
  fun e s' => wpAny (model X.prog X.w) (A.deeper (lamEnv X scope s.heap.objs.size f c')) (leaving (lamEnv X scope s.heap.objs.size f c') e) (fun _ s'' => L2N.CX X.prog X.w outer H s E e s'') (fun e' s'' => L2N.CX X.prog X.w outer H s E e' s'') s'
section
variable {X : Cx} {pins : List (Addr × Obj)} {σ : L2.St} {H : Hp} {s : Shared}
theorem pe_actN {CXg : CXT} {Eg : XK} {Ng : List Str} {qg : Str} {sg : Scope} {g f c' : Addr} {cdg pm ctv : Value} {params : Arguments} {body : Expr} {scope : Scope} {k i : Nat} {a : Str} {pn : List (Addr × Obj)} {xe : Value → Shared → Prop} {W : WX} {tb : XK → TE} {p1 p2 : Pos}
    (I : Inv X pins σ H s) (L : LamS X.env.scope scope) (hf : s.heap.get? f = some (PySem.W.kla_obj "<lambda>" (X.env.qual ++ "<lambda>") params body scope (cloFrom X.env.cells scope.names []) pm c' ctv)) (hfn : H f = none) (hfr : f ∉ frs X.stack)
    (hbind : bindArgs (PySem.W.kla_fn "<lambda>" (X.env.qual ++ "<lambda>") params body scope (cloFrom X.env.cells scope.names []) pm (.ref c') ctv) ⟨[], []⟩ = pure [])
    (tk : L2N.Takes ((cxOf CXg X.prog X.w X.K X.mg X.base Ng qg sg g cdg X.A X.stack s H Eg).tr pn xe) W) (hr : Room (k + 1) (X.A.deeper (envOfC qg sg s.heap.objs.size g cdg)))
    (hbody : ∀ (A : Around) (outer : List Env) (s : Shared) (H : Hp) (E : XK), Room k (A.deeper (lamEnv X scope s.heap.objs.size f c')) → PE (lamN X A outer s H E scope f c') body (tb E))
    (hN : Ng[i]? = some a) (hv : Vis sg a) (hd : (a == ("__debug__" : Str)) = false := by decide) (hcd : (a == ("__classdict__" : Str)) = false := by decide) :
    PE ((cxOf CXg X.prog X.w X.K X.mg X.base Ng qg sg g cdg X.A X.stack s H Eg).tr pn xe) (.Call (.Name a p1) [] [] p2)
      (fun σZ HZ Q => σZ[i]? = some (some (.ref f)) ∧ HZ c' = some (CodeO c' (X.env.qual ++ "<lambda>")) ∧ tb (WE W σZ) σ HZ Q) := by
  refine ⟨fun pinsZ sZ σZ HZ Q IZ h => ?_⟩
  obtain ⟨hs, hc, ht⟩ := h
  refine wpAny_Call_Name_kw (thn ((pe_var (pos := p1) (i := i) hN hv hd hcd).run pinsZ sZ σZ HZ (fun v H1 => v = .ref f ∧ H1 = HZ) IZ ⟨.ref f, hs, rfl, rfl⟩) fun u s1 ⟨v, H1, I1, r1, q1⟩ => ?_)
  obtain ⟨ev, eH⟩ := q1
  subst ev
  rw [eH] at I1
  obtain rfl : u = Value.ref f := r1
  have of1 : s1.heap.get? f = some (PySem.W.kla_obj "<lambda>" (X.env.qual ++ "<lambda>") params body scope (cloFrom X.env.cells scope.names []) pm c' ctv) := I1.base.keep f _ hf hfn hfr (fun z => nomatch (show f ∈ ([] : List Addr) from z))
  refine PySem.W.callWith_F0 ⟨_, _, _, _, of1⟩ ?_
  have un : Un (frs X.stack) [] H HZ s.heap s1.heap := I1.base
  obtain ⟨⟨oc, vs, t, hoc, hdc, hvc⟩, _, _⟩ := I1.hok c' _ hc
  have rc : codeAny (model X.prog X.w) (X.A.deeper (envOfC qg sg s.heap.objs.size g cdg)) (.call (.ref f) ⟨[], []⟩) (CR (L2N.CX X.prog X.w) (envOfC qg sg s.heap.objs.size g cdg :: X.stack) X.prog X.w HZ s1 Q (WE W σZ)) s1 := by
    refine PySem.W.kla_callFunE hr.depth of1 rfl L.co L.gen rfl ⟨c', oc, vs, t, rfl, hoc, hdc, hvc⟩ ?_
    rw [hbind]
    refine wpAny_pure (wpAny_newFunctionEnv (fun y hy => (L.own y hy).2) (fun y hy => absurd hy (by simp)) (fun h₁ hns hsb => ⟨I1.nolimit.fresh _ hsb, ?_⟩) L.kind)
    show codeAny _ _ (.expr body (lamEnv X scope s1.heap.objs.size f c')) _ _
    have kp : ∀ b o, s1.heap.get? b = some o → h₁.get? b = some o := fun b o e => hsb.extBut b o (Nat.ne_of_lt (Heap.lt_size e)) (Heap.get?_push_of_some _ e)
    have J : Inv (lamCx X (X.A.deeper (envOfC qg sg s.heap.objs.size g cdg)) (envOfC qg sg s.heap.objs.size g cdg :: X.stack) s1 HZ (WE W σZ) scope f c') [] σ HZ { s1 with heap := h₁, toks := s1.toks + ([] : List (Str × Value)).length } :=
      lam_start2 I L I1.env0 hr.hd un hns kp
    refine PySem.W.kla_codeExpr (wpAny_mono ((hbody _ _ s1 HZ (WE W σZ) (hr.deeper _)).run [] _ _ HZ Q (J.wish _) ht) (fun v s' hq => ?_) fun e s' hq => hq)
    obtain ⟨w', H', J', rv, q⟩ := hq
    exact ⟨w', H', J'.os, J'.bare, J'.base, J'.hok, rv, q⟩
  refine wpAny_call (codeAny_mono rc fun r s' hq => ?_)
  cases r with
  | error e => exact L2N.passAt tk σZ pinsZ HZ s1 e s' I1 hq
  | ok fl =>
    cases fl with
    | ret u => exact I1.after hq
    | next => exact False.elim hq
    | brk => exact False.elim hq
    | cont => exact False.elim hq
end
/-- the def that calls what it got -/
def GivesN (X : Cx) (k : Nat) (Ng : List Str) (x : Str) (sg : Scope) (g : Addr) (cdg : Value) (bg : List Stmt) (a : Str) (q : Str) (TT : (XK → Hp → VK → Prop) → Hp → VK → Prop) : Prop :=
  ∀ (f c' : Addr) (s : Shared) (H : Hp) (Q : VK) (tl : XK → Hp → VK → Prop), Room k (X.A.deeper (envOfC x sg s.heap.objs.size g cdg)) →
    (∀ (W : WX) (pn : List (Addr × Obj)) (xe : Value → Shared → Prop) (p1 p2 : Pos), L2N.Takes ((cxOf C8.CX0 X.prog X.w X.K X.mg X.base Ng x sg g cdg X.A X.stack s H C8.E0).tr pn xe) W →
      PE ((cxOf C8.CX0 X.prog X.w X.K X.mg X.base Ng x sg g cdg X.A X.stack s H C8.E0).tr pn xe) (.Call (.Name a p1) [] [] p2) (fun σZ HZ Q => σZ[0]? = some (some (.ref f)) ∧ HZ c' = some (CodeO c' q) ∧ tl (WE W σZ) HZ Q)) →
    H c' = some (CodeO c' q) → TT tl H Q →
    ∃ t, PSs (cxOf C8.CX0 X.prog X.w X.K X.mg X.base Ng x sg g cdg X.A X.stack s H C8.E0).nox bg t ∧ t { nx := fun _ H' => Q .non H', rt := Q } (L2.start Ng [.ref f]) H
section
variable {X : Cx}
theorem pe_lamN {T : List (Addr × Str)} {TT : (XK → Hp → VK → Prop) → Hp → VK → Prop} {x a : Str} {g c P : Addr} {k : Nat} {pg : Arguments} {bg : List Stmt} {sg : Scope} {dV kV doc pm cdv ct oc : Value} {an od : Option Addr} {osl : Array (Option Value)} {Ng : List Str}
    {params : Arguments} {body : Expr} {scope : Scope} {t : XK → TE} {p lpos pos : Pos} (hg : Gl X x) (hm : X.mg x = some (.ref g)) (hk : PySem.W.keepIn X.K (.ref g) = true)
    (lk : X.K.lookup g = some ⟨oc, od, .func (PySem.W.fnOf x x pg bg sg dV kV doc pm an cdv ct), osl⟩) (hcg : PySem.W.codeIn X.K cdv x = true) (hb : L2.Binds X.K (PySem.W.fnOf x x pg bg sg dV kV doc pm an cdv ct) [a] []) (Sg : FnScope Ng [a] sg) (hNg : Ng[0]? = some a) (hva : Vis sg a)
    (hG : GivesN X (k + 1) Ng x sg g cdv bg a (X.env.qual ++ "<lambda>") TT)
    (TB : TabB X.base X.mg c P) (hcode : X.env.code = .ref c) (hmT : (P, X.env.qual ++ "<lambda>") ∈ T) (hu : ∀ p ∈ T, p.1 = P → p.2 = X.env.qual ++ "<lambda>") (hr : Room (k + 2) X.A) (L : LamS X.env.scope scope) (hdef : defaultsOf params X.env = ([], []))
    (hbind : ∀ (q : Str) (cl : List (Str × Addr)) (pm cv ctv : Value), bindArgs (PySem.W.kla_fn "<lambda>" q params body scope cl pm cv ctv) ⟨[], []⟩ = pure [])
    (hbody : ∀ (A : Around) (outer : List Env) (s : Shared) (H : Hp) (E : XK) (f c' : Addr), Room k (A.deeper (lamEnv X scope s.heap.objs.size f c')) → PE (lamN X A outer s H E scope f c') body (t E))
    (hdb : (x == ("__debug__" : Str)) = false := by decide) (hd : (a == ("__debug__" : Str)) = false := by decide) (hcd : (a == ("__classdict__" : Str)) = false := by decide) :
    PE X (.Call (.Name x p) [.Lambda params body scope lpos] [] pos) (tLam T TT t) := by
  refine ⟨fun pins s σ H Q I h => ?_⟩
  obtain ⟨hT, h⟩ := h
  refine wpAny_Call_Name_kw (ld_glob I hg hm ?_ hdb)
  refine PySem.W.callWith_K (h₀ := X.base) I.ok.mod.kin hk ?_ (by rfl) (by rfl)
  show wpAny _ _ (spliced ((false, eval (.Lambda params body scope lpos) X.env) :: backTo pos (starEach [] X.env))) _ _ s
  refine Calls.spliced_cons (lam_make2 I TB hcode hmT hu hT hdef (L.has I.ok) fun f c' pm' ctv H1 s' I1 eN T1 hf hfn hfr hco => ?_)
  refine Calls.spliced_nil ⟨I1.kIn, ?_⟩
  have rc : codeAny (model X.prog X.w) X.A (.call (.ref g) ⟨[.ref f], []⟩) (CR C8.CX0 X.stack X.prog X.w H1 s' Q C8.E0) s' := by
    refine run_ofS (N := Ng) (ps := [a]) (us := [.ref f]) (vs := [.ref f]) lk hcg Sg hr I1.env0 (hb s' [.ref f] I1.kIn rfl) (.cons rfl .nil) rfl fun hr' => ?_
    obtain ⟨t', ht', hq'⟩ := hG f c' s' H1 Q (fun E H' Q' => t E σ H' Q') hr' (fun W pn xe p1 p2 tk => pe_actN (i := 0) I1 L hf hfn hfr (hbind _ _ _ _ _) tk hr' (fun A outer s H E hr2 => hbody A outer s H E f c' hr2) hNg hva hd hcd) hco (h H1 eN T1)
    exact ⟨t', ht'.nox, hq'⟩
  refine wpAny_call (codeAny_mono rc fun r s2 hq => ?_)
  cases r with
  | error e => exact (show False from hq).elim
  | ok fl =>
    cases fl with
    | ret u => exact I1.after hq
    | next => exact False.elim hq
    | brk => exact False.elim hq
    | cont => exact False.elim hq
end
end Lw

set_option Elab.async false
set_option linter.all false
set_option maxRecDepth 100000
set_option maxHeartbeats 4000000
set_option autoImplicit false
/-! Lw, part 3: a lambda that is tried, read as data; a promise of equal things. -/
namespace Lw
open PySem PySem.Spec PyProof.Rows L2 HotX L2H LwM LwZ LamX
/-- what is told of a tried reading -/
def tryD (w : Exn → Option Str) : Rz PyData → Rz PyData
  | .ok d => .ok (.tuple [d, .str ""])
  | .ex x => match w x with
    | some s => .ok (.tuple [.none, .str s])
    | none => .bad
  | .bad => .bad
def xTry (w : Exn → Option Str) (m : ME) : ME := fun ρ => tryD w (m ρ)
section
variable {K : PySem.W.Frag} {T : Tb}
/-- what the lambda does -/
def Beh (K : PySem.W.Frag) (T : Tb) (H : Hp) (S : List Addr) (tl : XK → Hp → VK → Prop) : Rz PyData → Prop
  | .ok d => ∀ (E : XK) (HZ : Hp) (Q : VK), Ext T H HZ → (∀ v H', Ext T HZ H' → Dt K (hide H' S) v d → Q v H') → tl E HZ Q
  | .ex x => ∀ (E : XK) (HZ : Hp) (Q : VK), Ext T H HZ → (∀ d H', Ext T HZ H' → XD K (hide H' S) d x.fs → E (.ref (He.ga K x.cls)) d H') → tl E HZ Q
  | .bad => False
def TTr (K : PySem.W.Frag) (T : Tb) (w : Exn → Option Str) : (XK → Hp → VK → Prop) → Hp → VK → Prop := fun tl H Q => ∃ S o r, LsT T H S ∧ Beh K T H S tl o ∧ tryD w o = .ok r ∧ ∀ v H', Ext T H H' → Dt K (hide H' S) v r → Q v H'
theorem ext_N {H H1 : Hp} (e : ExtN H H1) (t : Tabs T H1) : Ext T H H1 := ⟨fun b o h n => e b o h fun ps z => (by rw [z] at n; cases n), fun _ => t⟩
theorem sim_try {w : Exn → Option Str} {t : XK → TE} {W : WX} {m : ME} (h : ∀ E, SimE K T (t E) (WF E) m) : SimE K T (tLam T (TTr K T w) t) W (xTry w m) := fun ρ => by
  have hh : ∀ E, EzE K T (t E) ρ (WF E) (m ρ) := fun E => h E ρ
  unfold xTry
  cases hm : m ρ with
  | bad => exact True.intro
  | ok d =>
    rw [hm] at hh
    exact fun H0 B C H S σ g Q hQ => ⟨(g.lsT (.refl T H)).2, fun H1 eN T1 => by
      have e1 : Ext T H H1 := ext_N eN T1
      exact ⟨S, .ok d, _, g.lsT e1, fun E HZ Q' eZ hQ' => hh E H0 B C HZ S σ (g.ex (e1.trans eZ)) Q' hQ', rfl, fun v H' e2 d2 => hQ v H' (e1.trans e2) d2⟩⟩
  | ex x =>
    rw [hm] at hh
    show EzE K T _ ρ W (match w x with
      | some s => .ok (.tuple [.none, .str s])
      | none => .bad)
    cases hw : w x with
    | none => exact True.intro
    | some s =>
      exact fun H0 B C H S σ g Q hQ => ⟨(g.lsT (.refl T H)).2, fun H1 eN T1 => by
        have e1 : Ext T H H1 := ext_N eN T1
        exact ⟨S, .ex x, .tuple [.none, .str s], g.lsT e1, fun E HZ Q' eZ hQ' => hh E H0 B C HZ S σ (g.ex (e1.trans eZ)) Q' hQ', (by simp only [tryD, hw]), fun v H' e2 d2 => hQ v H' (e1.trans e2) d2⟩⟩
/-- a promise of a relation, as a reading -/
noncomputable def dRel (R : List PyData → PyData → Prop) (ds : List PyData) : Rz PyData := open Classical in if h : ∃ r, R ds r then .ok h.choose else .bad
theorem sim_rel {R : List PyData → PyData → Prop} {ta : TA} {E : XK} {W : WX} {ma : MA} (h : SimA K T ta W ma) : SimE K T (tCall (spR K T R) [] E ta) W (xF (dRel R) ma) := fun ρ => by
  have a := h ρ
  unfold xF
  cases h1 : ma ρ with
  | bad => exact True.intro
  | ex x => rw [h1] at a; exact fun H0 B C H S σ g Q hQ => a H0 B C H S σ g _ hQ
  | ok ds =>
    rw [h1] at a
    show EzE K T _ ρ W (dRel R ds)
    unfold dRel
    split
    · rename_i hr
      exact ev_call a hr.choose_spec
    · exact True.intro
end
end Lw

set_option Elab.async false
set_option linter.all false
set_option maxRecDepth 100000
set_option maxHeartbeats 4000000
set_option autoImplicit false
/-! Lw, part 4: methods of texts. -/
namespace Lw
open PySem L2 LwZ
def txS : PyData → Rz Str
  | .str s => .ok s
  | _ => .bad
/-- x.m(ds) -/
def xM (f : Str → List PyData → Option PyData) (m : ME) (a : MA) : ME := fun ρ => (m ρ).bind fun x => (txS x).bind fun s => (a ρ).bind fun ds => .of (f s ds)
theorem xM_a {ρ : List Slot} (f : Str → List PyData → Option PyData) (m : ME) (a : MA) : xM f m a ρ = (m ρ).bind fun x => (txS x).bind fun s => (a ρ).bind fun ds => .of (f s ds) := nr rfl
theorem txS_str (s : Str) : txS (.str s) = .ok s := nr rfl
section
variable {K : PySem.W.Frag} {T : Tb} {W : WX} {te : TE} {ta : TA} {m : ME} {ma : MA}
/-- r does what f says -/
def RM (K : PySem.W.Frag) (T : Tb) (r : V → List V → Hp → VK → Prop) (f : Str → List PyData → Option PyData) : Prop := ∀ s ds z, f s ds = some z →
  ∀ (H : Hp) (S : List Addr) (vs : List V), Lsts H S → DtAll K (hide H S) vs ds → ∀ Q : VK, (∀ u H', Ext T H H' → Dt K (hide H' S) u z → Q u H') → r (.str s) vs H Q
theorem sim_m {r : V → List V → Hp → VK → Prop} {f : Str → List PyData → Option PyData} (hr : RM K T r f) (h : SimE K T te W m) (h' : SimA K T ta W ma) : SimE K T (tBM K "str" r te ta) W (xM f m ma) := fun ρ => by
  have a := h ρ
  have b := h' ρ
  unfold xM
  cases h1 : m ρ with
  | bad => exact True.intro
  | ex x => rw [h1] at a; exact fun H0 B C H S σ g Q hQ => a H0 B C H S σ g _ hQ
  | ok x =>
    rw [h1] at a
    show EzE K T _ ρ W ((txS x).bind fun s => (ma ρ).bind fun ds => .of (f s ds))
    cases x with
    | str s =>
      show EzE K T _ ρ W ((ma ρ).bind fun ds => .of (f s ds))
      cases h2 : ma ρ with
      | bad => exact True.intro
      | ex y =>
        rw [h2] at b
        exact fun H0 B C H S σ g Q hQ => a H0 B C H S σ g _ fun v H1 e1 d1 => by
          cases d1
          exact ⟨rfl, b H0 B C H1 S σ (g.ex e1) _ fun d H2 e2 xd => hQ d H2 (e1.trans e2) xd⟩
      | ok ds =>
        rw [h2] at b
        show EzE K T _ ρ W (Rz.of (f s ds))
        cases h3 : f s ds with
        | none => exact True.intro
        | some z =>
          exact fun H0 B C H S σ g Q hQ => a H0 B C H S σ g _ fun v H1 e1 d1 => by
            cases d1
            exact ⟨rfl, b H0 B C H1 S σ (g.ex e1) _ fun vs H2 e2 d2 => hr s ds z h3 H2 S vs ((g.lst.kp e1.kp).kp e2.kp) d2 Q fun u H' e3 d3 => hQ u H' (e1.trans (e2.trans e3)) d3⟩
    | _ => exact True.intro
/-! ### split, join -/
def rSpl : V → List V → Hp → VK → Prop := fun x xs H Q => ∃ a b, x = .str a ∧ xs = [.str b] ∧ (b.length == 0) = false ∧ a.length + 2 ≤ sizeLine ∧ rNewStrs (Txt.split a b) H Q
theorem mt_spl {X : Cx} : MtR X "str.split" rSpl := mt_split
def zSpl (a : Str) : List PyData → Option PyData
  | [.str b] => if (b.length == 0) = false ∧ a.length ≤ 1000000 then some (.list ((Txt.split a b).map .str)) else none
  | _ => none
theorem DtAll.strs {H : Hp} : ∀ (ys : List Str), DtAll K H (ys.map V.str) (ys.map PyData.str)
  | [] => .nil
  | y :: ys => .cons (.str y) (DtAll.strs ys)
theorem r_spl : RM K T rSpl zSpl := fun s ds z h H S vs l d Q hQ => by
  unfold zSpl at h
  split at h
  · rename_i b
    split at h
    · rename_i hc
      cases h
      cases d with | cons d1 d2 =>
      cases d2
      cases d1
      refine ⟨s, b, rfl, rfl, hc.1, ?_, fun p hp => ?_⟩
      · have : (1000002 : Nat) ≤ sizeLine := by decide
        have := hc.2
        omega
      · exact hQ _ _ (.new hp) (.lst (hide_at l (.of hp) rfl) (DtAll.strs _))
    · cases h
  · cases h
def rJn (K : PySem.W.Frag) : V → List V → Hp → VK → Prop := fun x xs H Q => ∃ a p, ∃ ys : List Str, x = .str a ∧ xs = [.ref p] ∧ (SqL K H p (ys.map V.str) ∨ SqT K H p (ys.map V.str)) ∧
    (ys.map (·.length)).sum + ys.length * a.length ≤ 16777216 ∧ Q (.str (Txt.join a ys)) H
theorem mt_jn {X : Cx} (K : PySem.W.Frag) (h : X.K = K := by rfl) : MtR X "str.join" (rJn K) := h ▸ mt_join
def asStrs : List PyData → Option (List Str)
  | [] => some []
  | .str s :: r => (asStrs r).map (s :: ·)
  | _ => none
theorem asStrs_eq : ∀ {ds : List PyData} {ys : List Str}, asStrs ds = some ys → ds = ys.map .str
  | [], ys, h => by cases h; rfl
  | d :: ds, ys, h => by
    cases d with
    | str s =>
      simp only [asStrs, Option.map_eq_some_iff] at h
      obtain ⟨zs, h1, rfl⟩ := h
      rw [asStrs_eq h1]
      rfl
    | _ => simp [asStrs] at h
def zJn (a : Str) : List PyData → Option PyData
  | [.list ds] => match asStrs ds with
    | some ys => if (ys.map (·.length)).sum + ys.length * a.length ≤ 16777216 then some (.str (Txt.join a ys)) else none
    | none => none
  | _ => none
theorem r_jn : RM K T (rJn K) zJn := fun s ds z h H S vs l d Q hQ => by
  unfold zJn at h
  split at h
  · rename_i ds
    split at h
    · rename_i ys hy
      split at h
      · rename_i hc
        cases h
        cases d with | cons d1 d2 =>
        cases d2
        cases d1 with | lst h1 h2 =>
        rw [asStrs_eq hy] at h2
        have e := h2.strs_inv
        subst e
        exact ⟨s, _, ys, rfl, rfl, .inl (SqL.of (hide_get h1)), hc, hQ _ _ (.refl T H) (.str _)⟩
      · cases h
    · cases h
  · cases h
/-! ### isinstance of the handled exception -/
def xIs (a : Addr) (i : Nat) (b : Bool) : ME := fun ρ => match ρ[i]? with
  | some (.raw (.ref a')) => if a' = a then .ok (.bool b) else .bad
  | _ => .bad
theorem sim_is {a : Addr} {i : Nat} {b : Bool} {x y : Str} (hc : ExcC K (He.ga K x)) (hk : PySem.W.kitOne K (.ref (He.ga K x)) (.ref (He.ga K y)) = some b) :
    SimE K T (tCB (rIsX K a (.ref (He.ga K x)) none) (tCons (tVar i) (tCons (tC (.ref (He.ga K y))) tNil))) W (xIs a i b) := fun ρ => by
  unfold xIs
  split
  · rename_i a' h
    by_cases e : a' = a
    · rw [if_pos e]
      subst e
      exact ev_isX h hc (fun u r => r) hk
    · rw [if_neg e]
      exact True.intro
  · exact True.intro
end
end Lw

set_option Elab.async false
set_option linter.all false
set_option maxRecDepth 100000
set_option maxHeartbeats 4000000
set_option autoImplicit false
/-! Lw, part H: the head and the end. -/
namespace Lw
open PySem L2
def dd (x : Str) (st : Stmt) (dfl : List He.Dv) : He.DefD := ⟨(x, none), x, x, defArgs st, defBody st, defScope st, dfl, []⟩
theorem cal_mk {P : Program} {w : World} {K : PySem.W.Frag} {mg : Str → Option Value} {base : Heap} {k : Nat} {x : Str} {ps : List Str} {sp : Sp} {f : Addr} {fd : FuncData}
    (G : FnOk P w K mg base CX0 k f fd ps sp) (m : mg x = some (.ref f)) (kp : PySem.W.keepIn K (.ref f) = true) (b : Binds K fd ps []) : Cal P w K mg base k x ps [] sp := ⟨f, fd, [], G, m, kp, b, .nil⟩
theorem cal_mkD {P : Program} {w : World} {K : PySem.W.Frag} {mg : Str → Option Value} {base : Heap} {k : Nat} {x : Str} {ps : List Str} {dvs : List V} {sp : Sp} {f : Addr} {fd : FuncData}
    (G : FnOk P w K mg base CX0 k f fd ps sp) (m : mg x = some (.ref f)) (kp : PySem.W.keepIn K (.ref f) = true) (b : ∃ ds, Vals dvs ds ∧ Binds K fd ps ds) : Cal P w K mg base k x ps dvs sp :=
  let ⟨ds, v, b⟩ := b; ⟨f, fd, ds, G, m, kp, b, v⟩
theorem calX_mk {P : Program} {w : World} {K : PySem.W.Frag} {mg : Str → Option Value} {base : Heap} {k : Nat} {x : Str} {ps : List Str} {sp : Sp} {f : Addr} {fd : FuncData}
    (G : FnOk P w K mg base (L2N.CX P w) k f fd ps sp) (m : mg x = some (.ref f)) (kp : PySem.W.keepIn K (.ref f) = true) (b : Binds K fd ps []) : CalX P w K mg base k x ps [] sp := ⟨f, fd, [], G, m, kp, b, .nil⟩
theorem calX_mkD {P : Program} {w : World} {K : PySem.W.Frag} {mg : Str → Option Value} {base : Heap} {k : Nat} {x : Str} {ps : List Str} {dvs : List V} {sp : Sp} {f : Addr} {fd : FuncData}
    (G : FnOk P w K mg base (L2N.CX P w) k f fd ps sp) (m : mg x = some (.ref f)) (kp : PySem.W.keepIn K (.ref f) = true) (b : ∃ ds, Vals dvs ds ∧ Binds K fd ps ds) : CalX P w K mg base k x ps dvs sp :=
  let ⟨ds, v, b⟩ := b; ⟨f, fd, ds, G, m, kp, b, v⟩
theorem sql_hide {K : PySem.W.Frag} {H : Hp} {a : Addr} {xs : List V} (h : SqL K H a xs) : SqL K (hide H []) a xs := by
  have e : ∀ (b : Addr) (o : HO), H b = some o → isTbl o = false → hide H [] b = some o := fun b o h n => hide_some.mpr ⟨fun z => (by cases z), h, n⟩
  rcases h with (h | ⟨o, h⟩) | h
  · exact .inl (.inl (e _ _ h rfl))
  · exact .inl (.inr ⟨o, e _ _ h rfl⟩)
  · exact .inr h
/-- the law's promise gives the row's wish -/
theorem law_wish {K : PySem.W.Frag} {T : Tb} {H : Hp} {a : Addr} {ns : List Int} (hl : ns.length ≤ 63) (hS : SqL K H a (ns.map V.int)) (hT : LamX.Tabs T H) : spA K T Rlaw [.ref a] H (fun v _ => v = .bl true) fun _ _ _ => False :=
  ⟨[.scr (ns.map .int)], _, [], ⟨fun q hq => (by cases hq), hT⟩, .scr (sql_hide hS) DtAll.ints .nil, ⟨ns, hl, rfl, rfl⟩, fun r hr v H' _ dv => by
    subst hr
    cases dv
    rfl⟩
end Lw

set_option Elab.async false
set_option linter.all false
set_option maxRecDepth 100000
set_option maxHeartbeats 4000000
set_option autoImplicit false
/-! Lw, part 5: the hook with tables, the end. -/
namespace Lw
open PySem L2 LwZ
abbrev AlQ : Type := He.AlD × Bool
def KQ (n : Nat) (g : Addr → Option Obj) : PySem.W.Frag := He.frT g (He.asD g n ++ [cStatics, sysModules])
/-- the tables of the defs tf: empty, each its own -/
def tabQ (g : Addr → Option Obj) (tf : List He.Defn) (K : PySem.W.Frag) : Bool := He.tabsB g tf K && decide (tf.map fun p => (He.cT K p).2).Nodup
def obsQ (n : Nat) (fa : List He.Fa) (fn : List He.DefD) (tf : List He.Defn) (ck : PySem.W.Frag → Bool) (g : Addr → Option Obj) : AlQ := (He.obsD fa fn (KQ n g), ck (KQ n g) && tabQ g tf (KQ n g))
structure SaysQ (fa : List He.Fa) (fn : List He.DefD) (tf : List He.Defn) (ck : PySem.W.Frag → Bool) (h : Heap) (K : PySem.W.Frag) : Prop where
  d : He.SaysD fa fn K
  ck : ck K = true
  hd : ∀ p ∈ tf, PySem.W.codeHdIn K (He.cT K p).1 (He.cT K p).2 = true
  out : ∀ p ∈ tf, K.lookup (He.cT K p).2 = none
  empty : ∀ p ∈ tf, h.get? (He.cT K p).2 = some { cls := .none, data := .fields #[] }
  nd : (tf.map fun p => (He.cT K p).2).Nodup
theorem saysQ_of {n : Nat} {fa : List He.Fa} {fn : List He.DefD} {tf : List He.Defn} {ck : PySem.W.Frag → Bool} {h : Heap} (e : obsQ n fa fn tf ck h.get? = (He.valD fn, true)) : SaysQ fa fn tf ck h (KQ n h.get?) := by
  have e1 : He.obsD fa fn (KQ n h.get?) = He.valD fn := congrArg Prod.fst e
  have e2 : (ck (KQ n h.get?) && tabQ h.get? tf (KQ n h.get?)) = true := congrArg Prod.snd e
  obtain ⟨h1, h2⟩ := He.ba e2
  unfold tabQ at h2
  obtain ⟨h2, h5⟩ := He.ba h2
  have key : ∀ p ∈ tf, PySem.W.codeHdIn (KQ n h.get?) (He.cT (KQ n h.get?) p).1 (He.cT (KQ n h.get?) p).2 = true ∧ ∃ o, h.get? (He.cT (KQ n h.get?) p).2 = some o ∧ He.emptyTab o = true := fun p hp => by
    obtain ⟨h3, h4⟩ := He.ba (List.all_eq_true.mp h2 p hp)
    refine ⟨h3, ?_⟩
    cases q : h.get? (He.cT (KQ n h.get?) p).2 with
    | none => rw [q] at h4; cases h4
    | some o => rw [q] at h4; exact ⟨o, rfl, h4⟩
  exact ⟨e1, h1, fun p hp => (key p hp).1, fun p hp => by
    obtain ⟨_, o, q, z⟩ := key p hp
    exact He.frT_none q z, fun p hp => by
    obtain ⟨_, o, q, z⟩ := key p hp
    rw [q, He.emptyTab_eq z], of_decide_eq_true h5⟩
def hookQ (n : Nat) (fa : List He.Fa) (fn : List He.DefD) (tf : List He.Defn) (ck : PySem.W.Frag → Bool) : PySem.W.Hook where
  α := AlQ
  obs := fun s => obsQ n fa fn tf ck s.heap.get?
  val := fun _ => (He.valD fn, true)
  says := fun _ h => ∃ K : PySem.W.Frag, K.In h ∧ SaysQ fa fn tf ck h K
  of := fun _ _ e => ⟨_, He.frT_in, saysQ_of e⟩
  keeps := fun _ _ _ ⟨K, hK, c⟩ k => ⟨K, PySem.W.Frag.In.keeps hK k, ⟨c.d, c.ck, c.hd, c.out, fun p hp => k _ _ (c.empty p hp), c.nd⟩⟩
theorem obsQ_eq {n : Nat} {fa : List He.Fa} {fn : List He.DefD} {tf : List He.Defn} {ck : PySem.W.Frag → Bool} {g : Addr → Option Obj} {s : Shared} (h : ∀ a, g a = s.heap.get? a) : obsQ n fa fn tf ck g = (hookQ n fa fn tf ck).obs s := by
  have e : g = s.heap.get? := funext h
  rw [e] <;> rfl
/-- the tables' names -/
def tabT (tf : List He.Defn) (K : PySem.W.Frag) : Tb := tf.map fun p => ((He.cT K p).2, p.1 ++ (".<locals>." : Str) ++ ("<lambda>" : Str))
theorem tabT_mem {tf : List He.Defn} {K : PySem.W.Frag} {p : He.Defn} (h : p ∈ tf) : ((He.cT K p).2, p.1 ++ (".<locals>." : Str) ++ ("<lambda>" : Str)) ∈ tabT tf K := List.mem_map.mpr ⟨p, h, rfl⟩
theorem nodup_inj {α β : Type} {f : α → β} : ∀ {l : List α}, (l.map f).Nodup → ∀ {a b : α}, a ∈ l → b ∈ l → f a = f b → a = b
  | [], _, a, b, ha, _, _ => by cases ha
  | x :: l, h, a, b, ha, hb, e => by
    rw [List.map_cons, List.nodup_cons] at h
    rcases List.mem_cons.mp ha with e1 | h1
    · rcases List.mem_cons.mp hb with e2 | h2
      · rw [e1, e2]
      · exact absurd (List.mem_map.mpr ⟨b, h2, by rw [← e, e1]⟩) h.1
    · rcases List.mem_cons.mp hb with e2 | h2
      · exact absurd (List.mem_map.mpr ⟨a, h1, by rw [e, e2]⟩) h.1
      · exact nodup_inj h.2 h1 h2 e
theorem tabT_one {tf : List He.Defn} {K : PySem.W.Frag} (nd : (tf.map fun p => (He.cT K p).2).Nodup) {p : He.Defn} (h : p ∈ tf) : ∀ q ∈ tabT tf K, q.1 = (He.cT K p).2 → q.2 = p.1 ++ (".<locals>." : Str) ++ ("<lambda>" : Str) := fun q hq e => by
  obtain ⟨r, hr, rfl⟩ := List.mem_map.mp hq
  rw [nodup_inj nd hr h e]
theorem tabs_start {tf : List He.Defn} {K : PySem.W.Frag} {H : Hp} (h : ∀ p ∈ tf.map (He.cT K), H p.2 = some (.tbl #[])) : LamX.Tabs (tabT tf K) H := fun q hq => by
  obtain ⟨r, hr, rfl⟩ := List.mem_map.mp hq
  exact LamX.TabS.nil (h _ (List.mem_map.mpr ⟨r, hr, rfl⟩))
/-- the end of a law's row with tables, K told by the hook -/
theorem walk_ofTE {l : PySem.W.OpenLaw} {n k : Nat} {q : Program} {loose : List Str} {XP : (Str → Option Value) → Heap → Prop} {YP : World → Heap → Prop} {d : DefRec} {CX : CXT} {x : Str}
    (hn : l.most = some n) (hn2 : n ≤ sizeLine) (hdf : d.params.defaults = []) (hr : Room k callerA)
    (F : ∀ (w : World) (mg : Str → Option Value) (fa : Addr) (h : Heap), YP w h → h.Ns mainGlobals mg → mg d.name = some (.ref fa) → ∃ K : PySem.W.Frag, K.In h ∧ LamX.LawAtS l w K CX k n x mg fa h)
    (hCX : ∀ (H : Hp) (s : Shared) (e : Value) (s' : Shared), CX [] H s (fun _ _ _ => False) e s' → False) :
    PySem.W.WalkO q loose XP YP l.row.toRowW d [] (fun f vs => PySem.call f vs) := by
  refine Att.attach_callB hn hdf fun w s₀ s₁ mg mb fa o pm cd doc a vs ns G Y ho hd hcd hmg hobj hints hlen hbits hg => ?_
  obtain ⟨K, KX, fd, cs, sp, hT, nT, C, hb, hsp, hF⟩ := F w mg fa _ Y G.T.g hmg
  exact LamX.law_callTs KX G.T.g G.T.b G.T.builtins G.T.nolimit hg hT nT C G.T.bmain hobj hints (Nat.le_trans hlen hn2) hr hF hb (fun H hH hS => hsp H a ns hlen hbits hH hS) fun H e s' => hCX H s₁ e s'
end Lw

set_option Elab.async false
set_option linter.all false
set_option maxRecDepth 100000
set_option maxHeartbeats 4000000
set_option autoImplicit false
/-! Lw, part 7: tuple * int where the tuple stays. -/
namespace Lw
open PySem PySem.Spec PyProof.Rows L2 LwZ
theorem tuple_mul1 (l : Addr) (items : Array Value) (n : Nat) (dd : Option Addr) (sl : Array (Option Value)) (x : Int) (u : Tok) (c0 : (decide (x < -(2 ^ 63)) || decide (x ≥ 2 ^ 63)) = false) (c1 : (items.isEmpty || x == 1) = true) :
    Meets (Builtin.«tuple.__mul__» ⟨[.ref l, .int x u], []⟩) (fun _ R s => s.heap.get? l = some { cls := .type "tuple", dict := dd, data := .seq items n, slots := sl } ∧
      R (.ok (.ret (Value.ref l))) s) :=
  .of_wp fun prog w A R s h => by
    obtain ⟨hp, g, d, tk, os⟩ := s
    obtain ⟨hl, h⟩ := h
    have f1 := AutoSeq1.idx_int
    wp_walk using wpAny_loadPart' hl
    repeat (first
      | (refine wpAny_ite_false (decide_eq_false (by rw [c0]; exact Bool.false_ne_true)) ?_; wp_walk using wpAny_loadPart' hl)
      | (refine wpAny_ite_true (decide_eq_true (by rw [c1])) ?_; wp_walk using wpAny_loadPart' hl))
    exact ⟨_, rfl, h⟩
/-- the same tuple -/
def rRepS (K : PySem.W.Frag) : R2 := fun x y H Q => ∃ l k xs, x = .ref l ∧ y = .int k ∧ SqT K H l xs ∧ (xs = [] ∨ k = 1) ∧ -1000 ≤ k ∧ k ≤ 1000 ∧ Q (.ref l) H
theorem op_repS {X : Cx} : OpR X (binaryOp .Mult) (rRepS X.K) := by
  intro pins s σ H x y v u Q I rx ry h
  obtain ⟨l, k, xs, rfl, rfl, hT, hne, h1, h2, q⟩ := h
  cases rx
  obtain ⟨t, rfl⟩ := ry
  obtain ⟨its, r, ⟨⟨cls, dd, data, sl⟩, ho, hc, n, hd⟩, hs⟩ := I.tuple hT
  simp only at hc hd
  subst hc hd
  have hle : its.length = xs.length := r.length.symm
  have c0 : (decide (k < -(2 ^ 63)) || decide (k ≥ 2 ^ 63)) = false := by
    rw [decide_eq_false (by omega), decide_eq_false (by omega)] <;> rfl
  have c1 : (its.toArray.isEmpty || k == 1) = true := by
    rcases hne with e | e
    · rw [e] at hle
      rw [List.eq_nil_of_length_eq_zero hle]
      rfl
    · rw [e]
      exact Bool.or_true _
  refine wpAny_binaryOp_repeat_ref (T := "tuple") (U := "int") (by decide) ⟨_, ho, rfl⟩ (fun s' => typeIs_int s' k t) noFill_tuple_mul F.fills_int_mul F.slot_int_rmul repeat_tuple F.slot_int_index.lookup
    (call_meets F.slot_int_rmul (typeIs_int s k t) F.entry_int_rmul (F.args_int_rmul_2 _ _) (int_rmul_tuple k t l its.toArray n dd sl)
      ⟨ho, rfl, ⟨_, ho, rfl⟩, call_meets F.slot_tuple_mul ⟨_, ho, rfl⟩ F.entry_tuple_mul (F.args_tuple_mul_2 _ _) (tuple_mul1 l its.toArray n dd sl k t c0 c1) ⟨ho, ?_⟩⟩)
  exact ⟨.ref l, H, I, rfl, q⟩
def rMulB (K : PySem.W.Frag) : R2 := fun x y H Q => rMulA x y H Q ∨ rRepT K x y H Q ∨ rRepS K x y H Q
theorem op_mulB {X : Cx} (K : PySem.W.Frag) (h : X.K = K := by rfl) : OpR X (binaryOp .Mult) (rMulB K) := by
  subst h
  exact .or op_mulA (.or op_repT op_repS)
section
variable {K : PySem.W.Frag} {T : Tb}
theorem rv_rep2 {xs : List PyData} {j : Int} (h0 : xs ≠ []) (h1 : 2 ≤ j) (h2 : j ≤ 1000) (hl : xs.length ≤ 1000) : RV K T (rMulB K) (.tuple xs) (.int j) (.tuple (List.replicate j.toNat xs).flatten) := fun H S v u l dv du Q hQ => by
  cases du
  cases dv with
  | tup h3 a1 =>
    refine .inr (.inl ⟨_, j, _, rfl, rfl, sqt_hide h3, fun e => ?_, h1, h2, by rw [a1.len]; exact hl, fun p hp => ?_⟩)
    · subst e
      cases a1
      exact h0 rfl
    · exact hQ _ _ (.new hp) (.tup (SqT.of (hide_at l (.of hp) rfl)) ((a1.rep _).kp ((Ext.new (T := T) hp).kp.hide S)))
theorem rv_rep1 {xs : List PyData} {j : Int} (h0 : xs = [] ∨ j = 1) (h1 : -1000 ≤ j) (h2 : j ≤ 1000) : RV K T (rMulB K) (.tuple xs) (.int j) (.tuple xs) := fun H S v u l dv du Q hQ => by
  cases du
  cases dv with
  | tup h3 a1 =>
    refine .inr (.inr ⟨_, j, _, rfl, rfl, sqt_hide h3, ?_, h1, h2, hQ _ H (.refl T H) (.tup h3 a1)⟩)
    rcases h0 with e | e
    · subst e
      cases a1
      exact .inl rfl
    · exact .inr e
def zMulT : PyData → PyData → Option PyData
  | .tuple xs, .int j => if (xs.isEmpty || j == 1) && (decide (-1000 ≤ j) && decide (j ≤ 1000)) then some (.tuple xs) else if decide (2 ≤ j) && (decide (j ≤ 1000) && decide (xs.length ≤ 1000)) then some (.tuple (List.replicate j.toNat xs).flatten) else none
  | _, _ => none
theorem r_mulT : ROp K T (rMulB K) zMulT := fun x y z h => by
  unfold zMulT at h
  split at h
  · rename_i xs j
    split at h
    · rename_i hl
      simp only [Bool.and_eq_true, Bool.or_eq_true, decide_eq_true_eq, beq_iff_eq, List.isEmpty_iff] at hl
      cases h
      exact rv_rep1 hl.1 hl.2.1 hl.2.2
    · rename_i hn
      split at h
      · rename_i hl
        simp only [Bool.and_eq_true, decide_eq_true_eq] at hl
        cases h
        refine rv_rep2 (fun e => ?_) hl.1 hl.2.1 hl.2.2
        subst e
        apply hn
        simp only [Bool.and_eq_true, Bool.or_eq_true, decide_eq_true_eq]
        exact ⟨.inl rfl, by omega, by omega⟩
      · cases h
  · cases h
end
end Lw

set_option Elab.async false
set_option linter.all false
set_option maxRecDepth 100000
set_option maxHeartbeats 4000000
set_option autoImplicit false
/-! Lw, part 8: owned lists looked at, cleared. -/
namespace Lw
open PySem L2 LwZ
/-- a test that sees the owned lists as data -/
def yVw (m : MT) : MT := fun ρ => match m (ρ.map Slot.view) with
  | .ok b => .ok b
  | _ => .bad
/-- an expression that sees them so and gives no list -/
def xVw (m : ME) : ME := fun ρ => match m (ρ.map Slot.view) with
  | .ok d => if scalD d then .ok d else .bad
  | _ => .bad
def kClr (i : Nat) : MS := fun ρ => match ownL ρ[i]? with
  | some _ => .nx (ρ.set i (.own (.lst [])))
  | none => .bad
section
variable {K : PySem.W.Frag} {T : Tb} {W : WX} {fr : Bool}
theorem sim_yVw {t : TT} {mt : MT} (h : SimT K T t W mt) : SimT K T t W (yVw mt) := fun ρ => by
  have a := h (ρ.map Slot.view)
  unfold yVw
  cases h1 : mt (ρ.map Slot.view) with
  | bad => exact True.intro
  | ex x => exact True.intro
  | ok b => rw [h1] at a; exact et_view a
theorem sim_xVw {t : TE} {m : ME} (h : SimE K T t W m) : SimE K T t W (xVw m) := fun ρ => by
  have a := h (ρ.map Slot.view)
  unfold xVw
  cases h1 : m (ρ.map Slot.view) with
  | bad => exact True.intro
  | ex x => exact True.intro
  | ok d =>
    rw [h1] at a
    show EzE K T t ρ W (if scalD d then .ok d else .bad)
    split
    · rename_i hs; exact ev_view a hs
    · exact True.intro
theorem sim_clr {i : Nat} : SimS K T fr (tDrop (tBM0 K "list" rClear (tVar i))) W (kClr i) := fun ρ H0 B C D p => by
  unfold kClr at p
  cases h0 : ownL ρ[i]? with
  | none => rw [h0] at p; exact p.elim
  | some ds =>
    rw [h0] at p
    have ho := ownL_eq h0
    exact fun σ H ⟨S, g⟩ => by
      obtain ⟨q, u, a1, a2, a3, a4, a5⟩ := g.own i _ ho
      cases a5 with | @lst xs _ a5 =>
      refine ⟨.ref q, a1, .inl ⟨rfl, xs, SqL.of a4⟩, q, xs, rfl, rfl, a4, ?_⟩
      exact p _ _ ⟨S, g.write ho a1 a4 .nil⟩
end
section
variable {K : PySem.W.Frag} {T : Tb} {W : WX} {ta tk : TA} {ma mk : MA} {F : List PyData → Rz PyData} {n m : Nat} {gV : List V → List V → List V} {gD : List PyData → List PyData → List PyData}
theorem sim_callKCF {E : XK} (hg : ∀ {H : Hp} {vs zs : List V} {ds es : List PyData}, ds.length = n → es.length = m → DtAll K H vs ds → DtAll K H zs es → DtAll K H (gV vs zs) (gD ds es)) (h : SimA K T ta W ma) (h' : SimA K T tk W mk) :
    SimF K T (tCallN n m (spZ K T true fun ds => (F ds).calm) gV E ta tk) W (fFc F (zKw n m gD ma mk)) := fun ρ => by
  have a := h ρ
  have b := h' ρ
  unfold fFc zKw
  cases h1 : ma ρ with
  | bad => exact True.intro
  | ex x => rw [h1] at a; exact fun H0 B C H S σ g Q hQ => a H0 B C H S σ g _ hQ
  | ok ds =>
    rw [h1] at a
    cases h2 : mk ρ with
    | bad => exact True.intro
    | ex x => rw [h2] at b; exact fun H0 B C H S σ g Q hQ => a H0 B C H S σ g _ fun vs H1 e1 d1 => b H0 B C H1 S σ (g.ex e1) _ fun d H2 e2 xd => hQ d H2 (e1.trans e2) xd
    | ok es =>
      rw [h2] at b
      show EzF K T _ ρ W ((if ds.length = n ∧ es.length = m then Rz.ok (gD ds es) else .bad).bind _)
      by_cases hl : ds.length = n ∧ es.length = m
      · rw [if_pos hl]
        show EzF K T _ ρ W ((F (gD ds es)).calm.bind _)
        cases h3 : F (gD ds es) with
        | bad => exact True.intro
        | ex x => exact True.intro
        | ok r =>
          show EzF K T _ ρ W (Rz.of (asL r))
          cases r with
          | list rs =>
            exact fun H0 B C H S σ g Q hQ => a H0 B C H S σ g _ fun vs H1 e1 d1 => b H0 B C H1 S σ (g.ex e1) _ fun zs H2 e2 d2 => ⟨d1.len.trans hl.1, d2.len.trans hl.2, gD ds es, S, g.lsT (e1.trans e2), hg hl.1 hl.2 (d1.kp (e2.kp.hide S)) d2, by
              simp only [h3]
              exact fun p xs H' e3 hp h4 ha => hQ p xs H' ((e1.trans e2).trans e3) (hp.back (e1.trans e2).kp) h4 ha⟩
          | none => exact True.intro
          | bool b => exact True.intro
          | int b => exact True.intro
          | str b => exact True.intro
          | tuple b => exact True.intro
          | dict b => exact True.intro
      · rw [if_neg hl]; exact True.intro
theorem sim_callSCF {E : XK} {o : List Arg} {mz : List V} {ms : List PyData} (hd : ∀ H, DtAll K H mz ms) (h : SimA K T ta W ma) (h' : SimA K T tk W mk) : SimF K T (tCallN n m (spZ K T true fun ds => (F ds).calm) (fun vs zs => sel o vs mz zs) E ta tk) W (fFc F (zKw n m (fun ds es => sel o ds ms es) ma mk)) :=
  sim_callKCF (fun _ _ a b => sel_dt a (hd _) b o) h h'
end
section
variable {ρ : List Slot}
theorem yVw_a (m : MT) : yVw m ρ = (match m (ρ.map Slot.view) with | .ok b => .ok b | _ => .bad) := nr rfl
theorem xVw_a (m : ME) : xVw m ρ = (match m (ρ.map Slot.view) with | .ok d => if scalD d then .ok d else .bad | _ => .bad) := nr rfl
theorem kClr_a (i : Nat) : kClr i ρ = (match ownL ρ[i]? with | some _ => .nx (ρ.set i (.own (.lst []))) | none => .bad) := nr rfl
theorem view_no : Slot.view .no = .no := nr rfl
theorem view_dat (d : PyData) : Slot.view (.dat d) = .dat d := nr rfl
theorem view_own (ds : List PyData) : Slot.view (.own (.lst ds)) = .dat (.list ds) := nr rfl
theorem view_scr (ds : List PyData) : Slot.view (.scr ds) = .scr ds := nr rfl
end
end Lw

set_option Elab.async false
set_option linter.all false
set_option maxRecDepth 100000
set_option maxHeartbeats 4000000
set_option autoImplicit false
/-! Lw, part 9: lists within a list, changed and forgotten; a comprehension of two clauses. -/
namespace Lw
open PySem L2 LwZ
section
variable {K : PySem.W.Frag} {T : Tb} {H0 B : Hp} {C : List Addr} {H H' : Hp} {S : List Addr} {σ : St} {ρ : List Slot}
/-- a new list is hidden, no name's -/
theorem Gd.keepOff (g : Gd K T H0 B C H S σ ρ) {p : Addr} {xs : List V} {ds : List PyData} (e : Ext T H H') (hp : Fresh H p) (h1 : H' p = some (.lst xs)) (h2 : DtAll K (hide H' (p :: S)) xs ds) : Gd K T H0 B C H' (p :: S) σ ρ ∧ NotMine σ ρ p := by
  have q := g.mineO (i := ρ.length) (ds := .lst ds) e hp h1 (.lst h2)
  rw [List.set_eq_of_length_le (Nat.le_refl _), List.set_eq_of_length_le (by rw [g.len]; exact Nat.le_refl _)] at q
  refine ⟨q, fun i ds hi z => ?_⟩
  obtain ⟨p', u, a1, a2, a3, a4, a5⟩ := g.own i ds hi
  rw [z] at a1
  cases a1
  have := hp u a4
  cases a5 <;> cases this
end
/-- a statement that changes the k-th list of the list at x -/
def MutOk (K : PySem.W.Frag) (x : Nat) (k : Int) (ts : TS) : Prop := ∀ (D : Ends) (σ : St) (H : Hp) (a p : Addr) (vs xs : List V), σ[x]? = some (some (.ref a)) → H a = some (.lst vs) → atI vs k = some (.ref p) → H p = some (.lst xs) → xs.length < 1000000 → (∀ ys, D.nx σ (upd H p (.lst ys))) → ts D σ H
theorem mut_app {K : PySem.W.Frag} {x : Nat} {k : Int} {c : V} : MutOk K x k (tDrop (tBM K "list" rAppend (tOp (rIx K) (tVar x) (tC (.int k))) (tCons (tC c) tNil))) := fun D σ H a p vs xs h1 h2 h3 h4 h5 q =>
  ⟨.ref a, h1, .inl ⟨_, _, k, _, rfl, rfl, SqL.of h2, h3, .inl ⟨rfl, xs, SqL.of h4⟩, p, xs, c, rfl, rfl, h4, Nat.lt_trans h5 (by decide), q _⟩⟩
theorem mut_clr {K : PySem.W.Frag} {x : Nat} {k : Int} : MutOk K x k (tDrop (tBM0 K "list" rClear (tOp (rIx K) (tVar x) (tC (.int k))))) := fun D σ H a p vs xs h1 h2 h3 h4 h5 q =>
  ⟨.ref a, h1, .inl ⟨_, _, k, _, rfl, rfl, SqL.of h2, h3, .inl ⟨rfl, xs, SqL.of h4⟩, p, xs, rfl, rfl, h4, q _⟩⟩
/-- x = [f0, f1] (new lists); if test: return False; then both are changed, x is forgotten -/
def kNst (f0 f1 : MA) (x : Nat) (mt : MT) : MS := fun ρ => match f0 ρ with
  | .ok d0 => match f1 ρ with
    | .ok d1 => if d0.length < 1000000 ∧ d1.length < 1000000 ∧ x < ρ.length then (match mt ((ρ.map Slot.view).set x (.dat (.list [.list d0, .list d1]))) with
      | .ok true => .rt (.bool false)
      | .ok false => .nx (ρ.set x .no)
      | _ => .bad) else .bad
    | _ => .bad
  | _ => .bad
theorem kNst_a (f0 f1 : MA) (x : Nat) (mt : MT) (ρ : List Slot) : kNst f0 f1 x mt ρ = (match f0 ρ with
  | .ok d0 => match f1 ρ with
    | .ok d1 => if d0.length < 1000000 ∧ d1.length < 1000000 ∧ x < ρ.length then (match mt ((ρ.map Slot.view).set x (.dat (.list [.list d0, .list d1]))) with
      | .ok true => .rt (.bool false)
      | .ok false => .nx (ρ.set x .no)
      | _ => .bad) else .bad
    | _ => .bad
  | _ => .bad) := nr rfl
section
variable {K : PySem.W.Frag} {T : Tb} {W : WX}
theorem le_no : ∀ (ρ : List Slot) (i : Nat) (s : Slot), Le (ρ.set i .no) (ρ.set i s)
  | [], _, _ => .nil
  | _ :: ρ, 0, _ => .no (Le.refl ρ)
  | _ :: ρ, i + 1, s => .eq (le_no ρ i s)
theorem fresh_ne {H : Hp} {p q : Addr} {xs : List V} (h : Fresh H p) (h2 : H q = some (.lst xs)) : q ≠ p := fun z => by
  subst z
  cases h _ h2
theorem sim_nst {t0 t1 : TE} {tt : TT} {f0 f1 : MA} {mt : MT} {x : Nat} {ts3 ts4 : TS} (h0 : SimF K T t0 W f0) (h1 : SimF K T t1 W f1) (ht : SimT K T tt W mt) (m3 : MutOk K x 0 ts3) (m4 : MutOk K x 1 ts4) :
    SimS K T false (tSeq (tAsg (tLst (tCons t0 (tCons t1 tNil))) (gName x)) (tSeq (tIfS tt (tRet (tC (.bl false))) tNext) (tSeq ts3 ts4))) W (kNst f0 f1 x mt) := fun ρ H0 B C D p σ H ⟨S, g⟩ => by
  have a0 := h0 ρ
  have a1 := h1 ρ
  unfold kNst at p
  cases e0 : f0 ρ with
  | bad => rw [e0] at p; exact p.elim
  | ex y => rw [e0] at p; exact p.elim
  | ok d0 =>
  rw [e0] at p a0
  simp only at p
  cases e1 : f1 ρ with
  | bad => rw [e1] at p; exact p.elim
  | ex y => rw [e1] at p; exact p.elim
  | ok d1 =>
  rw [e1] at p a1
  simp only at p
  by_cases hl : d0.length < 1000000 ∧ d1.length < 1000000 ∧ x < ρ.length
  · rw [if_pos hl] at p
    refine a0 H0 B C H S σ g _ fun p0 xs0 H1 x1 fr0 hp0 da0 => ?_
    obtain ⟨g1, n0⟩ := g.keepOff x1 fr0 hp0 da0
    refine a1 H0 B C H1 (p0 :: S) σ g1 _ fun p1 xs1 H2 x2 fr1 hp1 da1 => ?_
    obtain ⟨g2, n1⟩ := g1.keepOff x2 fr1 hp1 da1
    refine ⟨(by show 2 ≤ sizeLine; decide), fun a ha => ?_⟩
    obtain ⟨g3, n2⟩ := g2.lay (xs := [.ref p0, .ref p1]) ha
    have x3 : Ext T H2 (upd H2 a (.lst [.ref p0, .ref p1])) := .new ha
    generalize hH3 : upd H2 a (.lst [.ref p0, .ref p1]) = H3 at g3 x3
    have hpa3 : H3 a = some (.lst [.ref p0, .ref p1]) := by rw [← hH3]; exact upd_same
    have hp02 : H2 p0 = some (.lst xs0) := x2.kp p0 _ hp0 rfl
    have hp03 : H3 p0 = some (.lst xs0) := x3.kp p0 _ hp02 rfl
    have hp13 : H3 p1 = some (.lst xs1) := x3.kp p1 _ hp1 rfl
    have n01 : p0 ≠ p1 := fresh_ne fr1 hp0
    have na0 : p0 ≠ a := fresh_ne (.of ha) hp02
    have na1 : p1 ≠ a := fresh_ne (.of ha) hp1
    have ne3 : (a :: p1 :: p0 :: S).length = (a :: p1 :: p0 :: S).length := rfl
    have dd0 : DtAll K (hide H3 []) xs0 d0 := da0.kp ((hide_sub (fun _ z => by cases z)).trans ((x2.trans x3).kp.hide []))
    have dd1 : DtAll K (hide H3 []) xs1 d1 := da1.kp ((hide_sub (fun _ z => by cases z)).trans (x3.kp.hide []))
    have dv : Dt K (hide H3 []) (.ref a) (.list [.list d0, .list d1]) := .lst (hide_some.mpr ⟨fun z => (by cases z), hpa3, rfl⟩) (.cons (.lst (hide_some.mpr ⟨fun z => (by cases z), hp03, rfl⟩) dd0) (.cons (.lst (hide_some.mpr ⟨fun z => (by cases z), hp13, rfl⟩) dd1) .nil))
    have gv := (g3.view).set (i := x) dv
    have c := ht ((ρ.map Slot.view).set x (.dat (.list [.list d0, .list d1])))
    cases em : mt ((ρ.map Slot.view).set x (.dat (.list [.list d0, .list d1]))) with
    | bad => rw [em] at p; exact p.elim
    | ex y => rw [em] at p; exact p.elim
    | ok b =>
      rw [em] at p c
      refine c H0 _ [] H3 [] (σ.set x (some (.ref a))) gv _ fun H4 x4 => ?_
      cases b with
      | true =>
        refine iteT ?_
        have p : Rt K T H0 C D.rt (.bool false) := p
        exact p _ H4 (g3.ext.trans x4) (.bl _)
      | false =>
        refine iteF ?_
        have hx : x < σ.length := by rw [g.len]; exact hl.2.2
        · have hsx : (σ.set x (some (V.ref a)))[x]? = some (some (.ref a)) := by rw [List.getElem?_set_self hx]
          have q0 : H4 p0 = some (.lst xs0) := x4.kp p0 _ hp03 rfl
          have q1 : H4 p1 = some (.lst xs1) := x4.kp p1 _ hp13 rfl
          have qa : H4 a = some (.lst [.ref p0, .ref p1]) := x4.kp a _ hpa3 rfl
          refine m3 _ _ H4 a p0 _ xs0 hsx qa rfl q0 (by rw [da0.len]; exact hl.1) fun ys0 => ?_
          refine m4 _ _ (upd H4 p0 (.lst ys0)) a p1 [.ref p0, .ref p1] xs1 hsx (by rw [upd_ne (Ne.symm na0)]; exact qa) rfl (by rw [upd_ne (Ne.symm n01)]; exact q1) (by rw [da1.len]; exact hl.2.1) fun ys1 => ?_
          have p : Tri K T H0 B C (ρ.set x .no) tNext D := p
          refine p _ _ ⟨a :: p1 :: p0 :: S, ?_⟩
          have f0 : Fresh H0 p0 := fr0.back g.ext.kp
          have f1 : Fresh H0 p1 := fr1.back g1.ext.kp
          have g4 := ((g3.ex x4).poke (p := p0) (ys := ys0) (List.mem_cons_of_mem _ (List.mem_cons_of_mem _ (List.mem_cons_self ..))) f0 n0 q0).poke (p := p1) (ys := ys1) (List.mem_cons_of_mem _ (List.mem_cons_self ..)) f1 n1 (by rw [upd_ne (Ne.symm n01)]; exact q1)
          exact (g4.setRaw (i := x) (v := .ref a)).weak (le_no _ _ _)
  · rw [if_neg hl] at p; exact p.elim
end
/-! ### two clauses -/
section
variable {K : PySem.W.Frag} {T : Tb} {ρ : List Slot} {wi wi1 : TI} {te : TE} {vs vs1 : List Nat} {items : List PyData} {i0 i1 : Nat}
theorem wipe_wipe (σ : St) (vs : List Nat) : wipe (wipe σ vs) vs = wipe σ vs := by
  have key : ∀ ws : List Nat, (∀ v ∈ ws, v ∈ vs) → wipe (wipe σ ws) vs = wipe σ vs := fun ws => by
    induction ws with
    | nil => intro _; rfl
    | cons v ws ih =>
      intro hv
      show wipe ((wipe σ ws).set v none) vs = wipe σ vs
      rw [wipe_set (hv v (List.mem_cons_self ..)), ih fun u hu => hv u (List.mem_cons_of_mem _ hu)]
  exact key vs fun v hv => hv
theorem notMine_set {σ : St} {ρ : List Slot} {p : Addr} {i : Nat} {d : PyData} {o : Option V} (h : NotMine σ ρ p) : NotMine (σ.set i o) (ρ.set i (.dat d)) p := fun k ob e z => by
  by_cases w : i = k
  · subst w; cases set_get e
  · rw [List.getElem?_set_ne w] at e z
    exact h k ob e z
theorem ef_lc2 (G : PyData → List PyData) (hi : IterD K T wi ρ items) (hz : (items.flatMap G).length ≤ 1000000) (h0 : i0 ∈ vs) (h1 : i1 ∈ vs1)
    (hs : ∀ (i : Nat) (d : PyData), items[i]? = some d → ∃ items1 F1, IterD K T wi1 ((wipeS ρ vs).set i0 (.dat d)) items1 ∧ G d = items1.map F1 ∧
      ∀ (j : Nat) (e : PyData), items1[j]? = some e → Ev K T te ((wipeS ((wipeS ρ vs).set i0 (.dat d)) vs1).set i1 (.dat e)) (F1 e)) :
    EvF K T (tLc2 wi (gName i0) tYes wi1 (gName i1) tYes te vs vs1) ρ (items.flatMap G) := fun H0 B C H S σ gd Q hQ => by
  refine hi H0 B C H S σ gd _ fun J H1 e1 fd => ?_
  intro D hD
  have g1 := gd.ex e1
  obtain ⟨gl, nm⟩ := g1.lay (xs := []) hD
  have gw := gl.wiped vs
  have nw := notMine_wipe nm vs
  have frD : Fresh H D := (Fresh.of hD).back e1.kp
  have fr0 : Fresh H0 D := frD.back gd.ext.kp
  have sees : Kp (hide H1 S) (hide (upd H1 D (.lst [])) (D :: S)) := by rw [hide_new (.of hD)]; exact .refl _
  refine ⟨fun i m Hc => m = items.length - i ∧ i ≤ items.length ∧ ∃ acc, Gd K T H0 B C Hc (D :: S) (wipe σ vs) (wipeS ρ vs) ∧ Ext T H Hc ∧ Kp (hide H1 S) (hide Hc (D :: S)) ∧ Hc D = some (.lst acc) ∧ DtAll K (hide Hc (D :: S)) acc ((items.take i).flatMap G), ⟨items.length, by simp, Nat.zero_le _, [], gw, e1.trans (.new hD), sees, upd_same, .nil⟩, ?_⟩
  rintro i m Hc ⟨rfl, hil, acc, gc, ec, sc, hc, dc⟩
  obtain ⟨f1, f2⟩ := fd i Hc (D :: S) sc gc.lst
  by_cases hlt : i < items.length
  · obtain ⟨go, yl⟩ := f1 items[i] (List.getElem?_eq_getElem hlt)
    have htk : items.take (i + 1) = items.take i ++ [items[i]] := (List.take_append_getElem hlt).symm
    obtain ⟨items1, F1, hi1, hG, hev⟩ := hs i _ (List.getElem?_eq_getElem hlt)
    have htk2 : (items.take (i + 1)).flatMap G = (items.take i).flatMap G ++ items1.map F1 := by
      rw [htk, List.flatMap_append, List.flatMap_cons, List.flatMap_nil, List.append_nil, hG]
    have hlen : ((items.take i).flatMap G ++ items1.map F1).length ≤ 1000000 := by
      rw [← htk2]
      have : (items.flatMap G).length = ((items.take (i + 1)).flatMap G).length + ((items.drop (i + 1)).flatMap G).length := by
        rw [← List.length_append, ← List.flatMap_append, List.take_append_drop]
      omega
    refine .inr ⟨go, fun Hn => ∃ acc, Gd K T H0 B C Hn (D :: S) (wipe σ vs) (wipeS ρ vs) ∧ Ext T H Hn ∧ Kp (hide H1 S) (hide Hn (D :: S)) ∧ Hn D = some (.lst acc) ∧ DtAll K (hide Hn (D :: S)) acc ((items.take (i + 1)).flatMap G), fun Hn hn => ⟨items.length - (i + 1), by omega, rfl, hlt, hn⟩, fun x H' hy => ?_⟩
    obtain ⟨ex, dx⟩ := yl x H' hy
    have g2 : Gd K T H0 B C H' (D :: S) ((wipe σ vs).set i0 (some x)) ((wipeS ρ vs).set i0 (.dat items[i])) := (gc.ex ex).set dx
    have n2 : NotMine ((wipe σ vs).set i0 (some x)) ((wipeS ρ vs).set i0 (.dat items[i])) D := notMine_set nw
    generalize hσ2 : (wipe σ vs).set i0 (some x) = σ2 at g2 n2
    generalize hρ2 : (wipeS ρ vs).set i0 (.dat items[i]) = ρ2 at g2 n2 hi1 hev
    show wipe ((wipe σ vs).set i0 (some x)) vs = wipe σ vs ∧ tYes ((wipe σ vs).set i0 (some x)) H' _
    refine ⟨by rw [wipe_set h0, wipe_wipe], ?_⟩
    rw [hσ2]
    refine et_yes (ρ := ρ2) H0 B C H' (D :: S) σ2 g2 _ fun H3 e3 => iteT ?_
    refine hi1 H0 B C H3 (D :: S) σ2 (g2.ex e3) _ fun J1 H4 e4 fd1 => ?_
    have ec4 : Ext T Hc H4 := (ex.trans e3).trans e4
    have gin := ((g2.ex e3).ex e4).wiped vs1
    have nin := notMine_wipe n2 vs1
    refine ⟨fun j k Hd => k = items1.length - j ∧ j ≤ items1.length ∧ ∃ acc, Gd K T H0 B C Hd (D :: S) (wipe σ vs) (wipeS ρ vs) ∧ Gd K T H0 B C Hd (D :: S) (wipe σ2 vs1) (wipeS ρ2 vs1) ∧ Ext T H Hd ∧ Kp (hide H1 S) (hide Hd (D :: S)) ∧ Kp (hide H4 (D :: S)) (hide Hd (D :: S)) ∧ Hd D = some (.lst acc) ∧ DtAll K (hide Hd (D :: S)) acc ((items.take i).flatMap G ++ (items1.take j).map F1),
      ⟨items1.length, by simp, Nat.zero_le _, acc, gc.ex ec4, gin, ec.trans ec4, sc.trans (ec4.kp.hide _), .refl _, ec4.kp D _ hc rfl, by rw [List.take_zero, List.map_nil, List.append_nil]; exact dc.kp (ec4.kp.hide _)⟩, ?_⟩
    rintro j k Hd ⟨rfl, hjl, acc1, go1, gi1, ed, sd, sd4, hd, dd⟩
    obtain ⟨p1, p2⟩ := fd1 j Hd (D :: S) sd4 go1.lst
    by_cases hlt1 : j < items1.length
    · obtain ⟨gg, yl1⟩ := p1 items1[j] (List.getElem?_eq_getElem hlt1)
      have htk1 : items1.take (j + 1) = items1.take j ++ [items1[j]] := (List.take_append_getElem hlt1).symm
      refine .inr ⟨gg, fun Hn => ∃ acc, Gd K T H0 B C Hn (D :: S) (wipe σ vs) (wipeS ρ vs) ∧ Gd K T H0 B C Hn (D :: S) (wipe σ2 vs1) (wipeS ρ2 vs1) ∧ Ext T H Hn ∧ Kp (hide H1 S) (hide Hn (D :: S)) ∧ Kp (hide H4 (D :: S)) (hide Hn (D :: S)) ∧ Hn D = some (.lst acc) ∧ DtAll K (hide Hn (D :: S)) acc ((items.take i).flatMap G ++ (items1.take (j + 1)).map F1), fun Hn hn => ⟨items1.length - (j + 1), by omega, rfl, hlt1, hn⟩, fun x1 H5 hy1 => ?_⟩
      obtain ⟨ex1, dx1⟩ := yl1 x1 H5 hy1
      have g5 : Gd K T H0 B C H5 (D :: S) ((wipe σ2 vs1).set i1 (some x1)) ((wipeS ρ2 vs1).set i1 (.dat items1[j])) := (gi1.ex ex1).set dx1
      show wipe ((wipe σ2 vs1).set i1 (some x1)) vs1 = wipe σ2 vs1 ∧ tYes ((wipe σ2 vs1).set i1 (some x1)) H5 _
      refine ⟨by rw [wipe_set h1, wipe_wipe], ?_⟩
      refine et_yes H0 B C H5 (D :: S) _ g5 _ fun H6 e6 => iteT ?_
      refine hev j _ (List.getElem?_eq_getElem hlt1) H0 B C H6 (D :: S) _ (g5.ex e6) _ fun y H7 e7 dy => ?_
      have e57 : Ext T Hd H7 := (ex1.trans e6).trans e7
      have hD7 : H7 D = some (.lst acc1) := e57.kp D _ hd rfl
      refine ⟨acc1, hD7, ?_, acc1 ++ [y], ?_, ?_, ?_, ?_, ?_, upd_same, ?_⟩
      · have q := dd.len
        rw [List.length_append, List.length_map] at hlen
        rw [List.length_append, List.length_map, List.length_take] at q
        have q4 : (1000000 : Nat) < sizeLine := by decide
        omega
      · exact (go1.ex e57).poke (List.mem_cons_self ..) fr0 nw hD7
      · exact (gi1.ex e57).poke (List.mem_cons_self ..) fr0 nin hD7
      · have q := ed.trans e57
        exact ⟨fun b o hb n => by
          have hb' := q.kp b o hb n
          rw [upd_ne (fun z => by subst z; rw [frD o hb] at n; cases n)]
          exact hb', fun t => tabs_lst hD7 (q.tb t)⟩
      · rw [hide_upd (List.mem_cons_self ..)]
        exact sd.trans (e57.kp.hide _)
      · rw [hide_upd (List.mem_cons_self ..)]
        exact sd4.trans (e57.kp.hide _)
      · rw [hide_upd (List.mem_cons_self ..), htk1, List.map_append, ← List.append_assoc]
        exact (dd.kp (e57.kp.hide _)).app (.cons dy .nil)
    · have e0 : j = items1.length := by omega
      subst e0
      rw [List.take_length] at dd
      exact .inl ⟨p2 (Nat.le_refl _), acc1, go1, ed, sd, hd, by rw [htk2]; exact dd⟩
  · have e0 : i = items.length := by omega
    subst e0
    rw [List.take_length] at dc
    exact .inl ⟨f2 (Nat.le_refl _), hQ D acc Hc ec frD hc dc⟩
end
/-- what one thing of the first clause gives -/
def lc2F (vs1 : List Nat) (i0 i1 : Nat) (mi1 : MA) (me : ME) (ρ : List Slot) (d : PyData) : Rz (List PyData) := (mi1 (ρ.set i0 (.dat d))).calm.bind fun items => lcL (gN i1) yYes me (wipeS (ρ.set i0 (.dat d)) vs1) items
def lc2L (vs1 : List Nat) (i0 i1 : Nat) (mi1 : MA) (me : ME) (ρ : List Slot) : List PyData → Rz (List PyData)
  | [] => .ok []
  | d :: ds => (lc2F vs1 i0 i1 mi1 me ρ d).calm.bind fun ys => (lc2L vs1 i0 i1 mi1 me ρ ds).calm.bind fun zs => .ok (ys ++ zs)
def fLc2 (vs vs1 : List Nat) (i0 i1 : Nat) (mi mi1 : MA) (me : ME) : MA := fun ρ => (mi ρ).bind fun items => (lc2L vs1 i0 i1 mi1 me (wipeS ρ vs) items).calm.bind fun ys => if ys.length ≤ 1000000 then .ok ys else .bad
section
variable {vs vs1 : List Nat} {i0 i1 : Nat} {mi mi1 : MA} {me : ME} {ρ : List Slot}
theorem fLc2_a : fLc2 vs vs1 i0 i1 mi mi1 me ρ = (mi ρ).bind fun items => (lc2L vs1 i0 i1 mi1 me (wipeS ρ vs) items).calm.bind fun ys => if ys.length ≤ 1000000 then .ok ys else .bad := nr rfl
def meOf (me : ME) (i1 : Nat) (ρ : List Slot) (e : PyData) : PyData := match me (ρ.set i1 (.dat e)) with
  | .ok y => y
  | _ => .none
theorem lcN_inv : ∀ {items ys : List PyData}, lcL (gN i1) yYes me ρ items = .ok ys → ys = items.map (meOf me i1 ρ) ∧ ∀ e ∈ items, me (ρ.set i1 (.dat e)) = .ok (meOf me i1 ρ e)
  | [], ys, h => by cases h; exact ⟨rfl, fun e he => by cases he⟩
  | d :: ds, ys, h => by
    have h : (yYes (ρ.set i1 (.dat d))).calm.bind (fun b => match b with | true => (me (ρ.set i1 (.dat d))).calm.bind fun y => (lcL (gN i1) yYes me ρ ds).bind fun ys => .ok (y :: ys) | false => lcL (gN i1) yYes me ρ ds) = .ok ys := h
    obtain ⟨b, hb, h⟩ := calm_inv h
    cases hb
    obtain ⟨y, hy, h⟩ := calm_inv (show (me (ρ.set i1 (.dat d))).calm.bind _ = _ from h)
    cases hz : lcL (gN i1) yYes me ρ ds with
    | bad => rw [hz] at h; cases h
    | ex x => rw [hz] at h; cases h
    | ok zs =>
      rw [hz] at h
      cases h
      obtain ⟨i1', i2⟩ := lcN_inv hz
      have ey : meOf me i1 ρ d = y := by unfold meOf; rw [hy]
      refine ⟨by rw [List.map_cons, ← i1', ey], fun e he => ?_⟩
      rcases List.mem_cons.mp he with z | z
      · subst z; rw [ey]; exact hy
      · exact i2 e z
def outOf : Rz (List PyData) → List PyData
  | .ok ys => ys
  | _ => []
theorem lc2_inv : ∀ {items ys : List PyData}, lc2L vs1 i0 i1 mi1 me ρ items = .ok ys → ys = items.flatMap (fun d => outOf (lc2F vs1 i0 i1 mi1 me ρ d)) ∧ ∀ d ∈ items, ∃ zs, lc2F vs1 i0 i1 mi1 me ρ d = .ok zs
  | [], ys, h => by cases h; exact ⟨rfl, fun e he => by cases he⟩
  | d :: ds, ys, h => by
    obtain ⟨y, hy, h⟩ := calm_inv (show (lc2F vs1 i0 i1 mi1 me ρ d).calm.bind _ = _ from h)
    obtain ⟨zs, hz, h⟩ := calm_inv h
    cases h
    obtain ⟨j1, j2⟩ := lc2_inv hz
    refine ⟨by rw [List.flatMap_cons, ← j1, hy]; rfl, fun e he => ?_⟩
    rcases List.mem_cons.mp he with z | z
    · subst z; exact ⟨y, hy⟩
    · exact j2 e z
end
section
variable {K : PySem.W.Frag} {T : Tb} {W W' : WX} {wi wi1 : TI} {te : TE} {vs vs1 : List Nat} {i0 i1 : Nat} {mi mi1 : MA} {me : ME}
theorem sim_lc2 (hi : SimI K T wi W mi) (hi1 : SimI K T wi1 W' mi1) (he : SimE K T te W' me) (h0 : i0 ∈ vs) (h1 : i1 ∈ vs1) : SimF K T (tLc2 wi (gName i0) tYes wi1 (gName i1) tYes te vs vs1) W (fLc2 vs vs1 i0 i1 mi mi1 me) := fun ρ => by
  have a := hi ρ
  unfold fLc2
  cases e1 : mi ρ with
  | bad => exact True.intro
  | ex x => rw [e1] at a; exact fun H0 B C H S σ g Q hQ => a H0 B C H S σ g _ hQ
  | ok items =>
    rw [e1] at a
    show EzF K T _ ρ W ((lc2L vs1 i0 i1 mi1 me (wipeS ρ vs) items).calm.bind _)
    cases e2 : lc2L vs1 i0 i1 mi1 me (wipeS ρ vs) items with
    | bad => exact True.intro
    | ex x => exact True.intro
    | ok ys =>
      show EzF K T _ ρ W (if ys.length ≤ 1000000 then .ok ys else .bad)
      by_cases hl : ys.length ≤ 1000000
      · rw [if_pos hl]
        obtain ⟨q1, q2⟩ := lc2_inv e2
        rw [q1]
        rw [q1] at hl
        refine ef_lc2 _ a hl h0 h1 fun i d hd => ?_
        obtain ⟨zs, hz⟩ := q2 d (List.mem_of_getElem? hd)
        rw [hz]
        obtain ⟨items1, hm1, hz2⟩ := calm_inv (show (mi1 ((wipeS ρ vs).set i0 (.dat d))).calm.bind _ = _ from hz)
        obtain ⟨r1, r2⟩ := lcN_inv hz2
        have b := hi1 ((wipeS ρ vs).set i0 (.dat d))
        rw [hm1] at b
        refine ⟨items1, _, b, r1, fun j e hje => ?_⟩
        have c := he ((wipeS ((wipeS ρ vs).set i0 (.dat d)) vs1).set i1 (.dat e))
        rw [r2 e (List.mem_of_getElem? hje)] at c
        exact c
      · rw [if_neg hl]; exact True.intro
end
end Lw

set_option Elab.async false
set_option linter.all false
set_option maxRecDepth 100000
set_option maxHeartbeats 4000000
set_option autoImplicit false
/-! Lw, part 6: defs with lambdas. -/
namespace Lw
open PySem PySem.Spec PyProof.Rows L2 HotX L2H LwM LwZ LamX
/-- the table of a def's lambdas -/
structure LamTab (K : PySem.W.Frag) (T : Tb) (mg : Str → Option Value) (base : Heap) (x : Str) : Prop where
  tb : TabB base mg (He.codeOf K (x, none)) (He.cT K (x, none)).2
  mem : ((He.cT K (x, none)).2, x ++ (".<locals>." : Str) ++ ("<lambda>" : Str)) ∈ T
  one : ∀ p ∈ T, p.1 = (He.cT K (x, none)).2 → p.2 = x ++ (".<locals>." : Str) ++ ("<lambda>" : Str)
/-- the def that gets the lambda -/
structure CalL (K : PySem.W.Frag) (mg : Str → Option Value) (x : Str) (st : Stmt) (a : Str) : Prop where
  ex : ∃ (g : Addr) (fd : FuncData), FnQ K x st [] [] g fd ∧ mg x = some (.ref g) ∧ L2.Binds K fd [a] []
theorem pe_lamL {X : Cx} {T : Tb} {TT : (XK → Hp → VK → Prop) → Hp → VK → Prop} {x a y : Str} {k : Nat} {st : Stmt} {Ng : List Str} {params : Arguments} {body : Expr} {scope : Scope} {t : XK → TE} {p lpos pos : Pos}
    (cL : CalL X.K X.mg x st a) (Sg : FnScope Ng [a] (defScope st)) (hNg : Ng[0]? = some a) (hva : Vis (defScope st) a) (TL : LamTab X.K T X.mg X.base y) (hG : ∀ (g : Addr) (cdv : Value), GivesN X (k + 1) Ng x (defScope st) g cdv (defBody st) a (X.env.qual ++ "<lambda>") TT)
    (hg : Gl X x) (hcode : X.env.code = .ref (He.codeOf X.K (y, none))) (hq : X.env.qual = y ++ (".<locals>." : Str)) (hr : Room (k + 2) X.A) (L : LamS X.env.scope scope) (hdef : defaultsOf params X.env = ([], []))
    (hbind : ∀ (q : Str) (cl : List (Str × Addr)) (pm cv ctv : Value), bindArgs (PySem.W.kla_fn "<lambda>" q params body scope cl pm cv ctv) ⟨[], []⟩ = pure [])
    (hbody : ∀ (A : Around) (outer : List Env) (s : Shared) (H : Hp) (E : XK) (f c' : Addr), Room k (A.deeper (lamEnv X scope s.heap.objs.size f c')) → PE (lamN X A outer s H E scope f c') body (t E))
    (hdb : (x == ("__debug__" : Str)) = false := by decide) (hd : (a == ("__debug__" : Str)) = false := by decide) (hcd : (a == ("__classdict__" : Str)) = false := by decide) :
    PE X (.Call (.Name x p) [.Lambda params body scope lpos] [] pos) (tLam T TT t) := by
  obtain ⟨g, fd, F, hm, hb⟩ := cL.ex
  obtain ⟨oc, od, dV, kV, doc, pm, an, cdv, ct, osl, rfl, lk, hcg, _, _⟩ := F.ex
  exact pe_lamN hg hm F.kp lk hcg hb Sg hNg hva (hG g cdv) TL.tb hcode (by rw [hq]; exact TL.mem) (fun p hp e => by rw [hq]; exact TL.one p hp e) hr L hdef hbind hbody hdb hd hcd
section
variable {P : Program} {w : World} {K : PySem.W.Frag} {mg : Str → Option Value} {base : Heap} {T : Tb}
theorem funD_okL {CX : CXT} {x : Str} {params : Arguments} {body : List Stmt} {scope : Scope} {dvs : List V} {kws : List (Str × V)} {fd : FuncData} {N ps : List Str} {k : Nat} {sp : Sp} (F : FunD K x x params body scope dvs kws (He.ga K x) fd) (S : FnScope N ps scope) (len : ∀ vs H Q E, sp vs H Q E → vs.length = ps.length)
    (hbody : ∀ (A : Around) (outer : List Env) (s : Shared) (H : Hp) (vs : List V) (Q : VK) (E : XK), Room k (A.deeper (envOfC x scope s.heap.objs.size (He.ga K x) (.ref (He.codeOf K (x, none))))) → sp vs H Q E →
      ∃ t, PSs (cxOf CX P w K mg base N x scope (He.ga K x) (.ref (He.codeOf K (x, none))) A outer s H E) body t ∧ t { nx := fun _ H' => Q .non H', rt := Q } (L2.start N vs) H) : FnOk P w K mg base CX (k + 1) (He.ga K x) fd ps sp := by
  obtain ⟨oc, od, dV, kV, doc, pm, an, cdv, ct, osl, rfl, lk, hcd, _, _⟩ := F.ex
  obtain ⟨c, rfl⟩ := He.codeIn_ref hcd
  have e : He.codeOf K (x, none) = c := He.codeOf_eq (p := (x, none)) lk rfl
  rw [e] at hbody
  exact fn_of lk hcd S len fun A outer s H vs Q E hr hsp => hbody A outer s H vs Q E hr hsp
theorem fnZL {fr : Bool} {x : Str} {st : Stmt} {dvs : List V} {kws : List (Str × V)} {fd : FuncData} {N ps : List Str} {k : Nat} {m : MS} {n np : Nat} (F : FnQ K x st dvs kws (He.ga K x) fd) (S : FnScope N ps (defScope st)) (hn : N.length = n) (hp : ps.length = np)
    (hbody : ∀ (A : Around) (outer : List Env) (s : Shared) (H : Hp) (E : XK), Room k (A.deeper (PyProof.Rows.envOfC x (defScope st) s.heap.objs.size (He.ga K x) (.ref (He.codeOf K (x, none))))) →
      ∃ t, PSs (cxOf (L2N.CX P w) P w K mg base N x (defScope st) (He.ga K x) (.ref (He.codeOf K (x, none))) A outer s H E) (defBody st) t ∧ SimS K T fr t (WF E) m) :
    FnOk P w K mg base (L2N.CX P w) (k + 1) (He.ga K x) fd ps (spZ K T fr (fnD np n m)) := by
  subst hn hp
  refine funD_okL F S (fun vs H Q E h => spZ_len h) (fun A outer s H vs Q E hr h => ?_)
  have hl := spZ_len h
  obtain ⟨ds, S', l, hd, hR⟩ := h
  have hld : ds.length = ps.length := hd.len ▸ hl
  obtain ⟨t, pt, sm⟩ := hbody A outer s H E hr
  refine ⟨t, pt, ?_⟩
  refine sm (slots N.length ds) H (hide H S') S' { nx := fun _ H' => Q .non H', rt := Q } ?_ _ _ ⟨S', gd_start l hd⟩
  unfold fnD at hR
  rw [if_pos hld] at hR
  cases hm : m (slots N.length ds) with
  | nx ρ' =>
    rw [hm] at hR
    exact fun σ H' ⟨S2, g⟩ => by
      have hR : RtK K T fr H S' Q .none := hR
      cases fr <;> exact hR .non H' g.ext .non
  | rt d => rw [hm] at hR; exact hR
  | bk ρ' => rw [hm] at hR; exact hR.elim
  | ct ρ' => rw [hm] at hR; exact hR.elim
  | ex y ρ' => rw [hm] at hR; exact fun σ H' S2 g d xd => hR d H' g.ext (xd.kp (hide_sub g.sub))
  | bad => rw [hm] at hR; exact hR.elim
theorem fnAL {x : Str} {st : Stmt} {dvs : List V} {fd : FuncData} {N ps : List Str} {k : Nat} {R : List Slot → (PyData → Prop) → Prop} (F : FnP K x st dvs (He.ga K x) fd) (S : FnScope N ps (defScope st)) (len : ∀ ss p, R ss p → ss.length = ps.length)
    (hbody : ∀ (A : Around) (outer : List Env) (s : Shared) (H : Hp) (E : XK), Room k (A.deeper (PyProof.Rows.envOfC x (defScope st) s.heap.objs.size (He.ga K x) (.ref (He.codeOf K (x, none))))) →
      ∃ t, PSs (cxOf CX0 P w K mg base N x (defScope st) (He.ga K x) (.ref (He.codeOf K (x, none))) A outer s H E).nox (defBody st) t ∧ ∀ ss Post, R ss Post → ∀ (H0 : Hp) (C : List Addr) (D : Ends), (∀ r, Post r → Rt K T H0 C D.rt r) → Tri K T H0 (hide H0 C) C (slotsA N.length ss) t D) :
    FnOk P w K mg base CX0 (k + 1) (He.ga K x) fd ps (spA K T R) := by
  refine funD_okL F S (fun vs H Q E h => ?_) (fun A outer s H vs Q E hr h => ?_)
  · obtain ⟨ss, p, S', l, hd, hR, _⟩ := h
    rw [hd.len]
    exact len ss p hR
  · obtain ⟨ss, p, S', l, hd, hR, hq⟩ := h
    obtain ⟨t, pt, tr⟩ := hbody A outer s H E hr
    exact ⟨t, pt.nox, tr ss p hR H S' _ (fun r hr v H' e dv => hq r hr v H' e dv) _ _ ⟨S', gd_startA l hd⟩⟩
end
end Lw

set_option Elab.async false
set_option linter.all false
set_option maxRecDepth 100000
set_option maxHeartbeats 4000000
set_option autoImplicit false
namespace Lw
open PySem L2 LwZ
/-! the words of these proofs -/
local macro_rules | `(tactic| wtm_at "len") => `(tactic| first | (simp only [List.length_cons, List.length_nil]; omega) | omega)
local macro_rules | `(tactic| wtm_at "ok") => `(tactic| first | assumption | rfl | (intro z; cases z; done) | decide | omega | exact mulOkL (by omega) | exact mulOkR (by omega) | exact fdOkS (by omega) (by omega) | exact cpowOk (by decide))
local macro_rules | `(tactic| wtm_at "rv") => `(tactic| with_reducible first
  | exact rv_add | exact rv_sub | (apply rv_mul; wtm_at "ok") | (apply rv_fd; wtm_at "ok") | (apply rv_fdB; wtm_at "ok") | (apply rv_mod; wtm_at "ok") | (apply rv_pow; wtm_at "ok")
  | exact rv_lt | exact rv_le | exact rv_gt | exact rv_ge | exact rv_isN | exact rv_notN
  | exact rv_ixP0 | exact rv_ixP1 | (apply rv_ixT; wtm_at "at") | (apply rv_ixL; wtm_at "at")
  | (apply rv_eq <;> wtm_at "shape") | (apply rv_ne <;> wtm_at "shape")
  | (apply rv_addT; wtm_at "len") | (apply RVF.rv; wtm_at "rf"))
local macro_rules | `(tactic| wtm_at "rf") => `(tactic| with_reducible first | (apply rf_addL; wtm_at "len") | (apply rf_rep <;> wtm_at "ok"))
local macro_rules | `(tactic| wtm_at "at") => `(tactic| first | assumption | with_unfolding_all rfl)
local macro_rules | `(tactic| wtm_at "shape") => `(tactic| first | assumption | exact shaped_encR _ | exact shaped_int _ | with_unfolding_all rfl)
local macro_rules | `(tactic| wtm_at "rc") => `(tactic| first
  | exact rc_lenL | exact rc_lenT | exact rc_abs | exact rc_intB | exact rc_intI | exact rc_tupleL | exact rc_tupleT | exact RCF.rc rf_listL | exact RCF.rc rf_listT | exact rc_all | exact rc_any | (apply rc_lenS; wtm_at "ok"))
local macro_rules | `(tactic| wtm_at "var") => `(tactic| with_unfolding_all rfl)
local macro_rules | `(tactic| wtm_at "ea") => `(tactic| with_reducible first | exact ea_nil | (apply ea_cons; (· wtm_at "ev"); (· wtm_at "ea")))
local macro_rules | `(tactic| wtm_at "ep") => `(tactic| with_reducible first | exact ep_none | (apply ep_some; wtm_at "ev"))
local macro_rules | `(tactic| wtm_at "ef") => `(tactic| with_reducible first
  | (apply ef_lst; (· wtm_at "ea"); (· wtm_at "len"))
  | (apply ef_sl; (· wtm_at "ev"); (· wtm_at "ep"); (· wtm_at "ep"); (· exact rf_slL))
  | (apply ef_op; (· wtm_at "ev"); (· wtm_at "ev"); (· wtm_at "rf"))
  | (apply ef_cb; (· wtm_at "ea"); (· first | exact rf_listL | exact rf_listT)))
local macro_rules | `(tactic| wtm_at "ev") => `(tactic| with_reducible first
  | exact ev_int | exact ev_bl | exact ev_str | exact ev_non
  | exact ev_cst (by assumption)
  | (apply ev_var; wtm_at "var")
  | (apply ev_op; (· wtm_at "ev"); (· wtm_at "ev"); (· wtm_at "rv"))
  | (apply ev_un; (· wtm_at "ev"); (· exact ru_neg))
  | (apply ev_ixO; (· wtm_at "var"); (· wtm_at "ev"); (· wtm_at "at"))
  | (apply ev_call; (· wtm_at "ea"); (· wtm_at "ok"))
  | (apply ev_cb; (· wtm_at "ea"); (· wtm_at "rc"))
  | (apply ev_tup; (· wtm_at "ea"); (· wtm_at "len"))
  | (apply ev_lst; (· wtm_at "ea"); (· wtm_at "len"))
  | (apply ev_sl; (· wtm_at "ev"); (· wtm_at "ep"); (· wtm_at "ep"); (· first | exact RSF.rs rf_slL | exact rs_slT))
  | (apply ev_if; (· wtm_at "et"); (· intro hb; wtm_at "ev"); (· intro hb; wtm_at "ev"))
  | (apply ev_notV; wtm_at "ev")
  | (apply ev_andV; (· wtm_at "ev"); (· intro hb; wtm_at "ev")) | (apply ev_orV; (· wtm_at "ev"); (· intro hb; wtm_at "ev"))
  | (apply ev_view; (· wtm_at "evv"); (· with_unfolding_all rfl)))
local macro_rules | `(tactic| wtm_at "evv") => `(tactic| (simp only [List.map_cons, List.map_nil, Slot.view]; wtm_at "ev2"))
local macro_rules | `(tactic| wtm_at "ev2") => `(tactic| with_reducible first
  | (apply ev_op; (· wtm_at "ev"); (· wtm_at "ev"); (· wtm_at "rv"))
  | (apply ev_cb; (· wtm_at "ea"); (· wtm_at "rc")))
local macro_rules | `(tactic| wtm_at "et") => `(tactic| with_reducible first
  | (apply et_test; wtm_at "ev") | (apply et_B; wtm_at "ev") | (apply et_not; wtm_at "et")
  | (apply et_and; (· wtm_at "et"); (· intro hb; wtm_at "et")) | (apply et_or; (· wtm_at "et"); (· intro hb; wtm_at "et")))
local macro_rules | `(tactic| wtm_at "le") => `(tactic| with_reducible (repeat' first | exact Le.nil | exact Le.refl _ | refine Le.eq ?_ | refine Le.no ?_))
local macro_rules | `(tactic| wtm_at "cx") => `(tactic| try dsimp only [cxOf, Cx.nox, Cx.wish, Cx.blk])
local macro_rules | `(tactic| wtm_at "nf") => `(tactic| (try dsimp only [List.set]))
local macro_rules | `(tactic| wtm_at "asg") => `(tactic| (refine q_asg (by wtm_at "ev") ?_; wtm_at "nf"))
local macro_rules | `(tactic| wtm_at "asg1") => `(tactic| (refine s_asg (by wtm_at "ev") ?_; wtm_at "nf"))
local macro_rules | `(tactic| wtm_at "own") => `(tactic| (refine q_own (by wtm_at "ef") ?_; wtm_at "nf"))
local macro_rules | `(tactic| wtm_at "par") => `(tactic| (refine q_par (by wtm_at "ea") ?_; wtm_at "nf"))
local macro_rules | `(tactic| wtm_at "par1") => `(tactic| (refine s_par (by wtm_at "ea") ?_; wtm_at "nf"))
local macro_rules | `(tactic| wtm_at "leU") => `(tactic| (repeat' first | exact Le.nil | refine Le.eq ?_ | refine Le.no ?_))
local macro_rules | `(tactic| wtm_at "try") => `(tactic| (refine s_seq (fun σ H g => ?_); (try dsimp only); refine tri_app σ H g ?_; clear g))
local macro_rules | `(tactic| wtm_at "z") => `(tactic| simp only [fnD_a, kSeq_a, kNx_a, kE_a, kAsg_a, kOwn_a, kDrop_a, kRet_a, kRetP_a, kRetF_a, kRetO_a, kRetN_a, kIf_a, kBk_a, kCt_a, kTg_a, kPar_a, kApp_a, kPut_a, kFrz_a, kFor_a, kRaise_a, kDict_a, kDput_a, kClr_a, kNst_a, fLc2_a, yVw_a, view_no, view_dat, view_own, view_scr, xC_a, xV_a, xOp_a, fOp_a, xUn_a, xNot_a, xAnd_a, xOr_a, xIf_a, xChain_a, zNil_a, zCons_a, xTup_a, fLst_a, xL_a, xCB_a, fCB_a, xF_a, xFc_a, fF_a, fFc_a, zApp_a, zKw_a, oNo_a, oAt_a, fSl_a, xSl_a, yV_a, yAnd_a, yOr_a, yNot_a, yYes_a, xIxO_a, xLenO_a, xDg_a, xDin_a, xDnotin_a, iS_a, iA_a, fLc_a, wipeS_nil, wipeS_cons, gN_a, gs0_a, gsC_a, gT_a, gU_a, ownL_a, ownD_a, asB_a, asI_a, asL_a, seqOf_l, seqOf_t, keyD_i, keyD_s, bind_ex, bind_bad, of_none, Rz.bind_ok, Rz.of_some, Rz.calm_ok, Option.bind_some, Option.bind_none, zAddV_i, zSub_i, zLt_i, zLe_i, zGt_i, zGe_i, zEq_i, zNe_i, zEq_r, zNe_r, zIx_r0, zIx_r1, zIx_t, zIx_l, zNeg_i, zLen_l, zLen_t, zAbs_i, zInt_b, zInt_i, zListV_l, zListV_t, zList_l, zList_t, zTuple_l, zTuple_t, zAll_l, zAny_l, zSlV_l, zSlV_t, zIsN_a, zNotN_a, slots, sel, Arg.get, List.filterMap_cons, List.filterMap_nil, List.length_cons, List.length_nil, List.map_cons, List.map_nil, List.cons_append, List.nil_append, List.append_nil, List.getElem?_cons_succ, List.getElem?_cons_zero, List.getElem?_nil, List.set_cons_zero, List.set_cons_succ, List.set_nil, List.replicate_succ, List.replicate_zero, if_true, Nat.sub_self, Nat.reduceAdd, Nat.reduceSub, Nat.reduceLeDiff, Nat.reduceEqDiff, Nat.reduceLT, Int.reduceLT, Int.reduceLE, Int.reduceNeg, Int.reduceEq, Nat.zero_add, and_self, if_false, Bool.not_true, Bool.not_false, Bool.false_eq_true, Nat.zero_le, decide_true, decide_false, reduceCtorEq])
def top (i : Nat) : Stmt := PySem.Challenge.pw_lullworks_k06_hands_and_plans.main.body.getD i (.Pass ⟨0, 0, 0, 0⟩)
def ec_LullError : ErC := ⟨"LullError", [], veB, "ValueError.__new__", false⟩
def ec_BadPart : ErC := ⟨"BadPart", ["LullError"], veB, "ValueError.__new__", false⟩
def ec_BadHand : ErC := ⟨"BadHand", ["LullError"], veB, "ValueError.__new__", false⟩
def ec_BadRows : ErC := ⟨"BadRows", ["LullError"], veB, "ValueError.__new__", false⟩
def ec_BadShares : ErC := ⟨"BadShares", ["LullError"], veB, "ValueError.__new__", false⟩
def ec_BadPlan : ErC := ⟨"BadPlan", ["LullError"], veB, "ValueError.__new__", false⟩
def ec_BadFilling : ErC := ⟨"BadFilling", ["LullError"], veB, "ValueError.__new__", false⟩
def ec_BadRate : ErC := ⟨"BadRate", ["LullError"], veB, "ValueError.__new__", false⟩
def ec_BadLower : ErC := ⟨"BadLower", ["LullError"], veB, "ValueError.__new__", false⟩
def ec_BadSteps : ErC := ⟨"BadSteps", ["LullError"], veB, "ValueError.__new__", false⟩
def ec_BadName : ErC := ⟨"BadName", ["LullError"], veB, "ValueError.__new__", false⟩
def ec_Taken : ErC := ⟨"Taken", ["LullError"], veB, "ValueError.__new__", false⟩
def ec_Full : ErC := ⟨"Full", ["LullError"], veB, "ValueError.__new__", false⟩
def ec_Last : ErC := ⟨"Last", ["LullError"], veB, "ValueError.__new__", false⟩
def ec_NotOurs : ErC := ⟨"NotOurs", ["LullError"], veB, "ValueError.__new__", false⟩
def ec_Bare : ErC := ⟨"Bare", ["LullError"], veB, "ValueError.__new__", false⟩
def ec_Unlike : ErC := ⟨"Unlike", ["LullError"], veB, "ValueError.__new__", false⟩
def ec_BadDeed : ErC := ⟨"BadDeed", ["LullError"], veB, "ValueError.__new__", false⟩
def ec_BadText : ErC := ⟨"BadText", ["LullError"], veB, "ValueError.__new__", true⟩
def ec_Broken : ErC := ⟨"Broken", ["LullError"], veB, "ValueError.__new__", true⟩
def ec_Missing : ErC := ⟨"Missing", [], leB, "LookupError.__new__", false⟩
def ec_NoStore : ErC := ⟨"NoStore", ["Missing"], leB, "LookupError.__new__", true⟩
def ec_NoRow : ErC := ⟨"NoRow", ["Missing"], leB, "LookupError.__new__", true⟩
def ec_NoPaper : ErC := ⟨"NoPaper", ["Missing"], leB, "LookupError.__new__", true⟩
def erL : List ErC := [ec_LullError, ec_BadPart, ec_BadHand, ec_BadRows, ec_BadShares, ec_BadPlan, ec_BadFilling, ec_BadRate, ec_BadLower, ec_BadSteps, ec_BadName, ec_Taken, ec_Full, ec_Last, ec_NotOurs, ec_Bare, ec_Unlike, ec_BadDeed, ec_BadText, ec_Broken, ec_Missing, ec_NoStore, ec_NoRow, ec_NoPaper]
theorem erf_LullError {K : PySem.W.Frag} {mg : Str → Option Value} (Er : ErrT K mg erL) : ErF K mg erL ec_LullError := Er _ (List.mem_of_getElem? (i := 0) rfl)
theorem exf_LullError {K : PySem.W.Frag} {mg : Str → Option Value} (Er : ErrT K mg erL) : ExF K mg "LullError" veB "ValueError.__new__" := (erf_LullError Er).f rfl
theorem erf_BadPart {K : PySem.W.Frag} {mg : Str → Option Value} (Er : ErrT K mg erL) : ErF K mg erL ec_BadPart := Er _ (List.mem_of_getElem? (i := 1) rfl)
theorem exf_BadPart {K : PySem.W.Frag} {mg : Str → Option Value} (Er : ErrT K mg erL) : ExF K mg "BadPart" veB "ValueError.__new__" := (erf_BadPart Er).f rfl
theorem erf_BadHand {K : PySem.W.Frag} {mg : Str → Option Value} (Er : ErrT K mg erL) : ErF K mg erL ec_BadHand := Er _ (List.mem_of_getElem? (i := 2) rfl)
theorem exf_BadHand {K : PySem.W.Frag} {mg : Str → Option Value} (Er : ErrT K mg erL) : ExF K mg "BadHand" veB "ValueError.__new__" := (erf_BadHand Er).f rfl
theorem erf_BadRows {K : PySem.W.Frag} {mg : Str → Option Value} (Er : ErrT K mg erL) : ErF K mg erL ec_BadRows := Er _ (List.mem_of_getElem? (i := 3) rfl)
theorem exf_BadRows {K : PySem.W.Frag} {mg : Str → Option Value} (Er : ErrT K mg erL) : ExF K mg "BadRows" veB "ValueError.__new__" := (erf_BadRows Er).f rfl
theorem erf_BadShares {K : PySem.W.Frag} {mg : Str → Option Value} (Er : ErrT K mg erL) : ErF K mg erL ec_BadShares := Er _ (List.mem_of_getElem? (i := 4) rfl)
theorem exf_BadShares {K : PySem.W.Frag} {mg : Str → Option Value} (Er : ErrT K mg erL) : ExF K mg "BadShares" veB "ValueError.__new__" := (erf_BadShares Er).f rfl
theorem erf_BadPlan {K : PySem.W.Frag} {mg : Str → Option Value} (Er : ErrT K mg erL) : ErF K mg erL ec_BadPlan := Er _ (List.mem_of_getElem? (i := 5) rfl)
theorem exf_BadPlan {K : PySem.W.Frag} {mg : Str → Option Value} (Er : ErrT K mg erL) : ExF K mg "BadPlan" veB "ValueError.__new__" := (erf_BadPlan Er).f rfl
theorem erf_BadFilling {K : PySem.W.Frag} {mg : Str → Option Value} (Er : ErrT K mg erL) : ErF K mg erL ec_BadFilling := Er _ (List.mem_of_getElem? (i := 6) rfl)
theorem exf_BadFilling {K : PySem.W.Frag} {mg : Str → Option Value} (Er : ErrT K mg erL) : ExF K mg "BadFilling" veB "ValueError.__new__" := (erf_BadFilling Er).f rfl
theorem erf_BadRate {K : PySem.W.Frag} {mg : Str → Option Value} (Er : ErrT K mg erL) : ErF K mg erL ec_BadRate := Er _ (List.mem_of_getElem? (i := 7) rfl)
theorem exf_BadRate {K : PySem.W.Frag} {mg : Str → Option Value} (Er : ErrT K mg erL) : ExF K mg "BadRate" veB "ValueError.__new__" := (erf_BadRate Er).f rfl
theorem erf_BadLower {K : PySem.W.Frag} {mg : Str → Option Value} (Er : ErrT K mg erL) : ErF K mg erL ec_BadLower := Er _ (List.mem_of_getElem? (i := 8) rfl)
theorem exf_BadLower {K : PySem.W.Frag} {mg : Str → Option Value} (Er : ErrT K mg erL) : ExF K mg "BadLower" veB "ValueError.__new__" := (erf_BadLower Er).f rfl
theorem erf_BadSteps {K : PySem.W.Frag} {mg : Str → Option Value} (Er : ErrT K mg erL) : ErF K mg erL ec_BadSteps := Er _ (List.mem_of_getElem? (i := 9) rfl)
theorem exf_BadSteps {K : PySem.W.Frag} {mg : Str → Option Value} (Er : ErrT K mg erL) : ExF K mg "BadSteps" veB "ValueError.__new__" := (erf_BadSteps Er).f rfl
theorem erf_BadName {K : PySem.W.Frag} {mg : Str → Option Value} (Er : ErrT K mg erL) : ErF K mg erL ec_BadName := Er _ (List.mem_of_getElem? (i := 10) rfl)
theorem exf_BadName {K : PySem.W.Frag} {mg : Str → Option Value} (Er : ErrT K mg erL) : ExF K mg "BadName" veB "ValueError.__new__" := (erf_BadName Er).f rfl
theorem erf_Taken {K : PySem.W.Frag} {mg : Str → Option Value} (Er : ErrT K mg erL) : ErF K mg erL ec_Taken := Er _ (List.mem_of_getElem? (i := 11) rfl)
theorem exf_Taken {K : PySem.W.Frag} {mg : Str → Option Value} (Er : ErrT K mg erL) : ExF K mg "Taken" veB "ValueError.__new__" := (erf_Taken Er).f rfl
theorem erf_Full {K : PySem.W.Frag} {mg : Str → Option Value} (Er : ErrT K mg erL) : ErF K mg erL ec_Full := Er _ (List.mem_of_getElem? (i := 12) rfl)
theorem exf_Full {K : PySem.W.Frag} {mg : Str → Option Value} (Er : ErrT K mg erL) : ExF K mg "Full" veB "ValueError.__new__" := (erf_Full Er).f rfl
theorem erf_Last {K : PySem.W.Frag} {mg : Str → Option Value} (Er : ErrT K mg erL) : ErF K mg erL ec_Last := Er _ (List.mem_of_getElem? (i := 13) rfl)
theorem exf_Last {K : PySem.W.Frag} {mg : Str → Option Value} (Er : ErrT K mg erL) : ExF K mg "Last" veB "ValueError.__new__" := (erf_Last Er).f rfl
theorem erf_NotOurs {K : PySem.W.Frag} {mg : Str → Option Value} (Er : ErrT K mg erL) : ErF K mg erL ec_NotOurs := Er _ (List.mem_of_getElem? (i := 14) rfl)
theorem exf_NotOurs {K : PySem.W.Frag} {mg : Str → Option Value} (Er : ErrT K mg erL) : ExF K mg "NotOurs" veB "ValueError.__new__" := (erf_NotOurs Er).f rfl
theorem erf_Bare {K : PySem.W.Frag} {mg : Str → Option Value} (Er : ErrT K mg erL) : ErF K mg erL ec_Bare := Er _ (List.mem_of_getElem? (i := 15) rfl)
theorem exf_Bare {K : PySem.W.Frag} {mg : Str → Option Value} (Er : ErrT K mg erL) : ExF K mg "Bare" veB "ValueError.__new__" := (erf_Bare Er).f rfl
theorem erf_Unlike {K : PySem.W.Frag} {mg : Str → Option Value} (Er : ErrT K mg erL) : ErF K mg erL ec_Unlike := Er _ (List.mem_of_getElem? (i := 16) rfl)
theorem exf_Unlike {K : PySem.W.Frag} {mg : Str → Option Value} (Er : ErrT K mg erL) : ExF K mg "Unlike" veB "ValueError.__new__" := (erf_Unlike Er).f rfl
theorem erf_BadDeed {K : PySem.W.Frag} {mg : Str → Option Value} (Er : ErrT K mg erL) : ErF K mg erL ec_BadDeed := Er _ (List.mem_of_getElem? (i := 17) rfl)
theorem exf_BadDeed {K : PySem.W.Frag} {mg : Str → Option Value} (Er : ErrT K mg erL) : ExF K mg "BadDeed" veB "ValueError.__new__" := (erf_BadDeed Er).f rfl
theorem erf_BadText {K : PySem.W.Frag} {mg : Str → Option Value} (Er : ErrT K mg erL) : ErF K mg erL ec_BadText := Er _ (List.mem_of_getElem? (i := 18) rfl)
theorem erf_Broken {K : PySem.W.Frag} {mg : Str → Option Value} (Er : ErrT K mg erL) : ErF K mg erL ec_Broken := Er _ (List.mem_of_getElem? (i := 19) rfl)
theorem erf_Missing {K : PySem.W.Frag} {mg : Str → Option Value} (Er : ErrT K mg erL) : ErF K mg erL ec_Missing := Er _ (List.mem_of_getElem? (i := 20) rfl)
theorem exf_Missing {K : PySem.W.Frag} {mg : Str → Option Value} (Er : ErrT K mg erL) : ExF K mg "Missing" leB "LookupError.__new__" := (erf_Missing Er).f rfl
theorem erf_NoStore {K : PySem.W.Frag} {mg : Str → Option Value} (Er : ErrT K mg erL) : ErF K mg erL ec_NoStore := Er _ (List.mem_of_getElem? (i := 21) rfl)
theorem erf_NoRow {K : PySem.W.Frag} {mg : Str → Option Value} (Er : ErrT K mg erL) : ErF K mg erL ec_NoRow := Er _ (List.mem_of_getElem? (i := 22) rfl)
theorem erf_NoPaper {K : PySem.W.Frag} {mg : Str → Option Value} (Er : ErrT K mg erL) : ErF K mg erL ec_NoPaper := Er _ (List.mem_of_getElem? (i := 23) rfl)
/-! ### _law_same -/
abbrev s__law_same : Stmt := top 44
abbrev n__law_same : List Str := ["_law_found", "_law_due", "_law_k"]
theorem sc__law_same : FnScope ["_law_found", "_law_due", "_law_k"] ["_law_found", "_law_due"] (defScope s__law_same) := ⟨rfl, rfl, rfl, by decide +kernel, rfl, by decide +kernel, by decide +kernel⟩
inductive Pl : Nat → PyData → Prop
  | none {n : Nat} : Pl n .none
  | bool {n : Nat} (b : Bool) : Pl n (.bool b)
  | int {n : Nat} (i : Int) : Pl n (.int i)
  | str {n : Nat} {x : Str} (h : (PyData.str x).canLay0 = true) : Pl n (.str x)
  | list {n : Nat} {ds : List PyData} (hl : ds.length ≤ 1000000) (h : ∀ d ∈ ds, Pl n d) : Pl (n + 1) (.list ds)
  | tuple {n : Nat} {ds : List PyData} (hl : ds.length ≤ 1000000) (h : ∀ d ∈ ds, Pl n d) : Pl (n + 1) (.tuple ds)
theorem Pl.shd {n : Nat} {d : PyData} (h : Pl n d) : ShD n d := by
  induction h with
  | none => exact shd_none.mono (Nat.zero_le _)
  | bool b => exact (shd_bool b).mono (Nat.zero_le _)
  | int i => exact (shd_int i).mono (Nat.zero_le _)
  | str h => exact ⟨h, by simp only [PyData.depth]; exact Nat.zero_le _⟩
  | list _ _ ih => exact shd_list ih
  | tuple _ _ ih => exact shd_tuple ih
theorem Pl.mono {n m : Nat} {d : PyData} (h : Pl n d) : n ≤ m → Pl m d := by
  induction h generalizing m with
  | none => intro _; exact .none
  | bool b => intro _; exact .bool b
  | int i => intro _; exact .int i
  | str h => intro _; exact .str h
  | list hl _ ih =>
    intro h
    cases m with
    | zero => omega
    | succ m => exact .list hl fun d hd => ih d hd (by omega)
  | tuple hl _ ih =>
    intro h
    cases m with
    | zero => omega
    | succ m => exact .tuple hl fun d hd => ih d hd (by omega)
def Rsame (n : Nat) (ds : List PyData) (r : PyData) : Prop := ∃ d, Pl n d ∧ n ≤ 60 ∧ ds = [d, d] ∧ r = .bool true
def Rsame8 : List PyData → PyData → Prop := Rsame 8
theorem same_step {P : Program} {w : World} {K : PySem.W.Frag} {T : Tb} {mg : Str → Option Value} {base : Heap} {f : Addr} {fd : FuncData} {dvs : List V} (F : FnP K "_law_same" s__law_same dvs f fd) (Z : Blt mg) {k n : Nat} {R : List PyData → PyData → Prop}
    (hn : ∀ ds : List PyData, (Pl n (.list ds) ∨ Pl n (.tuple ds)) → ∀ d ∈ ds, R [d, d] (.bool true)) (h60 : n ≤ 60)
    (c__law_same : Cal P w K mg base k "_law_same" ["_law_found", "_law_due"] [] (spR K T R)) : FnOk P w K mg base CX0 (k + 1) f fd ["_law_found", "_law_due"] (spR K T (Rsame n)) := by
  refine fnR F sc__law_same (fun ds r h => ?_) (fun cdv A outer s H E hr => ?_)
  · obtain ⟨d, _, _, rfl, rfl⟩ := h
    rfl
  · have nd := sc__law_same.nd
    refine ⟨_, (pss_cons (ps_if (pt_cmpR op_isN (pv 1) pe_non (nomark _)) (pss_one (ps_ret (pe_cmpR op_isN (pv 0) pe_non (nomark _)))) pss_nil)
      (pss_cons (ps_if (pt_val (pe_callB (call_isiTK K) (by rfl) Z.isinstance (by decide +kernel) (pa_cons (pv 1) (pa_cons (pe_tup (pa_cons (pe_bltn (v := .ty "list") (u := .type "list") (by rfl) Z.list (by decide +kernel) rfl) (pa_cons (pe_bltn (v := .ty "tuple") (u := .type "tuple") (by rfl) Z.tuple (by decide +kernel) rfl) pa_nil))) pa_nil)))) (pss_cons (ps_if (PW.pt (pw_or (pt_cmpR (op_neK K hr.units) (pe_callB (call_isiK K) (by rfl) Z.isinstance (by decide +kernel) (pa_cons (pv 0) (pa_cons (pe_bltn (v := .ty "list") (u := .type "list") (by rfl) Z.list (by decide +kernel) rfl) pa_nil))) (pe_callB (call_isiK K) (by rfl) Z.isinstance (by decide +kernel) (pa_cons (pv 1) (pa_cons (pe_bltn (v := .ty "list") (u := .type "list") (by rfl) Z.list (by decide +kernel) rfl) pa_nil))) (nomark _)) (pw_or1 (pt_cmpR (op_neK K hr.units) (pe_callB (call_isiK K) (by rfl) Z.isinstance (by decide +kernel) (pa_cons (pv 0) (pa_cons (pe_bltn (v := .ty "tuple") (u := .type "tuple") (by rfl) Z.tuple (by decide +kernel) rfl) pa_nil))) (pe_callB (call_isiK K) (by rfl) Z.isinstance (by decide +kernel) (pa_cons (pv 1) (pa_cons (pe_bltn (v := .ty "tuple") (u := .type "tuple") (by rfl) Z.tuple (by decide +kernel) rfl) pa_nil))) (nomark _))))) (pss_one (ps_ret pe_bl)) pss_nil)
      (pss_one (ps_ret (pe_and (pe_cmpR (op_eqK K hr.units) (pe_callB (call_lenK K) (by rfl) Z.len PySem.boot_len (pa_cons (pv 0) pa_nil)) (pe_callB (call_lenK K) (by rfl) Z.len PySem.boot_len (pa_cons (pv 1) pa_nil)) (nomark _)) (pe_one (pe_callB (cr_allK K rfl) (by rfl) Z.all (by decide +kernel) (pa_cons (pe_lc (own := [("_law_k", 2)]) rfl nd (pi_range1 (by rfl) Z.range (pa_cons (pe_callB (call_lenK K) (by rfl) Z.len PySem.boot_len (pa_cons (pv 1) pa_nil)) pa_nil)) (blkOk_by (own := [("_law_k", 2)]) (N := ["_law_found", "_law_due", "_law_k"]) (sc := defScope s__law_same) (by decide +kernel)) (fun _ _ _ _ _ => (pg_name (i := 2) nd rfl (Or.inl rfl))) (fun _ _ _ _ _ => pts_nil) (fun _ _ _ _ _ => (pe_callC c__law_same hr rfl (pa_cons (pe_ix (ix_seqK K) (pv 0) (pv 2) (fun _ _ => rfl)) (pa_cons (pe_ix (ix_seqK K) (pv 1) (pv 2) (fun _ _ => rfl)) pa_nil)) (hk := Nat.le_refl _)))) pa_nil))))))) pss_nil)
      (pss_cons (ps_if (PW.pt (pw_or (pt_cmpR (op_neK K hr.units) (pe_callB (call_isiK K) (by rfl) Z.isinstance (by decide +kernel) (pa_cons (pv 0) (pa_cons (pe_bltn (v := .ty "bool") (u := .type "bool") (by rfl) Z.bool (by decide +kernel) rfl) pa_nil))) (pe_callB (call_isiK K) (by rfl) Z.isinstance (by decide +kernel) (pa_cons (pv 1) (pa_cons (pe_bltn (v := .ty "bool") (u := .type "bool") (by rfl) Z.bool (by decide +kernel) rfl) pa_nil))) (nomark _)) (pw_or1 (pt_cmpR (op_neK K hr.units) (pe_callB (call_isiK K) (by rfl) Z.isinstance (by decide +kernel) (pa_cons (pv 0) (pa_cons (pe_bltn (v := .ty "str") (u := .type "str") (by rfl) Z.str (by decide +kernel) rfl) pa_nil))) (pe_callB (call_isiK K) (by rfl) Z.isinstance (by decide +kernel) (pa_cons (pv 1) (pa_cons (pe_bltn (v := .ty "str") (u := .type "str") (by rfl) Z.str (by decide +kernel) rfl) pa_nil))) (nomark _))))) (pss_one (ps_ret pe_bl)) pss_nil)
      (pss_one (ps_ret (pe_and (pe_cmpR (op_eqK K hr.units) (pe_callB (call_isiK K) (by rfl) Z.isinstance (by decide +kernel) (pa_cons (pv 0) (pa_cons (pe_bltn (v := .ty "int") (u := .type "int") (by rfl) Z.int (by decide +kernel) rfl) pa_nil))) (pe_callB (call_isiK K) (by rfl) Z.isinstance (by decide +kernel) (pa_cons (pv 1) (pa_cons (pe_bltn (v := .ty "int") (u := .type "int") (by rfl) Z.int (by decide +kernel) rfl) pa_nil))) (nomark _)) (pe_one (pe_cmpR (op_eqK K hr.units) (pv 0) (pv 1) (nomark _))))))))), ?_⟩
    wtm_at "cx"
    rintro ds r ⟨d, hd, _, rfl, rfl⟩ H0 C D hrt hnx
    show Tri K T H0 _ C [.dat d, .dat d, .no] _ D
    have sh := hd.shd.shaped (by omega)
    have rf := hd.shd.refl
    refine q_if (by wtm_at "et") (fun c => ?_) (fun c => s_to ?_)
    · have e : d = .none := by
        cases d <;> first | rfl | cases c
      subst e
      exact s_ret (ev_is (by wtm_at "ev") (by rfl)) hrt
    have seq : ∀ (ds : List PyData), (∀ x ∈ ds, R [x, x] (.bool true)) → SeqD d ds → ds.length ≤ 1000000 →
        Ev K T (tAndV (tOp (rEqD K) (tCB (rLenA K) (tCons (tVar 0) tNil)) (tCB (rLenA K) (tCons (tVar 1) tNil))) (tCB (rAll K) (tCons (tLc (iRng1 (tCons (tCB (rLenA K) (tCons (tVar 1) tNil)) tNil)) (gName 2) tYes (tCall (spR K T R) [] E0 (tCons (tOp (rIx K) (tVar 0) (tVar 2)) (tCons (tOp (rIx K) (tVar 1) (tVar 2)) tNil))) (List.map (fun x => x.2) [(Str.ofString "_law_k", 2)])) tNil))) [.dat d, .dat d, .no] (.bool true) := by
      intro ds hds hsq hl
      refine ev_is (ev_andV (ev_is (ev_op (ev_lenSq (by wtm_at "ev") hsq) (ev_lenSq (by wtm_at "ev") hsq) (rv_eq (shaped_int _) (shaped_int _))) (by rw [eqv_int, decide_eq_true rfl])) (fun _ => ev_allLc (fun _ => true) (it_range1 (ea_cons (ev_lenSq (by wtm_at "ev") hsq) ea_nil) (by omega) (by omega)) (by rw [rgD_len]; omega) ?_)) ?_
      · intro i x hx
        obtain ⟨hi, rfl⟩ := rgD_get hx
        have hi : i < ds.length := by simpa using hi
        refine ⟨_, _, tg_name, (fun j hj => hj), ?_⟩
        show Ev K T _ [.dat d, .dat d, .dat (.int (0 + (i : Int)))] _
        have a1 : atI ds (0 + (i : Int)) = some ds[i] := by
          rw [atI_in (by omega) (by omega), show (0 + (i : Int)).toNat = i from by omega, List.getElem?_eq_getElem hi]
        exact ev_call (ea_cons (ev_ixSq (by wtm_at "ev") hsq (by wtm_at "ev") a1) (ea_cons (ev_ixSq (by wtm_at "ev") hsq (by wtm_at "ev") a1) ea_nil)) (hds _ (List.getElem_mem hi))
      · simp
    have nn : ∀ b : Bool, PyData.eqv (.bool b) (.bool b) = true := fun b => (shd_bool b).refl
    have sb : ∀ b : Bool, SeqAt.shaped (.bool b) = true := fun b => (shd_bool b).shaped (by decide)
    have ne : ∀ {t : String} {b : Bool}, kitB (tyN d) t = some b → EvT K T (tTest (tOp (rNeD K) (tCB (rIsi K) (tCons (tVar 0) (tCons (tC (.ty t)) tNil))) (tCB (rIsi K) (tCons (tVar 1) (tCons (tC (.ty t)) tNil))))) [.dat d, .dat d, .no] false := fun h =>
      et_same (n := 0) (ev_isi (by wtm_at "ev") h) (ev_isi (by wtm_at "ev") h) (shd_bool _) (by decide)
    have two : (∃ b3 b4 b5 : Bool, kitB (tyN d) "list" = some false ∧ kitB (tyN d) "tuple" = some false ∧ kitB (tyN d) "bool" = some b3 ∧ kitB (tyN d) "str" = some b4 ∧ kitB (tyN d) "int" = some b5) ∨
        ∃ (ds : List PyData) (b1 b2 : Bool), SeqD d ds ∧ ds.length ≤ 1000000 ∧ (∀ x ∈ ds, R [x, x] (.bool true)) ∧ kitB (tyN d) "list" = some b1 ∧ kitB (tyN d) "tuple" = some b2 ∧ (b1 || b2) = true := by
      cases hd with
      | none => cases c
      | bool b => exact .inl ⟨true, false, true, by dsimp only [tyN]; decide +kernel, by dsimp only [tyN]; decide +kernel, by dsimp only [tyN]; decide +kernel, by dsimp only [tyN]; decide +kernel, by dsimp only [tyN]; decide +kernel⟩
      | int i => exact .inl ⟨false, false, true, by dsimp only [tyN]; decide +kernel, by dsimp only [tyN]; decide +kernel, by dsimp only [tyN]; decide +kernel, by dsimp only [tyN]; decide +kernel, by dsimp only [tyN]; decide +kernel⟩
      | str h => exact .inl ⟨false, true, false, by dsimp only [tyN]; decide +kernel, by dsimp only [tyN]; decide +kernel, by dsimp only [tyN]; decide +kernel, by dsimp only [tyN]; decide +kernel, by dsimp only [tyN]; decide +kernel⟩
      | list hl h => exact .inr ⟨_, true, false, .lst _, hl, hn _ (.inl (.list hl h)), by dsimp only [tyN]; decide +kernel, by dsimp only [tyN]; decide +kernel, rfl⟩
      | tuple hl h => exact .inr ⟨_, false, true, .tup _, hl, hn _ (.inr (.tuple hl h)), by dsimp only [tyN]; decide +kernel, by dsimp only [tyN]; decide +kernel, rfl⟩
    rcases two with ⟨b3, b4, b5, h1, h2, h3, h4, h5⟩ | ⟨ds, b1, b2, hsq, hl, hds, h1, h2, hb⟩
    · refine q_ifF (et_is (et_B (ev_isi2 (by wtm_at "ev") h1 h2)) rfl) ?_
      refine q_ifF (et_is (et_or (ne h3) fun _ => ne h4) rfl) ?_
      exact s_ret (ev_is (ev_andV (ev_is (ev_op (ev_isi (by wtm_at "ev") h5) (ev_isi (by wtm_at "ev") h5) (rv_eq (sb _) (sb _))) (by rw [nn])) fun _ => ev_op (by wtm_at "ev") (by wtm_at "ev") (rv_eq sh sh)) (by rw [rf]; rfl)) hrt
    · refine q_if (b := true) (et_is (et_B (ev_isi2 (by wtm_at "ev") h1 h2)) hb) (fun _ => ?_) (fun z => by cases z)
      refine q_ifF (et_is (et_or (ne h1) fun _ => ne h2) rfl) ?_
      exact s_ret (seq ds hds hsq hl) hrt
theorem same_all {P : Program} {w : World} {K : PySem.W.Frag} {T : Tb} {mg : Str → Option Value} {base : Heap} {f : Addr} {fd : FuncData} {dvs : List V} (F : FnP K "_law_same" s__law_same dvs f fd) (Z : Blt mg)
    (self : ∀ (k : Nat) (R : List PyData → PyData → Prop), FnOk P w K mg base CX0 k f fd ["_law_found", "_law_due"] (spR K T R) → Cal P w K mg base k "_law_same" ["_law_found", "_law_due"] [] (spR K T R)) :
    ∀ n : Nat, n ≤ 60 → FnOk P w K mg base CX0 (41 + n + 1) f fd ["_law_found", "_law_due"] (spR K T (Rsame n))
  | 0, h => same_step F Z (k := 41) (n := 0) (R := fun _ _ => False) (fun ds h => by rcases h with h | h <;> cases h) h (self _ _ ⟨fun vs H Q E ⟨_, _, _, _, _, z, _⟩ => z.elim, fun A outer s H args us vs Q E _ _ _ _ ⟨_, _, _, _, _, z, _⟩ => z.elim⟩)
  | n + 1, h => same_step F Z (k := 41 + n + 1) (n := n + 1) (R := Rsame n) (fun ds h2 x hx => by
      refine ⟨x, ?_, by omega, rfl, rfl⟩
      rcases h2 with h2 | h2 <;> cases h2 <;> rename_i q <;> exact q x hx) h (self _ _ (same_all F Z self n (by omega)))
theorem ok__law_same {P : Program} {w : World} {K : PySem.W.Frag} {T : Tb} {mg : Str → Option Value} {base : Heap} {f : Addr} {fd : FuncData} {dvs : List V} (F : FnP K "_law_same" s__law_same dvs f fd) (Z : Blt mg)
    (self : ∀ (k : Nat) (R : List PyData → PyData → Prop), FnOk P w K mg base CX0 k f fd ["_law_found", "_law_due"] (spR K T R) → Cal P w K mg base k "_law_same" ["_law_found", "_law_due"] [] (spR K T R)) :
    FnOk P w K mg base CX0 50 f fd ["_law_found", "_law_due"] (spR K T Rsame8) := by
  exact same_all F Z self 8 (by decide)
/-! ### _law_flags -/
abbrev s__law_flags : Stmt := top 48
abbrev n__law_flags : List Str := ["_law_e", "_law_flags_here"]
theorem sc__law_flags : FnScope ["_law_e", "_law_flags_here"] ["_law_e"] (defScope s__law_flags) := ⟨rfl, rfl, rfl, by decide +kernel, rfl, by decide +kernel, by decide +kernel⟩
theorem mem_BadPart : ec_BadPart ∈ erL := List.mem_of_getElem? (i := 1) rfl
theorem mem_BadHand : ec_BadHand ∈ erL := List.mem_of_getElem? (i := 2) rfl
theorem mem_BadRows : ec_BadRows ∈ erL := List.mem_of_getElem? (i := 3) rfl
theorem mem_BadShares : ec_BadShares ∈ erL := List.mem_of_getElem? (i := 4) rfl
theorem mem_BadPlan : ec_BadPlan ∈ erL := List.mem_of_getElem? (i := 5) rfl
theorem mem_BadFilling : ec_BadFilling ∈ erL := List.mem_of_getElem? (i := 6) rfl
theorem mem_BadRate : ec_BadRate ∈ erL := List.mem_of_getElem? (i := 7) rfl
theorem mem_BadLower : ec_BadLower ∈ erL := List.mem_of_getElem? (i := 8) rfl
theorem mem_BadSteps : ec_BadSteps ∈ erL := List.mem_of_getElem? (i := 9) rfl
theorem mem_BadName : ec_BadName ∈ erL := List.mem_of_getElem? (i := 10) rfl
theorem mem_Taken : ec_Taken ∈ erL := List.mem_of_getElem? (i := 11) rfl
theorem mem_Full : ec_Full ∈ erL := List.mem_of_getElem? (i := 12) rfl
theorem mem_Last : ec_Last ∈ erL := List.mem_of_getElem? (i := 13) rfl
theorem mem_NotOurs : ec_NotOurs ∈ erL := List.mem_of_getElem? (i := 14) rfl
theorem mem_Bare : ec_Bare ∈ erL := List.mem_of_getElem? (i := 15) rfl
theorem mem_Unlike : ec_Unlike ∈ erL := List.mem_of_getElem? (i := 16) rfl
theorem mem_BadDeed : ec_BadDeed ∈ erL := List.mem_of_getElem? (i := 17) rfl
theorem mem_NoStore : ec_NoStore ∈ erL := List.mem_of_getElem? (i := 21) rfl
theorem mem_NoRow : ec_NoRow ∈ erL := List.mem_of_getElem? (i := 22) rfl
theorem mem_NoPaper : ec_NoPaper ∈ erL := List.mem_of_getElem? (i := 23) rfl
noncomputable def m__law_flags (a : Addr) (c : ErC) : MS := (kSeq (kAsg (xL (fLst (zCons (xIs a 0 (subE c ec_BadPart)) (zCons (xIs a 0 (subE c ec_BadHand)) (zCons (xIs a 0 (subE c ec_BadRows)) (zCons (xIs a 0 (subE c ec_BadShares)) zNil)))))) 1)
  (kSeq (kAsg (xOp zAddV (xV 1) (xL (fLst (zCons (xIs a 0 (subE c ec_BadPlan)) (zCons (xIs a 0 (subE c ec_BadFilling)) (zCons (xIs a 0 (subE c ec_BadRate)) zNil)))))) 1)
  (kSeq (kAsg (xOp zAddV (xV 1) (xL (fLst (zCons (xIs a 0 (subE c ec_BadLower)) (zCons (xIs a 0 (subE c ec_BadSteps)) (zCons (xIs a 0 (subE c ec_BadName)) zNil)))))) 1)
  (kSeq (kAsg (xOp zAddV (xV 1) (xL (fLst (zCons (xIs a 0 (subE c ec_Taken)) (zCons (xIs a 0 (subE c ec_Full)) zNil))))) 1)
  (kSeq (kAsg (xOp zAddV (xV 1) (xL (fLst (zCons (xIs a 0 (subE c ec_Last)) (zCons (xIs a 0 (subE c ec_NotOurs)) (zCons (xIs a 0 (subE c ec_Bare)) (zCons (xIs a 0 (subE c ec_Unlike)) zNil))))))) 1)
  (kRet (xOp zAddV (xV 1) (xL (fLst (zCons (xIs a 0 (subE c ec_BadDeed)) (zCons (xIs a 0 (subE c ec_NoStore)) (zCons (xIs a 0 (subE c ec_NoRow)) (zCons (xIs a 0 (subE c ec_NoPaper)) zNil)))))))))))))
def flL (c : ErC) : List PyData := [.bool (subE c ec_BadPart), .bool (subE c ec_BadHand), .bool (subE c ec_BadRows), .bool (subE c ec_BadShares), .bool (subE c ec_BadPlan), .bool (subE c ec_BadFilling), .bool (subE c ec_BadRate), .bool (subE c ec_BadLower), .bool (subE c ec_BadSteps), .bool (subE c ec_BadName), .bool (subE c ec_Taken), .bool (subE c ec_Full), .bool (subE c ec_Last), .bool (subE c ec_NotOurs), .bool (subE c ec_Bare), .bool (subE c ec_Unlike), .bool (subE c ec_BadDeed), .bool (subE c ec_NoStore), .bool (subE c ec_NoRow), .bool (subE c ec_NoPaper)]
def flD (c : ErC) : Rz PyData := .ok (.list (flL c))
theorem okH__law_flags {P : Program} {w : World} {K : PySem.W.Frag} {T : Tb} {mg : Str → Option Value} {base : Heap} {f : Addr} {fd : FuncData} (F : FnQ K "_law_flags" s__law_flags [] [] f fd) (Z : Blt mg) (Er : ErrT K mg erL) :
    LwM.FnHX P w K mg base CX0 42 f fd ["_law_e"] (spX K T erL flD) := by
  refine fnHC (m := m__law_flags) (n := 2) F sc__law_flags rfl (fun a c hc r h => ?_) (fun cdv A outer s H E p c hc hot hz hf hr => ?_)
  · cases h
    simp only [fnD_a, kSeq_a, kNx_a, kE_a, kAsg_a, kOwn_a, kDrop_a, kRet_a, kRetP_a, kRetF_a, kRetO_a, kRetN_a, kIf_a, kBk_a, kCt_a, kTg_a, kPar_a, kApp_a, kPut_a, kFrz_a, kFor_a, kRaise_a, kDict_a, kDput_a, kClr_a, kNst_a, fLc2_a, yVw_a, view_no, view_dat, view_own, view_scr, xC_a, xV_a, xOp_a, fOp_a, xUn_a, xNot_a, xAnd_a, xOr_a, xIf_a, xChain_a, zNil_a, zCons_a, xTup_a, fLst_a, xL_a, xCB_a, fCB_a, xF_a, xFc_a, fF_a, fFc_a, zApp_a, zKw_a, oNo_a, oAt_a, fSl_a, xSl_a, yV_a, yAnd_a, yOr_a, yNot_a, yYes_a, xIxO_a, xLenO_a, xDg_a, xDin_a, xDnotin_a, iS_a, iA_a, fLc_a, wipeS_nil, wipeS_cons, gN_a, gs0_a, gsC_a, gT_a, gU_a, ownL_a, ownD_a, asB_a, asI_a, asL_a, seqOf_l, seqOf_t, keyD_i, keyD_s, bind_ex, bind_bad, of_none, Rz.bind_ok, Rz.of_some, Rz.calm_ok, Option.bind_some, Option.bind_none, zAddV_i, zSub_i, zLt_i, zLe_i, zGt_i, zGe_i, zEq_i, zNe_i, zEq_r, zNe_r, zIx_r0, zIx_r1, zIx_t, zIx_l, zNeg_i, zLen_l, zLen_t, zAbs_i, zInt_b, zInt_i, zListV_l, zListV_t, zList_l, zList_t, zTuple_l, zTuple_t, zAll_l, zAny_l, zSlV_l, zSlV_t, zIsN_a, zNotN_a, slots, sel, Arg.get, List.filterMap_cons, List.filterMap_nil, List.length_cons, List.length_nil, List.map_cons, List.map_nil, List.cons_append, List.nil_append, List.append_nil, List.getElem?_cons_succ, List.getElem?_cons_zero, List.getElem?_nil, List.set_cons_zero, List.set_cons_succ, List.set_nil, List.replicate_succ, List.replicate_zero, if_true, Nat.sub_self, Nat.reduceAdd, Nat.reduceSub, Nat.reduceLeDiff, Nat.reduceEqDiff, Nat.reduceLT, Int.reduceLT, Int.reduceLE, Int.reduceNeg, Int.reduceEq, Nat.zero_add, and_self, if_false, Bool.not_true, Bool.not_false, Bool.false_eq_true, Nat.zero_le, decide_true, decide_false, reduceCtorEq, m__law_flags, xIs, List.replicate, zAddV_l, List.cons_append, List.nil_append, flL]
  · have nd := sc__law_flags.nd
    refine ⟨_, (pss_cons (ps_set (i := 1) nd rfl (Or.inl rfl) (pe_lst (pa_cons (pe_callB (call_isH K List.mem_cons_self hz hf) (by rfl) Z.isinstance (by decide +kernel) (pa_cons (pv 0) (pa_cons (pe_glob (v := .ref (He.ga K "BadPart")) (by rfl) (erf_BadPart Er).g rfl) pa_nil))) (pa_cons (pe_callB (call_isH K List.mem_cons_self hz hf) (by rfl) Z.isinstance (by decide +kernel) (pa_cons (pv 0) (pa_cons (pe_glob (v := .ref (He.ga K "BadHand")) (by rfl) (erf_BadHand Er).g rfl) pa_nil))) (pa_cons (pe_callB (call_isH K List.mem_cons_self hz hf) (by rfl) Z.isinstance (by decide +kernel) (pa_cons (pv 0) (pa_cons (pe_glob (v := .ref (He.ga K "BadRows")) (by rfl) (erf_BadRows Er).g rfl) pa_nil))) (pa_cons (pe_callB (call_isH K List.mem_cons_self hz hf) (by rfl) Z.isinstance (by decide +kernel) (pa_cons (pv 0) (pa_cons (pe_glob (v := .ref (He.ga K "BadShares")) (by rfl) (erf_BadShares Er).g rfl) pa_nil))) pa_nil))))))
      (pss_cons (ps_set (i := 1) nd rfl (Or.inl rfl) (pe_op (op_addK K) (pv 1) (pe_lst (pa_cons (pe_callB (call_isH K List.mem_cons_self hz hf) (by rfl) Z.isinstance (by decide +kernel) (pa_cons (pv 0) (pa_cons (pe_glob (v := .ref (He.ga K "BadPlan")) (by rfl) (erf_BadPlan Er).g rfl) pa_nil))) (pa_cons (pe_callB (call_isH K List.mem_cons_self hz hf) (by rfl) Z.isinstance (by decide +kernel) (pa_cons (pv 0) (pa_cons (pe_glob (v := .ref (He.ga K "BadFilling")) (by rfl) (erf_BadFilling Er).g rfl) pa_nil))) (pa_cons (pe_callB (call_isH K List.mem_cons_self hz hf) (by rfl) Z.isinstance (by decide +kernel) (pa_cons (pv 0) (pa_cons (pe_glob (v := .ref (He.ga K "BadRate")) (by rfl) (erf_BadRate Er).g rfl) pa_nil))) pa_nil))))))
      (pss_cons (ps_set (i := 1) nd rfl (Or.inl rfl) (pe_op (op_addK K) (pv 1) (pe_lst (pa_cons (pe_callB (call_isH K List.mem_cons_self hz hf) (by rfl) Z.isinstance (by decide +kernel) (pa_cons (pv 0) (pa_cons (pe_glob (v := .ref (He.ga K "BadLower")) (by rfl) (erf_BadLower Er).g rfl) pa_nil))) (pa_cons (pe_callB (call_isH K List.mem_cons_self hz hf) (by rfl) Z.isinstance (by decide +kernel) (pa_cons (pv 0) (pa_cons (pe_glob (v := .ref (He.ga K "BadSteps")) (by rfl) (erf_BadSteps Er).g rfl) pa_nil))) (pa_cons (pe_callB (call_isH K List.mem_cons_self hz hf) (by rfl) Z.isinstance (by decide +kernel) (pa_cons (pv 0) (pa_cons (pe_glob (v := .ref (He.ga K "BadName")) (by rfl) (erf_BadName Er).g rfl) pa_nil))) pa_nil))))))
      (pss_cons (ps_set (i := 1) nd rfl (Or.inl rfl) (pe_op (op_addK K) (pv 1) (pe_lst (pa_cons (pe_callB (call_isH K List.mem_cons_self hz hf) (by rfl) Z.isinstance (by decide +kernel) (pa_cons (pv 0) (pa_cons (pe_glob (v := .ref (He.ga K "Taken")) (by rfl) (erf_Taken Er).g rfl) pa_nil))) (pa_cons (pe_callB (call_isH K List.mem_cons_self hz hf) (by rfl) Z.isinstance (by decide +kernel) (pa_cons (pv 0) (pa_cons (pe_glob (v := .ref (He.ga K "Full")) (by rfl) (erf_Full Er).g rfl) pa_nil))) pa_nil)))))
      (pss_cons (ps_set (i := 1) nd rfl (Or.inl rfl) (pe_op (op_addK K) (pv 1) (pe_lst (pa_cons (pe_callB (call_isH K List.mem_cons_self hz hf) (by rfl) Z.isinstance (by decide +kernel) (pa_cons (pv 0) (pa_cons (pe_glob (v := .ref (He.ga K "Last")) (by rfl) (erf_Last Er).g rfl) pa_nil))) (pa_cons (pe_callB (call_isH K List.mem_cons_self hz hf) (by rfl) Z.isinstance (by decide +kernel) (pa_cons (pv 0) (pa_cons (pe_glob (v := .ref (He.ga K "NotOurs")) (by rfl) (erf_NotOurs Er).g rfl) pa_nil))) (pa_cons (pe_callB (call_isH K List.mem_cons_self hz hf) (by rfl) Z.isinstance (by decide +kernel) (pa_cons (pv 0) (pa_cons (pe_glob (v := .ref (He.ga K "Bare")) (by rfl) (erf_Bare Er).g rfl) pa_nil))) (pa_cons (pe_callB (call_isH K List.mem_cons_self hz hf) (by rfl) Z.isinstance (by decide +kernel) (pa_cons (pv 0) (pa_cons (pe_glob (v := .ref (He.ga K "Unlike")) (by rfl) (erf_Unlike Er).g rfl) pa_nil))) pa_nil)))))))
      (pss_one (ps_ret (pe_op (op_addK K) (pv 1) (pe_lst (pa_cons (pe_callB (call_isH K List.mem_cons_self hz hf) (by rfl) Z.isinstance (by decide +kernel) (pa_cons (pv 0) (pa_cons (pe_glob (v := .ref (He.ga K "BadDeed")) (by rfl) (erf_BadDeed Er).g rfl) pa_nil))) (pa_cons (pe_callB (call_isH K List.mem_cons_self hz hf) (by rfl) Z.isinstance (by decide +kernel) (pa_cons (pv 0) (pa_cons (pe_glob (v := .ref (He.ga K "NoStore")) (by rfl) (erf_NoStore Er).g rfl) pa_nil))) (pa_cons (pe_callB (call_isH K List.mem_cons_self hz hf) (by rfl) Z.isinstance (by decide +kernel) (pa_cons (pv 0) (pa_cons (pe_glob (v := .ref (He.ga K "NoRow")) (by rfl) (erf_NoRow Er).g rfl) pa_nil))) (pa_cons (pe_callB (call_isH K List.mem_cons_self hz hf) (by rfl) Z.isinstance (by decide +kernel) (pa_cons (pv 0) (pa_cons (pe_glob (v := .ref (He.ga K "NoPaper")) (by rfl) (erf_NoPaper Er).g rfl) pa_nil))) pa_nil))))))))))))), ?_⟩
    exact (sim_seq (sim_asg (sim_L (sim_lstF (sim_cons (sim_is (Er c hc).x ((Er c hc).m ec_BadPart (mem_BadPart)).2) (sim_cons (sim_is (Er c hc).x ((Er c hc).m ec_BadHand (mem_BadHand)).2) (sim_cons (sim_is (Er c hc).x ((Er c hc).m ec_BadRows (mem_BadRows)).2) (sim_cons (sim_is (Er c hc).x ((Er c hc).m ec_BadShares (mem_BadShares)).2) sim_nil)))))))
    (sim_seq (sim_asg (sim_op r_addV sim_V (sim_L (sim_lstF (sim_cons (sim_is (Er c hc).x ((Er c hc).m ec_BadPlan (mem_BadPlan)).2) (sim_cons (sim_is (Er c hc).x ((Er c hc).m ec_BadFilling (mem_BadFilling)).2) (sim_cons (sim_is (Er c hc).x ((Er c hc).m ec_BadRate (mem_BadRate)).2) sim_nil)))))))
    (sim_seq (sim_asg (sim_op r_addV sim_V (sim_L (sim_lstF (sim_cons (sim_is (Er c hc).x ((Er c hc).m ec_BadLower (mem_BadLower)).2) (sim_cons (sim_is (Er c hc).x ((Er c hc).m ec_BadSteps (mem_BadSteps)).2) (sim_cons (sim_is (Er c hc).x ((Er c hc).m ec_BadName (mem_BadName)).2) sim_nil)))))))
    (sim_seq (sim_asg (sim_op r_addV sim_V (sim_L (sim_lstF (sim_cons (sim_is (Er c hc).x ((Er c hc).m ec_Taken (mem_Taken)).2) (sim_cons (sim_is (Er c hc).x ((Er c hc).m ec_Full (mem_Full)).2) sim_nil))))))
    (sim_seq (sim_asg (sim_op r_addV sim_V (sim_L (sim_lstF (sim_cons (sim_is (Er c hc).x ((Er c hc).m ec_Last (mem_Last)).2) (sim_cons (sim_is (Er c hc).x ((Er c hc).m ec_NotOurs (mem_NotOurs)).2) (sim_cons (sim_is (Er c hc).x ((Er c hc).m ec_Bare (mem_Bare)).2) (sim_cons (sim_is (Er c hc).x ((Er c hc).m ec_Unlike (mem_Unlike)).2) sim_nil))))))))
    (sim_ret (sim_op r_addV sim_V (sim_L (sim_lstF (sim_cons (sim_is (Er c hc).x ((Er c hc).m ec_BadDeed (mem_BadDeed)).2) (sim_cons (sim_is (Er c hc).x ((Er c hc).m ec_NoStore (mem_NoStore)).2) (sim_cons (sim_is (Er c hc).x ((Er c hc).m ec_NoRow (mem_NoRow)).2) (sim_cons (sim_is (Er c hc).x ((Er c hc).m ec_NoPaper (mem_NoPaper)).2) sim_nil)))))))))))))
/-! ### _law_word -/
abbrev s__law_word : Stmt := top 47
abbrev n__law_word : List Str := ["_law_flags_here", "_law_words", "_law_word_here", "_law_here"]
theorem sc__law_word : FnScope ["_law_flags_here", "_law_words", "_law_word_here", "_law_here"] ["_law_flags_here"] (defScope s__law_word) := ⟨rfl, rfl, rfl, by decide +kernel, rfl, by decide +kernel, by decide +kernel⟩
noncomputable def m__law_word : MS := (kSeq (kAsg (xC (.str "BadPart BadHand BadRows BadShares BadPlan BadFilling BadRate BadLower BadSteps BadName Taken Full")) 1)
  (kSeq (kAsg (xOp zAddV (xV 1) (xC (.str " Last NotOurs Bare Unlike BadDeed NoStore NoRow NoPaper"))) 1)
  (kRet (xOp zAddV (xC (.str "no ")) (xM zJn (xC (.str "+")) (zCons (xL (fLc [2, 3] (iA (zipO false) (zCons (xM zSpl (xV 1) (zCons (xC (.str " ")) zNil)) (zCons (xV 0) zNil))) (gT 2 (gsC (gN 2) (gsC (gN 3) gs0))) (yV (xV 3)) (xV 2))) zNil))))))
noncomputable def d__law_word : List PyData → Rz PyData := fnD 1 4 m__law_word
theorem okH__law_word {P : Program} {w : World} {K : PySem.W.Frag} {T : Tb} {mg : Str → Option Value} {base : Heap} {f : Addr} {fd : FuncData} (F : FnQ K "_law_word" s__law_word [] [] f fd) (Z : Blt mg) :
    LwM.FnHX P w K mg base CX0 42 f fd ["_law_flags_here"] (fun _ _ _ => spZ K T false fun ds => (d__law_word ds).calm) := by
  refine fnHZ F sc__law_word rfl rfl (fun cdv A outer s H E p hot hr => ?_)
  have nd := sc__law_word.nd
  have hc : L2H.HotC (L2H.cxH CX0 P w K mg base ["_law_flags_here", "_law_words", "_law_word_here", "_law_here"] "_law_word" (defScope s__law_word) f cdv A outer s H E p).nox := ⟨p, hot, List.mem_cons_self⟩
  refine ⟨_, (pss_cons (ps_set (i := 1) nd rfl (Or.inl rfl) pe_str)
      (pss_cons (ps_set (i := 1) nd rfl (Or.inl rfl) (pe_op (op_addK K) (pv 1) pe_str))
      (pss_one (ps_ret (pe_op (op_addK K) pe_str (pe_bmK K PySem.F.plainAttrs_str PySem.F.slot_str_join PySem.F.type_str_join (mt_jn K) pe_str (pa_cons (LwZ.pe_lcQ (own := [("_law_word_here", 2), ("_law_here", 3)]) (.inr hc) nd (LwZ.pi_zipQ K (by rfl) Z.zip (pa_cons (pe_bmK K PySem.F.plainAttrs_str PySem.F.slot_str_split PySem.F.type_str_split mt_spl (pv 1) (pa_cons pe_str pa_nil)) (pa_cons (pv 0) pa_nil))) (blkOk_by (own := [("_law_word_here", 2), ("_law_here", 3)]) (N := ["_law_flags_here", "_law_words", "_law_word_here", "_law_here"]) (sc := defScope s__law_word) (by decide +kernel)) (fun _ _ _ _ _ => LwZ.pgq_tup K (n := 2) (pgs_cons (pg_name (i := 2) nd rfl (Or.inl rfl)) (pgs_cons (pg_name (i := 3) nd rfl (Or.inl rfl)) pgs_nil))) (fun _ _ _ _ _ => (pts_one (pt_val (pv 3)))) (fun _ _ _ _ _ => (pv 2))) pa_nil))))))), ?_⟩
  exact (sim_seq (sim_asg sim_str)
    (sim_seq (sim_asg (sim_op r_addV sim_V sim_str))
    (sim_ret (sim_op r_addV sim_str (sim_m r_jn sim_str (sim_cons (sim_L (sim_lc (W' := fun _ _ _ _ => False) (sim_zip (sim_cons (sim_m r_spl sim_V (sim_cons sim_str sim_nil)) (sim_cons sim_V sim_nil))) (simG_T (simG_C simG_N (simG_C simG_N simG_0))) (sim_yB sim_V) sim_V (by decide))) sim_nil))))))
/-! ### _law_tried -/
abbrev s__law_tried : Stmt := top 49
abbrev n__law_tried : List Str := ["_law_ask", "_law_say_now", "_law_word_here", "_law_e"]
theorem sc__law_tried : FnScope ["_law_ask", "_law_say_now", "_law_word_here", "_law_e"] ["_law_ask"] (defScope s__law_tried) := ⟨rfl, rfl, rfl, by decide +kernel, rfl, by decide +kernel, by decide +kernel⟩
theorem mm_BadText : ec_BadText ∈ erL := List.mem_of_getElem? (i := 18) rfl
theorem mm_Broken : ec_Broken ∈ erL := List.mem_of_getElem? (i := 19) rfl
theorem mm_LullError : ec_LullError ∈ erL := List.mem_of_getElem? (i := 0) rfl
theorem mm_Missing : ec_Missing ∈ erL := List.mem_of_getElem? (i := 20) rfl
def erFind (x : Str) : Option ErC := erL.find? fun c => decide (c.name = x)
theorem erFind_ok {x : Str} {c : ErC} (h : erFind x = some c) : c ∈ erL ∧ c.name = x := ⟨List.mem_of_find?_eq_some h, of_decide_eq_true (List.find?_some (p := fun c : ErC => decide (c.name = x)) h)⟩
def strO : Rz PyData → Option Str
  | .ok (.str s) => some s
  | _ => none
theorem strO_eq {z : Rz PyData} {s : Str} (h : strO z = some s) : z = .ok (.str s) := by
  unfold strO at h
  split at h
  · cases h; rfl
  · cases h
noncomputable def wCls (c : ErC) : Option Str := if (subE c ec_BadText || subE c ec_Broken) = false ∧ subE c ec_LullError = true then strO (d__law_word [.list (flL c)]) else none
noncomputable def wTry (x : Exn) : Option Str := if x.fs = [] then (erFind x.cls).bind wCls else none
theorem takes0N {X : Cx} : L2N.Takes X (fun _ _ _ _ => False) := fun _ _ x => by
  obtain ⟨_, _, _, _, _, _, _, _, _, _, _, _, _, _, _, _, z⟩ := x
  exact z.elim
theorem pss_no {X : Cx} {ss : List Stmt} : PSs X ss (fun _ _ _ => False) := ⟨fun _ _ _ _ _ _ h => h.elim⟩
theorem gives_tried {X : Cx} {T : Tb} {k : Nat} {q : Str} {g : Addr} {cdv : Value} (Er : ErrT X.K X.mg erL)
    (cf : CalH X.prog X.w X.K X.mg X.base 42 "_law_flags" ["_law_e"] (spX X.K T erL flD)) (cw : CalH X.prog X.w X.K X.mg X.base 42 "_law_word" ["_law_flags_here"] (fun _ _ _ => spZ X.K T false fun ds => (d__law_word ds).calm)) (hk : 42 ≤ k) :
    GivesN X k ["_law_ask", "_law_say_now", "_law_word_here", "_law_e"] "_law_tried" (defScope s__law_tried) g cdv (defBody s__law_tried) "_law_ask" q (TTr X.K T wTry) := by
  intro f c' s H Q tl hr act hc h
  obtain ⟨S, o, r, l, hb, ho, hq⟩ := h
  have nd := sc__law_tried.nd
  have hrH : ∀ a, L2H.RoomH k ((X.A.deeper (PyProof.Rows.envOfC "_law_tried" (defScope s__law_tried) s.heap.objs.size g cdv)).mark (some (.ref a))) := fun a => ⟨hr.dp, hr.un⟩
  refine ⟨_, pss_cons (ps_set (i := 1) nd rfl (Or.inl rfl) pe_non) (pss_cons (ps_set (i := 2) nd rfl (Or.inl rfl) pe_str) (pss_cons
    (ps_try_manyA (i := 3) (n := "_law_e") rfl rfl nd rfl rfl takes0N (fun W pn xe tk po => pss_one (ps_set (i := 1) nd rfl (Or.inl rfl) (act W pn xe _ _ tk)))
      (.cons (.two ⟨rfl, by decide, .inl (erf_BadText Er).g⟩ ⟨rfl, by decide, .inl (erf_Broken Er).g⟩) (fun a oe cls d pn hz hf => pss_no)
      (.cons (.one ⟨rfl, by decide, .inl (erf_LullError Er).g⟩) (fun a oe cls d pn hz hf => pss_one (ps_set (i := 2) nd rfl (Or.inl rfl)
        (pe_callH2 (X := (cxOf C8.CX0 X.prog X.w X.K X.mg X.base ["_law_ask", "_law_say_now", "_law_word_here", "_law_e"] "_law_tried" (defScope s__law_tried) g cdv X.A X.stack s H C8.E0).nox.suite a ((a, oe) :: pn)) (a := a) (oe := oe) (cls := cls) (d := d) cw (hrH a) ⟨rfl, let ⟨vs, e⟩ := hf; ⟨vs, e, hz.2.2 vs e⟩⟩ List.mem_cons_self hz.zc (by rfl)
          (pa_cons (pe_callH2 (X := (cxOf C8.CX0 X.prog X.w X.K X.mg X.base ["_law_ask", "_law_say_now", "_law_word_here", "_law_e"] "_law_tried" (defScope s__law_tried) g cdv X.A X.stack s H C8.E0).nox.suite a ((a, oe) :: pn)) (a := a) (oe := oe) (cls := cls) (d := d) cf (hrH a) ⟨rfl, let ⟨vs, e⟩ := hf; ⟨vs, e, hz.2.2 vs e⟩⟩ List.mem_cons_self hz.zc (by rfl) (pa_cons (pv 3) pa_nil) hk) pa_nil) hk)))
      (.cons (.one ⟨rfl, by decide, .inl (erf_Missing Er).g⟩) (fun a oe cls d pn hz hf => pss_no) .nil)))) (pss_one (ps_ret (pe_tup (pa_cons (pv 1) (pa_cons (pv 2) pa_nil))))))), ?_⟩
  have g0 : Gd X.K T H (hide H S) S H S (L2.start ["_law_ask", "_law_say_now", "_law_word_here", "_law_e"] [.ref f]) [.raw (.ref f), .no, .no, .no] := gd_startA l (.raw .nil)
  have g2 := (g0.set (i := 1) (d := .none) .non).set (i := 2) (d := .str "") (.str _)
  have fin : ∀ {σ : St} {H1 : Hp} {x y : PyData}, Gd X.K T H (hide H S) S H1 S σ [.raw (.ref f), .dat x, .dat y, .no] → r = .tuple [x, y] → tRet (tTup (tCons (tVar 1) (tCons (tVar 2) tNil))) { nx := fun _ H' => Q .non H', rt := Q } σ H1 := fun {σ H1 x y} g e => by
    subst e
    exact ev_tup (ds := [x, y]) (ea_cons (ev_var rfl) (ea_cons (ev_var rfl) ea_nil)) (by simp) _ _ _ _ _ _ g _ fun u H2 e2 du => hq u H2 (g.ext.trans e2) du
  refine ⟨g2.raw 0 _ rfl, hc, ?_⟩
  cases o with
  | bad => exact hb.elim
  | ok d => exact hb _ H _ (.refl T H) fun v H' e dv => fin ((g2.ex e).set (i := 1) dv) (by cases ho; rfl)
  | ex x =>
    have ho : tryD wTry (.ex x) = .ok r := ho
    unfold tryD at ho
    simp only at ho
    cases hw : wTry x with
    | none => rw [hw] at ho; cases ho
    | some z =>
      rw [hw] at ho
      cases ho
      unfold wTry at hw
      split at hw
      · rename_i hfs
        obtain ⟨c, hc1, hc2⟩ := Option.bind_eq_some_iff.mp hw
        obtain ⟨hcm, hcn⟩ := erFind_ok hc1
        unfold wCls at hc2
        split at hc2
        · rename_i hcc
          have hz := strO_eq hc2
          refine hb _ H _ (.refl T H) fun dd H' e xd => ?_
          rw [hfs] at xd
          rw [← hcn]
          have hdd : dd = none := by
            cases xd with
            | no => rfl
            | fs _ _ _ h4 => exact absurd rfl h4
          subst hdd
          have F := Er c hcm
          refine ⟨false, ?_, fun z => (by cases z), fun _ => ⟨true, (F.m _ mm_LullError).1.trans (by rw [hcc.2]), fun _ a na => ?_, fun z => (by cases z)⟩⟩
          · show PySem.W.exmAny X.K _ [.ref _, .ref _] = some false
            unfold PySem.W.exmAny PySem.W.exmAny PySem.W.exmAny
            rw [(F.m _ mm_BadText).1, (F.m _ mm_Broken).1]
            simp only [Bool.or_false, hcc.1]
          · have g3 := (g2.ex e).setRaw (i := 3) (v := .ref a)
            refine ⟨.ref a, g3.raw 3 _ rfl, c, S, hcm, rfl, rfl, rfl, g3.lsT (.refl T H'), fun v H2 e2 dv => ⟨[.list (flL c)], S, g3.lsT e2, .cons dv .nil, ?_⟩⟩
            simp only [hz]
            exact fun u H3 e3 du => fin ((((g3.ex e2).ex e3).set (i := 2) du).no 3) rfl
        · cases hc2
      · cases hw
theorem pe_tried {X : Cx} {T : Tb} {y : Str} {k : Nat} {params : Arguments} {body : Expr} {scope : Scope} {t : XK → TE} {p lpos pos : Pos} (cL : CalL X.K X.mg "_law_tried" s__law_tried "_law_ask") (Er : ErrT X.K X.mg erL)
    (cf : CalH X.prog X.w X.K X.mg X.base 42 "_law_flags" ["_law_e"] (spX X.K T erL flD)) (cw : CalH X.prog X.w X.K X.mg X.base 42 "_law_word" ["_law_flags_here"] (fun _ _ _ => spZ X.K T false fun ds => (d__law_word ds).calm)) (TL : LamTab X.K T X.mg X.base y)
    (hg : Gl X "_law_tried") (hcode : X.env.code = .ref (He.codeOf X.K (y, none))) (hq : X.env.qual = y ++ (".<locals>." : Str)) (hr : Room (k + 2) X.A) (hk : 42 ≤ k + 1) (L : LamX.LamS X.env.scope scope) (hdef : defaultsOf params X.env = ([], []))
    (hbind : ∀ (q : Str) (cl : List (Str × Addr)) (pm cv ctv : Value), bindArgs (PySem.W.kla_fn "<lambda>" q params body scope cl pm cv ctv) ⟨[], []⟩ = pure [])
    (hbody : ∀ (A : Around) (outer : List Env) (s : Shared) (H : Hp) (E : XK) (f c' : Addr), Room k (A.deeper (LamX.lamEnv X scope s.heap.objs.size f c')) → PE (lamN X A outer s H E scope f c') body (t E)) :
    PE X (.Call (.Name "_law_tried" p) [.Lambda params body scope lpos] [] pos) (LamX.tLam T (TTr X.K T wTry) t) :=
  pe_lamL (Ng := ["_law_ask", "_law_say_now", "_law_word_here", "_law_e"]) cL sc__law_tried rfl (Or.inl rfl) TL (fun g cdv => gives_tried Er cf cw hk) hg hcode hq hr L hdef hbind hbody
/-! ### is_share -/
abbrev s_is_share : Stmt := top 31
abbrev n_is_share : List Str := ["one"]
theorem sc_is_share : FnScope ["one"] ["one"] (defScope s_is_share) := ⟨rfl, rfl, rfl, by decide +kernel, rfl, by decide +kernel, by decide +kernel⟩
noncomputable def m_is_share : MS := (kRet (xAnd (xChain zLe zLe (xC (.int 0)) (xOp zIx (xV 0) (xC (.int 0))) (xC (.int 999))) (xOp zLe (xOp zIx (xV 0) (xC (.int 1))) (xC (.int 20)))))
noncomputable def d_is_share : List PyData → Rz PyData := fnD 1 1 m_is_share
theorem ok_is_share {P : Program} {w : World} {K : PySem.W.Frag} {T : Tb} {mg : Str → Option Value} {base : Heap} {f : Addr} {fd : FuncData} {dvs : List V} {kws : List (Str × V)} (F : FnQ K "is_share" s_is_share dvs kws f fd) (Z : Blt mg) (g_MOST_UPPER : Cst mg K "MOST_UPPER" (.int 999)) (g_MOST_LOWER : Cst mg K "MOST_LOWER" (.int 20)) :
    FnOk P w K mg base (L2N.CX P w) 41 f fd ["one"] (spZ K T false d_is_share) := by
  refine fnZ F sc_is_share rfl rfl (fun cdv A outer s H E hr => ?_)
  have nd := sc_is_share.nd
  obtain ⟨v_MOST_UPPER, u_MOST_UPPER, g_MOST_UPPER⟩ := g_MOST_UPPER
  obtain ⟨v_MOST_LOWER, u_MOST_LOWER, g_MOST_LOWER⟩ := g_MOST_LOWER
  refine ⟨_, (pss_one (ps_ret (pe_and (pe_chain op_le op_le pe_int (pe_ix (ix_seqK K) (pv 0) pe_int (fun _ _ => rfl)) (pe_glob (by rfl) g_MOST_UPPER.m g_MOST_UPPER.r)) (pe_one (pe_cmpR op_le (pe_ix (ix_seqK K) (pv 0) pe_int (fun _ _ => rfl)) (pe_glob (by rfl) g_MOST_LOWER.m g_MOST_LOWER.r) (nomark _)))))), ?_⟩
  exact (sim_ret (sim_and (sim_chain r_le r_le sim_int (sim_op r_ix sim_V sim_int) (sim_cst g_MOST_UPPER)) (sim_op r_le (sim_op r_ix sim_V sim_int) (sim_cst g_MOST_LOWER))))
/-! ### need_hand -/
abbrev s_need_hand : Stmt := top 32
abbrev n_need_hand : List Str := ["hand"]
theorem sc_need_hand : FnScope ["hand"] ["hand"] (defScope s_need_hand) := ⟨rfl, rfl, rfl, by decide +kernel, rfl, by decide +kernel, by decide +kernel⟩
noncomputable def m_need_hand : MS := (kIf (yV (xOp zNotIn (xV 0) (xC (.tuple [.str "we", .str "weather"])))) (kRaise "BadHand") kNx)
noncomputable def d_need_hand : List PyData → Rz PyData := fnD 1 1 m_need_hand
theorem ok_need_hand {P : Program} {w : World} {K : PySem.W.Frag} {T : Tb} {mg : Str → Option Value} {base : Heap} {f : Addr} {fd : FuncData} {dvs : List V} {kws : List (Str × V)} (F : FnQ K "need_hand" s_need_hand dvs kws f fd) (Z : Blt mg) (g_HANDS : Cst mg K "HANDS" (.tuple [.str "we", .str "weather"])) (Er : ErrT K mg erL) :
    FnOk P w K mg base (L2N.CX P w) 41 f fd ["hand"] (spZ K T false d_need_hand) := by
  refine fnZ F sc_need_hand rfl rfl (fun cdv A outer s H E hr => ?_)
  have nd := sc_need_hand.nd
  obtain ⟨v_HANDS, u_HANDS, g_HANDS⟩ := g_HANDS
  refine ⟨_, (pss_one (ps_if (pt_cmpR (op_notInK K) (pv 0) (pe_glob (by rfl) g_HANDS.m g_HANDS.r) (by with_unfolding_all rfl)) (pss_one (ps_raiseX rfl (L2N.takes_of rfl rfl rfl rfl) PySem.F.excBase_ValueError (exf_BadHand Er) (by rfl))) pss_nil)), ?_⟩
  exact (sim_kIf (sim_yT (sim_op r_notIn sim_V (sim_cst g_HANDS))) sim_raise sim_kNx)
/-! ### look -/
abbrev s_look : Stmt := top 33
abbrev n_look : List Str := ["menus", "hand", "rows", "row", "share"]
theorem sc_look : FnScope ["menus", "hand", "rows", "row", "share"] ["menus"] (defScope s_look) := ⟨rfl, rfl, rfl, by decide +kernel, rfl, by decide +kernel, by decide +kernel⟩
noncomputable def b1_look : MS := (kIf (yOr (yV (xOp zNe (xCB zLen (zCons (xV 3) zNil)) (xCB zLen (zCons (xV 0) zNil)))) (yNot (yV (xCB zAll (zCons (xL (fLc [4] (iS (xV 3)) (gN 4) yYes (xFc d_is_share (zCons (xV 4) zNil)))) zNil))))) (kRaise "BadShares") kNx)
theorem b1_look_a (ρ : List Slot) : b1_look ρ = (kIf (yOr (yV (xOp zNe (xCB zLen (zCons (xV 3) zNil)) (xCB zLen (zCons (xV 0) zNil)))) (yNot (yV (xCB zAll (zCons (xL (fLc [4] (iS (xV 3)) (gN 4) yYes (xFc d_is_share (zCons (xV 4) zNil)))) zNil))))) (kRaise "BadShares") kNx) ρ := nr rfl
noncomputable def b2_look : MS := (kSeq (kDrop (xF d_need_hand (zCons (xV 1) zNil)))
  (kSeq (kIf (yNot (yV (xChain zLe zLe (xC (.int 1)) (xCB zLen (zCons (xV 2) zNil)) (xC (.int 3))))) (kRaise "BadRows") kNx)
  (kFor (iS (xV 2)) (gN 3) [3] b1_look)))
theorem b2_look_a (ρ : List Slot) : b2_look ρ = (kSeq (kDrop (xF d_need_hand (zCons (xV 1) zNil)))
  (kSeq (kIf (yNot (yV (xChain zLe zLe (xC (.int 1)) (xCB zLen (zCons (xV 2) zNil)) (xC (.int 3))))) (kRaise "BadRows") kNx)
  (kFor (iS (xV 2)) (gN 3) [3] b1_look))) ρ := nr rfl
noncomputable def m_look : MS := (kSeq (kIf (yNot (yV (xChain zLe zLe (xC (.int 1)) (xCB zLen (zCons (xV 0) zNil)) (xC (.int 5))))) (kRaise "BadRows") kNx)
  (kFor (iS (xV 0)) (gT 2 (gsC (gN 1) (gsC (gN 2) gs0))) [1, 2, 3] b2_look))
noncomputable def d_look : List PyData → Rz PyData := fnD 1 5 m_look
theorem ok_look {P : Program} {w : World} {K : PySem.W.Frag} {T : Tb} {mg : Str → Option Value} {base : Heap} {f : Addr} {fd : FuncData} {dvs : List V} {kws : List (Str × V)} (F : FnQ K "look" s_look dvs kws f fd) (Z : Blt mg) (g_MOST_STORES : Cst mg K "MOST_STORES" (.int 5)) (g_MOST_ROWS : Cst mg K "MOST_ROWS" (.int 3)) (Er : ErrT K mg erL)
    (c_need_hand : CalX P w K mg base 41 "need_hand" ["hand"] [] (spZ K T false d_need_hand))
    (c_is_share : CalX P w K mg base 41 "is_share" ["one"] [] (spZ K T false d_is_share)) :
    FnOk P w K mg base (L2N.CX P w) 42 f fd ["menus"] (spZ K T false d_look) := by
  refine fnZ F sc_look rfl rfl (fun cdv A outer s H E hr => ?_)
  have nd := sc_look.nd
  obtain ⟨v_MOST_STORES, u_MOST_STORES, g_MOST_STORES⟩ := g_MOST_STORES
  obtain ⟨v_MOST_ROWS, u_MOST_ROWS, g_MOST_ROWS⟩ := g_MOST_ROWS
  refine ⟨_, (pss_cons (ps_if (pt_not (pt_chain op_le op_le pe_int (pe_callB (call_lenK K) (by rfl) Z.len PySem.boot_len (pa_cons (pv 0) pa_nil)) (pe_glob (by rfl) g_MOST_STORES.m g_MOST_STORES.r))) (pss_one (ps_raiseX rfl (L2N.takes_of rfl rfl rfl rfl) PySem.F.excBase_ValueError (exf_BadRows Er) (by rfl))) pss_nil)
      (pss_one (ps_for (passes_of rfl) rfl (pi_seqK K (pv 0)) (pg_tupK (n := 2) K rfl (pgs_cons (pg_name (i := 1) nd rfl (Or.inl rfl)) (pgs_cons (pg_name (i := 2) nd rfl (Or.inl rfl)) pgs_nil))) (pss_cons (ps_expr (pe_callX c_need_hand (L2N.takes_of rfl rfl rfl rfl) hr rfl (pa_cons (pv 1) pa_nil)))
      (pss_cons (ps_if (pt_not (pt_chain op_le op_le pe_int (pe_callB (call_lenK K) (by rfl) Z.len PySem.boot_len (pa_cons (pv 2) pa_nil)) (pe_glob (by rfl) g_MOST_ROWS.m g_MOST_ROWS.r))) (pss_one (ps_raiseX rfl (L2N.takes_of rfl rfl rfl rfl) PySem.F.excBase_ValueError (exf_BadRows Er) (by rfl))) pss_nil)
      (pss_one (ps_for (passes_of rfl) rfl (pi_seqK K (pv 2)) (pg_name (i := 3) nd rfl (Or.inl rfl)) (pss_one (ps_if (PW.pt (pw_or (pt_cmpR (op_neK K hr.units) (pe_callB (call_lenK K) (by rfl) Z.len PySem.boot_len (pa_cons (pv 3) pa_nil)) (pe_callB (call_lenK K) (by rfl) Z.len PySem.boot_len (pa_cons (pv 0) pa_nil)) (nomark _)) (pw_or1 (pt_not (pt_val (pe_callB (cr_allK K rfl) (by rfl) Z.all (by decide +kernel) (pa_cons (pe_lc (own := [("share", 4)]) rfl nd (pi_seqK K (pv 3)) (blkOk_by (own := [("share", 4)]) (N := ["menus", "hand", "rows", "row", "share"]) (sc := defScope s_look) (by decide +kernel)) (fun _ _ _ _ _ => (pg_name (i := 4) nd rfl (Or.inl rfl))) (fun _ _ _ _ _ => pts_nil) (fun _ _ _ _ _ => (pe_callC c_is_share.calmZ hr rfl (pa_cons (pv 4) pa_nil)))) pa_nil))))))) (pss_one (ps_raiseX rfl (L2N.takes_of rfl rfl rfl rfl) PySem.F.excBase_ValueError (exf_BadShares Er) (by rfl))) pss_nil))))))))), ?_⟩
  exact (sim_seq (sim_kIf (sim_yNot (sim_yT (sim_chain r_le r_le sim_int (sim_cb r_len (sim_cons sim_V sim_nil)) (sim_cst g_MOST_STORES)))) sim_raise sim_kNx)
    (sim_for (sim_iS sim_V) (simG_T (simG_C simG_N (simG_C simG_N simG_0))) (sim_seq (sim_drop (sim_call0 (sim_cons sim_V sim_nil)))
    (sim_seq (sim_kIf (sim_yNot (sim_yT (sim_chain r_le r_le sim_int (sim_cb r_len (sim_cons sim_V sim_nil)) (sim_cst g_MOST_ROWS)))) sim_raise sim_kNx)
    (sim_for (sim_iS sim_V) simG_N (sim_kIf (sim_yOr (sim_yT (sim_op r_ne (sim_cb r_len (sim_cons sim_V sim_nil)) (sim_cb r_len (sim_cons sim_V sim_nil)))) (sim_yNot (sim_yB (sim_cb r_all (sim_cons (sim_L (sim_lc (W' := fun _ _ _ _ => False) (sim_iS sim_V) simG_N sim_yYes (sim_callC0 (sim_cons sim_V sim_nil)) (by decide))) sim_nil))))) sim_raise sim_kNx))))))
/-! ### places_of -/
abbrev s_places_of : Stmt := top 34
abbrev n_places_of : List Str := ["menus", "hand", "at", "whose", "rows"]
theorem sc_places_of : FnScope ["menus", "hand", "at", "whose", "rows"] ["menus", "hand"] (defScope s_places_of) := ⟨rfl, rfl, rfl, by decide +kernel, rfl, by decide +kernel, by decide +kernel⟩
noncomputable def m_places_of : MS := (kRetF (fLc [2, 3, 4] (iA enO (zCons (xV 0) zNil)) (gT 2 (gsC (gN 2) (gsC (gT 2 (gsC (gN 3) (gsC (gN 4) gs0))) gs0))) (yV (xOp zEq (xV 3) (xV 1))) (xV 2)))
noncomputable def d_places_of : List PyData → Rz PyData := fnD 2 5 m_places_of
theorem ok_places_of {P : Program} {w : World} {K : PySem.W.Frag} {T : Tb} {mg : Str → Option Value} {base : Heap} {f : Addr} {fd : FuncData} {dvs : List V} {kws : List (Str × V)} (F : FnQ K "places_of" s_places_of dvs kws f fd) (Z : Blt mg) :
    FnOk P w K mg base (L2N.CX P w) 41 f fd ["menus", "hand"] (spZ K T true d_places_of) := by
  refine fnZ F sc_places_of rfl rfl (fun cdv A outer s H E hr => ?_)
  have nd := sc_places_of.nd
  refine ⟨_, (pss_one (ps_ret (pe_lc (own := [("at", 2), ("whose", 3), ("rows", 4)]) rfl nd (LwZ.pi_enumA K (by rfl) Z.enumerate (pa_cons (pv 0) pa_nil)) (blkOk_by (own := [("at", 2), ("whose", 3), ("rows", 4)]) (N := ["menus", "hand", "at", "whose", "rows"]) (sc := defScope s_places_of) (by decide +kernel)) (fun _ _ _ _ _ => (pg_tupK (n := 2) K rfl (pgs_cons (pg_name (i := 2) nd rfl (Or.inl rfl)) (pgs_cons (pg_tupK (n := 2) K rfl (pgs_cons (pg_name (i := 3) nd rfl (Or.inl rfl)) (pgs_cons (pg_name (i := 4) nd rfl (Or.inl rfl)) pgs_nil))) pgs_nil)))) (fun _ _ _ _ _ => (pts_one (pt_cmpR (op_eqK K hr.units) (pv 3) (pv 1) (nomark _)))) (fun _ _ _ _ _ => (pv 2))))), ?_⟩
  exact (sim_retF (sim_lc (W' := fun _ _ _ _ => False) (sim_en (sim_cons sim_V sim_nil)) (simG_T (simG_C simG_N (simG_C (simG_T (simG_C simG_N (simG_C simG_N simG_0))) simG_0))) (sim_yT (sim_op r_eq sim_V sim_V)) sim_V (by decide)))
/-! ### stores_of -/
abbrev s_stores_of : Stmt := top 35
abbrev n_stores_of : List Str := ["menus", "hand"]
theorem sc_stores_of : FnScope ["menus", "hand"] ["menus", "hand"] (defScope s_stores_of) := ⟨rfl, rfl, rfl, by decide +kernel, rfl, by decide +kernel, by decide +kernel⟩
noncomputable def m_stores_of : MS := (kSeq (kDrop (xF d_look (zCons (xV 0) zNil)))
  (kSeq (kDrop (xF d_need_hand (zCons (xV 1) zNil)))
  (kRetF (fF d_places_of (zCons (xV 0) (zCons (xV 1) zNil))))))
noncomputable def d_stores_of : List PyData → Rz PyData := fnD 2 2 m_stores_of
theorem ok_stores_of {P : Program} {w : World} {K : PySem.W.Frag} {T : Tb} {mg : Str → Option Value} {base : Heap} {f : Addr} {fd : FuncData} {dvs : List V} {kws : List (Str × V)} (F : FnQ K "stores_of" s_stores_of dvs kws f fd) (Z : Blt mg)
    (c_look : CalX P w K mg base 42 "look" ["menus"] [] (spZ K T false d_look))
    (c_need_hand : CalX P w K mg base 41 "need_hand" ["hand"] [] (spZ K T false d_need_hand))
    (c_places_of : CalX P w K mg base 41 "places_of" ["menus", "hand"] [] (spZ K T true d_places_of)) :
    FnOk P w K mg base (L2N.CX P w) 43 f fd ["menus", "hand"] (spZ K T true d_stores_of) := by
  refine fnZ F sc_stores_of rfl rfl (fun cdv A outer s H E hr => ?_)
  have nd := sc_stores_of.nd
  refine ⟨_, (pss_cons (ps_expr (pe_callX c_look (L2N.takes_of rfl rfl rfl rfl) hr rfl (pa_cons (pv 0) pa_nil)))
      (pss_cons (ps_expr (pe_callX c_need_hand (L2N.takes_of rfl rfl rfl rfl) hr rfl (pa_cons (pv 1) pa_nil)))
      (pss_one (ps_ret (pe_callX c_places_of (L2N.takes_of rfl rfl rfl rfl) hr rfl (pa_cons (pv 0) (pa_cons (pv 1) pa_nil))))))), ?_⟩
  exact (sim_seq (sim_drop (sim_call0 (sim_cons sim_V sim_nil)))
    (sim_seq (sim_drop (sim_call0 (sim_cons sim_V sim_nil)))
    (sim_retF (sim_callF0 (sim_cons sim_V (sim_cons sim_V sim_nil))))))
/-! ### all_plans -/
abbrev s_all_plans : Stmt := top 36
abbrev n_all_plans : List Str := ["menus", "stores", "found", "store", "plan", "at"]
theorem sc_all_plans : FnScope ["menus", "stores", "found", "store", "plan", "at"] ["menus", "stores"] (defScope s_all_plans) := ⟨rfl, rfl, rfl, by decide +kernel, rfl, by decide +kernel, by decide +kernel⟩
noncomputable def b1_all_plans : MS := (kFrz 2 (kOwn (fLc2 [4, 5] [5] 4 5 (iS (xV 2)) (iA rng1 (zCons (xCB zLen (zCons (xOp zIx (xOp zIx (xV 0) (xV 3)) (xC (.int 1))) zNil)) zNil)) (xOp zAddV (xV 4) (xTup (zCons (xV 5) zNil)))) 2))
theorem b1_all_plans_a (ρ : List Slot) : b1_all_plans ρ = (kFrz 2 (kOwn (fLc2 [4, 5] [5] 4 5 (iS (xV 2)) (iA rng1 (zCons (xCB zLen (zCons (xOp zIx (xOp zIx (xV 0) (xV 3)) (xC (.int 1))) zNil)) zNil)) (xOp zAddV (xV 4) (xTup (zCons (xV 5) zNil)))) 2)) ρ := nr rfl
noncomputable def m_all_plans : MS := (kSeq (kOwn (fLst (zCons (xTup zNil) zNil)) 2)
  (kSeq (kFor (iS (xV 1)) (gN 3) [3] b1_all_plans)
  (kRetO 2)))
noncomputable def d_all_plans : List PyData → Rz PyData := fnD 2 6 m_all_plans
theorem ok_all_plans {P : Program} {w : World} {K : PySem.W.Frag} {T : Tb} {mg : Str → Option Value} {base : Heap} {f : Addr} {fd : FuncData} {dvs : List V} {kws : List (Str × V)} (F : FnQ K "all_plans" s_all_plans dvs kws f fd) (Z : Blt mg) :
    FnOk P w K mg base (L2N.CX P w) 41 f fd ["menus", "stores"] (spZ K T true d_all_plans) := by
  refine fnZ F sc_all_plans rfl rfl (fun cdv A outer s H E hr => ?_)
  have nd := sc_all_plans.nd
  refine ⟨_, (pss_cons (ps_set (i := 2) nd rfl (Or.inl rfl) (pe_lst (pa_cons (pe_tup pa_nil) pa_nil)))
      (pss_cons (ps_for (passes_of rfl) rfl (pi_seqK K (pv 1)) (pg_name (i := 3) nd rfl (Or.inr rfl)) (pss_one (ps_setLc2 (i := 2) (own := [("plan", 4), ("at", 5)]) (vs1 := [5]) rfl nd rfl rfl (sw_true rfl rfl rfl (by decide +kernel)) (pi_seqK K (pv 2)) (blkOk_by (own := [("plan", 4), ("at", 5)]) (N := ["menus", "stores", "found", "store", "plan", "at"]) (sc := defScope s_all_plans) (by decide +kernel)) (by decide) (fun _ _ _ _ _ => (pg_name (i := 4) nd rfl (Or.inl rfl))) (fun _ _ _ _ _ => pts_nil) (fun _ _ _ _ _ => (pi_range1 (by rfl) Z.range (pa_cons (pe_callB (call_lenK K) (by rfl) Z.len PySem.boot_len (pa_cons (pe_ix (ix_seqK K) (pe_ix (ix_seqK K) (pv 0) (pv 3) (fun _ _ => rfl)) pe_int (fun _ _ => rfl)) pa_nil)) pa_nil))) (fun _ _ _ _ _ => (pg_name (i := 5) nd rfl (Or.inl rfl))) (fun _ _ _ _ _ => pts_nil) (fun _ _ _ _ _ => (pe_op (op_addK K) (pv 4) (pe_tup (pa_cons (pv 5) pa_nil)))))))
      (pss_one (ps_ret (pv 2))))), ?_⟩
  exact (sim_seq (sim_own (sim_lstF (sim_cons (sim_tup sim_nil) sim_nil)))
    (sim_seq (sim_for (sim_iS sim_V) simG_N (sim_frz (sim_own (sim_lc2 (W' := fun _ _ _ _ => False) (sim_iS sim_V) (sim_rng1 (sim_cons (sim_cb r_len (sim_cons (sim_op r_ix (sim_op r_ix sim_V sim_V) sim_int) sim_nil)) sim_nil)) (sim_op r_addV sim_V (sim_tup (sim_cons sim_V sim_nil))) (by decide) (by decide)))))
    sim_retO))
/-! ### plans -/
abbrev s_plans : Stmt := top 37
abbrev n_plans : List Str := ["menus", "hand"]
theorem sc_plans : FnScope ["menus", "hand"] ["menus", "hand"] (defScope s_plans) := ⟨rfl, rfl, rfl, by decide +kernel, rfl, by decide +kernel, by decide +kernel⟩
noncomputable def m_plans : MS := (kRetF (fF d_all_plans (zCons (xV 0) (zCons (xF d_stores_of (zCons (xV 0) (zCons (xV 1) zNil))) zNil))))
noncomputable def d_plans : List PyData → Rz PyData := fnD 2 2 m_plans
theorem ok_plans {P : Program} {w : World} {K : PySem.W.Frag} {T : Tb} {mg : Str → Option Value} {base : Heap} {f : Addr} {fd : FuncData} {dvs : List V} {kws : List (Str × V)} (F : FnQ K "plans" s_plans dvs kws f fd) (Z : Blt mg)
    (c_all_plans : CalX P w K mg base 41 "all_plans" ["menus", "stores"] [] (spZ K T true d_all_plans))
    (c_stores_of : CalX P w K mg base 43 "stores_of" ["menus", "hand"] [] (spZ K T true d_stores_of)) :
    FnOk P w K mg base (L2N.CX P w) 44 f fd ["menus", "hand"] (spZ K T true d_plans) := by
  refine fnZ F sc_plans rfl rfl (fun cdv A outer s H E hr => ?_)
  have nd := sc_plans.nd
  refine ⟨_, (pss_one (ps_ret (pe_callX c_all_plans (L2N.takes_of rfl rfl rfl rfl) hr rfl (pa_cons (pv 0) (pa_cons (pe_callX c_stores_of (L2N.takes_of rfl rfl rfl rfl) hr rfl (pa_cons (pv 0) (pa_cons (pv 1) pa_nil))) pa_nil))))), ?_⟩
  exact (sim_retF (sim_callF0 (sim_cons sim_V (sim_cons (sim_call0 (sim_cons sim_V (sim_cons sim_V sim_nil))) sim_nil))))
/-! ### _law_part -/
abbrev s__law_part : Stmt := top 40
abbrev n__law_part : List Str := ["_law_up", "_law_down", "_law_this", "_law_that", "_law_side"]
theorem sc__law_part : FnScope ["_law_up", "_law_down", "_law_this", "_law_that", "_law_side"] ["_law_up", "_law_down"] (defScope s__law_part) := ⟨rfl, rfl, rfl, by decide +kernel, rfl, by decide +kernel, by decide +kernel⟩
noncomputable def b1__law_part : MS := (kPar (zCons (xV 3) (zCons (xOp zMod (xV 2) (xV 3)) zNil)) 2 3)
theorem b1__law_part_a (ρ : List Slot) : b1__law_part ρ = (kPar (zCons (xV 3) (zCons (xOp zMod (xV 2) (xV 3)) zNil)) 2 3) ρ := nr rfl
noncomputable def m__law_part : MS := (kSeq (kPar (zCons (xCB zAbs (zCons (xV 0) zNil)) (zCons (xCB zAbs (zCons (xV 1) zNil)) zNil)) 2 3)
  (kSeq (kWhile (yV (xOp zGt (xV 3) (xC (.int 0)))) [] b1__law_part)
  (kSeq (kAsg (xIf (yV (xOp zGt (xV 1) (xC (.int 0)))) (xV 2) (xOp zSub (xC (.int 0)) (xV 2))) 4)
  (kRet (xTup (zCons (xOp zFdB (xV 0) (xV 4)) (zCons (xOp zFdB (xV 1) (xV 4)) zNil)))))))
noncomputable def d__law_part : List PyData → Rz PyData := fnD 2 5 m__law_part
theorem ok__law_part {P : Program} {w : World} {K : PySem.W.Frag} {T : Tb} {mg : Str → Option Value} {base : Heap} {f : Addr} {fd : FuncData} {dvs : List V} {kws : List (Str × V)} (F : FnQ K "_law_part" s__law_part dvs kws f fd) (Z : Blt mg) (Se : Seer P K) :
    FnOk P w K mg base (L2N.CX P w) 41 f fd ["_law_up", "_law_down"] (spZ K T false d__law_part) := by
  refine fnZ F sc__law_part rfl rfl (fun cdv A outer s H E hr => ?_)
  have nd := sc__law_part.nd
  refine ⟨_, (pss_cons (ps_par (i := 2) (j := 3) (by rfl) nd rfl rfl (by decide) rfl rfl (pa_cons (pe_callB call_abs (by rfl) Z.abs (by decide +kernel) (pa_cons (pv 0) pa_nil)) (pa_cons (pe_callB call_abs (by rfl) Z.abs (by decide +kernel) (pa_cons (pv 1) pa_nil)) pa_nil)) (by rfl))
      (pss_cons (ps_while (passes_of rfl) (pt_cmpR op_gt (pv 3) pe_int (nomark _)) (pss_one (ps_par (i := 2) (j := 3) (by rfl) nd rfl rfl (by decide) rfl rfl (pa_cons (pv 3) (pa_cons (pe_op op_modN (pv 2) (pv 3)) pa_nil)) (by rfl))))
      (pss_cons (ps_set (i := 4) nd rfl (Or.inl rfl) (pe_ifExp (pt_cmpR op_gt (pv 1) pe_int (nomark _)) (pv 2) (pe_op op_sub pe_int (pv 2))))
      (pss_one (ps_ret (pe_tup (pa_cons (pe_op (op_fdB Se hr (by decide) rfl rfl rfl rfl rfl) (pv 0) (pv 4)) (pa_cons (pe_op (op_fdB Se hr (by decide) rfl rfl rfl rfl rfl) (pv 1) (pv 4)) pa_nil)))))))), ?_⟩
  exact (sim_seq (sim_par (sim_cons (sim_cb r_abs (sim_cons sim_V sim_nil)) (sim_cons (sim_cb r_abs (sim_cons sim_V sim_nil)) sim_nil)))
    (sim_seq (sim_while (sim_yT (sim_op r_gt sim_V sim_int)) (sim_par (sim_cons sim_V (sim_cons (sim_op r_mod sim_V sim_V) sim_nil))))
    (sim_seq (sim_asg (sim_if (sim_yT (sim_op r_gt sim_V sim_int)) sim_V (sim_op r_sub sim_int sim_V)))
    (sim_ret (sim_tup (sim_cons (sim_op r_fdB sim_V sim_V) (sim_cons (sim_op r_fdB sim_V sim_V) sim_nil)))))))
/-! ### _law_share -/
abbrev s__law_share : Stmt := top 41
abbrev n__law_share : List Str := ["_law_number"]
theorem sc__law_share : FnScope ["_law_number"] ["_law_number"] (defScope s__law_share) := ⟨rfl, rfl, rfl, by decide +kernel, rfl, by decide +kernel, by decide +kernel⟩
noncomputable def m__law_share : MS := (kRet (xF d__law_part (zCons (xOp zIx (xL (fLst (zCons (xC (.int 0)) (zCons (xC (.int 0)) (zCons (xC (.int 1)) (zCons (xC (.int 1)) (zCons (xC (.int 1)) (zCons (xC (.int 2)) (zCons (xC (.int 3)) (zCons (xC (.int 5)) zNil)))))))))) (xOp zMod (xV 0) (xC (.int 8)))) (zCons (xOp zIx (xL (fLst (zCons (xC (.int 1)) (zCons (xC (.int 2)) (zCons (xC (.int 3)) (zCons (xC (.int 4)) (zCons (xC (.int 6)) zNil))))))) (xOp zMod (xOp zFd (xV 0) (xC (.int 8))) (xC (.int 5)))) zNil))))
noncomputable def d__law_share : List PyData → Rz PyData := fnD 1 1 m__law_share
theorem ok__law_share {P : Program} {w : World} {K : PySem.W.Frag} {T : Tb} {mg : Str → Option Value} {base : Heap} {f : Addr} {fd : FuncData} {dvs : List V} {kws : List (Str × V)} (F : FnQ K "_law_share" s__law_share dvs kws f fd) (Z : Blt mg)
    (c__law_part : CalX P w K mg base 41 "_law_part" ["_law_up", "_law_down"] [] (spZ K T false d__law_part)) :
    FnOk P w K mg base (L2N.CX P w) 42 f fd ["_law_number"] (spZ K T false d__law_share) := by
  refine fnZ F sc__law_share rfl rfl (fun cdv A outer s H E hr => ?_)
  have nd := sc__law_share.nd
  refine ⟨_, (pss_one (ps_ret (pe_callX c__law_part (L2N.takes_of rfl rfl rfl rfl) hr rfl (pa_cons (pe_ix (ix_seqK K) (pe_lst (pa_cons pe_int (pa_cons pe_int (pa_cons pe_int (pa_cons pe_int (pa_cons pe_int (pa_cons pe_int (pa_cons pe_int (pa_cons pe_int pa_nil))))))))) (pe_op op_modN (pv 0) pe_int) (fun _ _ => rfl)) (pa_cons (pe_ix (ix_seqK K) (pe_lst (pa_cons pe_int (pa_cons pe_int (pa_cons pe_int (pa_cons pe_int (pa_cons pe_int pa_nil)))))) (pe_op op_modN (pe_op op_fdX (pv 0) pe_int) pe_int) (fun _ _ => rfl)) pa_nil))))), ?_⟩
  exact (sim_ret (sim_call0 (sim_cons (sim_op r_ix (sim_L (sim_lstF (sim_cons sim_int (sim_cons sim_int (sim_cons sim_int (sim_cons sim_int (sim_cons sim_int (sim_cons sim_int (sim_cons sim_int (sim_cons sim_int sim_nil)))))))))) (sim_op r_mod sim_V sim_int)) (sim_cons (sim_op r_ix (sim_L (sim_lstF (sim_cons sim_int (sim_cons sim_int (sim_cons sim_int (sim_cons sim_int (sim_cons sim_int sim_nil))))))) (sim_op r_mod (sim_op r_fd sim_V sim_int) sim_int)) sim_nil))))
/-! ### _law_times -/
abbrev s__law_times : Stmt := top 42
abbrev n__law_times : List Str := ["_law_this", "_law_that"]
theorem sc__law_times : FnScope ["_law_this", "_law_that"] ["_law_this", "_law_that"] (defScope s__law_times) := ⟨rfl, rfl, rfl, by decide +kernel, rfl, by decide +kernel, by decide +kernel⟩
noncomputable def m__law_times : MS := (kRet (xF d__law_part (zCons (xOp zMulV (xOp zIx (xV 0) (xC (.int 0))) (xOp zIx (xV 1) (xC (.int 0)))) (zCons (xOp zMulV (xOp zIx (xV 0) (xC (.int 1))) (xOp zIx (xV 1) (xC (.int 1)))) zNil))))
noncomputable def d__law_times : List PyData → Rz PyData := fnD 2 2 m__law_times
theorem ok__law_times {P : Program} {w : World} {K : PySem.W.Frag} {T : Tb} {mg : Str → Option Value} {base : Heap} {f : Addr} {fd : FuncData} {dvs : List V} {kws : List (Str × V)} (F : FnQ K "_law_times" s__law_times dvs kws f fd) (Z : Blt mg)
    (c__law_part : CalX P w K mg base 41 "_law_part" ["_law_up", "_law_down"] [] (spZ K T false d__law_part)) :
    FnOk P w K mg base (L2N.CX P w) 42 f fd ["_law_this", "_law_that"] (spZ K T false d__law_times) := by
  refine fnZ F sc__law_times rfl rfl (fun cdv A outer s H E hr => ?_)
  have nd := sc__law_times.nd
  refine ⟨_, (pss_one (ps_ret (pe_callX c__law_part (L2N.takes_of rfl rfl rfl rfl) hr rfl (pa_cons (pe_op op_mulA (pe_ix (ix_seqK K) (pv 0) pe_int (fun _ _ => rfl)) (pe_ix (ix_seqK K) (pv 1) pe_int (fun _ _ => rfl))) (pa_cons (pe_op op_mulA (pe_ix (ix_seqK K) (pv 0) pe_int (fun _ _ => rfl)) (pe_ix (ix_seqK K) (pv 1) pe_int (fun _ _ => rfl))) pa_nil))))), ?_⟩
  exact (sim_ret (sim_call0 (sim_cons (sim_op r_mulV (sim_op r_ix sim_V sim_int) (sim_op r_ix sim_V sim_int)) (sim_cons (sim_op r_mulV (sim_op r_ix sim_V sim_int) (sim_op r_ix sim_V sim_int)) sim_nil))))
/-! ### _law_menus -/
abbrev s__law_menus : Stmt := top 43
abbrev n__law_menus : List Str := ["_law_d", "_law_upto", "_law_many", "_law_thin", "_law_found", "_law_k", "_law_own", "_law_lines", "_law_r", "_law_some", "_law_by", "_law_this", "_law_at", "_law_that"]
theorem sc__law_menus : FnScope ["_law_d", "_law_upto", "_law_many", "_law_thin", "_law_found", "_law_k", "_law_own", "_law_lines", "_law_r", "_law_some", "_law_by", "_law_this", "_law_at", "_law_that"] ["_law_d", "_law_upto"] (defScope s__law_menus) := ⟨rfl, rfl, rfl, by decide +kernel, rfl, by decide +kernel, by decide +kernel⟩
noncomputable def b1__law_menus : MS := (kSeq (kAsg (xL (fLc [11] (iS (xSl zSlV (xV 6) (oAt (xOp zAddV (xC (.int 2)) (xOp zMulV (xC (.int 5)) (xV 8)))) (oAt (xOp zAddV (xOp zAddV (xC (.int 2)) (xOp zMulV (xC (.int 5)) (xV 8))) (xV 2))))) (gN 11) yYes (xFc d__law_share (zCons (xV 11) zNil)))) 9)
  (kSeq (kAsg (xL (fLc [12] (iA rng1 (zCons (xV 2) zNil)) (gN 12) yYes (xOp zIx (xL (fLst (zCons (xTup (zCons (xC (.int 1)) (zCons (xC (.int 2)) zNil))) (zCons (xTup (zCons (xC (.int 1)) (zCons (xC (.int 3)) zNil))) (zCons (xTup (zCons (xC (.int 0)) (zCons (xC (.int 1)) zNil))) zNil))))) (xOp zMod (xOp zAddV (xOp zFd (xOp zIx (xV 6) (xC (.int 1))) (xC (.int 3))) (xV 12)) (xC (.int 3)))))) 10)
  (kSeq (kIf (yV (xOp zEq (xV 3) (xC (.int 1)))) (kAsg (xL (fLc [11, 13] (iA (zipO false) (zCons (xV 9) (zCons (xV 10) zNil))) (gT 2 (gsC (gN 11) (gsC (gN 13) gs0))) yYes (xFc d__law_times (zCons (xV 11) (zCons (xV 13) zNil))))) 9) kNx)
  (kApp 7 (xCB zTuple (zCons (xV 9) zNil))))))
theorem b1__law_menus_a (ρ : List Slot) : b1__law_menus ρ = (kSeq (kAsg (xL (fLc [11] (iS (xSl zSlV (xV 6) (oAt (xOp zAddV (xC (.int 2)) (xOp zMulV (xC (.int 5)) (xV 8)))) (oAt (xOp zAddV (xOp zAddV (xC (.int 2)) (xOp zMulV (xC (.int 5)) (xV 8))) (xV 2))))) (gN 11) yYes (xFc d__law_share (zCons (xV 11) zNil)))) 9)
  (kSeq (kAsg (xL (fLc [12] (iA rng1 (zCons (xV 2) zNil)) (gN 12) yYes (xOp zIx (xL (fLst (zCons (xTup (zCons (xC (.int 1)) (zCons (xC (.int 2)) zNil))) (zCons (xTup (zCons (xC (.int 1)) (zCons (xC (.int 3)) zNil))) (zCons (xTup (zCons (xC (.int 0)) (zCons (xC (.int 1)) zNil))) zNil))))) (xOp zMod (xOp zAddV (xOp zFd (xOp zIx (xV 6) (xC (.int 1))) (xC (.int 3))) (xV 12)) (xC (.int 3)))))) 10)
  (kSeq (kIf (yV (xOp zEq (xV 3) (xC (.int 1)))) (kAsg (xL (fLc [11, 13] (iA (zipO false) (zCons (xV 9) (zCons (xV 10) zNil))) (gT 2 (gsC (gN 11) (gsC (gN 13) gs0))) yYes (xFc d__law_times (zCons (xV 11) (zCons (xV 13) zNil))))) 9) kNx)
  (kApp 7 (xCB zTuple (zCons (xV 9) zNil)))))) ρ := nr rfl
noncomputable def b2__law_menus : MS := (kSeq (kAsg (xSl zSlV (xV 0) (oAt (xOp zAddV (xC (.int 1)) (xOp zMulV (xC (.int 20)) (xV 5)))) (oAt (xOp zAddV (xC (.int 21)) (xOp zMulV (xC (.int 20)) (xV 5))))) 6)
  (kSeq (kOwn (fLst zNil) 7)
  (kSeq (kFor (iA rng1 (zCons (xOp zAddV (xC (.int 1)) (xOp zMod (xOp zIx (xV 6) (xC (.int 1))) (xC (.int 3)))) zNil)) (gN 8) [8, 9, 10] b1__law_menus)
  (kFrz 7 (kApp 4 (xTup (zCons (xOp zIx (xL (fLst (zCons (xC (.str "we")) (zCons (xC (.str "weather")) zNil)))) (xOp zMod (xOp zIx (xV 6) (xC (.int 0))) (xC (.int 2)))) (zCons (xCB zTuple (zCons (xV 7) zNil)) zNil))))))))
theorem b2__law_menus_a (ρ : List Slot) : b2__law_menus ρ = (kSeq (kAsg (xSl zSlV (xV 0) (oAt (xOp zAddV (xC (.int 1)) (xOp zMulV (xC (.int 20)) (xV 5)))) (oAt (xOp zAddV (xC (.int 21)) (xOp zMulV (xC (.int 20)) (xV 5))))) 6)
  (kSeq (kOwn (fLst zNil) 7)
  (kSeq (kFor (iA rng1 (zCons (xOp zAddV (xC (.int 1)) (xOp zMod (xOp zIx (xV 6) (xC (.int 1))) (xC (.int 3)))) zNil)) (gN 8) [8, 9, 10] b1__law_menus)
  (kFrz 7 (kApp 4 (xTup (zCons (xOp zIx (xL (fLst (zCons (xC (.str "we")) (zCons (xC (.str "weather")) zNil)))) (xOp zMod (xOp zIx (xV 6) (xC (.int 0))) (xC (.int 2)))) (zCons (xCB zTuple (zCons (xV 7) zNil)) zNil)))))))) ρ := nr rfl
noncomputable def m__law_menus : MS := (kSeq (kAsg (xOp zAddV (xC (.int 1)) (xOp zMod (xOp zIx (xV 0) (xC (.int 0))) (xV 1))) 2)
  (kSeq (kAsg (xOp zMod (xOp zFd (xOp zIx (xV 0) (xC (.int 0))) (xV 1)) (xC (.int 2))) 3)
  (kSeq (kOwn (fLst zNil) 4)
  (kSeq (kFor (iA rng1 (zCons (xV 2) zNil)) (gN 5) [5, 6, 7, 8, 9, 10] b2__law_menus)
  (kFrz 4 (kRet (xCB zTuple (zCons (xV 4) zNil))))))))
noncomputable def d__law_menus : List PyData → Rz PyData := fnD 2 14 m__law_menus
theorem ok__law_menus {P : Program} {w : World} {K : PySem.W.Frag} {T : Tb} {mg : Str → Option Value} {base : Heap} {f : Addr} {fd : FuncData} {dvs : List V} {kws : List (Str × V)} (F : FnQ K "_law_menus" s__law_menus dvs kws f fd) (Z : Blt mg)
    (c__law_share : CalX P w K mg base 42 "_law_share" ["_law_number"] [] (spZ K T false d__law_share))
    (c__law_times : CalX P w K mg base 42 "_law_times" ["_law_this", "_law_that"] [] (spZ K T false d__law_times)) :
    FnOk P w K mg base (L2N.CX P w) 43 f fd ["_law_d", "_law_upto"] (spZ K T false d__law_menus) := by
  refine fnZ F sc__law_menus rfl rfl (fun cdv A outer s H E hr => ?_)
  have nd := sc__law_menus.nd
  refine ⟨_, (pss_cons (ps_set (i := 2) nd rfl (Or.inl rfl) (pe_op (op_addK K) pe_int (pe_op op_modN (pe_ix (ix_seqK K) (pv 0) pe_int (fun _ _ => rfl)) (pv 1))))
      (pss_cons (ps_set (i := 3) nd rfl (Or.inl rfl) (pe_op op_modN (pe_op op_fdX (pe_ix (ix_seqK K) (pv 0) pe_int (fun _ _ => rfl)) (pv 1)) pe_int))
      (pss_cons (ps_set (i := 4) nd rfl (Or.inl rfl) (pe_lst pa_nil))
      (pss_cons (ps_for (passes_of rfl) rfl (pi_range1 (by rfl) Z.range (pa_cons (pv 2) pa_nil)) (pg_name (i := 5) nd rfl (Or.inl rfl)) (pss_cons (ps_set (i := 6) nd rfl (Or.inr rfl) (pe_slice (sl_anyK K) (pv 0) (po_some (pe_op (op_addK K) pe_int (pe_op op_mulA pe_int (pv 5)))) (po_some (pe_op (op_addK K) pe_int (pe_op op_mulA pe_int (pv 5))))))
      (pss_cons (ps_set (i := 7) nd rfl (Or.inl rfl) (pe_lst pa_nil))
      (pss_cons (ps_for (passes_of rfl) rfl (pi_range1 (by rfl) Z.range (pa_cons (pe_op (op_addK K) pe_int (pe_op op_modN (pe_ix (ix_seqK K) (pv 6) pe_int (fun _ _ => rfl)) pe_int)) pa_nil)) (pg_name (i := 8) nd rfl (Or.inl rfl)) (pss_cons (ps_setLc (i := 9) (own := [("_law_this", 11)]) rfl nd rfl rfl (sw_true rfl rfl rfl (by decide +kernel)) (pi_seqK K (pe_slice (sl_anyK K) (pv 6) (po_some (pe_op (op_addK K) pe_int (pe_op op_mulA pe_int (pv 8)))) (po_some (pe_op (op_addK K) (pe_op (op_addK K) pe_int (pe_op op_mulA pe_int (pv 8))) (pv 2))))) (blkOk_by (own := [("_law_this", 11)]) (N := ["_law_d", "_law_upto", "_law_many", "_law_thin", "_law_found", "_law_k", "_law_own", "_law_lines", "_law_r", "_law_some", "_law_by", "_law_this", "_law_at", "_law_that"]) (sc := defScope s__law_menus) (by decide +kernel)) (fun _ _ _ _ _ => (pg_name (i := 11) nd rfl (Or.inl rfl))) (fun _ _ _ _ _ => pts_nil) (fun _ _ _ _ _ => (pe_callC c__law_share.calmZ hr rfl (pa_cons (pv 11) pa_nil))))
      (pss_cons (ps_setLc (i := 10) (own := [("_law_at", 12)]) rfl nd rfl rfl (sw_true rfl rfl rfl (by decide +kernel)) (pi_range1 (by rfl) Z.range (pa_cons (pv 2) pa_nil)) (blkOk_by (own := [("_law_at", 12)]) (N := ["_law_d", "_law_upto", "_law_many", "_law_thin", "_law_found", "_law_k", "_law_own", "_law_lines", "_law_r", "_law_some", "_law_by", "_law_this", "_law_at", "_law_that"]) (sc := defScope s__law_menus) (by decide +kernel)) (fun _ _ _ _ _ => (pg_name (i := 12) nd rfl (Or.inl rfl))) (fun _ _ _ _ _ => pts_nil) (fun _ _ _ _ _ => (pe_ix (ix_seqK K) (pe_lst (pa_cons (pe_tup (pa_cons pe_int (pa_cons pe_int pa_nil))) (pa_cons (pe_tup (pa_cons pe_int (pa_cons pe_int pa_nil))) (pa_cons (pe_tup (pa_cons pe_int (pa_cons pe_int pa_nil))) pa_nil)))) (pe_op op_modN (pe_op (op_addK K) (pe_op op_fdX (pe_ix (ix_seqK K) (pv 6) pe_int (fun _ _ => rfl)) pe_int) (pv 12)) pe_int) (fun _ _ => rfl))))
      (pss_cons (ps_if (pt_cmpR (op_eqK K hr.units) (pv 3) pe_int (nomark _)) (pss_one (ps_setLc (i := 9) (own := [("_law_this", 11), ("_law_that", 13)]) rfl nd rfl rfl (sw_true rfl rfl rfl (by decide +kernel)) (LwZ.pi_zipM K (by rfl) Z.zip (pa_cons (pv 9) (pa_cons (pv 10) pa_nil))) (blkOk_by (own := [("_law_this", 11), ("_law_that", 13)]) (N := ["_law_d", "_law_upto", "_law_many", "_law_thin", "_law_found", "_law_k", "_law_own", "_law_lines", "_law_r", "_law_some", "_law_by", "_law_this", "_law_at", "_law_that"]) (sc := defScope s__law_menus) (by decide +kernel)) (fun _ _ _ _ _ => (pg_tupK (n := 2) K rfl (pgs_cons (pg_name (i := 11) nd rfl (Or.inl rfl)) (pgs_cons (pg_name (i := 13) nd rfl (Or.inl rfl)) pgs_nil)))) (fun _ _ _ _ _ => pts_nil) (fun _ _ _ _ _ => (pe_callC c__law_times.calmZ hr rfl (pa_cons (pv 11) (pa_cons (pv 13) pa_nil)))))) pss_nil)
      (pss_one (ps_expr (pe_bmK K PySem.F.plainAttrs_list PySem.F.slot_list_append PySem.F.type_list_append mt_append (pv 7) (pa_cons (pe_callTy (call_tupleK K) (by rfl) Z.tuple (by decide +kernel) (pa_cons (pv 9) pa_nil)) pa_nil))))))))
      (pss_one (ps_expr (pe_bmK K PySem.F.plainAttrs_list PySem.F.slot_list_append PySem.F.type_list_append mt_append (pv 4) (pa_cons (pe_tup (pa_cons (pe_ix (ix_seqK K) (pe_lst (pa_cons pe_str (pa_cons pe_str pa_nil))) (pe_op op_modN (pe_ix (ix_seqK K) (pv 6) pe_int (fun _ _ => rfl)) pe_int) (fun _ _ => rfl)) (pa_cons (pe_callTy (call_tupleK K) (by rfl) Z.tuple (by decide +kernel) (pa_cons (pv 7) pa_nil)) pa_nil))) pa_nil))))))))
      (pss_one (ps_ret (pe_callTy (call_tupleK K) (by rfl) Z.tuple (by decide +kernel) (pa_cons (pv 4) pa_nil)))))))), ?_⟩
  exact (sim_seq (sim_asg (sim_op r_addV sim_int (sim_op r_mod (sim_op r_ix sim_V sim_int) sim_V)))
    (sim_seq (sim_asg (sim_op r_mod (sim_op r_fd (sim_op r_ix sim_V sim_int) sim_V) sim_int))
    (sim_seq (sim_own (sim_lstF sim_nil))
    (sim_seq (sim_for (sim_rng1 (sim_cons sim_V sim_nil)) simG_N (sim_seq (sim_asg (sim_sl r_slV sim_V (sim_oAt (sim_op r_addV sim_int (sim_op r_mulV sim_int sim_V))) (sim_oAt (sim_op r_addV sim_int (sim_op r_mulV sim_int sim_V)))))
    (sim_seq (sim_own (sim_lstF sim_nil))
    (sim_seq (sim_for (sim_rng1 (sim_cons (sim_op r_addV sim_int (sim_op r_mod (sim_op r_ix sim_V sim_int) sim_int)) sim_nil)) simG_N (sim_seq (sim_asg (sim_L (sim_lc (W' := fun _ _ _ _ => False) (sim_iS (sim_sl r_slV sim_V (sim_oAt (sim_op r_addV sim_int (sim_op r_mulV sim_int sim_V))) (sim_oAt (sim_op r_addV (sim_op r_addV sim_int (sim_op r_mulV sim_int sim_V)) sim_V)))) simG_N sim_yYes (sim_callC0 (sim_cons sim_V sim_nil)) (by decide))))
    (sim_seq (sim_asg (sim_L (sim_lc (W' := fun _ _ _ _ => False) (sim_rng1 (sim_cons sim_V sim_nil)) simG_N sim_yYes (sim_op r_ix (sim_L (sim_lstF (sim_cons (sim_tup (sim_cons sim_int (sim_cons sim_int sim_nil))) (sim_cons (sim_tup (sim_cons sim_int (sim_cons sim_int sim_nil))) (sim_cons (sim_tup (sim_cons sim_int (sim_cons sim_int sim_nil))) sim_nil))))) (sim_op r_mod (sim_op r_addV (sim_op r_fd (sim_op r_ix sim_V sim_int) sim_int) sim_V) sim_int)) (by decide))))
    (sim_seq (sim_kIf (sim_yT (sim_op r_eq sim_V sim_int)) (sim_asg (sim_L (sim_lc (W' := fun _ _ _ _ => False) (sim_zip (sim_cons sim_V (sim_cons sim_V sim_nil))) (simG_T (simG_C simG_N (simG_C simG_N simG_0))) sim_yYes (sim_callC0 (sim_cons sim_V (sim_cons sim_V sim_nil))) (by decide)))) sim_kNx)
    (sim_app (sim_cb r_tuple (sim_cons sim_V sim_nil)))))))
    (sim_frz (sim_app (sim_tup (sim_cons (sim_op r_ix (sim_L (sim_lstF (sim_cons sim_str (sim_cons sim_str sim_nil)))) (sim_op r_mod (sim_op r_ix sim_V sim_int) sim_int)) (sim_cons (sim_cb r_tuple (sim_cons sim_V sim_nil)) sim_nil)))))))))
    (sim_frz (sim_ret (sim_cb r_tuple (sim_cons sim_V sim_nil))))))))
/-! ### _law_stores -/
abbrev s__law_stores : Stmt := top 45
abbrev n__law_stores : List Str := ["_law_book", "_law_whose", "_law_k"]
theorem sc__law_stores : FnScope ["_law_book", "_law_whose", "_law_k"] ["_law_book", "_law_whose"] (defScope s__law_stores) := ⟨rfl, rfl, rfl, by decide +kernel, rfl, by decide +kernel, by decide +kernel⟩
noncomputable def m__law_stores : MS := (kRetF (fLc [2] (iA rng1 (zCons (xCB zLen (zCons (xV 0) zNil)) zNil)) (gN 2) (yV (xOp zEq (xOp zIx (xOp zIx (xV 0) (xV 2)) (xC (.int 0))) (xV 1))) (xV 2)))
noncomputable def d__law_stores : List PyData → Rz PyData := fnD 2 3 m__law_stores
theorem ok__law_stores {P : Program} {w : World} {K : PySem.W.Frag} {T : Tb} {mg : Str → Option Value} {base : Heap} {f : Addr} {fd : FuncData} {dvs : List V} {kws : List (Str × V)} (F : FnQ K "_law_stores" s__law_stores dvs kws f fd) (Z : Blt mg) :
    FnOk P w K mg base (L2N.CX P w) 41 f fd ["_law_book", "_law_whose"] (spZ K T true d__law_stores) := by
  refine fnZ F sc__law_stores rfl rfl (fun cdv A outer s H E hr => ?_)
  have nd := sc__law_stores.nd
  refine ⟨_, (pss_one (ps_ret (pe_lc (own := [("_law_k", 2)]) rfl nd (pi_range1 (by rfl) Z.range (pa_cons (pe_callB (call_lenK K) (by rfl) Z.len PySem.boot_len (pa_cons (pv 0) pa_nil)) pa_nil)) (blkOk_by (own := [("_law_k", 2)]) (N := ["_law_book", "_law_whose", "_law_k"]) (sc := defScope s__law_stores) (by decide +kernel)) (fun _ _ _ _ _ => (pg_name (i := 2) nd rfl (Or.inl rfl))) (fun _ _ _ _ _ => (pts_one (pt_cmpR (op_eqK K hr.units) (pe_ix (ix_seqK K) (pe_ix (ix_seqK K) (pv 0) (pv 2) (fun _ _ => rfl)) pe_int (fun _ _ => rfl)) (pv 1) (nomark _)))) (fun _ _ _ _ _ => (pv 2))))), ?_⟩
  exact (sim_retF (sim_lc (W' := fun _ _ _ _ => False) (sim_rng1 (sim_cons (sim_cb r_len (sim_cons sim_V sim_nil)) sim_nil)) simG_N (sim_yT (sim_op r_eq (sim_op r_ix (sim_op r_ix sim_V sim_V) sim_int) sim_V)) sim_V (by decide)))
/-! ### _law_plans -/
abbrev s__law_plans : Stmt := top 46
abbrev n__law_plans : List Str := ["_law_book", "_law_whose", "_law_found", "_law_store", "_law_later", "_law_plan", "_law_at"]
theorem sc__law_plans : FnScope ["_law_book", "_law_whose", "_law_found", "_law_store", "_law_later", "_law_plan", "_law_at"] ["_law_book", "_law_whose"] (defScope s__law_plans) := ⟨rfl, rfl, rfl, by decide +kernel, rfl, by decide +kernel, by decide +kernel⟩
noncomputable def b1__law_plans : MS := (kAsg (xOp zAddV (xV 4) (xL (fLc [6] (iA rng1 (zCons (xCB zLen (zCons (xOp zIx (xOp zIx (xV 0) (xV 3)) (xC (.int 1))) zNil)) zNil)) (gN 6) yYes (xOp zAddV (xV 5) (xTup (zCons (xV 6) zNil)))))) 4)
theorem b1__law_plans_a (ρ : List Slot) : b1__law_plans ρ = (kAsg (xOp zAddV (xV 4) (xL (fLc [6] (iA rng1 (zCons (xCB zLen (zCons (xOp zIx (xOp zIx (xV 0) (xV 3)) (xC (.int 1))) zNil)) zNil)) (gN 6) yYes (xOp zAddV (xV 5) (xTup (zCons (xV 6) zNil)))))) 4) ρ := nr rfl
noncomputable def b2__law_plans : MS := (kSeq (kAsg (xL (fLst zNil)) 4)
  (kSeq (kFor (iS (xV 2)) (gN 5) [5] b1__law_plans)
  (kAsg (xV 4) 2)))
theorem b2__law_plans_a (ρ : List Slot) : b2__law_plans ρ = (kSeq (kAsg (xL (fLst zNil)) 4)
  (kSeq (kFor (iS (xV 2)) (gN 5) [5] b1__law_plans)
  (kAsg (xV 4) 2))) ρ := nr rfl
noncomputable def m__law_plans : MS := (kSeq (kAsg (xL (fLst (zCons (xTup zNil) zNil))) 2)
  (kSeq (kFor (iS (xF d__law_stores (zCons (xV 0) (zCons (xV 1) zNil)))) (gN 3) [3, 4, 5] b2__law_plans)
  (kRet (xV 2))))
noncomputable def d__law_plans : List PyData → Rz PyData := fnD 2 7 m__law_plans
theorem ok__law_plans {P : Program} {w : World} {K : PySem.W.Frag} {T : Tb} {mg : Str → Option Value} {base : Heap} {f : Addr} {fd : FuncData} {dvs : List V} {kws : List (Str × V)} (F : FnQ K "_law_plans" s__law_plans dvs kws f fd) (Z : Blt mg)
    (c__law_stores : CalX P w K mg base 41 "_law_stores" ["_law_book", "_law_whose"] [] (spZ K T true d__law_stores)) :
    FnOk P w K mg base (L2N.CX P w) 42 f fd ["_law_book", "_law_whose"] (spZ K T false d__law_plans) := by
  refine fnZ F sc__law_plans rfl rfl (fun cdv A outer s H E hr => ?_)
  have nd := sc__law_plans.nd
  refine ⟨_, (pss_cons (ps_set (i := 2) nd rfl (Or.inl rfl) (pe_lst (pa_cons (pe_tup pa_nil) pa_nil)))
      (pss_cons (ps_for (passes_of rfl) rfl (pi_seqK K (pe_callX c__law_stores (L2N.takes_of rfl rfl rfl rfl) hr rfl (pa_cons (pv 0) (pa_cons (pv 1) pa_nil)))) (pg_name (i := 3) nd rfl (Or.inl rfl)) (pss_cons (ps_set (i := 4) nd rfl (Or.inl rfl) (pe_lst pa_nil))
      (pss_cons (ps_for (passes_of rfl) rfl (pi_seqK K (pv 2)) (pg_name (i := 5) nd rfl (Or.inr rfl)) (pss_one (ps_set (i := 4) nd rfl (Or.inl rfl) (pe_op (op_addK K) (pv 4) (pe_lc (own := [("_law_at", 6)]) rfl nd (pi_range1 (by rfl) Z.range (pa_cons (pe_callB (call_lenK K) (by rfl) Z.len PySem.boot_len (pa_cons (pe_ix (ix_seqK K) (pe_ix (ix_seqK K) (pv 0) (pv 3) (fun _ _ => rfl)) pe_int (fun _ _ => rfl)) pa_nil)) pa_nil)) (blkOk_by (own := [("_law_at", 6)]) (N := ["_law_book", "_law_whose", "_law_found", "_law_store", "_law_later", "_law_plan", "_law_at"]) (sc := defScope s__law_plans) (by decide +kernel)) (fun _ _ _ _ _ => (pg_name (i := 6) nd rfl (Or.inl rfl))) (fun _ _ _ _ _ => pts_nil) (fun _ _ _ _ _ => (pe_op (op_addK K) (pv 5) (pe_tup (pa_cons (pv 6) pa_nil)))))))))
      (pss_one (ps_set (i := 2) nd rfl (Or.inl rfl) (pv 4))))))
      (pss_one (ps_ret (pv 2))))), ?_⟩
  exact (sim_seq (sim_asg (sim_L (sim_lstF (sim_cons (sim_tup sim_nil) sim_nil))))
    (sim_seq (sim_for (sim_iS (sim_call0 (sim_cons sim_V (sim_cons sim_V sim_nil)))) simG_N (sim_seq (sim_asg (sim_L (sim_lstF sim_nil)))
    (sim_seq (sim_for (sim_iS sim_V) simG_N (sim_asg (sim_op r_addV sim_V (sim_L (sim_lc (W' := fun _ _ _ _ => False) (sim_rng1 (sim_cons (sim_cb r_len (sim_cons (sim_op r_ix (sim_op r_ix sim_V sim_V) sim_int) sim_nil)) sim_nil)) simG_N sim_yYes (sim_op r_addV sim_V (sim_tup (sim_cons sim_V sim_nil))) (by decide))))))
    (sim_asg sim_V))))
    (sim_ret sim_V)))
/-! ### law -/
abbrev s_law : Stmt := top 50
abbrev n_law : List Str := ["_law_script", "_law_numbers_here", "_law_book", "_law_whose", "_law_go_on", "_law_found", "_law_many", "_law_size", "_law_lines", "_law_odd", "_law_words"]
theorem sc_law : FnScope ["_law_script", "_law_numbers_here", "_law_book", "_law_whose", "_law_go_on", "_law_found", "_law_many", "_law_size", "_law_lines", "_law_odd", "_law_words"] ["_law_script"] (defScope s_law) := ⟨rfl, rfl, rfl, by decide +kernel, rfl, by decide +kernel, by decide +kernel⟩
noncomputable def b1_law : MS := (kNst (fFc d_stores_of (zCons (xV 2) (zCons (xV 3) zNil))) (fFc d_plans (zCons (xV 2) (zCons (xV 3) zNil))) 5 (yNot (yV (xF (dRel Rsame8) (zCons (xV 5) (zCons (xL (fLst (zCons (xFc d__law_stores (zCons (xV 2) (zCons (xV 3) zNil))) (zCons (xFc d__law_plans (zCons (xV 2) (zCons (xV 3) zNil))) zNil)))) zNil))))))
theorem b1_law_a (ρ : List Slot) : b1_law ρ = (kNst (fFc d_stores_of (zCons (xV 2) (zCons (xV 3) zNil))) (fFc d_plans (zCons (xV 2) (zCons (xV 3) zNil))) 5 (yNot (yV (xF (dRel Rsame8) (zCons (xV 5) (zCons (xL (fLst (zCons (xFc d__law_stores (zCons (xV 2) (zCons (xV 3) zNil))) (zCons (xFc d__law_plans (zCons (xV 2) (zCons (xV 3) zNil))) zNil)))) zNil)))))) ρ := nr rfl
noncomputable def b2_law : MS := (kFor (iA rng1 (zCons (xC (.int 2)) zNil)) (gN 4) [4, 5] b1_law)
theorem b2_law_a (ρ : List Slot) : b2_law ρ = (kFor (iA rng1 (zCons (xC (.int 2)) zNil)) (gN 4) [4, 5] b1_law) ρ := nr rfl
noncomputable def b3_law : MS := (kAsg (xOp zMulV (xV 7) (xCB zLen (zCons (xV 8) zNil))) 7)
theorem b3_law_a (ρ : List Slot) : b3_law ρ = (kAsg (xOp zMulV (xV 7) (xCB zLen (zCons (xV 8) zNil))) 7) ρ := nr rfl
noncomputable def m_law : MS := (kSeq (kAsg (xFc d__law_menus (zCons (xV 1) (zCons (xC (.int 5)) zNil))) 2)
  (kSeq (kFor (iS (xL (fLst (zCons (xC (.str "we")) (zCons (xC (.str "weather")) zNil))))) (gN 3) [3, 4, 5] b2_law)
  (kSeq (kAsg (xOp zMulV (xCB zLen (zCons (xFc d_plans (zCons (xV 2) (zCons (xC (.str "we")) zNil))) zNil)) (xCB zLen (zCons (xFc d_plans (zCons (xV 2) (zCons (xC (.str "weather")) zNil))) zNil))) 6)
  (kSeq (kAsg (xC (.int 1)) 7)
  (kSeq (kFor (iS (xV 2)) (gT 2 (gsC (gN 3) (gsC (gN 8) gs0))) [3, 8] b3_law)
  (kSeq (kAsg (xOp zIx (xL (fLst (zCons (xC (.str "")) (zCons (xC (.str "us")) (zCons (xC (.str "We")) (zCons (xC (.str "weather ")) zNil)))))) (xOp zMod (xOp zIx (xV 1) (xC (.int 103))) (xC (.int 4)))) 9)
  (kSeq (kOwn (fLst (zCons (xOp zIx (xTry wTry (xF d_plans (zCons (xV 2) (zCons (xV 9) zNil)))) (xC (.int 1))) zNil)) 10)
  (kSeq (kApp 10 (xOp zIx (xTry wTry (xF d_stores_of (zCons (xV 2) (zCons (xV 9) zNil)))) (xC (.int 1))))
  (kSeq (kApp 10 (xOp zIx (xTry wTry (xF d_plans (zCons (xTup zNil) (zCons (xV 9) zNil)))) (xC (.int 1))))
  (kSeq (kApp 10 (xOp zIx (xTry wTry (xF d_stores_of (zCons (xOp zMulT (xV 2) (xC (.int 6))) (zCons (xV 9) zNil)))) (xC (.int 1))))
  (kFrz 10 (kRet (xAnd (xOp zEq (xV 6) (xV 7)) (xOp zEq (xV 10) (xL (fLst (zCons (xC (.str "no BadHand")) (zCons (xC (.str "no BadHand")) (zCons (xC (.str "no BadRows")) (zCons (xC (.str "no BadRows")) zNil))))))))))))))))))))
/-! ### parts -/
theorem abs_i (i : Int) : (if i < 0 then -i else i) = (i.natAbs : Int) := by split <;> omega
/-! ### books of menus -/
abbrev Menu := Bool × List (List Rat)
def whoD (b : Bool) : PyData := .str (if b then "weather" else "we")
def encRow (r : List Rat) : PyData := .tuple (r.map encR)
def encMenu (m : Menu) : PyData := .tuple [whoD m.1, .tuple (m.2.map encRow)]
def encBook (ms : List Menu) : PyData := .tuple (ms.map encMenu)
def natD (n : Nat) : PyData := .int (n : Int)
def planD (p : List Int) : PyData := .tuple (p.map PyData.int)
def okS (q : Rat) : Prop := 0 ≤ q ∧ q.num ≤ 999 ∧ q.den ≤ 20
structure okRow (n : Nat) (r : List Rat) : Prop where
  len : r.length = n
  all : ∀ q ∈ r, okS q
structure okMenu (n : Nat) (m : Menu) : Prop where
  lo : 1 ≤ m.2.length
  hi : m.2.length ≤ 3
  all : ∀ r ∈ m.2, okRow n r
structure okBook (ms : List Menu) : Prop where
  lo : 1 ≤ ms.length
  hi : ms.length ≤ 5
  all : ∀ m ∈ ms, okMenu ms.length m
theorem okS.num_nn {q : Rat} (h : okS q) : 0 ≤ q.num := Rat.num_nonneg.mpr h.1
theorem okS.sz {q : Rat} (h : okS q) : Sz 10 q := ⟨by have := h.num_nn; have := h.2.1; omega, by have := h.2.2; omega⟩
theorem whoD_eq (a b : Bool) : zEq (whoD a) (whoD b) = some (.bool (a == b)) := by cases a <;> cases b <;> kernel_rfl
theorem whoD_ne (a b : Bool) : zNe (whoD a) (whoD b) = some (.bool (!(a == b))) := by cases a <;> cases b <;> kernel_rfl
theorem whoD_in (a : Bool) : zNotIn (whoD a) (.tuple [.str "we", .str "weather"]) = some (.bool false) := by cases a <;> kernel_rfl
theorem whoD_we : PyData.str "we" = whoD false := rfl
theorem whoD_weather : PyData.str "weather" = whoD true := rfl
/-- the places of a hand's stores, from k on -/
def placesFrom (h : Bool) : Nat → List Menu → List Nat
  | _, [] => []
  | k, m :: ms => if m.1 = h then k :: placesFrom h (k + 1) ms else placesFrom h (k + 1) ms
abbrev placesL (ms : List Menu) (h : Bool) : List Nat := placesFrom h 0 ms
theorem places_zip (h : Bool) : ∀ (ms : List Menu) (k : Nat), ((ms.zipIdx k).filter fun p => p.1.1 == h).map (fun p => natD p.2) = (placesFrom h k ms).map natD
  | [], k => rfl
  | m :: ms, k => by
    rw [List.zipIdx_cons, List.filter_cons]
    unfold placesFrom
    by_cases e : m.1 = h
    · rw [if_pos (show ((m, k).1.1 == h) = true from by simp [e]), if_pos e, List.map_cons, List.map_cons, places_zip h ms (k + 1)]
    · rw [if_neg (show ¬ ((m, k).1.1 == h) = true from by simp [e]), if_neg e, places_zip h ms (k + 1)]
theorem places_ge {h : Bool} : ∀ {ms : List Menu} {k j : Nat}, j ∈ placesFrom h k ms → k ≤ j ∧ j < k + ms.length
  | [], k, j, hj => by cases hj
  | m :: ms, k, j, hj => by
    unfold placesFrom at hj
    rw [List.length_cons]
    split at hj
    · rcases List.mem_cons.mp hj with z | z
      · omega
      · have := places_ge z; omega
    · have := places_ge hj; omega
theorem places_len {h : Bool} : ∀ {ms : List Menu} {k : Nat}, (placesFrom h k ms).length ≤ ms.length
  | [], k => Nat.le_refl _
  | m :: ms, k => by
    unfold placesFrom
    have := places_len (h := h) (ms := ms) (k := k + 1)
    split <;> simp only [List.length_cons] <;> omega
theorem atI_nat {α : Type} {xs : List α} {i : Nat} (h : i < xs.length) : atI xs (i : Int) = some xs[i] := by
  rw [atI_in (by omega) (by omega)]
  simp [h]
theorem atI_int {α : Type} {xs : List α} {i : Int} (h0 : 0 ≤ i) (h : i < xs.length) : ∃ hi : i.toNat < xs.length, atI xs i = some xs[i.toNat] := by
  refine ⟨by omega, ?_⟩
  rw [atI_in h0 h, List.getElem?_eq_getElem]
/-! ### plans -/
def rowsAt (ms : List Menu) (s : Nat) : Nat := match ms[s]? with
  | some m => m.2.length
  | none => 0
def goodPlan (ms : List Menu) (h : Bool) (p : List Int) : Bool := decide (p.length = (placesL ms h).length) && ((placesL ms h).zip p).all fun q => decide (0 ≤ q.2) && decide (q.2 < (rowsAt ms q.1 : Int))
/-- the choice of a plan of each hand -/
def joinL : List Menu → List Int → List Int → List Int
  | [], _, _ => []
  | m :: ms, o, i => if m.1 = true then i.headD 0 :: joinL ms o i.tail else o.headD 0 :: joinL ms o.tail i
def goodChoice : List Menu → List Int → Prop
  | [], [] => True
  | m :: ms, a :: c => 0 ≤ a ∧ a < (m.2.length : Int) ∧ goodChoice ms c
  | _, _ => False
def takenL : List Menu → List Int → List (List Rat)
  | m :: ms, a :: c => m.2.getD a.toNat [] :: takenL ms c
  | _, _ => []
theorem joinL_len : ∀ (ms : List Menu) (o i : List Int), (joinL ms o i).length = ms.length
  | [], _, _ => rfl
  | m :: ms, o, i => by unfold joinL; split <;> simp [joinL_len ms]
theorem goodChoice.len : ∀ {ms : List Menu} {c : List Int}, goodChoice ms c → c.length = ms.length
  | [], [], _ => rfl
  | m :: ms, a :: c, h => by rw [List.length_cons, List.length_cons, goodChoice.len h.2.2]
  | [], _ :: _, h => h.elim
  | _ :: _, [], h => h.elim
theorem goodChoice.get : ∀ {ms : List Menu} {c : List Int}, goodChoice ms c → ∀ {i : Nat} {m : Menu} {a : Int}, ms[i]? = some m → c[i]? = some a → 0 ≤ a ∧ a < (m.2.length : Int)
  | m :: ms, a :: c, h, 0, _, _, e1, e2 => by cases e1; cases e2; exact ⟨h.1, h.2.1⟩
  | m :: ms, a :: c, h, i + 1, _, _, e1, e2 => goodChoice.get h.2.2 (i := i) e1 e2
  | [], [], _, _, _, _, e1, _ => by simp at e1
  | [], _ :: _, h, _, _, _, _, _ => h.elim
  | _ :: _, [], h, _, _, _, _, _ => h.elim
/-- a good plan of each hand makes a good choice -/
theorem good_join : ∀ (ms : List Menu) (k : Nat) (o i : List Int) (all : List Menu), (∀ j, all[k + j]? = ms[j]?) → o.length = (placesFrom false k ms).length → i.length = (placesFrom true k ms).length →
    (∀ q ∈ (placesFrom false k ms).zip o, 0 ≤ q.2 ∧ q.2 < (rowsAt all q.1 : Int)) → (∀ q ∈ (placesFrom true k ms).zip i, 0 ≤ q.2 ∧ q.2 < (rowsAt all q.1 : Int)) → goodChoice ms (joinL ms o i)
  | [], k, o, i, all, _, _, _, _, _ => True.intro
  | m :: ms, k, o, i, all, ha, ho, hi, go, gi => by
    have hk : rowsAt all k = m.2.length := by unfold rowsAt; rw [show all[k]? = some m from by have := ha 0; simpa using this]
    have ha' : ∀ j, all[k + 1 + j]? = ms[j]? := fun j => by have := ha (j + 1); rw [show k + 1 + j = k + (j + 1) from by omega, this]; rfl
    unfold joinL
    unfold placesFrom at ho hi go gi
    by_cases e : m.1 = true
    · rw [if_pos e]
      rw [if_neg (by rw [e]; decide)] at ho go
      rw [if_pos e] at hi gi
      cases i with
      | nil => simp at hi
      | cons a i =>
        have h1 := gi (k, a) (by simp)
        rw [hk] at h1
        exact ⟨h1.1, h1.2, good_join ms (k + 1) o i all ha' ho (by simpa using hi) go (fun q hq => gi q (List.mem_cons_of_mem _ hq))⟩
    · rw [if_neg e]
      have e : m.1 = false := by simpa using e
      rw [if_pos e] at ho go
      rw [if_neg (by rw [e]; decide)] at hi gi
      cases o with
      | nil => simp at ho
      | cons a o =>
        have h1 := go (k, a) (by simp)
        rw [hk] at h1
        exact ⟨h1.1, h1.2, good_join ms (k + 1) o i all ha' (by simpa using ho) hi (fun q hq => go q (List.mem_cons_of_mem _ hq)) gi⟩
theorem goodPlan_iff {ms : List Menu} {h : Bool} {p : List Int} : goodPlan ms h p = true ↔ p.length = (placesL ms h).length ∧ ∀ q ∈ (placesL ms h).zip p, 0 ≤ q.2 ∧ q.2 < (rowsAt ms q.1 : Int) := by
  unfold goodPlan
  simp only [Bool.and_eq_true, decide_eq_true_eq, List.all_eq_true]
theorem good_joined {ms : List Menu} {o i : List Int} (ho : goodPlan ms false o = true) (hi : goodPlan ms true i = true) : goodChoice ms (joinL ms o i) := by
  obtain ⟨a1, a2⟩ := goodPlan_iff.mp ho
  obtain ⟨b1, b2⟩ := goodPlan_iff.mp hi
  exact good_join ms 0 o i ms (fun j => by rw [Nat.zero_add]) a1 b1 a2 b2
/-- what a dict of places holds -/
def lookP (ps : List (Nat × Int)) (j : Nat) : Option Int := ps.foldl (fun acc p => if p.1 = j then some p.2 else acc) none
theorem foldl_look (j : Nat) : ∀ (ps : List (Nat × Int)) (acc : Option Int), (∀ p ∈ ps, p.1 ≠ j) → ps.foldl (fun acc p => if p.1 = j then some p.2 else acc) acc = acc
  | [], acc, _ => rfl
  | p :: ps, acc, h => by
    rw [List.foldl_cons, if_neg (h p (List.mem_cons_self ..))]
    exact foldl_look j ps acc fun q hq => h q (List.mem_cons_of_mem _ hq)
theorem look_join : ∀ (ms : List Menu) (k : Nat) (o i : List Int), o.length = (placesFrom false k ms).length → i.length = (placesFrom true k ms).length → ∀ (j : Nat) (hj : j < ms.length) (acc : Option Int),
    ((placesFrom true k ms).zip i).foldl (fun acc p => if p.1 = k + j then some p.2 else acc) (((placesFrom false k ms).zip o).foldl (fun acc p => if p.1 = k + j then some p.2 else acc) acc) = (joinL ms o i)[j]?
  | [], k, o, i, _, _, j, hj, acc => by simp at hj
  | m :: ms, k, o, i, ho, hi, j, hj, acc => by
    have out : ∀ (h : Bool) (l : List Int) (acc : Option Int), ((placesFrom h (k + 1) ms).zip l).foldl (fun acc p => if p.1 = k then some p.2 else acc) acc = acc := fun h l acc =>
      foldl_look k _ acc fun p hp => by
        have := places_ge (List.of_mem_zip hp).1
        omega
    unfold placesFrom at ho hi ⊢
    unfold joinL
    by_cases e : m.1 = true
    · rw [if_pos e] at hi ⊢
      rw [if_neg (by rw [e]; decide)] at ho ⊢
      rw [if_pos e]
      cases i with
      | nil => simp at hi
      | cons a i =>
        rw [List.zip_cons_cons, List.foldl_cons]
        cases j with
        | zero =>
          rw [Nat.add_zero, out, if_pos rfl]
          rfl
        | succ j =>
          rw [if_neg (by show ¬ k = k + (j + 1); omega)]
          have ih := look_join ms (k + 1) o i ho (by simpa using hi) j (by simpa using hj) acc
          rw [show k + 1 + j = k + (j + 1) from by omega] at ih
          exact ih
    · rw [if_neg e] at hi ⊢
      rw [if_neg e]
      have e : m.1 = false := by simpa using e
      rw [if_pos e] at ho ⊢
      cases o with
      | nil => simp at ho
      | cons a o =>
        rw [List.zip_cons_cons, List.foldl_cons]
        cases j with
        | zero =>
          rw [Nat.add_zero, if_pos rfl, out, out]
          rfl
        | succ j =>
          rw [if_neg (by show ¬ k = k + (j + 1); omega)]
          have ih := look_join ms (k + 1) o i (by simpa using ho) hi j (by simpa using hj) acc
          rw [show k + 1 + j = k + (j + 1) from by omega] at ih
          exact ih
/-! ### look -/
theorem z_is_share (q : Rat) : d_is_share [encR q] = .ok (.bool (decide (0 ≤ q.num) && decide (q.num ≤ 999) && decide ((q.den : Int) ≤ 20))) := by
  by_cases h1 : 0 ≤ q.num
  · by_cases h2 : q.num ≤ 999
    · simp only [fnD_a, kSeq_a, kNx_a, kE_a, kAsg_a, kOwn_a, kDrop_a, kRet_a, kRetP_a, kRetF_a, kRetO_a, kRetN_a, kIf_a, kBk_a, kCt_a, kTg_a, kPar_a, kApp_a, kPut_a, kFrz_a, kFor_a, kRaise_a, kDict_a, kDput_a, kClr_a, kNst_a, fLc2_a, yVw_a, view_no, view_dat, view_own, view_scr, xC_a, xV_a, xOp_a, fOp_a, xUn_a, xNot_a, xAnd_a, xOr_a, xIf_a, xChain_a, zNil_a, zCons_a, xTup_a, fLst_a, xL_a, xCB_a, fCB_a, xF_a, xFc_a, fF_a, fFc_a, zApp_a, zKw_a, oNo_a, oAt_a, fSl_a, xSl_a, yV_a, yAnd_a, yOr_a, yNot_a, yYes_a, xIxO_a, xLenO_a, xDg_a, xDin_a, xDnotin_a, iS_a, iA_a, fLc_a, wipeS_nil, wipeS_cons, gN_a, gs0_a, gsC_a, gT_a, gU_a, ownL_a, ownD_a, asB_a, asI_a, asL_a, seqOf_l, seqOf_t, keyD_i, keyD_s, bind_ex, bind_bad, of_none, Rz.bind_ok, Rz.of_some, Rz.calm_ok, Option.bind_some, Option.bind_none, zAddV_i, zSub_i, zLt_i, zLe_i, zGt_i, zGe_i, zEq_i, zNe_i, zEq_r, zNe_r, zIx_r0, zIx_r1, zIx_t, zIx_l, zNeg_i, zLen_l, zLen_t, zAbs_i, zInt_b, zInt_i, zListV_l, zListV_t, zList_l, zList_t, zTuple_l, zTuple_t, zAll_l, zAny_l, zSlV_l, zSlV_t, zIsN_a, zNotN_a, slots, sel, Arg.get, List.filterMap_cons, List.filterMap_nil, List.length_cons, List.length_nil, List.map_cons, List.map_nil, List.cons_append, List.nil_append, List.append_nil, List.getElem?_cons_succ, List.getElem?_cons_zero, List.getElem?_nil, List.set_cons_zero, List.set_cons_succ, List.set_nil, List.replicate_succ, List.replicate_zero, if_true, Nat.sub_self, Nat.reduceAdd, Nat.reduceSub, Nat.reduceLeDiff, Nat.reduceEqDiff, Nat.reduceLT, Int.reduceLT, Int.reduceLE, Int.reduceNeg, Int.reduceEq, Nat.zero_add, and_self, if_false, Bool.not_true, Bool.not_false, Bool.false_eq_true, Nat.zero_le, decide_true, decide_false, reduceCtorEq, d_is_share, m_is_share, decide_eq_true h1, decide_eq_true h2, Bool.true_and]
    · simp only [fnD_a, kSeq_a, kNx_a, kE_a, kAsg_a, kOwn_a, kDrop_a, kRet_a, kRetP_a, kRetF_a, kRetO_a, kRetN_a, kIf_a, kBk_a, kCt_a, kTg_a, kPar_a, kApp_a, kPut_a, kFrz_a, kFor_a, kRaise_a, kDict_a, kDput_a, kClr_a, kNst_a, fLc2_a, yVw_a, view_no, view_dat, view_own, view_scr, xC_a, xV_a, xOp_a, fOp_a, xUn_a, xNot_a, xAnd_a, xOr_a, xIf_a, xChain_a, zNil_a, zCons_a, xTup_a, fLst_a, xL_a, xCB_a, fCB_a, xF_a, xFc_a, fF_a, fFc_a, zApp_a, zKw_a, oNo_a, oAt_a, fSl_a, xSl_a, yV_a, yAnd_a, yOr_a, yNot_a, yYes_a, xIxO_a, xLenO_a, xDg_a, xDin_a, xDnotin_a, iS_a, iA_a, fLc_a, wipeS_nil, wipeS_cons, gN_a, gs0_a, gsC_a, gT_a, gU_a, ownL_a, ownD_a, asB_a, asI_a, asL_a, seqOf_l, seqOf_t, keyD_i, keyD_s, bind_ex, bind_bad, of_none, Rz.bind_ok, Rz.of_some, Rz.calm_ok, Option.bind_some, Option.bind_none, zAddV_i, zSub_i, zLt_i, zLe_i, zGt_i, zGe_i, zEq_i, zNe_i, zEq_r, zNe_r, zIx_r0, zIx_r1, zIx_t, zIx_l, zNeg_i, zLen_l, zLen_t, zAbs_i, zInt_b, zInt_i, zListV_l, zListV_t, zList_l, zList_t, zTuple_l, zTuple_t, zAll_l, zAny_l, zSlV_l, zSlV_t, zIsN_a, zNotN_a, slots, sel, Arg.get, List.filterMap_cons, List.filterMap_nil, List.length_cons, List.length_nil, List.map_cons, List.map_nil, List.cons_append, List.nil_append, List.append_nil, List.getElem?_cons_succ, List.getElem?_cons_zero, List.getElem?_nil, List.set_cons_zero, List.set_cons_succ, List.set_nil, List.replicate_succ, List.replicate_zero, if_true, Nat.sub_self, Nat.reduceAdd, Nat.reduceSub, Nat.reduceLeDiff, Nat.reduceEqDiff, Nat.reduceLT, Int.reduceLT, Int.reduceLE, Int.reduceNeg, Int.reduceEq, Nat.zero_add, and_self, if_false, Bool.not_true, Bool.not_false, Bool.false_eq_true, Nat.zero_le, decide_true, decide_false, reduceCtorEq, d_is_share, m_is_share, decide_eq_true h1, decide_eq_false h2, Bool.false_and, Bool.and_false]
  · simp only [fnD_a, kSeq_a, kNx_a, kE_a, kAsg_a, kOwn_a, kDrop_a, kRet_a, kRetP_a, kRetF_a, kRetO_a, kRetN_a, kIf_a, kBk_a, kCt_a, kTg_a, kPar_a, kApp_a, kPut_a, kFrz_a, kFor_a, kRaise_a, kDict_a, kDput_a, kClr_a, kNst_a, fLc2_a, yVw_a, view_no, view_dat, view_own, view_scr, xC_a, xV_a, xOp_a, fOp_a, xUn_a, xNot_a, xAnd_a, xOr_a, xIf_a, xChain_a, zNil_a, zCons_a, xTup_a, fLst_a, xL_a, xCB_a, fCB_a, xF_a, xFc_a, fF_a, fFc_a, zApp_a, zKw_a, oNo_a, oAt_a, fSl_a, xSl_a, yV_a, yAnd_a, yOr_a, yNot_a, yYes_a, xIxO_a, xLenO_a, xDg_a, xDin_a, xDnotin_a, iS_a, iA_a, fLc_a, wipeS_nil, wipeS_cons, gN_a, gs0_a, gsC_a, gT_a, gU_a, ownL_a, ownD_a, asB_a, asI_a, asL_a, seqOf_l, seqOf_t, keyD_i, keyD_s, bind_ex, bind_bad, of_none, Rz.bind_ok, Rz.of_some, Rz.calm_ok, Option.bind_some, Option.bind_none, zAddV_i, zSub_i, zLt_i, zLe_i, zGt_i, zGe_i, zEq_i, zNe_i, zEq_r, zNe_r, zIx_r0, zIx_r1, zIx_t, zIx_l, zNeg_i, zLen_l, zLen_t, zAbs_i, zInt_b, zInt_i, zListV_l, zListV_t, zList_l, zList_t, zTuple_l, zTuple_t, zAll_l, zAny_l, zSlV_l, zSlV_t, zIsN_a, zNotN_a, slots, sel, Arg.get, List.filterMap_cons, List.filterMap_nil, List.length_cons, List.length_nil, List.map_cons, List.map_nil, List.cons_append, List.nil_append, List.append_nil, List.getElem?_cons_succ, List.getElem?_cons_zero, List.getElem?_nil, List.set_cons_zero, List.set_cons_succ, List.set_nil, List.replicate_succ, List.replicate_zero, if_true, Nat.sub_self, Nat.reduceAdd, Nat.reduceSub, Nat.reduceLeDiff, Nat.reduceEqDiff, Nat.reduceLT, Int.reduceLT, Int.reduceLE, Int.reduceNeg, Int.reduceEq, Nat.zero_add, and_self, if_false, Bool.not_true, Bool.not_false, Bool.false_eq_true, Nat.zero_le, decide_true, decide_false, reduceCtorEq, d_is_share, m_is_share, decide_eq_false h1, Bool.false_and]
theorem z_need_hand (b : Bool) : d_need_hand [whoD b] = .ok .none := by
  simp only [fnD_a, kSeq_a, kNx_a, kE_a, kAsg_a, kOwn_a, kDrop_a, kRet_a, kRetP_a, kRetF_a, kRetO_a, kRetN_a, kIf_a, kBk_a, kCt_a, kTg_a, kPar_a, kApp_a, kPut_a, kFrz_a, kFor_a, kRaise_a, kDict_a, kDput_a, kClr_a, kNst_a, fLc2_a, yVw_a, view_no, view_dat, view_own, view_scr, xC_a, xV_a, xOp_a, fOp_a, xUn_a, xNot_a, xAnd_a, xOr_a, xIf_a, xChain_a, zNil_a, zCons_a, xTup_a, fLst_a, xL_a, xCB_a, fCB_a, xF_a, xFc_a, fF_a, fFc_a, zApp_a, zKw_a, oNo_a, oAt_a, fSl_a, xSl_a, yV_a, yAnd_a, yOr_a, yNot_a, yYes_a, xIxO_a, xLenO_a, xDg_a, xDin_a, xDnotin_a, iS_a, iA_a, fLc_a, wipeS_nil, wipeS_cons, gN_a, gs0_a, gsC_a, gT_a, gU_a, ownL_a, ownD_a, asB_a, asI_a, asL_a, seqOf_l, seqOf_t, keyD_i, keyD_s, bind_ex, bind_bad, of_none, Rz.bind_ok, Rz.of_some, Rz.calm_ok, Option.bind_some, Option.bind_none, zAddV_i, zSub_i, zLt_i, zLe_i, zGt_i, zGe_i, zEq_i, zNe_i, zEq_r, zNe_r, zIx_r0, zIx_r1, zIx_t, zIx_l, zNeg_i, zLen_l, zLen_t, zAbs_i, zInt_b, zInt_i, zListV_l, zListV_t, zList_l, zList_t, zTuple_l, zTuple_t, zAll_l, zAny_l, zSlV_l, zSlV_t, zIsN_a, zNotN_a, slots, sel, Arg.get, List.filterMap_cons, List.filterMap_nil, List.length_cons, List.length_nil, List.map_cons, List.map_nil, List.cons_append, List.nil_append, List.append_nil, List.getElem?_cons_succ, List.getElem?_cons_zero, List.getElem?_nil, List.set_cons_zero, List.set_cons_succ, List.set_nil, List.replicate_succ, List.replicate_zero, if_true, Nat.sub_self, Nat.reduceAdd, Nat.reduceSub, Nat.reduceLeDiff, Nat.reduceEqDiff, Nat.reduceLT, Int.reduceLT, Int.reduceLE, Int.reduceNeg, Int.reduceEq, Nat.zero_add, and_self, if_false, Bool.not_true, Bool.not_false, Bool.false_eq_true, Nat.zero_le, decide_true, decide_false, reduceCtorEq, d_need_hand, m_need_hand, whoD_in]
theorem z_look {ms : List Menu} (h : okBook ms) : d_look [encBook ms] = .ok .none := by
  have h1 : decide ((1 : Int) ≤ ((ms.map encMenu).length : Nat)) = true := decide_eq_true (by have := h.lo; rw [List.length_map]; omega)
  have h2 : decide ((((ms.map encMenu).length : Nat) : Int) ≤ 5) = true := decide_eq_true (by have := h.hi; rw [List.length_map]; omega)
  have loop : forL (gT 2 (gsC (gN 1) (gsC (gN 2) gs0))) [1, 2, 3] b2_look (ms.map encMenu) [.dat (.tuple (ms.map encMenu)), .no, .no, .no, .no] = .nx [.dat (.tuple (ms.map encMenu)), .no, .no, .no, .no] := by
    refine forL_id (F := fun m ρ => (ρ.set 1 (.dat (whoD m.1))).set 2 (.dat (.tuple (m.2.map encRow)))) (fun m _ => rfl) fun m hm => ?_
    have om := h.all m hm
    have h3 : decide ((1 : Int) ≤ ((m.2.map encRow).length : Nat)) = true := decide_eq_true (by have := om.lo; rw [List.length_map]; omega)
    have h4 : decide ((((m.2.map encRow).length : Nat) : Int) ≤ 3) = true := decide_eq_true (by have := om.hi; rw [List.length_map]; omega)
    have inner : forL (gN 3) [3] b1_look (m.2.map encRow) [.dat (.tuple (ms.map encMenu)), .dat (whoD m.1), .dat (.tuple (m.2.map encRow)), .no, .no] = .nx [.dat (.tuple (ms.map encMenu)), .dat (whoD m.1), .dat (.tuple (m.2.map encRow)), .no, .no] := by
      refine forL_id (F := fun r ρ => ρ.set 3 (.dat (.tuple (r.map encR)))) (fun r _ => rfl) fun r hr => ?_
      have or := om.all r hr
      have hl : decide ((((r.map encR).length : Nat) : Int) = ((ms.map encMenu).length : Nat)) = true := decide_eq_true (by rw [List.length_map, List.length_map, or.len])
      have hlc : (r.map encR).length ≤ 1000000 := by rw [List.length_map, or.len]; have := h.hi; omega
      have lc : lcL (gN 4) yYes (xFc d_is_share (zCons (xV 4) zNil)) [.dat (.tuple (ms.map encMenu)), .dat (whoD m.1), .dat (.tuple (m.2.map encRow)), .dat (.tuple (r.map encR)), .no] (r.map encR) = .ok (r.map fun q => .bool (decide (0 ≤ q.num) && decide (q.num ≤ 999) && decide ((q.den : Int) ≤ 20))) :=
        lcL_map (F := fun q ρ => ρ.set 4 (.dat (encR q))) (fun q _ => rfl) (fun q _ => rfl) (fun q _ => by simp only [fnD_a, kSeq_a, kNx_a, kE_a, kAsg_a, kOwn_a, kDrop_a, kRet_a, kRetP_a, kRetF_a, kRetO_a, kRetN_a, kIf_a, kBk_a, kCt_a, kTg_a, kPar_a, kApp_a, kPut_a, kFrz_a, kFor_a, kRaise_a, kDict_a, kDput_a, kClr_a, kNst_a, fLc2_a, yVw_a, view_no, view_dat, view_own, view_scr, xC_a, xV_a, xOp_a, fOp_a, xUn_a, xNot_a, xAnd_a, xOr_a, xIf_a, xChain_a, zNil_a, zCons_a, xTup_a, fLst_a, xL_a, xCB_a, fCB_a, xF_a, xFc_a, fF_a, fFc_a, zApp_a, zKw_a, oNo_a, oAt_a, fSl_a, xSl_a, yV_a, yAnd_a, yOr_a, yNot_a, yYes_a, xIxO_a, xLenO_a, xDg_a, xDin_a, xDnotin_a, iS_a, iA_a, fLc_a, wipeS_nil, wipeS_cons, gN_a, gs0_a, gsC_a, gT_a, gU_a, ownL_a, ownD_a, asB_a, asI_a, asL_a, seqOf_l, seqOf_t, keyD_i, keyD_s, bind_ex, bind_bad, of_none, Rz.bind_ok, Rz.of_some, Rz.calm_ok, Option.bind_some, Option.bind_none, zAddV_i, zSub_i, zLt_i, zLe_i, zGt_i, zGe_i, zEq_i, zNe_i, zEq_r, zNe_r, zIx_r0, zIx_r1, zIx_t, zIx_l, zNeg_i, zLen_l, zLen_t, zAbs_i, zInt_b, zInt_i, zListV_l, zListV_t, zList_l, zList_t, zTuple_l, zTuple_t, zAll_l, zAny_l, zSlV_l, zSlV_t, zIsN_a, zNotN_a, slots, sel, Arg.get, List.filterMap_cons, List.filterMap_nil, List.length_cons, List.length_nil, List.map_cons, List.map_nil, List.cons_append, List.nil_append, List.append_nil, List.getElem?_cons_succ, List.getElem?_cons_zero, List.getElem?_nil, List.set_cons_zero, List.set_cons_succ, List.set_nil, List.replicate_succ, List.replicate_zero, if_true, Nat.sub_self, Nat.reduceAdd, Nat.reduceSub, Nat.reduceLeDiff, Nat.reduceEqDiff, Nat.reduceLT, Int.reduceLT, Int.reduceLE, Int.reduceNeg, Int.reduceEq, Nat.zero_add, and_self, if_false, Bool.not_true, Bool.not_false, Bool.false_eq_true, Nat.zero_le, decide_true, decide_false, reduceCtorEq, z_is_share])
      have al : (r.all fun q => decide (0 ≤ q.num) && decide (q.num ≤ 999) && decide ((q.den : Int) ≤ 20)) = true := by
        rw [List.all_eq_true]
        intro q hq
        have := or.all q hq
        rw [decide_eq_true this.num_nn, decide_eq_true this.2.1, decide_eq_true (by have := this.2.2; omega)]
        rfl
      refine ⟨_, by simp only [fnD_a, kSeq_a, kNx_a, kE_a, kAsg_a, kOwn_a, kDrop_a, kRet_a, kRetP_a, kRetF_a, kRetO_a, kRetN_a, kIf_a, kBk_a, kCt_a, kTg_a, kPar_a, kApp_a, kPut_a, kFrz_a, kFor_a, kRaise_a, kDict_a, kDput_a, kClr_a, kNst_a, fLc2_a, yVw_a, view_no, view_dat, view_own, view_scr, xC_a, xV_a, xOp_a, fOp_a, xUn_a, xNot_a, xAnd_a, xOr_a, xIf_a, xChain_a, zNil_a, zCons_a, xTup_a, fLst_a, xL_a, xCB_a, fCB_a, xF_a, xFc_a, fF_a, fFc_a, zApp_a, zKw_a, oNo_a, oAt_a, fSl_a, xSl_a, yV_a, yAnd_a, yOr_a, yNot_a, yYes_a, xIxO_a, xLenO_a, xDg_a, xDin_a, xDnotin_a, iS_a, iA_a, fLc_a, wipeS_nil, wipeS_cons, gN_a, gs0_a, gsC_a, gT_a, gU_a, ownL_a, ownD_a, asB_a, asI_a, asL_a, seqOf_l, seqOf_t, keyD_i, keyD_s, bind_ex, bind_bad, of_none, Rz.bind_ok, Rz.of_some, Rz.calm_ok, Option.bind_some, Option.bind_none, zAddV_i, zSub_i, zLt_i, zLe_i, zGt_i, zGe_i, zEq_i, zNe_i, zEq_r, zNe_r, zIx_r0, zIx_r1, zIx_t, zIx_l, zNeg_i, zLen_l, zLen_t, zAbs_i, zInt_b, zInt_i, zListV_l, zListV_t, zList_l, zList_t, zTuple_l, zTuple_t, zAll_l, zAny_l, zSlV_l, zSlV_t, zIsN_a, zNotN_a, slots, sel, Arg.get, List.filterMap_cons, List.filterMap_nil, List.length_cons, List.length_nil, List.map_cons, List.map_nil, List.cons_append, List.nil_append, List.append_nil, List.getElem?_cons_succ, List.getElem?_cons_zero, List.getElem?_nil, List.set_cons_zero, List.set_cons_succ, List.set_nil, List.replicate_succ, List.replicate_zero, if_true, Nat.sub_self, Nat.reduceAdd, Nat.reduceSub, Nat.reduceLeDiff, Nat.reduceEqDiff, Nat.reduceLT, Int.reduceLT, Int.reduceLE, Int.reduceNeg, Int.reduceEq, Nat.zero_add, and_self, if_false, Bool.not_true, Bool.not_false, Bool.false_eq_true, Nat.zero_le, decide_true, decide_false, reduceCtorEq, b1_look_a, hl, if_pos hlc, lc, zAll_m, al]; rfl, rfl⟩
    refine ⟨_, by simp only [fnD_a, kSeq_a, kNx_a, kE_a, kAsg_a, kOwn_a, kDrop_a, kRet_a, kRetP_a, kRetF_a, kRetO_a, kRetN_a, kIf_a, kBk_a, kCt_a, kTg_a, kPar_a, kApp_a, kPut_a, kFrz_a, kFor_a, kRaise_a, kDict_a, kDput_a, kClr_a, kNst_a, fLc2_a, yVw_a, view_no, view_dat, view_own, view_scr, xC_a, xV_a, xOp_a, fOp_a, xUn_a, xNot_a, xAnd_a, xOr_a, xIf_a, xChain_a, zNil_a, zCons_a, xTup_a, fLst_a, xL_a, xCB_a, fCB_a, xF_a, xFc_a, fF_a, fFc_a, zApp_a, zKw_a, oNo_a, oAt_a, fSl_a, xSl_a, yV_a, yAnd_a, yOr_a, yNot_a, yYes_a, xIxO_a, xLenO_a, xDg_a, xDin_a, xDnotin_a, iS_a, iA_a, fLc_a, wipeS_nil, wipeS_cons, gN_a, gs0_a, gsC_a, gT_a, gU_a, ownL_a, ownD_a, asB_a, asI_a, asL_a, seqOf_l, seqOf_t, keyD_i, keyD_s, bind_ex, bind_bad, of_none, Rz.bind_ok, Rz.of_some, Rz.calm_ok, Option.bind_some, Option.bind_none, zAddV_i, zSub_i, zLt_i, zLe_i, zGt_i, zGe_i, zEq_i, zNe_i, zEq_r, zNe_r, zIx_r0, zIx_r1, zIx_t, zIx_l, zNeg_i, zLen_l, zLen_t, zAbs_i, zInt_b, zInt_i, zListV_l, zListV_t, zList_l, zList_t, zTuple_l, zTuple_t, zAll_l, zAny_l, zSlV_l, zSlV_t, zIsN_a, zNotN_a, slots, sel, Arg.get, List.filterMap_cons, List.filterMap_nil, List.length_cons, List.length_nil, List.map_cons, List.map_nil, List.cons_append, List.nil_append, List.append_nil, List.getElem?_cons_succ, List.getElem?_cons_zero, List.getElem?_nil, List.set_cons_zero, List.set_cons_succ, List.set_nil, List.replicate_succ, List.replicate_zero, if_true, Nat.sub_self, Nat.reduceAdd, Nat.reduceSub, Nat.reduceLeDiff, Nat.reduceEqDiff, Nat.reduceLT, Int.reduceLT, Int.reduceLE, Int.reduceNeg, Int.reduceEq, Nat.zero_add, and_self, if_false, Bool.not_true, Bool.not_false, Bool.false_eq_true, Nat.zero_le, decide_true, decide_false, reduceCtorEq, b2_look_a, z_need_hand, h3, h4, inner]; rfl, rfl⟩
  simp only [fnD_a, kSeq_a, kNx_a, kE_a, kAsg_a, kOwn_a, kDrop_a, kRet_a, kRetP_a, kRetF_a, kRetO_a, kRetN_a, kIf_a, kBk_a, kCt_a, kTg_a, kPar_a, kApp_a, kPut_a, kFrz_a, kFor_a, kRaise_a, kDict_a, kDput_a, kClr_a, kNst_a, fLc2_a, yVw_a, view_no, view_dat, view_own, view_scr, xC_a, xV_a, xOp_a, fOp_a, xUn_a, xNot_a, xAnd_a, xOr_a, xIf_a, xChain_a, zNil_a, zCons_a, xTup_a, fLst_a, xL_a, xCB_a, fCB_a, xF_a, xFc_a, fF_a, fFc_a, zApp_a, zKw_a, oNo_a, oAt_a, fSl_a, xSl_a, yV_a, yAnd_a, yOr_a, yNot_a, yYes_a, xIxO_a, xLenO_a, xDg_a, xDin_a, xDnotin_a, iS_a, iA_a, fLc_a, wipeS_nil, wipeS_cons, gN_a, gs0_a, gsC_a, gT_a, gU_a, ownL_a, ownD_a, asB_a, asI_a, asL_a, seqOf_l, seqOf_t, keyD_i, keyD_s, bind_ex, bind_bad, of_none, Rz.bind_ok, Rz.of_some, Rz.calm_ok, Option.bind_some, Option.bind_none, zAddV_i, zSub_i, zLt_i, zLe_i, zGt_i, zGe_i, zEq_i, zNe_i, zEq_r, zNe_r, zIx_r0, zIx_r1, zIx_t, zIx_l, zNeg_i, zLen_l, zLen_t, zAbs_i, zInt_b, zInt_i, zListV_l, zListV_t, zList_l, zList_t, zTuple_l, zTuple_t, zAll_l, zAny_l, zSlV_l, zSlV_t, zIsN_a, zNotN_a, slots, sel, Arg.get, List.filterMap_cons, List.filterMap_nil, List.length_cons, List.length_nil, List.map_cons, List.map_nil, List.cons_append, List.nil_append, List.append_nil, List.getElem?_cons_succ, List.getElem?_cons_zero, List.getElem?_nil, List.set_cons_zero, List.set_cons_succ, List.set_nil, List.replicate_succ, List.replicate_zero, if_true, Nat.sub_self, Nat.reduceAdd, Nat.reduceSub, Nat.reduceLeDiff, Nat.reduceEqDiff, Nat.reduceLT, Int.reduceLT, Int.reduceLE, Int.reduceNeg, Int.reduceEq, Nat.zero_add, and_self, if_false, Bool.not_true, Bool.not_false, Bool.false_eq_true, Nat.zero_le, decide_true, decide_false, reduceCtorEq, d_look, m_look, encBook, h1, h2, loop]
/-! ### places, plans, tables -/
theorem placesL_len (ms : List Menu) (h : Bool) : (placesL ms h).length ≤ ms.length := places_len
theorem book_len (ms : List Menu) : (ms.map encMenu).length = ms.length := List.length_map ..
theorem len_le {α : Type} {f : α → PyData} {xs : List α} {n : Nat} (h : xs.length ≤ n) (hn : n ≤ 1000000) : (xs.map f).length ≤ 1000000 := by rw [List.length_map]; omega
theorem z_places_of {ms : List Menu} (hl : ms.length ≤ 1000) (h : Bool) : d_places_of [encBook ms, whoD h] = .ok (.list ((placesL ms h).map natD)) := by
  have lc : lcL (gT 2 (gsC (gN 2) (gsC (gT 2 (gsC (gN 3) (gsC (gN 4) gs0))) gs0))) (yV (xOp zEq (xV 3) (xV 1))) (xV 2) [.dat (encBook ms), .dat (whoD h), .no, .no, .no] ((ms.zipIdx 0).map fun p => .tuple [.int (p.2 : Nat), encMenu p.1]) = .ok (((ms.zipIdx 0).filter fun p => p.1.1 == h).map fun p => natD p.2) :=
    lcL_filter (F := fun p ρ => ((ρ.set 2 (.dat (.int (p.2 : Nat)))).set 3 (.dat (whoD p.1.1))).set 4 (.dat (.tuple (p.1.2.map encRow)))) (fun p _ => rfl) (fun p _ => by simp only [fnD_a, kSeq_a, kNx_a, kE_a, kAsg_a, kOwn_a, kDrop_a, kRet_a, kRetP_a, kRetF_a, kRetO_a, kRetN_a, kIf_a, kBk_a, kCt_a, kTg_a, kPar_a, kApp_a, kPut_a, kFrz_a, kFor_a, kRaise_a, kDict_a, kDput_a, kClr_a, kNst_a, fLc2_a, yVw_a, view_no, view_dat, view_own, view_scr, xC_a, xV_a, xOp_a, fOp_a, xUn_a, xNot_a, xAnd_a, xOr_a, xIf_a, xChain_a, zNil_a, zCons_a, xTup_a, fLst_a, xL_a, xCB_a, fCB_a, xF_a, xFc_a, fF_a, fFc_a, zApp_a, zKw_a, oNo_a, oAt_a, fSl_a, xSl_a, yV_a, yAnd_a, yOr_a, yNot_a, yYes_a, xIxO_a, xLenO_a, xDg_a, xDin_a, xDnotin_a, iS_a, iA_a, fLc_a, wipeS_nil, wipeS_cons, gN_a, gs0_a, gsC_a, gT_a, gU_a, ownL_a, ownD_a, asB_a, asI_a, asL_a, seqOf_l, seqOf_t, keyD_i, keyD_s, bind_ex, bind_bad, of_none, Rz.bind_ok, Rz.of_some, Rz.calm_ok, Option.bind_some, Option.bind_none, zAddV_i, zSub_i, zLt_i, zLe_i, zGt_i, zGe_i, zEq_i, zNe_i, zEq_r, zNe_r, zIx_r0, zIx_r1, zIx_t, zIx_l, zNeg_i, zLen_l, zLen_t, zAbs_i, zInt_b, zInt_i, zListV_l, zListV_t, zList_l, zList_t, zTuple_l, zTuple_t, zAll_l, zAny_l, zSlV_l, zSlV_t, zIsN_a, zNotN_a, slots, sel, Arg.get, List.filterMap_cons, List.filterMap_nil, List.length_cons, List.length_nil, List.map_cons, List.map_nil, List.cons_append, List.nil_append, List.append_nil, List.getElem?_cons_succ, List.getElem?_cons_zero, List.getElem?_nil, List.set_cons_zero, List.set_cons_succ, List.set_nil, List.replicate_succ, List.replicate_zero, if_true, Nat.sub_self, Nat.reduceAdd, Nat.reduceSub, Nat.reduceLeDiff, Nat.reduceEqDiff, Nat.reduceLT, Int.reduceLT, Int.reduceLE, Int.reduceNeg, Int.reduceEq, Nat.zero_add, and_self, if_false, Bool.not_true, Bool.not_false, Bool.false_eq_true, Nat.zero_le, decide_true, decide_false, reduceCtorEq, whoD_eq]) (fun p _ _ => rfl)
  have he : enO [encBook ms] = some ((ms.zipIdx 0).map fun p => .tuple [.int (p.2 : Nat), encMenu p.1]) := by rw [enO_a (ds := ms.map encMenu) rfl, enD_map]
  have hz : ((ms.zipIdx 0).map fun p : Menu × Nat => PyData.tuple [.int (p.2 : Nat), encMenu p.1]).length ≤ 1000000 := by rw [List.length_map, List.length_zipIdx]; omega
  simp only [fnD_a, kSeq_a, kNx_a, kE_a, kAsg_a, kOwn_a, kDrop_a, kRet_a, kRetP_a, kRetF_a, kRetO_a, kRetN_a, kIf_a, kBk_a, kCt_a, kTg_a, kPar_a, kApp_a, kPut_a, kFrz_a, kFor_a, kRaise_a, kDict_a, kDput_a, kClr_a, kNst_a, fLc2_a, yVw_a, view_no, view_dat, view_own, view_scr, xC_a, xV_a, xOp_a, fOp_a, xUn_a, xNot_a, xAnd_a, xOr_a, xIf_a, xChain_a, zNil_a, zCons_a, xTup_a, fLst_a, xL_a, xCB_a, fCB_a, xF_a, xFc_a, fF_a, fFc_a, zApp_a, zKw_a, oNo_a, oAt_a, fSl_a, xSl_a, yV_a, yAnd_a, yOr_a, yNot_a, yYes_a, xIxO_a, xLenO_a, xDg_a, xDin_a, xDnotin_a, iS_a, iA_a, fLc_a, wipeS_nil, wipeS_cons, gN_a, gs0_a, gsC_a, gT_a, gU_a, ownL_a, ownD_a, asB_a, asI_a, asL_a, seqOf_l, seqOf_t, keyD_i, keyD_s, bind_ex, bind_bad, of_none, Rz.bind_ok, Rz.of_some, Rz.calm_ok, Option.bind_some, Option.bind_none, zAddV_i, zSub_i, zLt_i, zLe_i, zGt_i, zGe_i, zEq_i, zNe_i, zEq_r, zNe_r, zIx_r0, zIx_r1, zIx_t, zIx_l, zNeg_i, zLen_l, zLen_t, zAbs_i, zInt_b, zInt_i, zListV_l, zListV_t, zList_l, zList_t, zTuple_l, zTuple_t, zAll_l, zAny_l, zSlV_l, zSlV_t, zIsN_a, zNotN_a, slots, sel, Arg.get, List.filterMap_cons, List.filterMap_nil, List.length_cons, List.length_nil, List.map_cons, List.map_nil, List.cons_append, List.nil_append, List.append_nil, List.getElem?_cons_succ, List.getElem?_cons_zero, List.getElem?_nil, List.set_cons_zero, List.set_cons_succ, List.set_nil, List.replicate_succ, List.replicate_zero, if_true, Nat.sub_self, Nat.reduceAdd, Nat.reduceSub, Nat.reduceLeDiff, Nat.reduceEqDiff, Nat.reduceLT, Int.reduceLT, Int.reduceLE, Int.reduceNeg, Int.reduceEq, Nat.zero_add, and_self, if_false, Bool.not_true, Bool.not_false, Bool.false_eq_true, Nat.zero_le, decide_true, decide_false, reduceCtorEq, d_places_of, m_places_of, he, if_pos hz, lc, places_zip]
theorem ix_menu {ms : List Menu} {s : Nat} {m : Menu} (h : ms[s]? = some m) : zIx (encBook ms) (.int (s : Nat)) = some (encMenu m) := by
  unfold encBook
  rw [zIx_t, atI_in (by omega) (by rw [List.length_map]; have := (List.getElem?_eq_some_iff.mp h).1; omega)]
  simp [h]
theorem ix_rows (m : Menu) : zIx (encMenu m) (.int 1) = some (.tuple (m.2.map encRow)) := rfl
theorem ix_hand (m : Menu) : zIx (encMenu m) (.int 0) = some (whoD m.1) := rfl
theorem ix_row {rs : List (List Rat)} {a : Int} (h0 : 0 ≤ a) (h : a < (rs.length : Int)) : zIx (.tuple (rs.map encRow)) (.int a) = some (encRow (rs.getD a.toNat [])) := by
  rw [zIx_t, atI_in h0 (by rw [List.length_map]; exact h), List.getElem?_map, List.getD_eq_getElem?_getD, List.getElem?_eq_getElem (by omega)]
  rfl
theorem placesL_get {ms : List Menu} {h : Bool} {s : Nat} (hs : s ∈ placesL ms h) : ∃ m, ms[s]? = some m := by
  have := (places_ge hs).2
  exact ⟨ms[s]'(by omega), List.getElem?_eq_getElem (by omega)⟩
/-! joined -/
def dkey (j : Nat) : Key := .inl (j : Int)
/-! taken -/
theorem taken_zip : ∀ (ms all : List Menu) (c : List Int) (k : Nat), (∀ j, all[k + j]? = ms[j]?) → goodChoice ms c → ((c.zipIdx k).map fun p => encRow (((all[p.2]?).map (·.2)).getD [] |>.getD p.1.toNat [])) = (takenL ms c).map encRow
  | [], all, [], k, _, _ => rfl
  | m :: ms, all, a :: c, k, ha, h => by
    have h0 : all[k]? = some m := by have := ha 0; simpa using this
    rw [List.zipIdx_cons, List.map_cons, taken_zip ms all c (k + 1) (fun j => by have := ha (j + 1); rw [show k + 1 + j = k + (j + 1) from by omega, this]; rfl) h.2.2]
    simp only [h0]
    rfl
  | [], all, _ :: _, k, _, h => h.elim
  | _ :: _, all, [], k, _, h => h.elim
/-! ### fillings, steps -/
def badFill (n : Nat) (qs : List Rat) : Bool := decide (qs.length ≠ n) || qs.any fun q => decide (q.num < 0)
theorem badFill_no {n : Nat} {qs : List Rat} (hl : qs.length = n) (h : ∀ q ∈ qs, 0 ≤ q) : badFill n qs = false := by
  unfold badFill
  rw [decide_eq_false (by omega), Bool.false_or]
  rw [List.any_eq_false]
  intro q hq
  have := Rat.num_nonneg.mpr (h q hq)
  rw [decide_eq_true_eq]
  omega
def stepQ (rows : List (List Rat)) (fill : List Rat) : List Rat := rows.map fun r => dotQ r fill
/-- a table of n stores, sizes n -/
structure okTab (n : Nat) (rows : List (List Rat)) : Prop where
  len : rows.length = n
  all : ∀ r ∈ rows, r.length = n ∧ ∀ q ∈ r, 0 ≤ q ∧ Sz 10 q
structure okFill (n : Nat) (fill : List Rat) : Prop where
  len : fill.length = n
  all : ∀ q ∈ fill, 0 ≤ q ∧ Sz 30000 q
theorem okTab_taken {ms : List Menu} (n : Nat) : ∀ {c : List Int}, goodChoice ms c → (∀ m ∈ ms, okMenu n m) → (takenL ms c).length = ms.length ∧ ∀ r ∈ takenL ms c, okRow n r := by
  induction ms with
  | nil => intro c h _; cases c with
    | nil => exact ⟨rfl, fun r hr => by cases hr⟩
    | cons a c => exact h.elim
  | cons m ms ih =>
    intro c h hm
    cases c with
    | nil => exact h.elim
    | cons a c =>
      obtain ⟨i1, i2⟩ := ih h.2.2 fun x hx => hm x (List.mem_cons_of_mem _ hx)
      refine ⟨by unfold takenL; rw [List.length_cons, List.length_cons, i1], fun r hr => ?_⟩
      rcases List.mem_cons.mp (show r ∈ m.2.getD a.toNat [] :: takenL ms c from hr) with z | z
      · rw [z]
        have hlt : a.toNat < m.2.length := by have := h.1; have := h.2.1; omega
        rw [List.getD_eq_getElem?_getD, List.getElem?_eq_getElem hlt]
        exact (hm m (List.mem_cons_self ..)).all _ (List.getElem_mem hlt)
      · exact i2 r z
theorem okRow.tab {n : Nat} {r : List Rat} (h : okRow n r) : r.length = n ∧ ∀ q ∈ r, 0 ≤ q ∧ Sz 10 q := ⟨h.len, fun q hq => ⟨(h.all q hq).1, (h.all q hq).sz⟩⟩
theorem okBook.taken {ms : List Menu} {c : List Int} (h : okBook ms) (hc : goodChoice ms c) : okTab ms.length (takenL ms c) := by
  obtain ⟨h1, h2⟩ := okTab_taken ms.length hc h.all
  exact ⟨h1, fun r hr => (h2 r hr).tab⟩
/-! ### _law_part -/
theorem z_lawpart_loop {u l : Int} : ∀ (n : Nat) (a b : Int), 0 ≤ a → 0 ≤ b → b.toNat ≤ n → kWhile (yV (xOp zGt (xV 3) (xC (.int 0)))) [] b1__law_part [.dat (.int u), .dat (.int l), .dat (.int a), .dat (.int b), .no] = .nx [.dat (.int u), .dat (.int l), .dat (.int (Int.gcd a b)), .dat (.int 0), .no]
  | n, a, b, ha, hb, hn => by
    by_cases h0 : b = 0
    · subst h0
      rw [kWhile_stop (by simp only [fnD_a, kSeq_a, kNx_a, kE_a, kAsg_a, kOwn_a, kDrop_a, kRet_a, kRetP_a, kRetF_a, kRetO_a, kRetN_a, kIf_a, kBk_a, kCt_a, kTg_a, kPar_a, kApp_a, kPut_a, kFrz_a, kFor_a, kRaise_a, kDict_a, kDput_a, kClr_a, kNst_a, fLc2_a, yVw_a, view_no, view_dat, view_own, view_scr, xC_a, xV_a, xOp_a, fOp_a, xUn_a, xNot_a, xAnd_a, xOr_a, xIf_a, xChain_a, zNil_a, zCons_a, xTup_a, fLst_a, xL_a, xCB_a, fCB_a, xF_a, xFc_a, fF_a, fFc_a, zApp_a, zKw_a, oNo_a, oAt_a, fSl_a, xSl_a, yV_a, yAnd_a, yOr_a, yNot_a, yYes_a, xIxO_a, xLenO_a, xDg_a, xDin_a, xDnotin_a, iS_a, iA_a, fLc_a, wipeS_nil, wipeS_cons, gN_a, gs0_a, gsC_a, gT_a, gU_a, ownL_a, ownD_a, asB_a, asI_a, asL_a, seqOf_l, seqOf_t, keyD_i, keyD_s, bind_ex, bind_bad, of_none, Rz.bind_ok, Rz.of_some, Rz.calm_ok, Option.bind_some, Option.bind_none, zAddV_i, zSub_i, zLt_i, zLe_i, zGt_i, zGe_i, zEq_i, zNe_i, zEq_r, zNe_r, zIx_r0, zIx_r1, zIx_t, zIx_l, zNeg_i, zLen_l, zLen_t, zAbs_i, zInt_b, zInt_i, zListV_l, zListV_t, zList_l, zList_t, zTuple_l, zTuple_t, zAll_l, zAny_l, zSlV_l, zSlV_t, zIsN_a, zNotN_a, slots, sel, Arg.get, List.filterMap_cons, List.filterMap_nil, List.length_cons, List.length_nil, List.map_cons, List.map_nil, List.cons_append, List.nil_append, List.append_nil, List.getElem?_cons_succ, List.getElem?_cons_zero, List.getElem?_nil, List.set_cons_zero, List.set_cons_succ, List.set_nil, List.replicate_succ, List.replicate_zero, if_true, Nat.sub_self, Nat.reduceAdd, Nat.reduceSub, Nat.reduceLeDiff, Nat.reduceEqDiff, Nat.reduceLT, Int.reduceLT, Int.reduceLE, Int.reduceNeg, Int.reduceEq, Nat.zero_add, and_self, if_false, Bool.not_true, Bool.not_false, Bool.false_eq_true, Nat.zero_le, decide_true, decide_false, reduceCtorEq])]
      rw [Int.gcd_zero_right, Int.natAbs_of_nonneg ha]
    · have hpos : 0 < b := by omega
      have hm := fmod_in (a := a) (b := b) hpos
      cases n with
      | zero => omega
      | succ n =>
        have ih := z_lawpart_loop (u := u) (l := l) n b (a.fmod b) (by omega) hm.1 (by omega)
        rw [gcd_step ha hpos] at ih
        refine kWhile_go (ρ' := [.dat (.int u), .dat (.int l), .dat (.int b), .dat (.int (a.fmod b)), .no]) ?_ ?_ ih nofun
        · simp only [fnD_a, kSeq_a, kNx_a, kE_a, kAsg_a, kOwn_a, kDrop_a, kRet_a, kRetP_a, kRetF_a, kRetO_a, kRetN_a, kIf_a, kBk_a, kCt_a, kTg_a, kPar_a, kApp_a, kPut_a, kFrz_a, kFor_a, kRaise_a, kDict_a, kDput_a, kClr_a, kNst_a, fLc2_a, yVw_a, view_no, view_dat, view_own, view_scr, xC_a, xV_a, xOp_a, fOp_a, xUn_a, xNot_a, xAnd_a, xOr_a, xIf_a, xChain_a, zNil_a, zCons_a, xTup_a, fLst_a, xL_a, xCB_a, fCB_a, xF_a, xFc_a, fF_a, fFc_a, zApp_a, zKw_a, oNo_a, oAt_a, fSl_a, xSl_a, yV_a, yAnd_a, yOr_a, yNot_a, yYes_a, xIxO_a, xLenO_a, xDg_a, xDin_a, xDnotin_a, iS_a, iA_a, fLc_a, wipeS_nil, wipeS_cons, gN_a, gs0_a, gsC_a, gT_a, gU_a, ownL_a, ownD_a, asB_a, asI_a, asL_a, seqOf_l, seqOf_t, keyD_i, keyD_s, bind_ex, bind_bad, of_none, Rz.bind_ok, Rz.of_some, Rz.calm_ok, Option.bind_some, Option.bind_none, zAddV_i, zSub_i, zLt_i, zLe_i, zGt_i, zGe_i, zEq_i, zNe_i, zEq_r, zNe_r, zIx_r0, zIx_r1, zIx_t, zIx_l, zNeg_i, zLen_l, zLen_t, zAbs_i, zInt_b, zInt_i, zListV_l, zListV_t, zList_l, zList_t, zTuple_l, zTuple_t, zAll_l, zAny_l, zSlV_l, zSlV_t, zIsN_a, zNotN_a, slots, sel, Arg.get, List.filterMap_cons, List.filterMap_nil, List.length_cons, List.length_nil, List.map_cons, List.map_nil, List.cons_append, List.nil_append, List.append_nil, List.getElem?_cons_succ, List.getElem?_cons_zero, List.getElem?_nil, List.set_cons_zero, List.set_cons_succ, List.set_nil, List.replicate_succ, List.replicate_zero, if_true, Nat.sub_self, Nat.reduceAdd, Nat.reduceSub, Nat.reduceLeDiff, Nat.reduceEqDiff, Nat.reduceLT, Int.reduceLT, Int.reduceLE, Int.reduceNeg, Int.reduceEq, Nat.zero_add, and_self, if_false, Bool.not_true, Bool.not_false, Bool.false_eq_true, Nat.zero_le, decide_true, decide_false, reduceCtorEq, decide_eq_true hpos]
        · simp only [fnD_a, kSeq_a, kNx_a, kE_a, kAsg_a, kOwn_a, kDrop_a, kRet_a, kRetP_a, kRetF_a, kRetO_a, kRetN_a, kIf_a, kBk_a, kCt_a, kTg_a, kPar_a, kApp_a, kPut_a, kFrz_a, kFor_a, kRaise_a, kDict_a, kDput_a, kClr_a, kNst_a, fLc2_a, yVw_a, view_no, view_dat, view_own, view_scr, xC_a, xV_a, xOp_a, fOp_a, xUn_a, xNot_a, xAnd_a, xOr_a, xIf_a, xChain_a, zNil_a, zCons_a, xTup_a, fLst_a, xL_a, xCB_a, fCB_a, xF_a, xFc_a, fF_a, fFc_a, zApp_a, zKw_a, oNo_a, oAt_a, fSl_a, xSl_a, yV_a, yAnd_a, yOr_a, yNot_a, yYes_a, xIxO_a, xLenO_a, xDg_a, xDin_a, xDnotin_a, iS_a, iA_a, fLc_a, wipeS_nil, wipeS_cons, gN_a, gs0_a, gsC_a, gT_a, gU_a, ownL_a, ownD_a, asB_a, asI_a, asL_a, seqOf_l, seqOf_t, keyD_i, keyD_s, bind_ex, bind_bad, of_none, Rz.bind_ok, Rz.of_some, Rz.calm_ok, Option.bind_some, Option.bind_none, zAddV_i, zSub_i, zLt_i, zLe_i, zGt_i, zGe_i, zEq_i, zNe_i, zEq_r, zNe_r, zIx_r0, zIx_r1, zIx_t, zIx_l, zNeg_i, zLen_l, zLen_t, zAbs_i, zInt_b, zInt_i, zListV_l, zListV_t, zList_l, zList_t, zTuple_l, zTuple_t, zAll_l, zAny_l, zSlV_l, zSlV_t, zIsN_a, zNotN_a, slots, sel, Arg.get, List.filterMap_cons, List.filterMap_nil, List.length_cons, List.length_nil, List.map_cons, List.map_nil, List.cons_append, List.nil_append, List.append_nil, List.getElem?_cons_succ, List.getElem?_cons_zero, List.getElem?_nil, List.set_cons_zero, List.set_cons_succ, List.set_nil, List.replicate_succ, List.replicate_zero, if_true, Nat.sub_self, Nat.reduceAdd, Nat.reduceSub, Nat.reduceLeDiff, Nat.reduceEqDiff, Nat.reduceLT, Int.reduceLT, Int.reduceLE, Int.reduceNeg, Int.reduceEq, Nat.zero_add, and_self, if_false, Bool.not_true, Bool.not_false, Bool.false_eq_true, Nat.zero_le, decide_true, decide_false, reduceCtorEq, b1__law_part_a, zMod_i h0]
theorem z__law_part {u l : Int} (hl : l ≠ 0) : d__law_part [.int u, .int l] = .ok (encR (Rat.divInt u l)) := by
  have hn := part_num (u := u) hl
  have hd := part_den (u := u) hl
  have hg := gcd_ne (u := u) hl
  have hc := z_lawpart_loop (u := u) (l := l) _ ((u.natAbs : Nat) : Int) ((l.natAbs : Nat) : Int) (by omega) (by omega) (Nat.le_refl _)
  have eg : ((Int.gcd ((u.natAbs : Nat) : Int) ((l.natAbs : Nat) : Int) : Nat) : Int) = ((Int.gcd u l : Nat) : Int) := by
    congr 1
  rw [eg] at hc
  by_cases neg : l < 0
  · rw [if_pos neg] at hn hd
    have hng : (0 : Int) - ((Int.gcd u l : Nat) : Int) ≠ 0 := by omega
    have e1 : u.fdiv (0 - ((Int.gcd u l : Nat) : Int)) = (Rat.divInt u l).num := by
      rw [← hn, show (0 : Int) - ((Int.gcd u l : Nat) : Int) = -((Int.gcd u l : Nat) : Int) from by omega]
      rw [← Int.neg_fdiv_neg u, Int.neg_neg]
    have e2 : l.fdiv (0 - ((Int.gcd u l : Nat) : Int)) = ((Rat.divInt u l).den : Int) := by
      rw [← hd, show (0 : Int) - ((Int.gcd u l : Nat) : Int) = -((Int.gcd u l : Nat) : Int) from by omega]
      rw [← Int.neg_fdiv_neg l, Int.neg_neg]
    simp only [fnD_a, kSeq_a, kNx_a, kE_a, kAsg_a, kOwn_a, kDrop_a, kRet_a, kRetP_a, kRetF_a, kRetO_a, kRetN_a, kIf_a, kBk_a, kCt_a, kTg_a, kPar_a, kApp_a, kPut_a, kFrz_a, kFor_a, kRaise_a, kDict_a, kDput_a, kClr_a, kNst_a, fLc2_a, yVw_a, view_no, view_dat, view_own, view_scr, xC_a, xV_a, xOp_a, fOp_a, xUn_a, xNot_a, xAnd_a, xOr_a, xIf_a, xChain_a, zNil_a, zCons_a, xTup_a, fLst_a, xL_a, xCB_a, fCB_a, xF_a, xFc_a, fF_a, fFc_a, zApp_a, zKw_a, oNo_a, oAt_a, fSl_a, xSl_a, yV_a, yAnd_a, yOr_a, yNot_a, yYes_a, xIxO_a, xLenO_a, xDg_a, xDin_a, xDnotin_a, iS_a, iA_a, fLc_a, wipeS_nil, wipeS_cons, gN_a, gs0_a, gsC_a, gT_a, gU_a, ownL_a, ownD_a, asB_a, asI_a, asL_a, seqOf_l, seqOf_t, keyD_i, keyD_s, bind_ex, bind_bad, of_none, Rz.bind_ok, Rz.of_some, Rz.calm_ok, Option.bind_some, Option.bind_none, zAddV_i, zSub_i, zLt_i, zLe_i, zGt_i, zGe_i, zEq_i, zNe_i, zEq_r, zNe_r, zIx_r0, zIx_r1, zIx_t, zIx_l, zNeg_i, zLen_l, zLen_t, zAbs_i, zInt_b, zInt_i, zListV_l, zListV_t, zList_l, zList_t, zTuple_l, zTuple_t, zAll_l, zAny_l, zSlV_l, zSlV_t, zIsN_a, zNotN_a, slots, sel, Arg.get, List.filterMap_cons, List.filterMap_nil, List.length_cons, List.length_nil, List.map_cons, List.map_nil, List.cons_append, List.nil_append, List.append_nil, List.getElem?_cons_succ, List.getElem?_cons_zero, List.getElem?_nil, List.set_cons_zero, List.set_cons_succ, List.set_nil, List.replicate_succ, List.replicate_zero, if_true, Nat.sub_self, Nat.reduceAdd, Nat.reduceSub, Nat.reduceLeDiff, Nat.reduceEqDiff, Nat.reduceLT, Int.reduceLT, Int.reduceLE, Int.reduceNeg, Int.reduceEq, Nat.zero_add, and_self, if_false, Bool.not_true, Bool.not_false, Bool.false_eq_true, Nat.zero_le, decide_true, decide_false, reduceCtorEq, d__law_part, m__law_part, abs_i, hc, decide_eq_false (show ¬ 0 < l from by omega), zFdB_i hng, e1, e2]
    rfl
  · rw [if_neg neg] at hn hd
    simp only [fnD_a, kSeq_a, kNx_a, kE_a, kAsg_a, kOwn_a, kDrop_a, kRet_a, kRetP_a, kRetF_a, kRetO_a, kRetN_a, kIf_a, kBk_a, kCt_a, kTg_a, kPar_a, kApp_a, kPut_a, kFrz_a, kFor_a, kRaise_a, kDict_a, kDput_a, kClr_a, kNst_a, fLc2_a, yVw_a, view_no, view_dat, view_own, view_scr, xC_a, xV_a, xOp_a, fOp_a, xUn_a, xNot_a, xAnd_a, xOr_a, xIf_a, xChain_a, zNil_a, zCons_a, xTup_a, fLst_a, xL_a, xCB_a, fCB_a, xF_a, xFc_a, fF_a, fFc_a, zApp_a, zKw_a, oNo_a, oAt_a, fSl_a, xSl_a, yV_a, yAnd_a, yOr_a, yNot_a, yYes_a, xIxO_a, xLenO_a, xDg_a, xDin_a, xDnotin_a, iS_a, iA_a, fLc_a, wipeS_nil, wipeS_cons, gN_a, gs0_a, gsC_a, gT_a, gU_a, ownL_a, ownD_a, asB_a, asI_a, asL_a, seqOf_l, seqOf_t, keyD_i, keyD_s, bind_ex, bind_bad, of_none, Rz.bind_ok, Rz.of_some, Rz.calm_ok, Option.bind_some, Option.bind_none, zAddV_i, zSub_i, zLt_i, zLe_i, zGt_i, zGe_i, zEq_i, zNe_i, zEq_r, zNe_r, zIx_r0, zIx_r1, zIx_t, zIx_l, zNeg_i, zLen_l, zLen_t, zAbs_i, zInt_b, zInt_i, zListV_l, zListV_t, zList_l, zList_t, zTuple_l, zTuple_t, zAll_l, zAny_l, zSlV_l, zSlV_t, zIsN_a, zNotN_a, slots, sel, Arg.get, List.filterMap_cons, List.filterMap_nil, List.length_cons, List.length_nil, List.map_cons, List.map_nil, List.cons_append, List.nil_append, List.append_nil, List.getElem?_cons_succ, List.getElem?_cons_zero, List.getElem?_nil, List.set_cons_zero, List.set_cons_succ, List.set_nil, List.replicate_succ, List.replicate_zero, if_true, Nat.sub_self, Nat.reduceAdd, Nat.reduceSub, Nat.reduceLeDiff, Nat.reduceEqDiff, Nat.reduceLT, Int.reduceLT, Int.reduceLE, Int.reduceNeg, Int.reduceEq, Nat.zero_add, and_self, if_false, Bool.not_true, Bool.not_false, Bool.false_eq_true, Nat.zero_le, decide_true, decide_false, reduceCtorEq, d__law_part, m__law_part, abs_i, hc, decide_eq_true (show 0 < l from by omega), zFdB_i hg, hn, hd]
    rfl
theorem z__law_times {a b : Rat} {n m : Nat} (ha : Sz n a) (hb : Sz m b) (l : n + m ≤ 99999998) : d__law_times [encR a, encR b] = .ok (encR (a * b)) := by
  have l' : m + n ≤ 99999998 := by omega
  have hp := z__law_part (u := a.num * b.num) (l := (a.den : Int) * (b.den : Int)) (dens_ne a b)
  simp only [fnD_a, kSeq_a, kNx_a, kE_a, kAsg_a, kOwn_a, kDrop_a, kRet_a, kRetP_a, kRetF_a, kRetO_a, kRetN_a, kIf_a, kBk_a, kCt_a, kTg_a, kPar_a, kApp_a, kPut_a, kFrz_a, kFor_a, kRaise_a, kDict_a, kDput_a, kClr_a, kNst_a, fLc2_a, yVw_a, view_no, view_dat, view_own, view_scr, xC_a, xV_a, xOp_a, fOp_a, xUn_a, xNot_a, xAnd_a, xOr_a, xIf_a, xChain_a, zNil_a, zCons_a, xTup_a, fLst_a, xL_a, xCB_a, fCB_a, xF_a, xFc_a, fF_a, fFc_a, zApp_a, zKw_a, oNo_a, oAt_a, fSl_a, xSl_a, yV_a, yAnd_a, yOr_a, yNot_a, yYes_a, xIxO_a, xLenO_a, xDg_a, xDin_a, xDnotin_a, iS_a, iA_a, fLc_a, wipeS_nil, wipeS_cons, gN_a, gs0_a, gsC_a, gT_a, gU_a, ownL_a, ownD_a, asB_a, asI_a, asL_a, seqOf_l, seqOf_t, keyD_i, keyD_s, bind_ex, bind_bad, of_none, Rz.bind_ok, Rz.of_some, Rz.calm_ok, Option.bind_some, Option.bind_none, zAddV_i, zSub_i, zLt_i, zLe_i, zGt_i, zGe_i, zEq_i, zNe_i, zEq_r, zNe_r, zIx_r0, zIx_r1, zIx_t, zIx_l, zNeg_i, zLen_l, zLen_t, zAbs_i, zInt_b, zInt_i, zListV_l, zListV_t, zList_l, zList_t, zTuple_l, zTuple_t, zAll_l, zAny_l, zSlV_l, zSlV_t, zIsN_a, zNotN_a, slots, sel, Arg.get, List.filterMap_cons, List.filterMap_nil, List.length_cons, List.length_nil, List.map_cons, List.map_nil, List.cons_append, List.nil_append, List.append_nil, List.getElem?_cons_succ, List.getElem?_cons_zero, List.getElem?_nil, List.set_cons_zero, List.set_cons_succ, List.set_nil, List.replicate_succ, List.replicate_zero, if_true, Nat.sub_self, Nat.reduceAdd, Nat.reduceSub, Nat.reduceLeDiff, Nat.reduceEqDiff, Nat.reduceLT, Int.reduceLT, Int.reduceLE, Int.reduceNeg, Int.reduceEq, Nat.zero_add, and_self, if_false, Bool.not_true, Bool.not_false, Bool.false_eq_true, Nat.zero_le, decide_true, decide_false, reduceCtorEq, d__law_times, m__law_times, zMulV_b ha.num hb.num l, zMulV_b ha.num hb.den l, zMulV_b ha.den hb.den l, zMulV_b ha.den hb.num l, zMulV_b hb.num ha.den l', hp]
  rw [mul_divInt]
/-! ### draws -/
theorem atI_small {xs : List PyData} {i : Int} (h0 : 0 ≤ i) (h : i < xs.length) : ∃ d ∈ xs, atI xs i = some d := by
  obtain ⟨hi, e⟩ := atI_int h0 h
  exact ⟨_, List.getElem_mem hi, e⟩
/-- one of some numbers -/
theorem pick_int {ns : List Int} {i : Int} {P : Int → Prop} (h0 : 0 ≤ i) (h : i < ns.length) (hp : ∀ n ∈ ns, P n) : ∃ n, P n ∧ atI (ns.map PyData.int) i = some (.int n) := by
  obtain ⟨d, hd, e⟩ := atI_small (xs := ns.map PyData.int) h0 (by rw [List.length_map]; exact h)
  obtain ⟨n, hn, rfl⟩ := List.mem_map.mp hd
  exact ⟨n, hp n hn, e⟩
theorem divInt_mul {u l : Int} (hl : l ≠ 0) : Rat.divInt u l * (l : Rat) = (u : Rat) := by
  rw [Rat.divInt_eq_div, Rat.div_mul_cancel (by exact_mod_cast hl)]
theorem cut_map {xs : List Int} {i j : Int} (h0 : 0 ≤ i) (h1 : i ≤ j) (h : j ≤ xs.length) : ∃ ys : List Int, ys.length = (j - i).toNat ∧ (∀ y ∈ ys, y ∈ xs) ∧ cutD (xs.map .int) (some i) (some j) = ys.map .int := by
  refine ⟨_, ?_, ?_, cut_betweenI xs h0 h1 h⟩
  · rw [List.length_take, List.length_drop]; omega
  · intro y hy; exact List.mem_of_mem_drop (List.mem_of_mem_take hy)
theorem mem_app1 {α : Type} {P : α → Prop} {xs : List α} {y : α} (h : ∀ x ∈ xs, P x) (hy : P y) : ∀ x ∈ xs ++ [y], P x := fun x hx => by
  rcases List.mem_append.mp hx with z | z
  · exact h x z
  · rw [List.mem_singleton.mp z]; exact hy
theorem encR_div (u l : Int) (hl : l ≠ 0) (h : Int.gcd u l = 1) (hp : 0 < l) : encR (Rat.divInt u l) = .tuple [.int u, .int l] := by
  have hn := part_num (u := u) hl
  have hd := part_den (u := u) hl
  rw [if_neg (by omega), h] at hn hd
  unfold encR
  rw [← hn, ← hd]
  simp
theorem zip_mem2 {α β : Type} {P : α → Prop} {Q : β → Prop} {xs : List α} {ys : List β} (h1 : ∀ x ∈ xs, P x) (h2 : ∀ y ∈ ys, Q y) : ∀ p ∈ xs.zip ys, P p.1 ∧ Q p.2 := fun p hp => ⟨h1 _ (List.of_mem_zip hp).1, h2 _ (List.of_mem_zip hp).2⟩
/-! ### _law_share, _law_filling, _law_menus -/
theorem okS_divInt {u l : Int} (h0 : 0 ≤ u) (hu : u ≤ 999) (hl : 0 < l) (hl2 : l ≤ 20) : okS (Rat.divInt u l) := by
  have hd : (Rat.divInt u l).den ≤ l.toNat := by
    have := part_den (u := u) (l := l) (by omega)
    rw [if_neg (by omega)] at this
    have hg := gcd_ne (u := u) (l := l) (by omega)
    have hgp : (0 : Int) < ((Int.gcd u l : Nat) : Int) := by omega
    rw [Int.fdiv_eq_ediv_of_nonneg _ (by omega)] at this
    have h2 := Int.ediv_le_self (a := l) ((Int.gcd u l : Nat) : Int) (by omega)
    omega
  have hn : (Rat.divInt u l).num ≤ u := by
    have := part_num (u := u) (l := l) (by omega)
    rw [if_neg (by omega)] at this
    rw [Int.fdiv_eq_ediv_of_nonneg _ (by omega)] at this
    have h2 := Int.ediv_le_self (a := u) ((Int.gcd u l : Nat) : Int) h0
    omega
  refine ⟨?_, by omega, by omega⟩
  rw [← Rat.num_nonneg]
  have := part_num (u := u) (l := l) (by omega)
  rw [if_neg (by omega)] at this
  rw [← this, Int.fdiv_eq_ediv_of_nonneg _ (by omega)]
  exact Int.ediv_nonneg h0 (by omega)
theorem z__law_share (x : Int) : ∃ u l : Int, 0 ≤ u ∧ u ≤ 5 ∧ 1 ≤ l ∧ l ≤ 6 ∧ d__law_share [.int x] = .ok (encR (Rat.divInt u l)) := by
  have k1 := fmod_in (a := x) (b := 8) (by decide)
  have k2 := fmod_in (a := x.fdiv 8) (b := 5) (by decide)
  obtain ⟨u, hu, eu⟩ := pick_int (ns := [0, 0, 1, 1, 1, 2, 3, 5]) (P := fun n => 0 ≤ n ∧ n ≤ 5) k1.1 (by simpa using k1.2) (by decide)
  obtain ⟨l, hl, el⟩ := pick_int (ns := [1, 2, 3, 4, 6]) (P := fun n => 1 ≤ n ∧ n ≤ 6) k2.1 (by simpa using k2.2) (by decide)
  simp only [List.map_cons, List.map_nil] at eu el
  have hp := z__law_part (u := u) (l := l) (by omega)
  refine ⟨u, l, hu.1, hu.2, hl.1, hl.2, ?_⟩
  simp only [fnD_a, kSeq_a, kNx_a, kE_a, kAsg_a, kOwn_a, kDrop_a, kRet_a, kRetP_a, kRetF_a, kRetO_a, kRetN_a, kIf_a, kBk_a, kCt_a, kTg_a, kPar_a, kApp_a, kPut_a, kFrz_a, kFor_a, kRaise_a, kDict_a, kDput_a, kClr_a, kNst_a, fLc2_a, yVw_a, view_no, view_dat, view_own, view_scr, xC_a, xV_a, xOp_a, fOp_a, xUn_a, xNot_a, xAnd_a, xOr_a, xIf_a, xChain_a, zNil_a, zCons_a, xTup_a, fLst_a, xL_a, xCB_a, fCB_a, xF_a, xFc_a, fF_a, fFc_a, zApp_a, zKw_a, oNo_a, oAt_a, fSl_a, xSl_a, yV_a, yAnd_a, yOr_a, yNot_a, yYes_a, xIxO_a, xLenO_a, xDg_a, xDin_a, xDnotin_a, iS_a, iA_a, fLc_a, wipeS_nil, wipeS_cons, gN_a, gs0_a, gsC_a, gT_a, gU_a, ownL_a, ownD_a, asB_a, asI_a, asL_a, seqOf_l, seqOf_t, keyD_i, keyD_s, bind_ex, bind_bad, of_none, Rz.bind_ok, Rz.of_some, Rz.calm_ok, Option.bind_some, Option.bind_none, zAddV_i, zSub_i, zLt_i, zLe_i, zGt_i, zGe_i, zEq_i, zNe_i, zEq_r, zNe_r, zIx_r0, zIx_r1, zIx_t, zIx_l, zNeg_i, zLen_l, zLen_t, zAbs_i, zInt_b, zInt_i, zListV_l, zListV_t, zList_l, zList_t, zTuple_l, zTuple_t, zAll_l, zAny_l, zSlV_l, zSlV_t, zIsN_a, zNotN_a, slots, sel, Arg.get, List.filterMap_cons, List.filterMap_nil, List.length_cons, List.length_nil, List.map_cons, List.map_nil, List.cons_append, List.nil_append, List.append_nil, List.getElem?_cons_succ, List.getElem?_cons_zero, List.getElem?_nil, List.set_cons_zero, List.set_cons_succ, List.set_nil, List.replicate_succ, List.replicate_zero, if_true, Nat.sub_self, Nat.reduceAdd, Nat.reduceSub, Nat.reduceLeDiff, Nat.reduceEqDiff, Nat.reduceLT, Int.reduceLT, Int.reduceLE, Int.reduceNeg, Int.reduceEq, Nat.zero_add, and_self, if_false, Bool.not_true, Bool.not_false, Bool.false_eq_true, Nat.zero_le, decide_true, decide_false, reduceCtorEq, d__law_share, m__law_share, zMod_i (show (8 : Int) ≠ 0 by decide), zMod_i (show (5 : Int) ≠ 0 by decide), zFd_i (show (0 : Int) < 8 by decide) (by decide), eu, el, hp]
def okC (q : Rat) : Prop := 0 ≤ q ∧ Sz 6 q ∧ ∃ z : Nat, q * 12 = z ∧ z ≤ 480
def okT (q : Rat) : Prop := ∃ u l : Int, 0 ≤ u ∧ u ≤ 5 ∧ 1 ≤ l ∧ l ≤ 6 ∧ q = Rat.divInt u l
def okB (q : Rat) : Prop := ∃ u l : Int, 0 ≤ u ∧ u ≤ 1 ∧ 1 ≤ l ∧ l ≤ 3 ∧ q = Rat.divInt u l
theorem okT.s {q : Rat} (h : okT q) : okS q := by
  obtain ⟨u, l, h1, h2, h3, h4, rfl⟩ := h
  exact okS_divInt h1 (by omega) (by omega) (by omega)
theorem okB.s {q : Rat} (h : okB q) : okS q := by
  obtain ⟨u, l, h1, h2, h3, h4, rfl⟩ := h
  exact okS_divInt h1 (by omega) (by omega) (by omega)
theorem okTB {a b : Rat} (ha : okT a) (hb : okB b) : okS (a * b) := by
  obtain ⟨u, l, h1, h2, h3, h4, rfl⟩ := ha
  obtain ⟨v, k, g1, g2, g3, g4, rfl⟩ := hb
  rw [Rat.divInt_mul_divInt]
  refine okS_divInt (Int.mul_nonneg h1 g1) ?_ (Int.mul_pos (by omega) (by omega)) ?_
  · have : u * v ≤ 5 * 1 := Int.mul_le_mul h2 g2 g1 (by omega)
    omega
  · have : l * k ≤ 6 * 3 := Int.mul_le_mul h4 g4 (by omega) (by omega)
    omega
theorem z_menus_row {own : List Int} {ds du dk : PyData} {s4 : Slot} {n r : Nat} {thin : Int} {rows : List (List Rat)} (hn : n ≤ 5) (ho : own.length = 20) (hr : r < 3) (hrl : rows.length ≤ 3) : ∃ row ρ', okRow n row ∧
    b1__law_menus [.dat ds, .dat du, .dat (.int (n : Int)), .dat (.int thin), s4, .dat dk, .dat (.list (own.map .int)), .own (.lst (rows.map encRow)), .dat (.int (r : Int)), .no, .no, .no, .no, .no] = .nx ρ' ∧
    wipeS ρ' [8, 9, 10] = [.dat ds, .dat du, .dat (.int (n : Int)), .dat (.int thin), s4, .dat dk, .dat (.list (own.map .int)), .own (.lst ((rows ++ [row]).map encRow)), .no, .no, .no, .no, .no, .no] := by
  obtain ⟨ys, y1, y2, y3⟩ := cut_map (xs := own) (i := 2 + 5 * (r : Int)) (j := 2 + 5 * (r : Int) + (n : Int)) (by omega) (by omega) (by omega)
  have y1 : ys.length = n := by omega
  obtain ⟨qs, a1, a2, a3⟩ := lcL_ex (g := gN 11) (mt := yYes) (me := xFc d__law_share (zCons (xV 11) zNil)) (ρ := [.dat ds, .dat du, .dat (.int (n : Int)), .dat (.int thin), s4, .dat dk, .dat (.list (own.map .int)), .own (.lst (rows.map encRow)), .dat (.int (r : Int)), .no, .no, .no, .no, .no]) (enc := PyData.int) (F := fun x ρ => ρ.set 11 (.dat (.int x))) (dec := encR) okT ys (fun x _ => rfl) (fun x _ => rfl) (fun x _ => by
    obtain ⟨u, l, h1, h2, h3, h4, h5⟩ := z__law_share x
    exact ⟨_, ⟨u, l, h1, h2, h3, h4, rfl⟩, by simp only [fnD_a, kSeq_a, kNx_a, kE_a, kAsg_a, kOwn_a, kDrop_a, kRet_a, kRetP_a, kRetF_a, kRetO_a, kRetN_a, kIf_a, kBk_a, kCt_a, kTg_a, kPar_a, kApp_a, kPut_a, kFrz_a, kFor_a, kRaise_a, kDict_a, kDput_a, kClr_a, kNst_a, fLc2_a, yVw_a, view_no, view_dat, view_own, view_scr, xC_a, xV_a, xOp_a, fOp_a, xUn_a, xNot_a, xAnd_a, xOr_a, xIf_a, xChain_a, zNil_a, zCons_a, xTup_a, fLst_a, xL_a, xCB_a, fCB_a, xF_a, xFc_a, fF_a, fFc_a, zApp_a, zKw_a, oNo_a, oAt_a, fSl_a, xSl_a, yV_a, yAnd_a, yOr_a, yNot_a, yYes_a, xIxO_a, xLenO_a, xDg_a, xDin_a, xDnotin_a, iS_a, iA_a, fLc_a, wipeS_nil, wipeS_cons, gN_a, gs0_a, gsC_a, gT_a, gU_a, ownL_a, ownD_a, asB_a, asI_a, asL_a, seqOf_l, seqOf_t, keyD_i, keyD_s, bind_ex, bind_bad, of_none, Rz.bind_ok, Rz.of_some, Rz.calm_ok, Option.bind_some, Option.bind_none, zAddV_i, zSub_i, zLt_i, zLe_i, zGt_i, zGe_i, zEq_i, zNe_i, zEq_r, zNe_r, zIx_r0, zIx_r1, zIx_t, zIx_l, zNeg_i, zLen_l, zLen_t, zAbs_i, zInt_b, zInt_i, zListV_l, zListV_t, zList_l, zList_t, zTuple_l, zTuple_t, zAll_l, zAny_l, zSlV_l, zSlV_t, zIsN_a, zNotN_a, slots, sel, Arg.get, List.filterMap_cons, List.filterMap_nil, List.length_cons, List.length_nil, List.map_cons, List.map_nil, List.cons_append, List.nil_append, List.append_nil, List.getElem?_cons_succ, List.getElem?_cons_zero, List.getElem?_nil, List.set_cons_zero, List.set_cons_succ, List.set_nil, List.replicate_succ, List.replicate_zero, if_true, Nat.sub_self, Nat.reduceAdd, Nat.reduceSub, Nat.reduceLeDiff, Nat.reduceEqDiff, Nat.reduceLT, Int.reduceLT, Int.reduceLE, Int.reduceNeg, Int.reduceEq, Nat.zero_add, and_self, if_false, Bool.not_true, Bool.not_false, Bool.false_eq_true, Nat.zero_le, decide_true, decide_false, reduceCtorEq, h5]⟩)
  have hrn : rng1 [.int (n : Int)] = some ((List.range n).map natD) := by rw [rng1_n (by omega), rgD_map]; rfl
  have i1 := at_nthI (xs := own) (i := 1) (by decide) (by omega)
  obtain ⟨bs, b1, b2, b3⟩ := lcL_ex (g := gN 12) (mt := yYes) (me := xOp zIx (xL (fLst (zCons (xTup (zCons (xC (.int 1)) (zCons (xC (.int 2)) zNil))) (zCons (xTup (zCons (xC (.int 1)) (zCons (xC (.int 3)) zNil))) (zCons (xTup (zCons (xC (.int 0)) (zCons (xC (.int 1)) zNil))) zNil))))) (xOp zMod (xOp zAddV (xOp zFd (xOp zIx (xV 6) (xC (.int 1))) (xC (.int 3))) (xV 12)) (xC (.int 3))))
    (ρ := [.dat ds, .dat du, .dat (.int (n : Int)), .dat (.int thin), s4, .dat dk, .dat (.list (own.map .int)), .own (.lst (rows.map encRow)), .dat (.int (r : Int)), .dat (.list (qs.map encR)), .no, .no, .no, .no]) (enc := natD) (F := fun k ρ => ρ.set 12 (.dat (natD k))) (dec := encR) okB (List.range n) (fun x _ => rfl) (fun x _ => rfl) (fun k _ => by
      have k3 := fmod_in (a := (nthI own 1).fdiv 3 + (k : Int)) (b := 3) (by decide)
      have hat : ∃ q, okB q ∧ atI [PyData.tuple [.int 1, .int 2], .tuple [.int 1, .int 3], .tuple [.int 0, .int 1]] (((nthI own 1).fdiv 3 + (k : Int)).fmod 3) = some (encR q) := by
        generalize ((nthI own 1).fdiv 3 + (k : Int)).fmod 3 = z at k3
        have hz : z = 0 ∨ z = 1 ∨ z = 2 := by omega
        rcases hz with rfl | rfl | rfl
        · exact ⟨Rat.divInt 1 2, ⟨1, 2, by decide, by decide, by decide, by decide, rfl⟩, by rw [encR_div 1 2 (by decide) (by decide) (by decide)]; rfl⟩
        · exact ⟨Rat.divInt 1 3, ⟨1, 3, by decide, by decide, by decide, by decide, rfl⟩, by rw [encR_div 1 3 (by decide) (by decide) (by decide)]; rfl⟩
        · exact ⟨Rat.divInt 0 1, ⟨0, 1, by decide, by decide, by decide, by decide, rfl⟩, by rw [encR_div 0 1 (by decide) (by decide) (by decide)]; rfl⟩
      obtain ⟨q, q1, q2⟩ := hat
      exact ⟨q, q1, by simp only [fnD_a, kSeq_a, kNx_a, kE_a, kAsg_a, kOwn_a, kDrop_a, kRet_a, kRetP_a, kRetF_a, kRetO_a, kRetN_a, kIf_a, kBk_a, kCt_a, kTg_a, kPar_a, kApp_a, kPut_a, kFrz_a, kFor_a, kRaise_a, kDict_a, kDput_a, kClr_a, kNst_a, fLc2_a, yVw_a, view_no, view_dat, view_own, view_scr, xC_a, xV_a, xOp_a, fOp_a, xUn_a, xNot_a, xAnd_a, xOr_a, xIf_a, xChain_a, zNil_a, zCons_a, xTup_a, fLst_a, xL_a, xCB_a, fCB_a, xF_a, xFc_a, fF_a, fFc_a, zApp_a, zKw_a, oNo_a, oAt_a, fSl_a, xSl_a, yV_a, yAnd_a, yOr_a, yNot_a, yYes_a, xIxO_a, xLenO_a, xDg_a, xDin_a, xDnotin_a, iS_a, iA_a, fLc_a, wipeS_nil, wipeS_cons, gN_a, gs0_a, gsC_a, gT_a, gU_a, ownL_a, ownD_a, asB_a, asI_a, asL_a, seqOf_l, seqOf_t, keyD_i, keyD_s, bind_ex, bind_bad, of_none, Rz.bind_ok, Rz.of_some, Rz.calm_ok, Option.bind_some, Option.bind_none, zAddV_i, zSub_i, zLt_i, zLe_i, zGt_i, zGe_i, zEq_i, zNe_i, zEq_r, zNe_r, zIx_r0, zIx_r1, zIx_t, zIx_l, zNeg_i, zLen_l, zLen_t, zAbs_i, zInt_b, zInt_i, zListV_l, zListV_t, zList_l, zList_t, zTuple_l, zTuple_t, zAll_l, zAny_l, zSlV_l, zSlV_t, zIsN_a, zNotN_a, slots, sel, Arg.get, List.filterMap_cons, List.filterMap_nil, List.length_cons, List.length_nil, List.map_cons, List.map_nil, List.cons_append, List.nil_append, List.append_nil, List.getElem?_cons_succ, List.getElem?_cons_zero, List.getElem?_nil, List.set_cons_zero, List.set_cons_succ, List.set_nil, List.replicate_succ, List.replicate_zero, if_true, Nat.sub_self, Nat.reduceAdd, Nat.reduceSub, Nat.reduceLeDiff, Nat.reduceEqDiff, Nat.reduceLT, Int.reduceLT, Int.reduceLE, Int.reduceNeg, Int.reduceEq, Nat.zero_add, and_self, if_false, Bool.not_true, Bool.not_false, Bool.false_eq_true, Nat.zero_le, decide_true, decide_false, reduceCtorEq, natD, i1, zMod_i (show (3 : Int) ≠ 0 by decide), zFd_i (show (0 : Int) < 3 by decide) (by decide), q2]⟩)
  have l1 : (ys.map PyData.int).length ≤ 1000000 := by rw [List.length_map]; omega
  have l2 : ((List.range n).map natD).length ≤ 1000000 := by rw [List.length_map, List.length_range]; omega
  have lr : (rows.map encRow).length < 1000000 := by rw [List.length_map]; omega
  have m5 : zMulV (.int 5) (.int (r : Int)) = some (.int (5 * (r : Int))) := zMulV_l (by decide)
  rw [List.length_range] at b1
  have st1 : (kAsg (xL (fLc [11] (iS (xSl zSlV (xV 6) (oAt (xOp zAddV (xC (.int 2)) (xOp zMulV (xC (.int 5)) (xV 8)))) (oAt (xOp zAddV (xOp zAddV (xC (.int 2)) (xOp zMulV (xC (.int 5)) (xV 8))) (xV 2))))) (gN 11) yYes (xFc d__law_share (zCons (xV 11) zNil)))) 9) [.dat ds, .dat du, .dat (.int (n : Int)), .dat (.int thin), s4, .dat dk, .dat (.list (own.map .int)), .own (.lst (rows.map encRow)), .dat (.int (r : Int)), .no, .no, .no, .no, .no] = .nx [.dat ds, .dat du, .dat (.int (n : Int)), .dat (.int thin), s4, .dat dk, .dat (.list (own.map .int)), .own (.lst (rows.map encRow)), .dat (.int (r : Int)), .dat (.list (qs.map encR)), .no, .no, .no, .no] := by
    simp only [fnD_a, kSeq_a, kNx_a, kE_a, kAsg_a, kOwn_a, kDrop_a, kRet_a, kRetP_a, kRetF_a, kRetO_a, kRetN_a, kIf_a, kBk_a, kCt_a, kTg_a, kPar_a, kApp_a, kPut_a, kFrz_a, kFor_a, kRaise_a, kDict_a, kDput_a, kClr_a, kNst_a, fLc2_a, yVw_a, view_no, view_dat, view_own, view_scr, xC_a, xV_a, xOp_a, fOp_a, xUn_a, xNot_a, xAnd_a, xOr_a, xIf_a, xChain_a, zNil_a, zCons_a, xTup_a, fLst_a, xL_a, xCB_a, fCB_a, xF_a, xFc_a, fF_a, fFc_a, zApp_a, zKw_a, oNo_a, oAt_a, fSl_a, xSl_a, yV_a, yAnd_a, yOr_a, yNot_a, yYes_a, xIxO_a, xLenO_a, xDg_a, xDin_a, xDnotin_a, iS_a, iA_a, fLc_a, wipeS_nil, wipeS_cons, gN_a, gs0_a, gsC_a, gT_a, gU_a, ownL_a, ownD_a, asB_a, asI_a, asL_a, seqOf_l, seqOf_t, keyD_i, keyD_s, bind_ex, bind_bad, of_none, Rz.bind_ok, Rz.of_some, Rz.calm_ok, Option.bind_some, Option.bind_none, zAddV_i, zSub_i, zLt_i, zLe_i, zGt_i, zGe_i, zEq_i, zNe_i, zEq_r, zNe_r, zIx_r0, zIx_r1, zIx_t, zIx_l, zNeg_i, zLen_l, zLen_t, zAbs_i, zInt_b, zInt_i, zListV_l, zListV_t, zList_l, zList_t, zTuple_l, zTuple_t, zAll_l, zAny_l, zSlV_l, zSlV_t, zIsN_a, zNotN_a, slots, sel, Arg.get, List.filterMap_cons, List.filterMap_nil, List.length_cons, List.length_nil, List.map_cons, List.map_nil, List.cons_append, List.nil_append, List.append_nil, List.getElem?_cons_succ, List.getElem?_cons_zero, List.getElem?_nil, List.set_cons_zero, List.set_cons_succ, List.set_nil, List.replicate_succ, List.replicate_zero, if_true, Nat.sub_self, Nat.reduceAdd, Nat.reduceSub, Nat.reduceLeDiff, Nat.reduceEqDiff, Nat.reduceLT, Int.reduceLT, Int.reduceLE, Int.reduceNeg, Int.reduceEq, Nat.zero_add, and_self, if_false, Bool.not_true, Bool.not_false, Bool.false_eq_true, Nat.zero_le, decide_true, decide_false, reduceCtorEq, m5, y3, if_pos l1, a3]
  have st2 : (kAsg (xL (fLc [12] (iA rng1 (zCons (xV 2) zNil)) (gN 12) yYes (xOp zIx (xL (fLst (zCons (xTup (zCons (xC (.int 1)) (zCons (xC (.int 2)) zNil))) (zCons (xTup (zCons (xC (.int 1)) (zCons (xC (.int 3)) zNil))) (zCons (xTup (zCons (xC (.int 0)) (zCons (xC (.int 1)) zNil))) zNil))))) (xOp zMod (xOp zAddV (xOp zFd (xOp zIx (xV 6) (xC (.int 1))) (xC (.int 3))) (xV 12)) (xC (.int 3)))))) 10) [.dat ds, .dat du, .dat (.int (n : Int)), .dat (.int thin), s4, .dat dk, .dat (.list (own.map .int)), .own (.lst (rows.map encRow)), .dat (.int (r : Int)), .dat (.list (qs.map encR)), .no, .no, .no, .no] = .nx [.dat ds, .dat du, .dat (.int (n : Int)), .dat (.int thin), s4, .dat dk, .dat (.list (own.map .int)), .own (.lst (rows.map encRow)), .dat (.int (r : Int)), .dat (.list (qs.map encR)), .dat (.list (bs.map encR)), .no, .no, .no] := by
    simp only [fnD_a, kSeq_a, kNx_a, kE_a, kAsg_a, kOwn_a, kDrop_a, kRet_a, kRetP_a, kRetF_a, kRetO_a, kRetN_a, kIf_a, kBk_a, kCt_a, kTg_a, kPar_a, kApp_a, kPut_a, kFrz_a, kFor_a, kRaise_a, kDict_a, kDput_a, kClr_a, kNst_a, fLc2_a, yVw_a, view_no, view_dat, view_own, view_scr, xC_a, xV_a, xOp_a, fOp_a, xUn_a, xNot_a, xAnd_a, xOr_a, xIf_a, xChain_a, zNil_a, zCons_a, xTup_a, fLst_a, xL_a, xCB_a, fCB_a, xF_a, xFc_a, fF_a, fFc_a, zApp_a, zKw_a, oNo_a, oAt_a, fSl_a, xSl_a, yV_a, yAnd_a, yOr_a, yNot_a, yYes_a, xIxO_a, xLenO_a, xDg_a, xDin_a, xDnotin_a, iS_a, iA_a, fLc_a, wipeS_nil, wipeS_cons, gN_a, gs0_a, gsC_a, gT_a, gU_a, ownL_a, ownD_a, asB_a, asI_a, asL_a, seqOf_l, seqOf_t, keyD_i, keyD_s, bind_ex, bind_bad, of_none, Rz.bind_ok, Rz.of_some, Rz.calm_ok, Option.bind_some, Option.bind_none, zAddV_i, zSub_i, zLt_i, zLe_i, zGt_i, zGe_i, zEq_i, zNe_i, zEq_r, zNe_r, zIx_r0, zIx_r1, zIx_t, zIx_l, zNeg_i, zLen_l, zLen_t, zAbs_i, zInt_b, zInt_i, zListV_l, zListV_t, zList_l, zList_t, zTuple_l, zTuple_t, zAll_l, zAny_l, zSlV_l, zSlV_t, zIsN_a, zNotN_a, slots, sel, Arg.get, List.filterMap_cons, List.filterMap_nil, List.length_cons, List.length_nil, List.map_cons, List.map_nil, List.cons_append, List.nil_append, List.append_nil, List.getElem?_cons_succ, List.getElem?_cons_zero, List.getElem?_nil, List.set_cons_zero, List.set_cons_succ, List.set_nil, List.replicate_succ, List.replicate_zero, if_true, Nat.sub_self, Nat.reduceAdd, Nat.reduceSub, Nat.reduceLeDiff, Nat.reduceEqDiff, Nat.reduceLT, Int.reduceLT, Int.reduceLE, Int.reduceNeg, Int.reduceEq, Nat.zero_add, and_self, if_false, Bool.not_true, Bool.not_false, Bool.false_eq_true, Nat.zero_le, decide_true, decide_false, reduceCtorEq, hrn, if_pos l2, b3]
  by_cases ht : thin = 1
  · obtain ⟨ps, c1, c2, c3⟩ := lcL_ex (g := gT 2 (gsC (gN 11) (gsC (gN 13) gs0))) (mt := yYes) (me := xFc d__law_times (zCons (xV 11) (zCons (xV 13) zNil))) (ρ := [.dat ds, .dat du, .dat (.int (n : Int)), .dat (.int thin), s4, .dat dk, .dat (.list (own.map .int)), .own (.lst (rows.map encRow)), .dat (.int (r : Int)), .dat (.list (qs.map encR)), .dat (.list (bs.map encR)), .no, .no, .no])
      (enc := fun p : Rat × Rat => PyData.tuple [encR p.1, encR p.2]) (F := fun p ρ => (ρ.set 11 (.dat (encR p.1))).set 13 (.dat (encR p.2))) (dec := encR) okS (qs.zip bs) (fun x _ => rfl) (fun x _ => rfl) (fun p hp => by
        have hpq := zip_mem2 a2 b2 p hp
        have := z__law_times (hpq.1.s.sz) (hpq.2.s.sz) (by omega)
        exact ⟨_, okTB hpq.1 hpq.2, by simp only [fnD_a, kSeq_a, kNx_a, kE_a, kAsg_a, kOwn_a, kDrop_a, kRet_a, kRetP_a, kRetF_a, kRetO_a, kRetN_a, kIf_a, kBk_a, kCt_a, kTg_a, kPar_a, kApp_a, kPut_a, kFrz_a, kFor_a, kRaise_a, kDict_a, kDput_a, kClr_a, kNst_a, fLc2_a, yVw_a, view_no, view_dat, view_own, view_scr, xC_a, xV_a, xOp_a, fOp_a, xUn_a, xNot_a, xAnd_a, xOr_a, xIf_a, xChain_a, zNil_a, zCons_a, xTup_a, fLst_a, xL_a, xCB_a, fCB_a, xF_a, xFc_a, fF_a, fFc_a, zApp_a, zKw_a, oNo_a, oAt_a, fSl_a, xSl_a, yV_a, yAnd_a, yOr_a, yNot_a, yYes_a, xIxO_a, xLenO_a, xDg_a, xDin_a, xDnotin_a, iS_a, iA_a, fLc_a, wipeS_nil, wipeS_cons, gN_a, gs0_a, gsC_a, gT_a, gU_a, ownL_a, ownD_a, asB_a, asI_a, asL_a, seqOf_l, seqOf_t, keyD_i, keyD_s, bind_ex, bind_bad, of_none, Rz.bind_ok, Rz.of_some, Rz.calm_ok, Option.bind_some, Option.bind_none, zAddV_i, zSub_i, zLt_i, zLe_i, zGt_i, zGe_i, zEq_i, zNe_i, zEq_r, zNe_r, zIx_r0, zIx_r1, zIx_t, zIx_l, zNeg_i, zLen_l, zLen_t, zAbs_i, zInt_b, zInt_i, zListV_l, zListV_t, zList_l, zList_t, zTuple_l, zTuple_t, zAll_l, zAny_l, zSlV_l, zSlV_t, zIsN_a, zNotN_a, slots, sel, Arg.get, List.filterMap_cons, List.filterMap_nil, List.length_cons, List.length_nil, List.map_cons, List.map_nil, List.cons_append, List.nil_append, List.append_nil, List.getElem?_cons_succ, List.getElem?_cons_zero, List.getElem?_nil, List.set_cons_zero, List.set_cons_succ, List.set_nil, List.replicate_succ, List.replicate_zero, if_true, Nat.sub_self, Nat.reduceAdd, Nat.reduceSub, Nat.reduceLeDiff, Nat.reduceEqDiff, Nat.reduceLT, Int.reduceLT, Int.reduceLE, Int.reduceNeg, Int.reduceEq, Nat.zero_add, and_self, if_false, Bool.not_true, Bool.not_false, Bool.false_eq_true, Nat.zero_le, decide_true, decide_false, reduceCtorEq, this]⟩)
    have hz : zipO false [.list (qs.map encR), .list (bs.map encR)] = some ((qs.zip bs).map fun p => .tuple [encR p.1, encR p.2]) := by
      rw [zipO_f (ds := qs.map encR) (es := bs.map encR) rfl rfl, zipD_map]
    have l3 : ((qs.zip bs).map fun p : Rat × Rat => PyData.tuple [encR p.1, encR p.2]).length ≤ 1000000 := by rw [List.length_map, List.length_zip]; omega
    refine ⟨ps, [.dat ds, .dat du, .dat (.int (n : Int)), .dat (.int thin), s4, .dat dk, .dat (.list (own.map .int)), .own (.lst (rows.map encRow ++ [encRow ps])), .dat (.int (r : Int)), .dat (.list (ps.map encR)), .dat (.list (bs.map encR)), .no, .no, .no], ⟨by rw [c1, List.length_zip]; omega, c2⟩, ?_, ?_⟩
    · rw [b1__law_menus_a]
      refine seq_step st1 (seq_step st2 (seq_step (ρ' := [.dat ds, .dat du, .dat (.int (n : Int)), .dat (.int thin), s4, .dat dk, .dat (.list (own.map .int)), .own (.lst (rows.map encRow)), .dat (.int (r : Int)), .dat (.list (ps.map encR)), .dat (.list (bs.map encR)), .no, .no, .no]) ?_ ?_))
      · simp only [fnD_a, kSeq_a, kNx_a, kE_a, kAsg_a, kOwn_a, kDrop_a, kRet_a, kRetP_a, kRetF_a, kRetO_a, kRetN_a, kIf_a, kBk_a, kCt_a, kTg_a, kPar_a, kApp_a, kPut_a, kFrz_a, kFor_a, kRaise_a, kDict_a, kDput_a, kClr_a, kNst_a, fLc2_a, yVw_a, view_no, view_dat, view_own, view_scr, xC_a, xV_a, xOp_a, fOp_a, xUn_a, xNot_a, xAnd_a, xOr_a, xIf_a, xChain_a, zNil_a, zCons_a, xTup_a, fLst_a, xL_a, xCB_a, fCB_a, xF_a, xFc_a, fF_a, fFc_a, zApp_a, zKw_a, oNo_a, oAt_a, fSl_a, xSl_a, yV_a, yAnd_a, yOr_a, yNot_a, yYes_a, xIxO_a, xLenO_a, xDg_a, xDin_a, xDnotin_a, iS_a, iA_a, fLc_a, wipeS_nil, wipeS_cons, gN_a, gs0_a, gsC_a, gT_a, gU_a, ownL_a, ownD_a, asB_a, asI_a, asL_a, seqOf_l, seqOf_t, keyD_i, keyD_s, bind_ex, bind_bad, of_none, Rz.bind_ok, Rz.of_some, Rz.calm_ok, Option.bind_some, Option.bind_none, zAddV_i, zSub_i, zLt_i, zLe_i, zGt_i, zGe_i, zEq_i, zNe_i, zEq_r, zNe_r, zIx_r0, zIx_r1, zIx_t, zIx_l, zNeg_i, zLen_l, zLen_t, zAbs_i, zInt_b, zInt_i, zListV_l, zListV_t, zList_l, zList_t, zTuple_l, zTuple_t, zAll_l, zAny_l, zSlV_l, zSlV_t, zIsN_a, zNotN_a, slots, sel, Arg.get, List.filterMap_cons, List.filterMap_nil, List.length_cons, List.length_nil, List.map_cons, List.map_nil, List.cons_append, List.nil_append, List.append_nil, List.getElem?_cons_succ, List.getElem?_cons_zero, List.getElem?_nil, List.set_cons_zero, List.set_cons_succ, List.set_nil, List.replicate_succ, List.replicate_zero, if_true, Nat.sub_self, Nat.reduceAdd, Nat.reduceSub, Nat.reduceLeDiff, Nat.reduceEqDiff, Nat.reduceLT, Int.reduceLT, Int.reduceLE, Int.reduceNeg, Int.reduceEq, Nat.zero_add, and_self, if_false, Bool.not_true, Bool.not_false, Bool.false_eq_true, Nat.zero_le, decide_true, decide_false, reduceCtorEq, decide_eq_true ht, hz, if_pos l3, c3]
      · simp only [fnD_a, kSeq_a, kNx_a, kE_a, kAsg_a, kOwn_a, kDrop_a, kRet_a, kRetP_a, kRetF_a, kRetO_a, kRetN_a, kIf_a, kBk_a, kCt_a, kTg_a, kPar_a, kApp_a, kPut_a, kFrz_a, kFor_a, kRaise_a, kDict_a, kDput_a, kClr_a, kNst_a, fLc2_a, yVw_a, view_no, view_dat, view_own, view_scr, xC_a, xV_a, xOp_a, fOp_a, xUn_a, xNot_a, xAnd_a, xOr_a, xIf_a, xChain_a, zNil_a, zCons_a, xTup_a, fLst_a, xL_a, xCB_a, fCB_a, xF_a, xFc_a, fF_a, fFc_a, zApp_a, zKw_a, oNo_a, oAt_a, fSl_a, xSl_a, yV_a, yAnd_a, yOr_a, yNot_a, yYes_a, xIxO_a, xLenO_a, xDg_a, xDin_a, xDnotin_a, iS_a, iA_a, fLc_a, wipeS_nil, wipeS_cons, gN_a, gs0_a, gsC_a, gT_a, gU_a, ownL_a, ownD_a, asB_a, asI_a, asL_a, seqOf_l, seqOf_t, keyD_i, keyD_s, bind_ex, bind_bad, of_none, Rz.bind_ok, Rz.of_some, Rz.calm_ok, Option.bind_some, Option.bind_none, zAddV_i, zSub_i, zLt_i, zLe_i, zGt_i, zGe_i, zEq_i, zNe_i, zEq_r, zNe_r, zIx_r0, zIx_r1, zIx_t, zIx_l, zNeg_i, zLen_l, zLen_t, zAbs_i, zInt_b, zInt_i, zListV_l, zListV_t, zList_l, zList_t, zTuple_l, zTuple_t, zAll_l, zAny_l, zSlV_l, zSlV_t, zIsN_a, zNotN_a, slots, sel, Arg.get, List.filterMap_cons, List.filterMap_nil, List.length_cons, List.length_nil, List.map_cons, List.map_nil, List.cons_append, List.nil_append, List.append_nil, List.getElem?_cons_succ, List.getElem?_cons_zero, List.getElem?_nil, List.set_cons_zero, List.set_cons_succ, List.set_nil, List.replicate_succ, List.replicate_zero, if_true, Nat.sub_self, Nat.reduceAdd, Nat.reduceSub, Nat.reduceLeDiff, Nat.reduceEqDiff, Nat.reduceLT, Int.reduceLT, Int.reduceLE, Int.reduceNeg, Int.reduceEq, Nat.zero_add, and_self, if_false, Bool.not_true, Bool.not_false, Bool.false_eq_true, Nat.zero_le, decide_true, decide_false, reduceCtorEq, if_pos lr]
        rfl
    · rw [List.map_append]; rfl
  · refine ⟨qs, [.dat ds, .dat du, .dat (.int (n : Int)), .dat (.int thin), s4, .dat dk, .dat (.list (own.map .int)), .own (.lst (rows.map encRow ++ [encRow qs])), .dat (.int (r : Int)), .dat (.list (qs.map encR)), .dat (.list (bs.map encR)), .no, .no, .no], ⟨by rw [a1, y1], fun q hq => (a2 q hq).s⟩, ?_, ?_⟩
    · rw [b1__law_menus_a]
      refine seq_step st1 (seq_step st2 (seq_step (ρ' := [.dat ds, .dat du, .dat (.int (n : Int)), .dat (.int thin), s4, .dat dk, .dat (.list (own.map .int)), .own (.lst (rows.map encRow)), .dat (.int (r : Int)), .dat (.list (qs.map encR)), .dat (.list (bs.map encR)), .no, .no, .no]) ?_ ?_))
      · simp only [fnD_a, kSeq_a, kNx_a, kE_a, kAsg_a, kOwn_a, kDrop_a, kRet_a, kRetP_a, kRetF_a, kRetO_a, kRetN_a, kIf_a, kBk_a, kCt_a, kTg_a, kPar_a, kApp_a, kPut_a, kFrz_a, kFor_a, kRaise_a, kDict_a, kDput_a, kClr_a, kNst_a, fLc2_a, yVw_a, view_no, view_dat, view_own, view_scr, xC_a, xV_a, xOp_a, fOp_a, xUn_a, xNot_a, xAnd_a, xOr_a, xIf_a, xChain_a, zNil_a, zCons_a, xTup_a, fLst_a, xL_a, xCB_a, fCB_a, xF_a, xFc_a, fF_a, fFc_a, zApp_a, zKw_a, oNo_a, oAt_a, fSl_a, xSl_a, yV_a, yAnd_a, yOr_a, yNot_a, yYes_a, xIxO_a, xLenO_a, xDg_a, xDin_a, xDnotin_a, iS_a, iA_a, fLc_a, wipeS_nil, wipeS_cons, gN_a, gs0_a, gsC_a, gT_a, gU_a, ownL_a, ownD_a, asB_a, asI_a, asL_a, seqOf_l, seqOf_t, keyD_i, keyD_s, bind_ex, bind_bad, of_none, Rz.bind_ok, Rz.of_some, Rz.calm_ok, Option.bind_some, Option.bind_none, zAddV_i, zSub_i, zLt_i, zLe_i, zGt_i, zGe_i, zEq_i, zNe_i, zEq_r, zNe_r, zIx_r0, zIx_r1, zIx_t, zIx_l, zNeg_i, zLen_l, zLen_t, zAbs_i, zInt_b, zInt_i, zListV_l, zListV_t, zList_l, zList_t, zTuple_l, zTuple_t, zAll_l, zAny_l, zSlV_l, zSlV_t, zIsN_a, zNotN_a, slots, sel, Arg.get, List.filterMap_cons, List.filterMap_nil, List.length_cons, List.length_nil, List.map_cons, List.map_nil, List.cons_append, List.nil_append, List.append_nil, List.getElem?_cons_succ, List.getElem?_cons_zero, List.getElem?_nil, List.set_cons_zero, List.set_cons_succ, List.set_nil, List.replicate_succ, List.replicate_zero, if_true, Nat.sub_self, Nat.reduceAdd, Nat.reduceSub, Nat.reduceLeDiff, Nat.reduceEqDiff, Nat.reduceLT, Int.reduceLT, Int.reduceLE, Int.reduceNeg, Int.reduceEq, Nat.zero_add, and_self, if_false, Bool.not_true, Bool.not_false, Bool.false_eq_true, Nat.zero_le, decide_true, decide_false, reduceCtorEq, decide_eq_false ht]
      · simp only [fnD_a, kSeq_a, kNx_a, kE_a, kAsg_a, kOwn_a, kDrop_a, kRet_a, kRetP_a, kRetF_a, kRetO_a, kRetN_a, kIf_a, kBk_a, kCt_a, kTg_a, kPar_a, kApp_a, kPut_a, kFrz_a, kFor_a, kRaise_a, kDict_a, kDput_a, kClr_a, kNst_a, fLc2_a, yVw_a, view_no, view_dat, view_own, view_scr, xC_a, xV_a, xOp_a, fOp_a, xUn_a, xNot_a, xAnd_a, xOr_a, xIf_a, xChain_a, zNil_a, zCons_a, xTup_a, fLst_a, xL_a, xCB_a, fCB_a, xF_a, xFc_a, fF_a, fFc_a, zApp_a, zKw_a, oNo_a, oAt_a, fSl_a, xSl_a, yV_a, yAnd_a, yOr_a, yNot_a, yYes_a, xIxO_a, xLenO_a, xDg_a, xDin_a, xDnotin_a, iS_a, iA_a, fLc_a, wipeS_nil, wipeS_cons, gN_a, gs0_a, gsC_a, gT_a, gU_a, ownL_a, ownD_a, asB_a, asI_a, asL_a, seqOf_l, seqOf_t, keyD_i, keyD_s, bind_ex, bind_bad, of_none, Rz.bind_ok, Rz.of_some, Rz.calm_ok, Option.bind_some, Option.bind_none, zAddV_i, zSub_i, zLt_i, zLe_i, zGt_i, zGe_i, zEq_i, zNe_i, zEq_r, zNe_r, zIx_r0, zIx_r1, zIx_t, zIx_l, zNeg_i, zLen_l, zLen_t, zAbs_i, zInt_b, zInt_i, zListV_l, zListV_t, zList_l, zList_t, zTuple_l, zTuple_t, zAll_l, zAny_l, zSlV_l, zSlV_t, zIsN_a, zNotN_a, slots, sel, Arg.get, List.filterMap_cons, List.filterMap_nil, List.length_cons, List.length_nil, List.map_cons, List.map_nil, List.cons_append, List.nil_append, List.append_nil, List.getElem?_cons_succ, List.getElem?_cons_zero, List.getElem?_nil, List.set_cons_zero, List.set_cons_succ, List.set_nil, List.replicate_succ, List.replicate_zero, if_true, Nat.sub_self, Nat.reduceAdd, Nat.reduceSub, Nat.reduceLeDiff, Nat.reduceEqDiff, Nat.reduceLT, Int.reduceLT, Int.reduceLE, Int.reduceNeg, Int.reduceEq, Nat.zero_add, and_self, if_false, Bool.not_true, Bool.not_false, Bool.false_eq_true, Nat.zero_le, decide_true, decide_false, reduceCtorEq, if_pos lr]
        rfl
    · rw [List.map_append]; rfl
theorem z_menus_menu {d : List Int} {du : PyData} {n k : Nat} {thin : Int} {ms : List Menu} (hn : n ≤ 5) (hd : 21 + 20 * k ≤ d.length) (hms : ms.length ≤ 5) : ∃ m ρ', okMenu n m ∧
    b2__law_menus [.dat (.list (d.map .int)), .dat du, .dat (.int (n : Int)), .dat (.int thin), .own (.lst (ms.map encMenu)), .dat (.int (k : Int)), .no, .no, .no, .no, .no, .no, .no, .no] = .nx ρ' ∧
    wipeS ρ' [5, 6, 7, 8, 9, 10] = [.dat (.list (d.map .int)), .dat du, .dat (.int (n : Int)), .dat (.int thin), .own (.lst ((ms ++ [m]).map encMenu)), .no, .no, .no, .no, .no, .no, .no, .no, .no] := by
  obtain ⟨own, y1, y2, y3⟩ := cut_map (xs := d) (i := 1 + 20 * (k : Int)) (j := 21 + 20 * (k : Int)) (by omega) (by omega) (by omega)
  have y1 : own.length = 20 := by omega
  have m20 : zMulV (.int 20) (.int (k : Int)) = some (.int (20 * (k : Int))) := zMulV_l (by decide)
  have i0 := at_nthI (xs := own) (i := 0) (by decide) (by omega)
  have i1 := at_nthI (xs := own) (i := 1) (by decide) (by omega)
  have k0 := fmod_in (a := nthI own 0) (b := 2) (by decide)
  have k1 := fmod_in (a := nthI own 1) (b := 3) (by decide)
  obtain ⟨R, hR⟩ : ∃ R : Nat, 1 + (nthI own 1).fmod 3 = (R : Int) := ⟨(1 + (nthI own 1).fmod 3).toNat, by omega⟩
  have hr : rng1 [.int (R : Int)] = some ((List.range R).map natD) := by rw [rng1_n (by omega), rgD_map]; rfl
  obtain ⟨ρ', h1, rows, h2, h3, h4⟩ := forL_ex (g := gN 8) (wp := [8, 9, 10]) (b := b1__law_menus) (enc := natD) (F := fun k ρ => ρ.set 8 (.dat (natD k)))
    (fun i ρ => ∃ rows : List (List Rat), rows.length = i ∧ (∀ r ∈ rows, okRow n r) ∧ ρ = [.dat (.list (d.map .int)), .dat du, .dat (.int (n : Int)), .dat (.int thin), .own (.lst (ms.map encMenu)), .dat (.int (k : Int)), .dat (.list (own.map .int)), .own (.lst (rows.map encRow)), .no, .no, .no, .no, .no, .no]) (List.range R) 0
    [.dat (.list (d.map .int)), .dat du, .dat (.int (n : Int)), .dat (.int thin), .own (.lst (ms.map encMenu)), .dat (.int (k : Int)), .dat (.list (own.map .int)), .own (.lst []), .no, .no, .no, .no, .no, .no] (fun k _ => rfl) ⟨[], rfl, (fun q hq => by cases hq), rfl⟩ (fun i j ρ hi hp => by
      obtain ⟨rows, q1, q2, rfl⟩ := hp
      obtain ⟨hk1, hk2⟩ := List.getElem?_eq_some_iff.mp hi
      rw [List.getElem_range] at hk2
      rw [List.length_range] at hk1
      subst hk2
      obtain ⟨row, ρ', a1, a2, a3⟩ := z_menus_row (own := own) (ds := .list (d.map .int)) (du := du) (dk := .int (k : Int)) (s4 := .own (.lst (ms.map encMenu))) (thin := thin) (r := i) (rows := rows) hn y1 (by omega) (by omega)
      exact ⟨ρ', a2, rows ++ [row], by simp [q1], mem_app1 q2 a1, a3⟩)
  subst h4
  rw [Nat.zero_add, List.length_range] at h2
  have hb : ∃ b : Bool, atI [PyData.str "we", .str "weather"] ((nthI own 0).fmod 2) = some (whoD b) := by
    have hz : (nthI own 0).fmod 2 = 0 ∨ (nthI own 0).fmod 2 = 1 := by omega
    rcases hz with z | z <;> rw [z]
    · exact ⟨false, rfl⟩
    · exact ⟨true, rfl⟩
  obtain ⟨b, hb⟩ := hb
  have lm : (ms.map encMenu).length < 1000000 := by rw [List.length_map]; omega
  have f1 : kFor (iA rng1 (zCons (xOp zAddV (xC (.int 1)) (xOp zMod (xOp zIx (xV 6) (xC (.int 1))) (xC (.int 3)))) zNil)) (gN 8) [8, 9, 10] b1__law_menus [.dat (.list (d.map .int)), .dat du, .dat (.int (n : Int)), .dat (.int thin), .own (.lst (ms.map encMenu)), .dat (.int (k : Int)), .dat (.list (own.map .int)), .own (.lst []), .no, .no, .no, .no, .no, .no] = .nx [.dat (.list (d.map .int)), .dat du, .dat (.int (n : Int)), .dat (.int thin), .own (.lst (ms.map encMenu)), .dat (.int (k : Int)), .dat (.list (own.map .int)), .own (.lst (rows.map encRow)), .no, .no, .no, .no, .no, .no] := by
    simp only [fnD_a, kSeq_a, kNx_a, kE_a, kAsg_a, kOwn_a, kDrop_a, kRet_a, kRetP_a, kRetF_a, kRetO_a, kRetN_a, kIf_a, kBk_a, kCt_a, kTg_a, kPar_a, kApp_a, kPut_a, kFrz_a, kFor_a, kRaise_a, kDict_a, kDput_a, kClr_a, kNst_a, fLc2_a, yVw_a, view_no, view_dat, view_own, view_scr, xC_a, xV_a, xOp_a, fOp_a, xUn_a, xNot_a, xAnd_a, xOr_a, xIf_a, xChain_a, zNil_a, zCons_a, xTup_a, fLst_a, xL_a, xCB_a, fCB_a, xF_a, xFc_a, fF_a, fFc_a, zApp_a, zKw_a, oNo_a, oAt_a, fSl_a, xSl_a, yV_a, yAnd_a, yOr_a, yNot_a, yYes_a, xIxO_a, xLenO_a, xDg_a, xDin_a, xDnotin_a, iS_a, iA_a, fLc_a, wipeS_nil, wipeS_cons, gN_a, gs0_a, gsC_a, gT_a, gU_a, ownL_a, ownD_a, asB_a, asI_a, asL_a, seqOf_l, seqOf_t, keyD_i, keyD_s, bind_ex, bind_bad, of_none, Rz.bind_ok, Rz.of_some, Rz.calm_ok, Option.bind_some, Option.bind_none, zAddV_i, zSub_i, zLt_i, zLe_i, zGt_i, zGe_i, zEq_i, zNe_i, zEq_r, zNe_r, zIx_r0, zIx_r1, zIx_t, zIx_l, zNeg_i, zLen_l, zLen_t, zAbs_i, zInt_b, zInt_i, zListV_l, zListV_t, zList_l, zList_t, zTuple_l, zTuple_t, zAll_l, zAny_l, zSlV_l, zSlV_t, zIsN_a, zNotN_a, slots, sel, Arg.get, List.filterMap_cons, List.filterMap_nil, List.length_cons, List.length_nil, List.map_cons, List.map_nil, List.cons_append, List.nil_append, List.append_nil, List.getElem?_cons_succ, List.getElem?_cons_zero, List.getElem?_nil, List.set_cons_zero, List.set_cons_succ, List.set_nil, List.replicate_succ, List.replicate_zero, if_true, Nat.sub_self, Nat.reduceAdd, Nat.reduceSub, Nat.reduceLeDiff, Nat.reduceEqDiff, Nat.reduceLT, Int.reduceLT, Int.reduceLE, Int.reduceNeg, Int.reduceEq, Nat.zero_add, and_self, if_false, Bool.not_true, Bool.not_false, Bool.false_eq_true, Nat.zero_le, decide_true, decide_false, reduceCtorEq, i1, zMod_i (show (3 : Int) ≠ 0 by decide), hR, hr]
    exact h1
  refine ⟨(b, rows), [.dat (.list (d.map .int)), .dat du, .dat (.int (n : Int)), .dat (.int thin), .own (.lst (ms.map encMenu ++ [encMenu (b, rows)])), .dat (.int (k : Int)), .dat (.list (own.map .int)), .dat (.list (rows.map encRow)), .no, .no, .no, .no, .no, .no], ⟨by show 1 ≤ rows.length; omega, by show rows.length ≤ 3; omega, h3⟩, ?_, ?_⟩
  · simp only [fnD_a, kSeq_a, kNx_a, kE_a, kAsg_a, kOwn_a, kDrop_a, kRet_a, kRetP_a, kRetF_a, kRetO_a, kRetN_a, kIf_a, kBk_a, kCt_a, kTg_a, kPar_a, kApp_a, kPut_a, kFrz_a, kRaise_a, kDict_a, kDput_a, kClr_a, kNst_a, fLc2_a, yVw_a, view_no, view_dat, view_own, view_scr, xC_a, xV_a, xOp_a, fOp_a, xUn_a, xNot_a, xAnd_a, xOr_a, xIf_a, xChain_a, zNil_a, zCons_a, xTup_a, fLst_a, xL_a, xCB_a, fCB_a, xF_a, xFc_a, fF_a, fFc_a, zApp_a, zKw_a, oNo_a, oAt_a, fSl_a, xSl_a, yV_a, yAnd_a, yOr_a, yNot_a, yYes_a, xIxO_a, xLenO_a, xDg_a, xDin_a, xDnotin_a, iS_a, iA_a, fLc_a, wipeS_nil, wipeS_cons, gN_a, gs0_a, gsC_a, gT_a, gU_a, ownL_a, ownD_a, asB_a, asI_a, asL_a, seqOf_l, seqOf_t, keyD_i, keyD_s, bind_ex, bind_bad, of_none, Rz.bind_ok, Rz.of_some, Rz.calm_ok, Option.bind_some, Option.bind_none, zAddV_i, zSub_i, zLt_i, zLe_i, zGt_i, zGe_i, zEq_i, zNe_i, zEq_r, zNe_r, zIx_r0, zIx_r1, zIx_t, zIx_l, zNeg_i, zLen_l, zLen_t, zAbs_i, zInt_b, zInt_i, zListV_l, zListV_t, zList_l, zList_t, zTuple_l, zTuple_t, zAll_l, zAny_l, zSlV_l, zSlV_t, zIsN_a, zNotN_a, slots, sel, Arg.get, List.filterMap_cons, List.filterMap_nil, List.length_cons, List.length_nil, List.map_cons, List.map_nil, List.cons_append, List.nil_append, List.append_nil, List.getElem?_cons_succ, List.getElem?_cons_zero, List.getElem?_nil, List.set_cons_zero, List.set_cons_succ, List.set_nil, List.replicate_succ, List.replicate_zero, if_true, Nat.sub_self, Nat.reduceAdd, Nat.reduceSub, Nat.reduceLeDiff, Nat.reduceEqDiff, Nat.reduceLT, Int.reduceLT, Int.reduceLE, Int.reduceNeg, Int.reduceEq, Nat.zero_add, and_self, if_false, Bool.not_true, Bool.not_false, Bool.false_eq_true, Nat.zero_le, decide_true, decide_false, reduceCtorEq, b2__law_menus_a, m20, y3, f1, i0, zMod_i (show (2 : Int) ≠ 0 by decide), hb, if_pos lm]
    rfl
  · rw [List.map_append]; rfl
theorem z__law_menus {d : List Int} {upto : Nat} (hu1 : 1 ≤ upto) (hu5 : upto ≤ 5) (hl : 1 + 20 * upto ≤ d.length) : ∃ ms : List Menu, okBook ms ∧ ms.length ≤ upto ∧ d__law_menus [.list (d.map .int), .int (upto : Int)] = .ok (encBook ms) := by
  have i0 := at_nthI (xs := d) (i := 0) (by decide) (by omega)
  have k1 := fmod_in (a := nthI d 0) (b := (upto : Int)) (by omega)
  obtain ⟨n, hn⟩ : ∃ n : Nat, 1 + (nthI d 0).fmod (upto : Int) = (n : Int) := ⟨(1 + (nthI d 0).fmod (upto : Int)).toNat, by omega⟩
  generalize hthin : ((nthI d 0).fdiv (upto : Int)).fmod 2 = thin
  obtain ⟨ρ', h1, ms, h2, h3, h4⟩ := forL_ex (g := gN 5) (wp := [5, 6, 7, 8, 9, 10]) (b := b2__law_menus) (enc := natD) (F := fun k ρ => ρ.set 5 (.dat (natD k)))
    (fun i ρ => ∃ ms : List Menu, ms.length = i ∧ (∀ m ∈ ms, okMenu n m) ∧ ρ = [.dat (.list (d.map .int)), .dat (.int (upto : Int)), .dat (.int (n : Int)), .dat (.int thin), .own (.lst (ms.map encMenu)), .no, .no, .no, .no, .no, .no, .no, .no, .no]) (List.range n) 0
    [.dat (.list (d.map .int)), .dat (.int (upto : Int)), .dat (.int (n : Int)), .dat (.int thin), .own (.lst []), .no, .no, .no, .no, .no, .no, .no, .no, .no] (fun k _ => rfl) ⟨[], rfl, (fun q hq => by cases hq), rfl⟩ (fun i j ρ hi hp => by
      obtain ⟨ms, q1, q2, rfl⟩ := hp
      obtain ⟨hk1, hk2⟩ := List.getElem?_eq_some_iff.mp hi
      rw [List.getElem_range] at hk2
      rw [List.length_range] at hk1
      subst hk2
      obtain ⟨m, ρ', a1, a2, a3⟩ := z_menus_menu (d := d) (du := .int (upto : Int)) (n := n) (k := i) (thin := thin) (ms := ms) (by omega) (by omega) (by omega)
      exact ⟨ρ', a2, ms ++ [m], by simp [q1], mem_app1 q2 a1, a3⟩)
  subst h4
  rw [Nat.zero_add, List.length_range] at h2
  refine ⟨ms, ⟨by omega, by omega, by rw [h2]; exact h3⟩, by omega, ?_⟩
  have hr : rng1 [.int (n : Int)] = some ((List.range n).map natD) := by rw [rng1_n (by omega), rgD_map]; rfl
  have f1 : kFor (iA rng1 (zCons (xV 2) zNil)) (gN 5) [5, 6, 7, 8, 9, 10] b2__law_menus [.dat (.list (d.map .int)), .dat (.int (upto : Int)), .dat (.int (n : Int)), .dat (.int thin), .own (.lst []), .no, .no, .no, .no, .no, .no, .no, .no, .no] = .nx [.dat (.list (d.map .int)), .dat (.int (upto : Int)), .dat (.int (n : Int)), .dat (.int thin), .own (.lst (ms.map encMenu)), .no, .no, .no, .no, .no, .no, .no, .no, .no] := by
    simp only [fnD_a, kSeq_a, kNx_a, kE_a, kAsg_a, kOwn_a, kDrop_a, kRet_a, kRetP_a, kRetF_a, kRetO_a, kRetN_a, kIf_a, kBk_a, kCt_a, kTg_a, kPar_a, kApp_a, kPut_a, kFrz_a, kFor_a, kRaise_a, kDict_a, kDput_a, kClr_a, kNst_a, fLc2_a, yVw_a, view_no, view_dat, view_own, view_scr, xC_a, xV_a, xOp_a, fOp_a, xUn_a, xNot_a, xAnd_a, xOr_a, xIf_a, xChain_a, zNil_a, zCons_a, xTup_a, fLst_a, xL_a, xCB_a, fCB_a, xF_a, xFc_a, fF_a, fFc_a, zApp_a, zKw_a, oNo_a, oAt_a, fSl_a, xSl_a, yV_a, yAnd_a, yOr_a, yNot_a, yYes_a, xIxO_a, xLenO_a, xDg_a, xDin_a, xDnotin_a, iS_a, iA_a, fLc_a, wipeS_nil, wipeS_cons, gN_a, gs0_a, gsC_a, gT_a, gU_a, ownL_a, ownD_a, asB_a, asI_a, asL_a, seqOf_l, seqOf_t, keyD_i, keyD_s, bind_ex, bind_bad, of_none, Rz.bind_ok, Rz.of_some, Rz.calm_ok, Option.bind_some, Option.bind_none, zAddV_i, zSub_i, zLt_i, zLe_i, zGt_i, zGe_i, zEq_i, zNe_i, zEq_r, zNe_r, zIx_r0, zIx_r1, zIx_t, zIx_l, zNeg_i, zLen_l, zLen_t, zAbs_i, zInt_b, zInt_i, zListV_l, zListV_t, zList_l, zList_t, zTuple_l, zTuple_t, zAll_l, zAny_l, zSlV_l, zSlV_t, zIsN_a, zNotN_a, slots, sel, Arg.get, List.filterMap_cons, List.filterMap_nil, List.length_cons, List.length_nil, List.map_cons, List.map_nil, List.cons_append, List.nil_append, List.append_nil, List.getElem?_cons_succ, List.getElem?_cons_zero, List.getElem?_nil, List.set_cons_zero, List.set_cons_succ, List.set_nil, List.replicate_succ, List.replicate_zero, if_true, Nat.sub_self, Nat.reduceAdd, Nat.reduceSub, Nat.reduceLeDiff, Nat.reduceEqDiff, Nat.reduceLT, Int.reduceLT, Int.reduceLE, Int.reduceNeg, Int.reduceEq, Nat.zero_add, and_self, if_false, Bool.not_true, Bool.not_false, Bool.false_eq_true, Nat.zero_le, decide_true, decide_false, reduceCtorEq, hr]
    exact h1
  simp only [fnD_a, kSeq_a, kNx_a, kE_a, kAsg_a, kOwn_a, kDrop_a, kRet_a, kRetP_a, kRetF_a, kRetO_a, kRetN_a, kIf_a, kBk_a, kCt_a, kTg_a, kPar_a, kApp_a, kPut_a, kFrz_a, kRaise_a, kDict_a, kDput_a, kClr_a, kNst_a, fLc2_a, yVw_a, view_no, view_dat, view_own, view_scr, xC_a, xV_a, xOp_a, fOp_a, xUn_a, xNot_a, xAnd_a, xOr_a, xIf_a, xChain_a, zNil_a, zCons_a, xTup_a, fLst_a, xL_a, xCB_a, fCB_a, xF_a, xFc_a, fF_a, fFc_a, zApp_a, zKw_a, oNo_a, oAt_a, fSl_a, xSl_a, yV_a, yAnd_a, yOr_a, yNot_a, yYes_a, xIxO_a, xLenO_a, xDg_a, xDin_a, xDnotin_a, iS_a, iA_a, fLc_a, wipeS_nil, wipeS_cons, gN_a, gs0_a, gsC_a, gT_a, gU_a, ownL_a, ownD_a, asB_a, asI_a, asL_a, seqOf_l, seqOf_t, keyD_i, keyD_s, bind_ex, bind_bad, of_none, Rz.bind_ok, Rz.of_some, Rz.calm_ok, Option.bind_some, Option.bind_none, zAddV_i, zSub_i, zLt_i, zLe_i, zGt_i, zGe_i, zEq_i, zNe_i, zEq_r, zNe_r, zIx_r0, zIx_r1, zIx_t, zIx_l, zNeg_i, zLen_l, zLen_t, zAbs_i, zInt_b, zInt_i, zListV_l, zListV_t, zList_l, zList_t, zTuple_l, zTuple_t, zAll_l, zAny_l, zSlV_l, zSlV_t, zIsN_a, zNotN_a, slots, sel, Arg.get, List.filterMap_cons, List.filterMap_nil, List.length_cons, List.length_nil, List.map_cons, List.map_nil, List.cons_append, List.nil_append, List.append_nil, List.getElem?_cons_succ, List.getElem?_cons_zero, List.getElem?_nil, List.set_cons_zero, List.set_cons_succ, List.set_nil, List.replicate_succ, List.replicate_zero, if_true, Nat.sub_self, Nat.reduceAdd, Nat.reduceSub, Nat.reduceLeDiff, Nat.reduceEqDiff, Nat.reduceLT, Int.reduceLT, Int.reduceLE, Int.reduceNeg, Int.reduceEq, Nat.zero_add, and_self, if_false, Bool.not_true, Bool.not_false, Bool.false_eq_true, Nat.zero_le, decide_true, decide_false, reduceCtorEq, d__law_menus, m__law_menus, i0, zMod_i (show (upto : Int) ≠ 0 by omega), zMod_i (show (2 : Int) ≠ 0 by decide), zFd_i (show (0 : Int) < (upto : Int) by omega) (by omega), hn, hthin, f1]
  rfl
/-! ### tried, same -/
theorem xTry_a (w : Exn → Option Str) (m : ME) (ρ : List Slot) : xTry w m ρ = tryD w (m ρ) := nr rfl
theorem tryD_ok (w : Exn → Option Str) (d : PyData) : tryD w (.ok d) = .ok (.tuple [d, .str ""]) := nr rfl
theorem tryD_ex {x : Exn} {s : Str} (h : wTry x = some s) : tryD wTry (.ex x) = .ok (.tuple [.none, .str s]) := by
  unfold tryD
  simp only [h]
theorem same_ok {d : PyData} (h : Pl 8 d) : dRel Rsame8 [d, d] = .ok (.bool true) := by
  have e : ∃ r, Rsame8 [d, d] r := ⟨.bool true, d, h, by decide, rfl, rfl⟩
  unfold dRel
  rw [dif_pos e]
  obtain ⟨d', _, _, _, z⟩ := e.choose_spec
  rw [z]
theorem wTry_of {x : String} {c : ErC} {s : Str} (h1 : erFind x = some c) (h2 : (subE c ec_BadText || subE c ec_Broken) = false ∧ subE c ec_LullError = true) (h3 : d__law_word [.list (flL c)] = .ok (.str s)) : wTry ⟨x, []⟩ = some s := by
  unfold wTry
  rw [if_pos rfl, h1]
  show wCls c = _
  unfold wCls
  rw [if_pos h2, h3]
  rfl
theorem pl_str {n : Nat} (x : Str) (h : (PyData.str x).canLay0 = true := by kernel_rfl) : Pl n (.str x) := .str h
theorem pl_encR {n : Nat} (q : Rat) : Pl (n + 1) (encR q) := .tuple (by simp) fun d hd => by
  rcases List.mem_cons.mp hd with z | z
  · subst z; exact .int _
  · rw [List.mem_singleton.mp z]; exact .int _
theorem pl_two {n : Nat} {a b : PyData} (ha : Pl n a) (hb : Pl n b) : Pl (n + 1) (.tuple [a, b]) := .tuple (by simp) fun d hd => by
  rcases List.mem_cons.mp hd with z | z
  · subst z; exact ha
  · rw [List.mem_singleton.mp z]; exact hb
/-! ### lists, slices -/
theorem cut_upto (ds : List PyData) (k : Nat) (h : k ≤ ds.length) : cutD ds none (some (k : Int)) = ds.take k := by
  unfold cutD
  rw [HT.sIx_nat, HT.sIx_none, Nat.min_eq_left h, List.drop_zero, Nat.sub_zero]
theorem cut_tail (ds : List PyData) (h : 1 ≤ ds.length) : cutD ds (some 1) none = ds.drop 1 := cut_from ds 1 h
theorem cut_uptoM {α : Type} {f : α → PyData} {xs : List α} {i : Int} (h0 : 0 ≤ i) (h : i ≤ xs.length) : cutD (xs.map f) none (some i) = (xs.take i.toNat).map f := by
  obtain ⟨k, rfl⟩ := Int.eq_ofNat_of_zero_le h0
  rw [cut_upto _ k (by rw [List.length_map]; omega), List.map_take]
  rfl
theorem cut_fromM {α : Type} {f : α → PyData} {xs : List α} {i : Int} (h0 : 0 ≤ i) (h : i ≤ xs.length) : cutD (xs.map f) (some i) none = (xs.drop i.toNat).map f := by
  obtain ⟨k, rfl⟩ := Int.eq_ofNat_of_zero_le h0
  rw [cut_from _ k (by rw [List.length_map]; omega), List.map_drop]
  rfl
theorem cut_last (ds : List PyData) : cutD ds none (some (-1)) = ds.dropLast := by
  unfold cutD
  rw [HT.sIx_none, List.drop_zero, Nat.sub_zero, List.dropLast_eq_take]
  congr 1
  show (if (-1 : Int) < 0 then ((-1 : Int) + (ds.length : Int)).toNat else min (-1 : Int).toNat ds.length) = _
  rw [if_pos (by decide)]
  omega
theorem zMulT_one {d : PyData} {n : Nat} (h1 : 1 ≤ n) (h : n ≤ 1000) : zMulT (.tuple [d]) (.int (n : Int)) = some (.tuple (List.replicate n d)) := by
  unfold zMulT
  by_cases e : n = 1
  · subst e
    rfl
  · have e1 : (([d] : List PyData).isEmpty || ((n : Int) == 1)) = false := by
      rw [show ([d] : List PyData).isEmpty = false from rfl, Bool.false_or]
      exact beq_eq_false_iff_ne.mpr (by omega)
    simp only [e1, Bool.false_and, Bool.false_eq_true, if_false]
    rw [if_pos (by simp only [Bool.and_eq_true, decide_eq_true_eq, List.length_cons, List.length_nil]; omega)]
    rw [Int.toNat_natCast]
    congr 2
    clear e1 e h h1
    induction n with
    | zero => rfl
    | succ n ih => rw [List.replicate_succ, List.flatten_cons, ih, List.replicate_succ]; rfl
theorem zEq_self {d : PyData} {n : Nat} (h : ShD n d) (hn : n ≤ 64) : zEq d d = some (.bool true) := by
  rw [zEq_sh (h.shaped hn) (h.shaped hn), h.refl]
theorem zNe_self' {d : PyData} {n : Nat} (h : ShD n d) (hn : n ≤ 64) : zNe d d = some (.bool false) := by
  rw [zNe_sh (h.shaped hn) (h.shaped hn), h.refl]
  rfl
theorem pl_list {α : Type} {f : α → PyData} {xs : List α} {n : Nat} (hl : xs.length ≤ 1000000) (h : ∀ x ∈ xs, Pl n (f x)) : Pl (n + 1) (.list (xs.map f)) := .list (by rw [List.length_map]; exact hl) fun d hd => by
  obtain ⟨x, hx, rfl⟩ := List.mem_map.mp hd
  exact h x hx
theorem pl_tuple {α : Type} {f : α → PyData} {xs : List α} {n : Nat} (hl : xs.length ≤ 1000000) (h : ∀ x ∈ xs, Pl n (f x)) : Pl (n + 1) (.tuple (xs.map f)) := .tuple (by rw [List.length_map]; exact hl) fun d hd => by
  obtain ⟨x, hx, rfl⟩ := List.mem_map.mp hd
  exact h x hx
theorem pl_rats {n : Nat} {qs : List Rat} (h : qs.length ≤ 1000000) : Pl (n + 2) (.list (qs.map encR)) := pl_list h fun q _ => pl_encR q
theorem pl_plan {n : Nat} {p : List Int} (h : p.length ≤ 1000000) : Pl (n + 1) (planD p) := pl_tuple h fun q _ => .int q
theorem range_getD {α β : Type} (f : α → β) (d : α) : ∀ (xs : List α), (List.range xs.length).map (fun i => f (xs.getD i d)) = xs.map f
  | [] => rfl
  | x :: xs => by
    rw [List.length_cons, List.range_succ_eq_map, List.map_cons, List.map_map, List.map_cons]
    congr 1
    exact range_getD f d xs
theorem forL_bad {α : Type} {g : MG} {wp : List Nat} {b : MS} {enc : α → PyData} {F : α → List Slot → List Slot} {ρ : List Slot} {e : Exn} {x : α} {post : List α} : ∀ {pre : List α}, (∀ y ∈ pre, g (enc y) = some (F y)) → g (enc x) = some (F x) → (∀ y ∈ pre, ∃ ρ', b (F y ρ) = .nx ρ' ∧ wipeS ρ' wp = ρ) → (∃ ρ', b (F x ρ) = .ex e ρ') →
    ∃ ρ', forL g wp b ((pre ++ x :: post).map enc) ρ = .ex e ρ'
  | [], _, hx, _, hb => by
    obtain ⟨ρ', e1⟩ := hb
    refine ⟨ρ', ?_⟩
    rw [List.nil_append, List.map_cons, forL_cons, hx]
    simp only [e1]
  | y :: pre, h1, hx, h2, hb => by
    obtain ⟨ρ1, e1, e2⟩ := h2 y (List.mem_cons_self ..)
    obtain ⟨ρ', e3⟩ := forL_bad (pre := pre) (post := post) (fun z hz => h1 z (List.mem_cons_of_mem _ hz)) hx (fun z hz => h2 z (List.mem_cons_of_mem _ hz)) hb
    refine ⟨ρ', ?_⟩
    rw [List.cons_append, List.map_cons, forL_cons, h1 y (List.mem_cons_self ..)]
    simp only [e1, e2]
    exact e3
theorem forL_findX {α β : Type} {g : MG} {wp : List Nat} {b : MS} {enc : α → PyData} {F : α → List Slot → List Slot} {ρ : List Slot} {f : α → Option β} {e : β → Exn} : ∀ {xs : List α}, (∀ x ∈ xs, g (enc x) = some (F x)) → (∀ x ∈ xs, match f x with | none => ∃ ρ', b (F x ρ) = .nx ρ' ∧ wipeS ρ' wp = ρ | some c => ∃ ρ', b (F x ρ) = .ex (e c) ρ') →
    ∃ ρ', forL g wp b (xs.map enc) ρ = match xs.findSome? f with | none => .nx ρ | some c => .ex (e c) ρ'
  | [], _, _ => ⟨ρ, rfl⟩
  | x :: xs, h1, h2 => by
    have hx := h2 x (List.mem_cons_self ..)
    obtain ⟨ρ1, ih⟩ := forL_findX (xs := xs) (fun y hy => h1 y (List.mem_cons_of_mem _ hy)) (fun y hy => h2 y (List.mem_cons_of_mem _ hy))
    rw [List.map_cons, forL_cons, h1 x (List.mem_cons_self ..), List.findSome?_cons]
    cases hf : f x with
    | none =>
      rw [hf] at hx
      obtain ⟨ρ', e1, e2⟩ := hx
      refine ⟨ρ1, ?_⟩
      simp only [e1, e2]
      exact ih
    | some c =>
      rw [hf] at hx
      obtain ⟨ρ', e1⟩ := hx
      refine ⟨ρ', ?_⟩
      simp only [e1]
theorem forL_findR {α β : Type} {g : MG} {wp : List Nat} {b : MS} {enc : α → PyData} {F : α → List Slot → List Slot} {ρ : List Slot} {f : α → Option β} {e : β → PyData} : ∀ {xs : List α}, (∀ x ∈ xs, g (enc x) = some (F x)) → (∀ x ∈ xs, match f x with | none => ∃ ρ', b (F x ρ) = .nx ρ' ∧ wipeS ρ' wp = ρ | some c => b (F x ρ) = .rt (e c)) →
    forL g wp b (xs.map enc) ρ = match xs.findSome? f with | none => .nx ρ | some c => .rt (e c)
  | [], _, _ => rfl
  | x :: xs, h1, h2 => by
    have hx := h2 x (List.mem_cons_self ..)
    have ih := forL_findR (xs := xs) (fun y hy => h1 y (List.mem_cons_of_mem _ hy)) (fun y hy => h2 y (List.mem_cons_of_mem _ hy))
    rw [List.map_cons, forL_cons, h1 x (List.mem_cons_self ..), List.findSome?_cons]
    cases hf : f x with
    | none =>
      rw [hf] at hx
      obtain ⟨ρ', e1, e2⟩ := hx
      simp only [e1, e2]
      exact ih
    | some c =>
      rw [hf] at hx
      simp only [hx]
theorem zMulT_many {α : Type} {f : α → PyData} {xs : List α} {j : Nat} (h2 : 2 ≤ j) (h : j ≤ 1000) (hl : xs.length ≤ 1000) : zMulT (.tuple (xs.map f)) (.int (j : Int)) = some (.tuple ((List.replicate j xs).flatten.map f)) := by
  unfold zMulT
  cases xs with
  | nil =>
    have e : (List.replicate j ([] : List α)).flatten = [] := by simp
    rw [e]
    simp only [List.map_nil, List.isEmpty_nil, Bool.true_or, Bool.true_and]
    rw [if_pos (by rw [Bool.and_eq_true, decide_eq_true_eq, decide_eq_true_eq]; omega)]
  | cons a xs =>
    have e1 : (((a :: xs).map f).isEmpty || ((j : Int) == 1)) = false := by
      rw [show ((a :: xs).map f).isEmpty = false from rfl, Bool.false_or]
      exact beq_eq_false_iff_ne.mpr (by omega)
    simp only [e1, Bool.false_and, Bool.false_eq_true, if_false]
    rw [if_pos (by rw [Bool.and_eq_true, Bool.and_eq_true, decide_eq_true_eq, decide_eq_true_eq, decide_eq_true_eq, List.length_map]; omega), Int.toNat_natCast]
    congr 2
    rw [List.map_flatten, List.map_replicate]
theorem flat_mem {α : Type} {xs : List α} {j : Nat} {x : α} (h : x ∈ (List.replicate j xs).flatten) : x ∈ xs := by
  obtain ⟨l, hl, hx⟩ := List.mem_flatten.mp h
  rw [(List.mem_replicate.mp hl).2] at hx
  exact hx
theorem flat_len {α : Type} (xs : List α) (j : Nat) : (List.replicate j xs).flatten.length = j * xs.length := by simp
theorem pick_data {α : Type} {f : α → PyData} {xs : List α} {i : Int} (h0 : 0 ≤ i) (h : i < xs.length) : ∃ x ∈ xs, atI (xs.map f) i = some (f x) := by
  obtain ⟨d, hd, e⟩ := atI_small (xs := xs.map f) h0 (by rw [List.length_map]; exact h)
  obtain ⟨x, hx, rfl⟩ := List.mem_map.mp hd
  exact ⟨x, hx, e⟩
/-! ### runs: pick, led, worst, takings, walk -/
def wantQ (h : Bool) : Int := if h then 1 else -1
def pickStep (h : Bool) (rows : List (List Rat)) (fill : List Rat) (best : Nat) (p : List Rat × Nat) : Nat :=
  if ordR (dotQ p.1 fill) (dotQ (rows.getD best []) fill) = wantQ h then p.2 else best
def pickQ (h : Bool) (rows : List (List Rat)) (fill : List Rat) : Nat := (rows.zipIdx 0).foldl (pickStep h rows fill) 0
theorem foldl_inv {α β : Type} (P : β → Prop) (f : β → α → β) : ∀ (xs : List α) (b : β), P b → (∀ b x, x ∈ xs → P b → P (f b x)) → P (xs.foldl f b)
  | [], b, h, _ => h
  | x :: xs, b, h, hs => foldl_inv P f xs (f b x) (hs b x (List.mem_cons_self ..) h) fun b y hy => hs b y (List.mem_cons_of_mem _ hy)
theorem pickStep_lt {h : Bool} {rows : List (List Rat)} {fill : List Rat} {b : Nat} {p : List Rat × Nat} (hb : b < rows.length) (hp : p ∈ rows.zipIdx 0) : pickStep h rows fill b p < rows.length := by
  unfold pickStep
  split
  · have := List.mem_zipIdx' hp; exact this.1
  · exact hb
theorem pickQ_lt {h : Bool} {rows : List (List Rat)} {fill : List Rat} (hr : 1 ≤ rows.length) : pickQ h rows fill < rows.length :=
  foldl_inv (fun b => b < rows.length) _ _ 0 (by omega) fun b p hp hb => pickStep_lt hb hp
theorem getD_mem {α : Type} {xs : List α} {i : Nat} {d : α} (h : i < xs.length) : xs.getD i d ∈ xs := by
  rw [List.getD_eq_getElem?_getD, List.getElem?_eq_getElem h]
  exact List.getElem_mem h
theorem sz_dotF {r fill : List Rat} {n : Nat} (hn : n ≤ 5) (hr : r.length = n ∧ ∀ q ∈ r, 0 ≤ q ∧ Sz 10 q) (hf : okFill n fill) : Sz 160000 (dotQ r fill) := by
  refine (sz_dot (n := 10) (m := 30000) r fill (fun q hq => (hr.2 q hq).2) (fun q hq => (hf.all q hq).2)).mono ?_
  rw [hr.1]
  have : n * (10 + 30000 + 1) ≤ 5 * 30011 := Nat.mul_le_mul_right _ hn
  omega
theorem planD_fold (p : List Int) : PyData.tuple (p.map PyData.int) = planD p := nr rfl
def choiceQ (ms : List Menu) (fill : List Rat) : List Int := ms.map fun m => ((pickQ m.1 m.2 fill : Nat) : Int)
theorem good_choiceQ {fill : List Rat} : ∀ {ms : List Menu}, (∀ m ∈ ms, 1 ≤ m.2.length) → goodChoice ms (choiceQ ms fill)
  | [], _ => True.intro
  | m :: ms, h => ⟨show (0 : Int) ≤ ((pickQ m.1 m.2 fill : Nat) : Int) by omega, show ((pickQ m.1 m.2 fill : Nat) : Int) < (m.2.length : Int) by have := pickQ_lt (h := m.1) (fill := fill) (h m (List.mem_cons_self ..)); omega, good_choiceQ fun x hx => h x (List.mem_cons_of_mem _ hx)⟩
/-- the worst contents, one step -/
def worseQ (ms : List Menu) (fill : List Rat) : List Rat := stepQ (takenL ms (choiceQ ms fill)) fill
def ledStep (ms : List Menu) (s : List (List Int) × List Rat) : List (List Int) × List Rat := (s.1 ++ [choiceQ ms s.2], worseQ ms s.2)
def ledQ (ms : List Menu) (fill : List Rat) : Nat → List (List Int) × List Rat
  | 0 => ([], fill)
  | k + 1 => ledStep ms (ledQ ms fill k)
def worstQ (ms : List Menu) (fill : List Rat) (k : Nat) : List Rat := (ledQ ms fill k).2
def takingsQ (ms : List Menu) (fill : List Rat) (k : Nat) : List (List Int) := (ledQ ms fill k).1
theorem worseQ_len {ms : List Menu} {fill : List Rat} (h : okBook ms) : (worseQ ms fill).length = ms.length := by
  unfold worseQ stepQ
  rw [List.length_map]
  exact (h.taken (good_choiceQ fun m hm => (h.all m hm).lo)).len
theorem atI_snoc {α : Type} (xs : List α) (x : α) : atI (xs ++ [x]) (-1) = some x := by
  unfold atI ixN
  rw [if_neg (by omega), List.length_append, List.length_cons, List.length_nil, if_pos (by omega)]
  show (xs ++ [x])[(-1 + ((xs.length + (0 + 1) : Nat) : Int)).toNat]? = some x
  rw [show (-1 + ((xs.length + (0 + 1) : Nat) : Int)).toNat = xs.length from by omega]
  simp
theorem takings_len {ms : List Menu} {fill : List Rat} : ∀ k, (takingsQ ms fill k).length = k
  | 0 => rfl
  | k + 1 => by show ((ledQ ms fill k).1 ++ [_]).length = k + 1; rw [List.length_append, show (ledQ ms fill k).1.length = k from takings_len k]; rfl
/-! ### _law_stores, _law_plans -/
theorem places_range (h : Bool) : ∀ (ms all : List Menu) (k : Nat), (∀ j, all[k + j]? = ms[j]?) → ((List.range' k ms.length).filter fun j => ((all[j]?).map (·.1)) == some h) = placesFrom h k ms
  | [], all, k, _ => rfl
  | m :: ms, all, k, ha => by
    have h0 : all[k]? = some m := by have := ha 0; simpa using this
    have ih := places_range h ms all (k + 1) (fun j => by have := ha (j + 1); rw [show k + 1 + j = k + (j + 1) from by omega, this]; rfl)
    rw [List.length_cons, List.range'_succ, List.filter_cons]
    unfold placesFrom
    by_cases e : m.1 = h
    · rw [if_pos (by rw [h0]; simp [e]), if_pos e, ih]
    · rw [if_neg (by rw [h0]; simp [e]), if_neg e, ih]
theorem z__law_stores {ms : List Menu} (hl : ms.length ≤ 1000) (h : Bool) : d__law_stores [encBook ms, whoD h] = .ok (.list ((placesL ms h).map natD)) := by
  have hlb : zLen [encBook ms] = some (.int (ms.length : Nat)) := by unfold encBook; rw [zLen_t, List.length_map]
  have hr : rng1 [.int (ms.length : Int)] = some ((List.range' 0 ms.length).map natD) := by rw [rng1_n (by omega), rgD_map, List.range_eq_range']; rfl
  have hlc : ((List.range' 0 ms.length).map natD).length ≤ 1000000 := by rw [List.length_map, List.length_range']; omega
  have lc : lcL (gN 2) (yV (xOp zEq (xOp zIx (xOp zIx (xV 0) (xV 2)) (xC (.int 0))) (xV 1))) (xV 2) [.dat (encBook ms), .dat (whoD h), .no] ((List.range' 0 ms.length).map natD) = .ok (((List.range' 0 ms.length).filter fun j => ((ms[j]?).map (·.1)) == some h).map natD) :=
    lcL_filter (F := fun j ρ => ρ.set 2 (.dat (natD j))) (fun j _ => rfl) (fun j hj => by
      have hj' : j < ms.length := by have := List.mem_range'_1.mp hj; omega
      have hm : ms[j]? = some ms[j] := List.getElem?_eq_getElem hj'
      have e : (((ms[j]?).map (·.1)) == some h) = (ms[j].1 == h) := by rw [hm]; simp
      rw [e]
      simp only [fnD_a, kSeq_a, kNx_a, kE_a, kAsg_a, kOwn_a, kDrop_a, kRet_a, kRetP_a, kRetF_a, kRetO_a, kRetN_a, kIf_a, kBk_a, kCt_a, kTg_a, kPar_a, kApp_a, kPut_a, kFrz_a, kFor_a, kRaise_a, kDict_a, kDput_a, kClr_a, kNst_a, fLc2_a, yVw_a, view_no, view_dat, view_own, view_scr, xC_a, xV_a, xOp_a, fOp_a, xUn_a, xNot_a, xAnd_a, xOr_a, xIf_a, xChain_a, zNil_a, zCons_a, xTup_a, fLst_a, xL_a, xCB_a, fCB_a, xF_a, xFc_a, fF_a, fFc_a, zApp_a, zKw_a, oNo_a, oAt_a, fSl_a, xSl_a, yV_a, yAnd_a, yOr_a, yNot_a, yYes_a, xIxO_a, xLenO_a, xDg_a, xDin_a, xDnotin_a, iS_a, iA_a, fLc_a, wipeS_nil, wipeS_cons, gN_a, gs0_a, gsC_a, gT_a, gU_a, ownL_a, ownD_a, asB_a, asI_a, asL_a, seqOf_l, seqOf_t, keyD_i, keyD_s, bind_ex, bind_bad, of_none, Rz.bind_ok, Rz.of_some, Rz.calm_ok, Option.bind_some, Option.bind_none, zAddV_i, zSub_i, zLt_i, zLe_i, zGt_i, zGe_i, zEq_i, zNe_i, zEq_r, zNe_r, zIx_r0, zIx_r1, zIx_t, zIx_l, zNeg_i, zLen_l, zLen_t, zAbs_i, zInt_b, zInt_i, zListV_l, zListV_t, zList_l, zList_t, zTuple_l, zTuple_t, zAll_l, zAny_l, zSlV_l, zSlV_t, zIsN_a, zNotN_a, slots, sel, Arg.get, List.filterMap_cons, List.filterMap_nil, List.length_cons, List.length_nil, List.map_cons, List.map_nil, List.cons_append, List.nil_append, List.append_nil, List.getElem?_cons_succ, List.getElem?_cons_zero, List.getElem?_nil, List.set_cons_zero, List.set_cons_succ, List.set_nil, List.replicate_succ, List.replicate_zero, if_true, Nat.sub_self, Nat.reduceAdd, Nat.reduceSub, Nat.reduceLeDiff, Nat.reduceEqDiff, Nat.reduceLT, Int.reduceLT, Int.reduceLE, Int.reduceNeg, Int.reduceEq, Nat.zero_add, and_self, if_false, Bool.not_true, Bool.not_false, Bool.false_eq_true, Nat.zero_le, decide_true, decide_false, reduceCtorEq, natD, ix_menu hm, ix_hand, whoD_eq]) (fun j _ _ => rfl)
  rw [places_range h ms ms 0 (fun j => by rw [Nat.zero_add])] at lc
  simp only [fnD_a, kSeq_a, kNx_a, kE_a, kAsg_a, kOwn_a, kDrop_a, kRet_a, kRetP_a, kRetF_a, kRetO_a, kRetN_a, kIf_a, kBk_a, kCt_a, kTg_a, kPar_a, kApp_a, kPut_a, kFrz_a, kFor_a, kRaise_a, kDict_a, kDput_a, kClr_a, kNst_a, fLc2_a, yVw_a, view_no, view_dat, view_own, view_scr, xC_a, xV_a, xOp_a, fOp_a, xUn_a, xNot_a, xAnd_a, xOr_a, xIf_a, xChain_a, zNil_a, zCons_a, xTup_a, fLst_a, xL_a, xCB_a, fCB_a, xF_a, xFc_a, fF_a, fFc_a, zApp_a, zKw_a, oNo_a, oAt_a, fSl_a, xSl_a, yV_a, yAnd_a, yOr_a, yNot_a, yYes_a, xIxO_a, xLenO_a, xDg_a, xDin_a, xDnotin_a, iS_a, iA_a, fLc_a, wipeS_nil, wipeS_cons, gN_a, gs0_a, gsC_a, gT_a, gU_a, ownL_a, ownD_a, asB_a, asI_a, asL_a, seqOf_l, seqOf_t, keyD_i, keyD_s, bind_ex, bind_bad, of_none, Rz.bind_ok, Rz.of_some, Rz.calm_ok, Option.bind_some, Option.bind_none, zAddV_i, zSub_i, zLt_i, zLe_i, zGt_i, zGe_i, zEq_i, zNe_i, zEq_r, zNe_r, zIx_r0, zIx_r1, zIx_t, zIx_l, zNeg_i, zLen_l, zLen_t, zAbs_i, zInt_b, zInt_i, zListV_l, zListV_t, zList_l, zList_t, zTuple_l, zTuple_t, zAll_l, zAny_l, zSlV_l, zSlV_t, zIsN_a, zNotN_a, slots, sel, Arg.get, List.filterMap_cons, List.filterMap_nil, List.length_cons, List.length_nil, List.map_cons, List.map_nil, List.cons_append, List.nil_append, List.append_nil, List.getElem?_cons_succ, List.getElem?_cons_zero, List.getElem?_nil, List.set_cons_zero, List.set_cons_succ, List.set_nil, List.replicate_succ, List.replicate_zero, if_true, Nat.sub_self, Nat.reduceAdd, Nat.reduceSub, Nat.reduceLeDiff, Nat.reduceEqDiff, Nat.reduceLT, Int.reduceLT, Int.reduceLE, Int.reduceNeg, Int.reduceEq, Nat.zero_add, and_self, if_false, Bool.not_true, Bool.not_false, Bool.false_eq_true, Nat.zero_le, decide_true, decide_false, reduceCtorEq, d__law_stores, m__law_stores, hlb, hr, if_pos hlc, lc]
def addAll (acc : List (List Int)) (n : Nat) : List (List Int) := acc.flatMap fun p => (List.range n).map fun (a : Nat) => p ++ [(a : Int)]
def plansQ (ns : List Nat) : List (List Int) := ns.foldl addAll [[]]
theorem addAll_len (acc : List (List Int)) (n : Nat) : (addAll acc n).length = acc.length * n := by
  unfold addAll
  induction acc with
  | nil => simp
  | cons p acc ih => rw [List.flatMap_cons, List.length_append, ih, List.length_map, List.length_range, List.length_cons, Nat.succ_mul]; omega
theorem addAll_all {acc : List (List Int)} {n : Nat} {P Q : List Int → Prop} (h : ∀ p ∈ acc, P p) (hs : ∀ p a, P p → a < n → Q (p ++ [((a : Nat) : Int)])) : ∀ p ∈ addAll acc n, Q p := by
  intro p hp
  unfold addAll at hp
  obtain ⟨x, hx, hp⟩ := List.mem_flatMap.mp hp
  obtain ⟨a, ha, rfl⟩ := List.mem_map.mp hp
  exact hs x a (h x hx) (List.mem_range.mp ha)
theorem z_plans_inner {ms : List Menu} {dw dk : PyData} {s n : Nat} {m : Menu} {fd : Slot} (hm : ms[s]? = some m) (hn : m.2.length = n) (hn3 : n ≤ 1000) : ∀ (acc done : List (List Int)), (∀ p ∈ acc, p.length ≤ 1000) → done.length + acc.length * n ≤ 1000000 →
    forL (gN 5) [5] b1__law_plans (acc.map planD) [.dat (encBook ms), .dat dw, fd, .dat (.int (s : Nat)), .dat (.list (done.map planD)), .no, .no] = .nx [.dat (encBook ms), .dat dw, fd, .dat (.int (s : Nat)), .dat (.list ((done ++ addAll acc n).map planD)), .no, .no]
  | [], done, _, _ => by unfold addAll; rw [List.flatMap_nil, List.append_nil]; rfl
  | p :: acc, done, hp, hl => by
    rw [List.length_cons, Nat.succ_mul] at hl
    have hlen : zLen [PyData.tuple (m.2.map encRow)] = some (.int (n : Nat)) := by rw [zLen_t, List.length_map, hn]
    have hr : rng1 [.int (n : Int)] = some ((List.range n).map natD) := by rw [rng1_n (by omega), rgD_map]; rfl
    have hlc : ((List.range n).map natD).length ≤ 1000000 := by rw [List.length_map, List.length_range]; omega
    have lc : lcL (gN 6) yYes (xOp zAddV (xV 5) (xTup (zCons (xV 6) zNil))) [.dat (encBook ms), .dat dw, fd, .dat (.int (s : Nat)), .dat (.list (done.map planD)), .dat (planD p), .no] ((List.range n).map natD) = .ok ((List.range n).map fun (a : Nat) => planD (p ++ [(a : Int)])) :=
      lcL_map (F := fun a ρ => ρ.set 6 (.dat (natD a))) (fun a _ => rfl) (fun a _ => rfl) (fun a _ => by
        have hpl := hp p (List.mem_cons_self ..)
        simp only [fnD_a, kSeq_a, kNx_a, kE_a, kAsg_a, kOwn_a, kDrop_a, kRet_a, kRetP_a, kRetF_a, kRetO_a, kRetN_a, kIf_a, kBk_a, kCt_a, kTg_a, kPar_a, kApp_a, kPut_a, kFrz_a, kFor_a, kRaise_a, kDict_a, kDput_a, kClr_a, kNst_a, fLc2_a, yVw_a, view_no, view_dat, view_own, view_scr, xC_a, xV_a, xOp_a, fOp_a, xUn_a, xNot_a, xAnd_a, xOr_a, xIf_a, xChain_a, zNil_a, zCons_a, xTup_a, fLst_a, xL_a, xCB_a, fCB_a, xF_a, xFc_a, fF_a, fFc_a, zApp_a, zKw_a, oNo_a, oAt_a, fSl_a, xSl_a, yV_a, yAnd_a, yOr_a, yNot_a, yYes_a, xIxO_a, xLenO_a, xDg_a, xDin_a, xDnotin_a, iS_a, iA_a, fLc_a, wipeS_nil, wipeS_cons, gN_a, gs0_a, gsC_a, gT_a, gU_a, ownL_a, ownD_a, asB_a, asI_a, asL_a, seqOf_l, seqOf_t, keyD_i, keyD_s, bind_ex, bind_bad, of_none, Rz.bind_ok, Rz.of_some, Rz.calm_ok, Option.bind_some, Option.bind_none, zAddV_i, zSub_i, zLt_i, zLe_i, zGt_i, zGe_i, zEq_i, zNe_i, zEq_r, zNe_r, zIx_r0, zIx_r1, zIx_t, zIx_l, zNeg_i, zLen_l, zLen_t, zAbs_i, zInt_b, zInt_i, zListV_l, zListV_t, zList_l, zList_t, zTuple_l, zTuple_t, zAll_l, zAny_l, zSlV_l, zSlV_t, zIsN_a, zNotN_a, slots, sel, Arg.get, List.filterMap_cons, List.filterMap_nil, List.length_cons, List.length_nil, List.map_cons, List.map_nil, List.cons_append, List.nil_append, List.append_nil, List.getElem?_cons_succ, List.getElem?_cons_zero, List.getElem?_nil, List.set_cons_zero, List.set_cons_succ, List.set_nil, List.replicate_succ, List.replicate_zero, if_true, Nat.sub_self, Nat.reduceAdd, Nat.reduceSub, Nat.reduceLeDiff, Nat.reduceEqDiff, Nat.reduceLT, Int.reduceLT, Int.reduceLE, Int.reduceNeg, Int.reduceEq, Nat.zero_add, and_self, if_false, Bool.not_true, Bool.not_false, Bool.false_eq_true, Nat.zero_le, decide_true, decide_false, reduceCtorEq, natD, planD]
        rw [zAddV_t (by rw [List.length_map]; simp; omega), List.map_append]
        rfl)
    have e1 : ((List.range n).map fun (a : Nat) => planD (p ++ [(a : Int)])) = ((List.range n).map fun (a : Nat) => p ++ [(a : Int)]).map planD := by rw [List.map_map]; rfl
    rw [e1] at lc
    have had : zAddV (.list (done.map planD)) (.list (((List.range n).map fun (a : Nat) => p ++ [(a : Int)]).map planD)) = some (.list ((done ++ (List.range n).map fun (a : Nat) => p ++ [(a : Int)]).map planD)) := by
      rw [zAddV_l (by simp only [List.length_map, List.length_range]; omega), List.map_append]
    have ih := z_plans_inner (dw := dw) (dk := dk) (fd := fd) hm hn hn3 acc (done ++ (List.range n).map fun (a : Nat) => p ++ [(a : Int)]) (fun q hq => hp q (List.mem_cons_of_mem _ hq)) (by simp only [List.length_append, List.length_map, List.length_range]; omega)
    have e2 : done ++ addAll (p :: acc) n = (done ++ (List.range n).map fun (a : Nat) => p ++ [(a : Int)]) ++ addAll acc n := by unfold addAll; rw [List.flatMap_cons, List.append_assoc]
    rw [List.map_cons, forL_cons, e2]
    simp only [fnD_a, kSeq_a, kNx_a, kE_a, kAsg_a, kOwn_a, kDrop_a, kRet_a, kRetP_a, kRetF_a, kRetO_a, kRetN_a, kIf_a, kBk_a, kCt_a, kTg_a, kPar_a, kApp_a, kPut_a, kFrz_a, kFor_a, kRaise_a, kDict_a, kDput_a, kClr_a, kNst_a, fLc2_a, yVw_a, view_no, view_dat, view_own, view_scr, xC_a, xV_a, xOp_a, fOp_a, xUn_a, xNot_a, xAnd_a, xOr_a, xIf_a, xChain_a, zNil_a, zCons_a, xTup_a, fLst_a, xL_a, xCB_a, fCB_a, xF_a, xFc_a, fF_a, fFc_a, zApp_a, zKw_a, oNo_a, oAt_a, fSl_a, xSl_a, yV_a, yAnd_a, yOr_a, yNot_a, yYes_a, xIxO_a, xLenO_a, xDg_a, xDin_a, xDnotin_a, iS_a, iA_a, fLc_a, wipeS_nil, wipeS_cons, gN_a, gs0_a, gsC_a, gT_a, gU_a, ownL_a, ownD_a, asB_a, asI_a, asL_a, seqOf_l, seqOf_t, keyD_i, keyD_s, bind_ex, bind_bad, of_none, Rz.bind_ok, Rz.of_some, Rz.calm_ok, Option.bind_some, Option.bind_none, zAddV_i, zSub_i, zLt_i, zLe_i, zGt_i, zGe_i, zEq_i, zNe_i, zEq_r, zNe_r, zIx_r0, zIx_r1, zIx_t, zIx_l, zNeg_i, zLen_l, zLen_t, zAbs_i, zInt_b, zInt_i, zListV_l, zListV_t, zList_l, zList_t, zTuple_l, zTuple_t, zAll_l, zAny_l, zSlV_l, zSlV_t, zIsN_a, zNotN_a, slots, sel, Arg.get, List.filterMap_cons, List.filterMap_nil, List.length_cons, List.length_nil, List.map_cons, List.map_nil, List.cons_append, List.nil_append, List.append_nil, List.getElem?_cons_succ, List.getElem?_cons_zero, List.getElem?_nil, List.set_cons_zero, List.set_cons_succ, List.set_nil, List.replicate_succ, List.replicate_zero, if_true, Nat.sub_self, Nat.reduceAdd, Nat.reduceSub, Nat.reduceLeDiff, Nat.reduceEqDiff, Nat.reduceLT, Int.reduceLT, Int.reduceLE, Int.reduceNeg, Int.reduceEq, Nat.zero_add, and_self, if_false, Bool.not_true, Bool.not_false, Bool.false_eq_true, Nat.zero_le, decide_true, decide_false, reduceCtorEq, b1__law_plans_a, ix_menu hm, ix_rows, hlen, hr, if_pos hlc, lc, had]
    exact ih
theorem plansQ_len : ∀ (ns : List Nat) (acc : List (List Int)) (b : Nat), (∀ n ∈ ns, n ≤ 3) → acc.length ≤ b → (ns.foldl addAll acc).length ≤ b * 3 ^ ns.length
  | [], acc, b, _, h => by simpa using h
  | n :: ns, acc, b, hn, h => by
    have := plansQ_len ns (addAll acc n) (b * 3) (fun x hx => hn x (List.mem_cons_of_mem _ hx)) (by
      rw [addAll_len]
      exact Nat.mul_le_mul h (hn n (List.mem_cons_self ..)))
    rw [List.foldl_cons, List.length_cons, Nat.pow_succ, Nat.mul_comm (3 ^ ns.length) 3, ← Nat.mul_assoc]
    exact this
theorem rowsAt_eq {ms : List Menu} {s : Nat} {m : Menu} (h : ms[s]? = some m) : rowsAt ms s = m.2.length := by unfold rowsAt; rw [h]
theorem z_plans_outer {ms : List Menu} {dw : PyData} (hms : ∀ m ∈ ms, m.2.length ≤ 3) : ∀ (ss : List Nat) (acc : List (List Int)) (k : Nat), (∀ s ∈ ss, s < ms.length) → acc.length * 3 ^ ss.length ≤ 1000000 → (∀ p ∈ acc, p.length = k) → k + ss.length ≤ 1000 →
    forL (gN 3) [3, 4, 5] b2__law_plans (ss.map natD) [.dat (encBook ms), .dat dw, .dat (.list (acc.map planD)), .no, .no, .no, .no] = .nx [.dat (encBook ms), .dat dw, .dat (.list (((ss.map (rowsAt ms)).foldl addAll acc).map planD)), .no, .no, .no, .no]
  | [], acc, k, _, _, _, _ => rfl
  | s :: ss, acc, k, hs, hl, hp, hk => by
    rw [List.length_cons] at hl hk
    have hlt := hs s (List.mem_cons_self ..)
    have hm : ms[s]? = some ms[s] := List.getElem?_eq_getElem hlt
    have hr3 := hms ms[s] (List.getElem_mem hlt)
    have hpow : 1 ≤ 3 ^ ss.length := Nat.one_le_pow _ _ (by decide)
    have hb : acc.length * rowsAt ms s * 3 ^ ss.length ≤ 1000000 := by
      rw [rowsAt_eq hm]
      refine Nat.le_trans ?_ hl
      rw [Nat.pow_succ, Nat.mul_comm (3 ^ ss.length) 3, ← Nat.mul_assoc]
      exact Nat.mul_le_mul_right _ (Nat.mul_le_mul_left _ hr3)
    have hb2 : acc.length * rowsAt ms s ≤ 1000000 := Nat.le_trans (Nat.le_mul_of_pos_right _ hpow) hb
    have inner := z_plans_inner (dw := dw) (dk := .none) (fd := .dat (.list (acc.map planD))) hm (rowsAt_eq hm).symm (by rw [rowsAt_eq hm]; omega) acc [] (fun p hpp => by rw [hp p hpp]; omega) (by simpa using hb2)
    rw [List.nil_append] at inner
    have ih := z_plans_outer (dw := dw) hms ss (addAll acc (rowsAt ms s)) (k + 1) (fun x hx => hs x (List.mem_cons_of_mem _ hx)) (by rw [addAll_len]; exact hb) (addAll_all hp fun p a h _ => by rw [List.length_append, h]; rfl) (by omega)
    have f1 : kFor (iS (xV 2)) (gN 5) [5] b1__law_plans [.dat (encBook ms), .dat dw, .dat (.list (acc.map planD)), .dat (.int (s : Nat)), .dat (.list []), .no, .no] = .nx [.dat (encBook ms), .dat dw, .dat (.list (acc.map planD)), .dat (.int (s : Nat)), .dat (.list ((addAll acc (rowsAt ms s)).map planD)), .no, .no] := by
      simp only [fnD_a, kSeq_a, kNx_a, kE_a, kAsg_a, kOwn_a, kDrop_a, kRet_a, kRetP_a, kRetF_a, kRetO_a, kRetN_a, kIf_a, kBk_a, kCt_a, kTg_a, kPar_a, kApp_a, kPut_a, kFrz_a, kFor_a, kRaise_a, kDict_a, kDput_a, kClr_a, kNst_a, fLc2_a, yVw_a, view_no, view_dat, view_own, view_scr, xC_a, xV_a, xOp_a, fOp_a, xUn_a, xNot_a, xAnd_a, xOr_a, xIf_a, xChain_a, zNil_a, zCons_a, xTup_a, fLst_a, xL_a, xCB_a, fCB_a, xF_a, xFc_a, fF_a, fFc_a, zApp_a, zKw_a, oNo_a, oAt_a, fSl_a, xSl_a, yV_a, yAnd_a, yOr_a, yNot_a, yYes_a, xIxO_a, xLenO_a, xDg_a, xDin_a, xDnotin_a, iS_a, iA_a, fLc_a, wipeS_nil, wipeS_cons, gN_a, gs0_a, gsC_a, gT_a, gU_a, ownL_a, ownD_a, asB_a, asI_a, asL_a, seqOf_l, seqOf_t, keyD_i, keyD_s, bind_ex, bind_bad, of_none, Rz.bind_ok, Rz.of_some, Rz.calm_ok, Option.bind_some, Option.bind_none, zAddV_i, zSub_i, zLt_i, zLe_i, zGt_i, zGe_i, zEq_i, zNe_i, zEq_r, zNe_r, zIx_r0, zIx_r1, zIx_t, zIx_l, zNeg_i, zLen_l, zLen_t, zAbs_i, zInt_b, zInt_i, zListV_l, zListV_t, zList_l, zList_t, zTuple_l, zTuple_t, zAll_l, zAny_l, zSlV_l, zSlV_t, zIsN_a, zNotN_a, slots, sel, Arg.get, List.filterMap_cons, List.filterMap_nil, List.length_cons, List.length_nil, List.map_cons, List.map_nil, List.cons_append, List.nil_append, List.append_nil, List.getElem?_cons_succ, List.getElem?_cons_zero, List.getElem?_nil, List.set_cons_zero, List.set_cons_succ, List.set_nil, List.replicate_succ, List.replicate_zero, if_true, Nat.sub_self, Nat.reduceAdd, Nat.reduceSub, Nat.reduceLeDiff, Nat.reduceEqDiff, Nat.reduceLT, Int.reduceLT, Int.reduceLE, Int.reduceNeg, Int.reduceEq, Nat.zero_add, and_self, if_false, Bool.not_true, Bool.not_false, Bool.false_eq_true, Nat.zero_le, decide_true, decide_false, reduceCtorEq]
      exact inner
    rw [List.map_cons, forL_cons]
    simp only [fnD_a, kSeq_a, kNx_a, kE_a, kAsg_a, kOwn_a, kDrop_a, kRet_a, kRetP_a, kRetF_a, kRetO_a, kRetN_a, kIf_a, kBk_a, kCt_a, kTg_a, kPar_a, kApp_a, kPut_a, kFrz_a, kRaise_a, kDict_a, kDput_a, kClr_a, kNst_a, fLc2_a, yVw_a, view_no, view_dat, view_own, view_scr, xC_a, xV_a, xOp_a, fOp_a, xUn_a, xNot_a, xAnd_a, xOr_a, xIf_a, xChain_a, zNil_a, zCons_a, xTup_a, fLst_a, xL_a, xCB_a, fCB_a, xF_a, xFc_a, fF_a, fFc_a, zApp_a, zKw_a, oNo_a, oAt_a, fSl_a, xSl_a, yV_a, yAnd_a, yOr_a, yNot_a, yYes_a, xIxO_a, xLenO_a, xDg_a, xDin_a, xDnotin_a, iS_a, iA_a, fLc_a, wipeS_nil, wipeS_cons, gN_a, gs0_a, gsC_a, gT_a, gU_a, ownL_a, ownD_a, asB_a, asI_a, asL_a, seqOf_l, seqOf_t, keyD_i, keyD_s, bind_ex, bind_bad, of_none, Rz.bind_ok, Rz.of_some, Rz.calm_ok, Option.bind_some, Option.bind_none, zAddV_i, zSub_i, zLt_i, zLe_i, zGt_i, zGe_i, zEq_i, zNe_i, zEq_r, zNe_r, zIx_r0, zIx_r1, zIx_t, zIx_l, zNeg_i, zLen_l, zLen_t, zAbs_i, zInt_b, zInt_i, zListV_l, zListV_t, zList_l, zList_t, zTuple_l, zTuple_t, zAll_l, zAny_l, zSlV_l, zSlV_t, zIsN_a, zNotN_a, slots, sel, Arg.get, List.filterMap_cons, List.filterMap_nil, List.length_cons, List.length_nil, List.map_cons, List.map_nil, List.cons_append, List.nil_append, List.append_nil, List.getElem?_cons_succ, List.getElem?_cons_zero, List.getElem?_nil, List.set_cons_zero, List.set_cons_succ, List.set_nil, List.replicate_succ, List.replicate_zero, if_true, Nat.sub_self, Nat.reduceAdd, Nat.reduceSub, Nat.reduceLeDiff, Nat.reduceEqDiff, Nat.reduceLT, Int.reduceLT, Int.reduceLE, Int.reduceNeg, Int.reduceEq, Nat.zero_add, and_self, if_false, Bool.not_true, Bool.not_false, Bool.false_eq_true, Nat.zero_le, decide_true, decide_false, reduceCtorEq, b2__law_plans_a, natD, f1]
    exact ih
theorem placesL_lt {ms : List Menu} {h : Bool} : ∀ s ∈ placesL ms h, s < ms.length := fun s hs => by have := (places_ge hs).2; omega
theorem pow3_le {n : Nat} (h : n ≤ 5) : 3 ^ n ≤ 243 := Nat.pow_le_pow_right (by decide) h
theorem z__law_plans {ms : List Menu} (h : okBook ms) (b : Bool) : d__law_plans [encBook ms, whoD b] = .ok (.list ((plansQ ((placesL ms b).map (rowsAt ms))).map planD)) := by
  have hl5 := h.hi
  have hpl := placesL_len ms b
  have h1 := z__law_stores (ms := ms) (by omega) b
  have loop := z_plans_outer (dw := whoD b) (fun m hm => (h.all m hm).hi) (placesL ms b) [[]] 0 placesL_lt (by have := pow3_le (n := (placesL ms b).length) (by omega); simp; omega) (fun p hp => by rw [List.mem_singleton.mp hp]; rfl) (by omega)
  have f1 : kFor (iS (xF d__law_stores (zCons (xV 0) (zCons (xV 1) zNil)))) (gN 3) [3, 4, 5] b2__law_plans [.dat (encBook ms), .dat (whoD b), .dat (.list [.tuple []]), .no, .no, .no, .no] = .nx [.dat (encBook ms), .dat (whoD b), .dat (.list ((plansQ ((placesL ms b).map (rowsAt ms))).map planD)), .no, .no, .no, .no] := by
    simp only [fnD_a, kSeq_a, kNx_a, kE_a, kAsg_a, kOwn_a, kDrop_a, kRet_a, kRetP_a, kRetF_a, kRetO_a, kRetN_a, kIf_a, kBk_a, kCt_a, kTg_a, kPar_a, kApp_a, kPut_a, kFrz_a, kFor_a, kRaise_a, kDict_a, kDput_a, kClr_a, kNst_a, fLc2_a, yVw_a, view_no, view_dat, view_own, view_scr, xC_a, xV_a, xOp_a, fOp_a, xUn_a, xNot_a, xAnd_a, xOr_a, xIf_a, xChain_a, zNil_a, zCons_a, xTup_a, fLst_a, xL_a, xCB_a, fCB_a, xF_a, xFc_a, fF_a, fFc_a, zApp_a, zKw_a, oNo_a, oAt_a, fSl_a, xSl_a, yV_a, yAnd_a, yOr_a, yNot_a, yYes_a, xIxO_a, xLenO_a, xDg_a, xDin_a, xDnotin_a, iS_a, iA_a, fLc_a, wipeS_nil, wipeS_cons, gN_a, gs0_a, gsC_a, gT_a, gU_a, ownL_a, ownD_a, asB_a, asI_a, asL_a, seqOf_l, seqOf_t, keyD_i, keyD_s, bind_ex, bind_bad, of_none, Rz.bind_ok, Rz.of_some, Rz.calm_ok, Option.bind_some, Option.bind_none, zAddV_i, zSub_i, zLt_i, zLe_i, zGt_i, zGe_i, zEq_i, zNe_i, zEq_r, zNe_r, zIx_r0, zIx_r1, zIx_t, zIx_l, zNeg_i, zLen_l, zLen_t, zAbs_i, zInt_b, zInt_i, zListV_l, zListV_t, zList_l, zList_t, zTuple_l, zTuple_t, zAll_l, zAny_l, zSlV_l, zSlV_t, zIsN_a, zNotN_a, slots, sel, Arg.get, List.filterMap_cons, List.filterMap_nil, List.length_cons, List.length_nil, List.map_cons, List.map_nil, List.cons_append, List.nil_append, List.append_nil, List.getElem?_cons_succ, List.getElem?_cons_zero, List.getElem?_nil, List.set_cons_zero, List.set_cons_succ, List.set_nil, List.replicate_succ, List.replicate_zero, if_true, Nat.sub_self, Nat.reduceAdd, Nat.reduceSub, Nat.reduceLeDiff, Nat.reduceEqDiff, Nat.reduceLT, Int.reduceLT, Int.reduceLE, Int.reduceNeg, Int.reduceEq, Nat.zero_add, and_self, if_false, Bool.not_true, Bool.not_false, Bool.false_eq_true, Nat.zero_le, decide_true, decide_false, reduceCtorEq, h1]
    exact loop
  simp only [fnD_a, kSeq_a, kNx_a, kE_a, kAsg_a, kOwn_a, kDrop_a, kRet_a, kRetP_a, kRetF_a, kRetO_a, kRetN_a, kIf_a, kBk_a, kCt_a, kTg_a, kPar_a, kApp_a, kPut_a, kFrz_a, kRaise_a, kDict_a, kDput_a, kClr_a, kNst_a, fLc2_a, yVw_a, view_no, view_dat, view_own, view_scr, xC_a, xV_a, xOp_a, fOp_a, xUn_a, xNot_a, xAnd_a, xOr_a, xIf_a, xChain_a, zNil_a, zCons_a, xTup_a, fLst_a, xL_a, xCB_a, fCB_a, xF_a, xFc_a, fF_a, fFc_a, zApp_a, zKw_a, oNo_a, oAt_a, fSl_a, xSl_a, yV_a, yAnd_a, yOr_a, yNot_a, yYes_a, xIxO_a, xLenO_a, xDg_a, xDin_a, xDnotin_a, iS_a, iA_a, fLc_a, wipeS_nil, wipeS_cons, gN_a, gs0_a, gsC_a, gT_a, gU_a, ownL_a, ownD_a, asB_a, asI_a, asL_a, seqOf_l, seqOf_t, keyD_i, keyD_s, bind_ex, bind_bad, of_none, Rz.bind_ok, Rz.of_some, Rz.calm_ok, Option.bind_some, Option.bind_none, zAddV_i, zSub_i, zLt_i, zLe_i, zGt_i, zGe_i, zEq_i, zNe_i, zEq_r, zNe_r, zIx_r0, zIx_r1, zIx_t, zIx_l, zNeg_i, zLen_l, zLen_t, zAbs_i, zInt_b, zInt_i, zListV_l, zListV_t, zList_l, zList_t, zTuple_l, zTuple_t, zAll_l, zAny_l, zSlV_l, zSlV_t, zIsN_a, zNotN_a, slots, sel, Arg.get, List.filterMap_cons, List.filterMap_nil, List.length_cons, List.length_nil, List.map_cons, List.map_nil, List.cons_append, List.nil_append, List.append_nil, List.getElem?_cons_succ, List.getElem?_cons_zero, List.getElem?_nil, List.set_cons_zero, List.set_cons_succ, List.set_nil, List.replicate_succ, List.replicate_zero, if_true, Nat.sub_self, Nat.reduceAdd, Nat.reduceSub, Nat.reduceLeDiff, Nat.reduceEqDiff, Nat.reduceLT, Int.reduceLT, Int.reduceLE, Int.reduceNeg, Int.reduceEq, Nat.zero_add, and_self, if_false, Bool.not_true, Bool.not_false, Bool.false_eq_true, Nat.zero_le, decide_true, decide_false, reduceCtorEq, d__law_plans, m__law_plans, f1]
/-- all of them are good plans -/
theorem plansQ_good {ms : List Menu} : ∀ (ss : List Nat) (acc : List (List Int)) (done : List Nat), (∀ p ∈ acc, p.length = done.length ∧ ∀ q ∈ done.zip p, 0 ≤ q.2 ∧ q.2 < (rowsAt ms q.1 : Int)) →
    ∀ p ∈ (ss.map (rowsAt ms)).foldl addAll acc, p.length = (done ++ ss).length ∧ ∀ q ∈ (done ++ ss).zip p, 0 ≤ q.2 ∧ q.2 < (rowsAt ms q.1 : Int)
  | [], acc, done, h => by rw [List.append_nil]; exact h
  | s :: ss, acc, done, h => by
    have := plansQ_good ss (addAll acc (rowsAt ms s)) (done ++ [s]) (addAll_all h fun p a hp ha => by
      refine ⟨by rw [List.length_append, List.length_append, hp.1]; rfl, fun q hq => ?_⟩
      rw [List.zip_append hp.1.symm] at hq
      rcases List.mem_append.mp hq with z | z
      · exact hp.2 q z
      · rw [List.zip_cons_cons, List.zip_nil_left, List.mem_singleton] at z
        rw [z]
        exact ⟨by show (0 : Int) ≤ (a : Int); omega, by show (a : Int) < (rowsAt ms s : Int); omega⟩)
    rw [List.append_assoc] at this
    exact this
theorem plans_good {ms : List Menu} {b : Bool} : ∀ p ∈ plansQ ((placesL ms b).map (rowsAt ms)), goodPlan ms b p = true := fun p hp => by
  have := plansQ_good (ms := ms) (placesL ms b) [[]] [] (fun p hp => by rw [List.mem_singleton.mp hp]; exact ⟨rfl, fun q hq => by cases hq⟩) p hp
  rw [List.nil_append] at this
  exact goodPlan_iff.mpr this
theorem plansQ_pos : ∀ (ns : List Nat) (acc : List (List Int)), (∀ n ∈ ns, 1 ≤ n) → 1 ≤ acc.length → 1 ≤ (ns.foldl addAll acc).length
  | [], acc, _, h => h
  | n :: ns, acc, hn, h => plansQ_pos ns (addAll acc n) (fun x hx => hn x (List.mem_cons_of_mem _ hx)) (by rw [addAll_len]; exact Nat.mul_pos h (hn n (List.mem_cons_self ..)))
theorem plans_pos {ms : List Menu} (h : okBook ms) (b : Bool) : 1 ≤ (plansQ ((placesL ms b).map (rowsAt ms))).length := by
  refine plansQ_pos _ _ (fun n hn => ?_) (Nat.le_refl _)
  obtain ⟨s, hs, rfl⟩ := List.mem_map.mp hn
  obtain ⟨m, hm⟩ := placesL_get hs
  rw [rowsAt_eq hm]
  exact (h.all m (List.mem_of_getElem? hm)).lo
theorem plans_len {ms : List Menu} (h : okBook ms) (b : Bool) : (plansQ ((placesL ms b).map (rowsAt ms))).length ≤ 243 := by
  have := plansQ_len ((placesL ms b).map (rowsAt ms)) [[]] 1 (fun n hn => by
    obtain ⟨s, hs, rfl⟩ := List.mem_map.mp hn
    obtain ⟨m, hm⟩ := placesL_get hs
    rw [rowsAt_eq hm]
    exact (h.all m (List.mem_of_getElem? hm)).hi) (Nat.le_refl _)
  rw [Nat.one_mul, List.length_map] at this
  have hp := placesL_len ms b
  have h5 := h.hi
  exact Nat.le_trans this (pow3_le (by omega))
/-! ### books of any kind -/
abbrev RRow : Type := List (Int × Int)
abbrev RMenu : Type := Str × List RRow
def pairD (p : Int × Int) : PyData := .tuple [.int p.1, .int p.2]
def rowD (r : RRow) : PyData := .tuple (r.map pairD)
def menuD (m : RMenu) : PyData := .tuple [.str m.1, .tuple (m.2.map rowD)]
def bookD (b : List RMenu) : PyData := .tuple (b.map menuD)
inductive V3 where
  | hand | rows | shares
def V3.cls : V3 → Str
  | .hand => "BadHand"
  | .rows => "BadRows"
  | .shares => "BadShares"
def V3.word : V3 → Str
  | .hand => "no BadHand"
  | .rows => "no BadRows"
  | .shares => "no BadShares"
def okP (p : Int × Int) : Bool := decide (0 ≤ p.1) && decide (p.1 ≤ 999) && decide (p.2 ≤ 20)
def rowBad (n : Nat) (r : RRow) : Bool := decide (r.length ≠ n) || !(r.all okP)
def isH (s : Str) : Bool := s == "we" || s == "weather"
def rowsV (n : Nat) (rs : List RRow) : Option V3 := rs.findSome? fun r => if rowBad n r then some V3.shares else none
def menuV (n : Nat) (m : RMenu) : Option V3 := if isH m.1 then (if 1 ≤ m.2.length ∧ m.2.length ≤ 3 then rowsV n m.2 else some .rows) else some .hand
def bookV (b : List RMenu) : Option V3 := if 1 ≤ b.length ∧ b.length ≤ 5 then b.findSome? (menuV b.length) else some .rows
def hand6 : List Str := ["we", "weather", "", "us", "We", "weather "]
structure Bk (L : Nat) (b : List RMenu) : Prop where
  len : b.length ≤ 30
  all : ∀ m ∈ b, m.1 ∈ hand6 ∧ m.2.length ≤ L ∧ ∀ r ∈ m.2, r.length ≤ L
def rawM (m : Menu) : RMenu := (if m.1 then "weather" else "we", m.2.map fun r => r.map fun q => (q.num, (q.den : Int)))
theorem raw_book (ms : List Menu) : encBook ms = bookD (ms.map rawM) := by
  unfold encBook bookD
  rw [List.map_map]
  congr 1
  refine List.map_congr_left fun m _ => ?_
  show encMenu m = menuD (rawM m)
  unfold encMenu menuD rawM whoD
  simp only [List.map_map]
  congr 3
  congr 1
  refine List.map_congr_left fun r _ => ?_
  show encRow r = rowD (r.map fun q => (q.num, (q.den : Int)))
  unfold encRow rowD
  rw [List.map_map]
  rfl
theorem Bk.of {ms : List Menu} (h : okBook ms) : Bk 5 (ms.map rawM) := by
  refine ⟨by rw [List.length_map]; have := h.hi; omega, fun m hm => ?_⟩
  obtain ⟨x, hx, rfl⟩ := List.mem_map.mp hm
  have om := h.all x hx
  refine ⟨?_, ?_, fun r hr => ?_⟩
  · show (if x.1 then ("weather" : Str) else "we") ∈ hand6
    cases x.1
    · exact List.mem_of_getElem? (i := 0) rfl
    · exact List.mem_of_getElem? (i := 1) rfl
  · show (x.2.map _).length ≤ 5
    rw [List.length_map]
    have := om.hi
    omega
  · obtain ⟨y, hy, rfl⟩ := List.mem_map.mp (show r ∈ x.2.map (fun r : List Rat => r.map fun q => (q.num, (q.den : Int))) from hr)
    rw [List.length_map, (om.all y hy).len]
    exact h.hi
theorem pl_pair {n : Nat} (p : Int × Int) : Pl (n + 1) (pairD p) := pl_two (.int _) (.int _)
theorem hand6_lay : ∀ s ∈ hand6, (PyData.str s).canLay0 = true := fun s hs => by
  unfold hand6 at hs
  simp only [List.mem_cons, List.not_mem_nil, or_false] at hs
  rcases hs with z | z | z | z | z | z <;> subst z <;> kernel_rfl
theorem pl_lines {n L : Nat} {ls : List RRow} (hL : L ≤ 1000) (h : ls.length ≤ L) (h2 : ∀ r ∈ ls, r.length ≤ L) : Pl (n + 3) (.tuple (ls.map rowD)) := pl_tuple (by omega) fun r hr => pl_tuple (by have := h2 r hr; omega) fun p _ => pl_pair p
theorem pl_bookD {L : Nat} {b : List RMenu} (hL : L ≤ 1000) (h : Bk L b) : Pl 5 (bookD b) := pl_tuple (by have := h.len; omega) fun m hm => pl_two (.str (hand6_lay _ (h.all m hm).1)) (pl_lines hL (h.all m hm).2.1 (h.all m hm).2.2)
theorem eqv_nil {ds : List PyData} : PyData.eqv (.tuple ds) (.tuple []) = ds.isEmpty := by
  cases ds with
  | nil => rfl
  | cons a b => simp [PyData.eqv, PyData.eqvAll]
theorem zNe_nil {n : Nat} {ds : List PyData} (h : Pl n (.tuple ds)) (hn : n ≤ 64) : zNe (.tuple ds) (.tuple []) = some (.bool (!ds.isEmpty)) := by
  rw [zNe_sh (h.shd.shaped hn) (by rfl), eqv_nil]
theorem z_share_raw (p : Int × Int) : d_is_share [pairD p] = .ok (.bool (okP p)) := by
  have i0 : zIx (pairD p) (.int 0) = some (.int p.1) := rfl
  have i1 : zIx (pairD p) (.int 1) = some (.int p.2) := rfl
  unfold okP
  by_cases h1 : 0 ≤ p.1
  · by_cases h2 : p.1 ≤ 999
    · simp only [fnD_a, kSeq_a, kNx_a, kE_a, kAsg_a, kOwn_a, kDrop_a, kRet_a, kRetP_a, kRetF_a, kRetO_a, kRetN_a, kIf_a, kBk_a, kCt_a, kTg_a, kPar_a, kApp_a, kPut_a, kFrz_a, kFor_a, kRaise_a, kDict_a, kDput_a, kClr_a, kNst_a, fLc2_a, yVw_a, view_no, view_dat, view_own, view_scr, xC_a, xV_a, xOp_a, fOp_a, xUn_a, xNot_a, xAnd_a, xOr_a, xIf_a, xChain_a, zNil_a, zCons_a, xTup_a, fLst_a, xL_a, xCB_a, fCB_a, xF_a, xFc_a, fF_a, fFc_a, zApp_a, zKw_a, oNo_a, oAt_a, fSl_a, xSl_a, yV_a, yAnd_a, yOr_a, yNot_a, yYes_a, xIxO_a, xLenO_a, xDg_a, xDin_a, xDnotin_a, iS_a, iA_a, fLc_a, wipeS_nil, wipeS_cons, gN_a, gs0_a, gsC_a, gT_a, gU_a, ownL_a, ownD_a, asB_a, asI_a, asL_a, seqOf_l, seqOf_t, keyD_i, keyD_s, bind_ex, bind_bad, of_none, Rz.bind_ok, Rz.of_some, Rz.calm_ok, Option.bind_some, Option.bind_none, zAddV_i, zSub_i, zLt_i, zLe_i, zGt_i, zGe_i, zEq_i, zNe_i, zEq_r, zNe_r, zIx_r0, zIx_r1, zIx_t, zIx_l, zNeg_i, zLen_l, zLen_t, zAbs_i, zInt_b, zInt_i, zListV_l, zListV_t, zList_l, zList_t, zTuple_l, zTuple_t, zAll_l, zAny_l, zSlV_l, zSlV_t, zIsN_a, zNotN_a, slots, sel, Arg.get, List.filterMap_cons, List.filterMap_nil, List.length_cons, List.length_nil, List.map_cons, List.map_nil, List.cons_append, List.nil_append, List.append_nil, List.getElem?_cons_succ, List.getElem?_cons_zero, List.getElem?_nil, List.set_cons_zero, List.set_cons_succ, List.set_nil, List.replicate_succ, List.replicate_zero, if_true, Nat.sub_self, Nat.reduceAdd, Nat.reduceSub, Nat.reduceLeDiff, Nat.reduceEqDiff, Nat.reduceLT, Int.reduceLT, Int.reduceLE, Int.reduceNeg, Int.reduceEq, Nat.zero_add, and_self, if_false, Bool.not_true, Bool.not_false, Bool.false_eq_true, Nat.zero_le, decide_true, decide_false, reduceCtorEq, d_is_share, m_is_share, i0, i1, decide_eq_true h1, decide_eq_true h2, Bool.true_and]
    · simp only [fnD_a, kSeq_a, kNx_a, kE_a, kAsg_a, kOwn_a, kDrop_a, kRet_a, kRetP_a, kRetF_a, kRetO_a, kRetN_a, kIf_a, kBk_a, kCt_a, kTg_a, kPar_a, kApp_a, kPut_a, kFrz_a, kFor_a, kRaise_a, kDict_a, kDput_a, kClr_a, kNst_a, fLc2_a, yVw_a, view_no, view_dat, view_own, view_scr, xC_a, xV_a, xOp_a, fOp_a, xUn_a, xNot_a, xAnd_a, xOr_a, xIf_a, xChain_a, zNil_a, zCons_a, xTup_a, fLst_a, xL_a, xCB_a, fCB_a, xF_a, xFc_a, fF_a, fFc_a, zApp_a, zKw_a, oNo_a, oAt_a, fSl_a, xSl_a, yV_a, yAnd_a, yOr_a, yNot_a, yYes_a, xIxO_a, xLenO_a, xDg_a, xDin_a, xDnotin_a, iS_a, iA_a, fLc_a, wipeS_nil, wipeS_cons, gN_a, gs0_a, gsC_a, gT_a, gU_a, ownL_a, ownD_a, asB_a, asI_a, asL_a, seqOf_l, seqOf_t, keyD_i, keyD_s, bind_ex, bind_bad, of_none, Rz.bind_ok, Rz.of_some, Rz.calm_ok, Option.bind_some, Option.bind_none, zAddV_i, zSub_i, zLt_i, zLe_i, zGt_i, zGe_i, zEq_i, zNe_i, zEq_r, zNe_r, zIx_r0, zIx_r1, zIx_t, zIx_l, zNeg_i, zLen_l, zLen_t, zAbs_i, zInt_b, zInt_i, zListV_l, zListV_t, zList_l, zList_t, zTuple_l, zTuple_t, zAll_l, zAny_l, zSlV_l, zSlV_t, zIsN_a, zNotN_a, slots, sel, Arg.get, List.filterMap_cons, List.filterMap_nil, List.length_cons, List.length_nil, List.map_cons, List.map_nil, List.cons_append, List.nil_append, List.append_nil, List.getElem?_cons_succ, List.getElem?_cons_zero, List.getElem?_nil, List.set_cons_zero, List.set_cons_succ, List.set_nil, List.replicate_succ, List.replicate_zero, if_true, Nat.sub_self, Nat.reduceAdd, Nat.reduceSub, Nat.reduceLeDiff, Nat.reduceEqDiff, Nat.reduceLT, Int.reduceLT, Int.reduceLE, Int.reduceNeg, Int.reduceEq, Nat.zero_add, and_self, if_false, Bool.not_true, Bool.not_false, Bool.false_eq_true, Nat.zero_le, decide_true, decide_false, reduceCtorEq, d_is_share, m_is_share, i0, i1, decide_eq_true h1, decide_eq_false h2, Bool.false_and, Bool.and_false]
  · simp only [fnD_a, kSeq_a, kNx_a, kE_a, kAsg_a, kOwn_a, kDrop_a, kRet_a, kRetP_a, kRetF_a, kRetO_a, kRetN_a, kIf_a, kBk_a, kCt_a, kTg_a, kPar_a, kApp_a, kPut_a, kFrz_a, kFor_a, kRaise_a, kDict_a, kDput_a, kClr_a, kNst_a, fLc2_a, yVw_a, view_no, view_dat, view_own, view_scr, xC_a, xV_a, xOp_a, fOp_a, xUn_a, xNot_a, xAnd_a, xOr_a, xIf_a, xChain_a, zNil_a, zCons_a, xTup_a, fLst_a, xL_a, xCB_a, fCB_a, xF_a, xFc_a, fF_a, fFc_a, zApp_a, zKw_a, oNo_a, oAt_a, fSl_a, xSl_a, yV_a, yAnd_a, yOr_a, yNot_a, yYes_a, xIxO_a, xLenO_a, xDg_a, xDin_a, xDnotin_a, iS_a, iA_a, fLc_a, wipeS_nil, wipeS_cons, gN_a, gs0_a, gsC_a, gT_a, gU_a, ownL_a, ownD_a, asB_a, asI_a, asL_a, seqOf_l, seqOf_t, keyD_i, keyD_s, bind_ex, bind_bad, of_none, Rz.bind_ok, Rz.of_some, Rz.calm_ok, Option.bind_some, Option.bind_none, zAddV_i, zSub_i, zLt_i, zLe_i, zGt_i, zGe_i, zEq_i, zNe_i, zEq_r, zNe_r, zIx_r0, zIx_r1, zIx_t, zIx_l, zNeg_i, zLen_l, zLen_t, zAbs_i, zInt_b, zInt_i, zListV_l, zListV_t, zList_l, zList_t, zTuple_l, zTuple_t, zAll_l, zAny_l, zSlV_l, zSlV_t, zIsN_a, zNotN_a, slots, sel, Arg.get, List.filterMap_cons, List.filterMap_nil, List.length_cons, List.length_nil, List.map_cons, List.map_nil, List.cons_append, List.nil_append, List.append_nil, List.getElem?_cons_succ, List.getElem?_cons_zero, List.getElem?_nil, List.set_cons_zero, List.set_cons_succ, List.set_nil, List.replicate_succ, List.replicate_zero, if_true, Nat.sub_self, Nat.reduceAdd, Nat.reduceSub, Nat.reduceLeDiff, Nat.reduceEqDiff, Nat.reduceLT, Int.reduceLT, Int.reduceLE, Int.reduceNeg, Int.reduceEq, Nat.zero_add, and_self, if_false, Bool.not_true, Bool.not_false, Bool.false_eq_true, Nat.zero_le, decide_true, decide_false, reduceCtorEq, d_is_share, m_is_share, i0, i1, decide_eq_false h1, Bool.false_and]
theorem z_need_hand_raw : ∀ s ∈ hand6, d_need_hand [.str s] = if isH s then .ok .none else .ex ⟨"BadHand", []⟩ := fun s hs => by
  unfold hand6 at hs
  simp only [List.mem_cons, List.not_mem_nil, or_false] at hs
  rcases hs with z | z | z | z | z | z <;> subst z <;> kernel_rfl
theorem notIn_hand : ∀ s ∈ hand6, zNotIn (.str s) (.list [.str "we", .str "weather"]) = some (.bool (!isH s)) := fun s hs => by
  unfold hand6 at hs
  simp only [List.mem_cons, List.not_mem_nil, or_false] at hs
  rcases hs with z | z | z | z | z | z <;> subst z <;> kernel_rfl
theorem len_bookD (b : List RMenu) : zLen [bookD b] = some (.int (b.length : Nat)) := by unfold bookD; rw [zLen_t, List.length_map]
theorem len_rowD (r : RRow) : zLen [rowD r] = some (.int (r.length : Nat)) := by unfold rowD; rw [zLen_t, List.length_map]
theorem chain_in {k n : Nat} {hi : Int} : (decide ((1 : Int) ≤ ((n : Nat) : Int)) && decide (((n : Nat) : Int) ≤ hi)) = decide (1 ≤ n ∧ ((n : Nat) : Int) ≤ hi) := by
  by_cases h1 : 1 ≤ n
  · rw [decide_eq_true (by omega), Bool.true_and]
    by_cases h2 : (n : Int) ≤ hi
    · rw [decide_eq_true h2, decide_eq_true ⟨h1, h2⟩]
    · rw [decide_eq_false h2, decide_eq_false (fun z => h2 z.2)]
  · rw [decide_eq_false (by omega), Bool.false_and, decide_eq_false (fun z => h1 z.1)]
theorem look_turn {n : Nat} {dB : PyData} {w l : Slot} {r : RRow} (hB : zLen [dB] = some (.int (n : Nat))) (hr : r.length ≤ 1000) :
    b1_look [.dat dB, w, l, .dat (rowD r), .no] = if rowBad n r then .ex ⟨"BadShares", []⟩ [.dat dB, w, l, .dat (rowD r), .no] else .nx [.dat dB, w, l, .dat (rowD r), .no] := by
  have hlc : (r.map pairD).length ≤ 1000000 := by rw [List.length_map]; omega
  have hsq : seqOf (rowD r) = some (r.map pairD) := rfl
  have lc : lcL (gN 4) yYes (xFc d_is_share (zCons (xV 4) zNil)) [.dat dB, w, l, .dat (rowD r), .no] (r.map pairD) = .ok (r.map fun p => .bool (okP p)) :=
    lcL_map (F := fun p ρ => ρ.set 4 (.dat (pairD p))) (fun p _ => rfl) (fun p _ => rfl) (fun p _ => by simp only [fnD_a, kSeq_a, kNx_a, kE_a, kAsg_a, kOwn_a, kDrop_a, kRet_a, kRetP_a, kRetF_a, kRetO_a, kRetN_a, kIf_a, kBk_a, kCt_a, kTg_a, kPar_a, kApp_a, kPut_a, kFrz_a, kFor_a, kRaise_a, kDict_a, kDput_a, kClr_a, kNst_a, fLc2_a, yVw_a, view_no, view_dat, view_own, view_scr, xC_a, xV_a, xOp_a, fOp_a, xUn_a, xNot_a, xAnd_a, xOr_a, xIf_a, xChain_a, zNil_a, zCons_a, xTup_a, fLst_a, xL_a, xCB_a, fCB_a, xF_a, xFc_a, fF_a, fFc_a, zApp_a, zKw_a, oNo_a, oAt_a, fSl_a, xSl_a, yV_a, yAnd_a, yOr_a, yNot_a, yYes_a, xIxO_a, xLenO_a, xDg_a, xDin_a, xDnotin_a, iS_a, iA_a, fLc_a, wipeS_nil, wipeS_cons, gN_a, gs0_a, gsC_a, gT_a, gU_a, ownL_a, ownD_a, asB_a, asI_a, asL_a, seqOf_l, seqOf_t, keyD_i, keyD_s, bind_ex, bind_bad, of_none, Rz.bind_ok, Rz.of_some, Rz.calm_ok, Option.bind_some, Option.bind_none, zAddV_i, zSub_i, zLt_i, zLe_i, zGt_i, zGe_i, zEq_i, zNe_i, zEq_r, zNe_r, zIx_r0, zIx_r1, zIx_t, zIx_l, zNeg_i, zLen_l, zLen_t, zAbs_i, zInt_b, zInt_i, zListV_l, zListV_t, zList_l, zList_t, zTuple_l, zTuple_t, zAll_l, zAny_l, zSlV_l, zSlV_t, zIsN_a, zNotN_a, slots, sel, Arg.get, List.filterMap_cons, List.filterMap_nil, List.length_cons, List.length_nil, List.map_cons, List.map_nil, List.cons_append, List.nil_append, List.append_nil, List.getElem?_cons_succ, List.getElem?_cons_zero, List.getElem?_nil, List.set_cons_zero, List.set_cons_succ, List.set_nil, List.replicate_succ, List.replicate_zero, if_true, Nat.sub_self, Nat.reduceAdd, Nat.reduceSub, Nat.reduceLeDiff, Nat.reduceEqDiff, Nat.reduceLT, Int.reduceLT, Int.reduceLE, Int.reduceNeg, Int.reduceEq, Nat.zero_add, and_self, if_false, Bool.not_true, Bool.not_false, Bool.false_eq_true, Nat.zero_le, decide_true, decide_false, reduceCtorEq, z_share_raw])
  unfold rowBad
  by_cases h : r.length = n
  · have hd : decide ((r.length : Int) = (n : Int)) = true := decide_eq_true (by omega)
    rw [decide_eq_false (fun z => z h), Bool.false_or]
    cases ha : r.all okP with
    | true => simp only [fnD_a, kSeq_a, kNx_a, kE_a, kAsg_a, kOwn_a, kDrop_a, kRet_a, kRetP_a, kRetF_a, kRetO_a, kRetN_a, kIf_a, kBk_a, kCt_a, kTg_a, kPar_a, kApp_a, kPut_a, kFrz_a, kFor_a, kRaise_a, kDict_a, kDput_a, kClr_a, kNst_a, fLc2_a, yVw_a, view_no, view_dat, view_own, view_scr, xC_a, xV_a, xOp_a, fOp_a, xUn_a, xNot_a, xAnd_a, xOr_a, xIf_a, xChain_a, zNil_a, zCons_a, xTup_a, fLst_a, xL_a, xCB_a, fCB_a, xF_a, xFc_a, fF_a, fFc_a, zApp_a, zKw_a, oNo_a, oAt_a, fSl_a, xSl_a, yV_a, yAnd_a, yOr_a, yNot_a, yYes_a, xIxO_a, xLenO_a, xDg_a, xDin_a, xDnotin_a, iS_a, iA_a, fLc_a, wipeS_nil, wipeS_cons, gN_a, gs0_a, gsC_a, gT_a, gU_a, ownL_a, ownD_a, asB_a, asI_a, asL_a, seqOf_l, seqOf_t, keyD_i, keyD_s, bind_ex, bind_bad, of_none, Rz.bind_ok, Rz.of_some, Rz.calm_ok, Option.bind_some, Option.bind_none, zAddV_i, zSub_i, zLt_i, zLe_i, zGt_i, zGe_i, zEq_i, zNe_i, zEq_r, zNe_r, zIx_r0, zIx_r1, zIx_t, zIx_l, zNeg_i, zLen_l, zLen_t, zAbs_i, zInt_b, zInt_i, zListV_l, zListV_t, zList_l, zList_t, zTuple_l, zTuple_t, zAll_l, zAny_l, zSlV_l, zSlV_t, zIsN_a, zNotN_a, slots, sel, Arg.get, List.filterMap_cons, List.filterMap_nil, List.length_cons, List.length_nil, List.map_cons, List.map_nil, List.cons_append, List.nil_append, List.append_nil, List.getElem?_cons_succ, List.getElem?_cons_zero, List.getElem?_nil, List.set_cons_zero, List.set_cons_succ, List.set_nil, List.replicate_succ, List.replicate_zero, if_true, Nat.sub_self, Nat.reduceAdd, Nat.reduceSub, Nat.reduceLeDiff, Nat.reduceEqDiff, Nat.reduceLT, Int.reduceLT, Int.reduceLE, Int.reduceNeg, Int.reduceEq, Nat.zero_add, and_self, if_false, Bool.not_true, Bool.not_false, Bool.false_eq_true, Nat.zero_le, decide_true, decide_false, reduceCtorEq, b1_look_a, len_rowD, hB, hd, hsq, if_pos hlc, lc, zAll_m, ha]
    | false => simp only [fnD_a, kSeq_a, kNx_a, kE_a, kAsg_a, kOwn_a, kDrop_a, kRet_a, kRetP_a, kRetF_a, kRetO_a, kRetN_a, kIf_a, kBk_a, kCt_a, kTg_a, kPar_a, kApp_a, kPut_a, kFrz_a, kFor_a, kRaise_a, kDict_a, kDput_a, kClr_a, kNst_a, fLc2_a, yVw_a, view_no, view_dat, view_own, view_scr, xC_a, xV_a, xOp_a, fOp_a, xUn_a, xNot_a, xAnd_a, xOr_a, xIf_a, xChain_a, zNil_a, zCons_a, xTup_a, fLst_a, xL_a, xCB_a, fCB_a, xF_a, xFc_a, fF_a, fFc_a, zApp_a, zKw_a, oNo_a, oAt_a, fSl_a, xSl_a, yV_a, yAnd_a, yOr_a, yNot_a, yYes_a, xIxO_a, xLenO_a, xDg_a, xDin_a, xDnotin_a, iS_a, iA_a, fLc_a, wipeS_nil, wipeS_cons, gN_a, gs0_a, gsC_a, gT_a, gU_a, ownL_a, ownD_a, asB_a, asI_a, asL_a, seqOf_l, seqOf_t, keyD_i, keyD_s, bind_ex, bind_bad, of_none, Rz.bind_ok, Rz.of_some, Rz.calm_ok, Option.bind_some, Option.bind_none, zAddV_i, zSub_i, zLt_i, zLe_i, zGt_i, zGe_i, zEq_i, zNe_i, zEq_r, zNe_r, zIx_r0, zIx_r1, zIx_t, zIx_l, zNeg_i, zLen_l, zLen_t, zAbs_i, zInt_b, zInt_i, zListV_l, zListV_t, zList_l, zList_t, zTuple_l, zTuple_t, zAll_l, zAny_l, zSlV_l, zSlV_t, zIsN_a, zNotN_a, slots, sel, Arg.get, List.filterMap_cons, List.filterMap_nil, List.length_cons, List.length_nil, List.map_cons, List.map_nil, List.cons_append, List.nil_append, List.append_nil, List.getElem?_cons_succ, List.getElem?_cons_zero, List.getElem?_nil, List.set_cons_zero, List.set_cons_succ, List.set_nil, List.replicate_succ, List.replicate_zero, if_true, Nat.sub_self, Nat.reduceAdd, Nat.reduceSub, Nat.reduceLeDiff, Nat.reduceEqDiff, Nat.reduceLT, Int.reduceLT, Int.reduceLE, Int.reduceNeg, Int.reduceEq, Nat.zero_add, and_self, if_false, Bool.not_true, Bool.not_false, Bool.false_eq_true, Nat.zero_le, decide_true, decide_false, reduceCtorEq, b1_look_a, len_rowD, hB, hd, hsq, if_pos hlc, lc, zAll_m, ha]
  · have hd : decide ((r.length : Int) = (n : Int)) = false := decide_eq_false (by omega)
    rw [decide_eq_true h, Bool.true_or]
    simp only [fnD_a, kSeq_a, kNx_a, kE_a, kAsg_a, kOwn_a, kDrop_a, kRet_a, kRetP_a, kRetF_a, kRetO_a, kRetN_a, kIf_a, kBk_a, kCt_a, kTg_a, kPar_a, kApp_a, kPut_a, kFrz_a, kFor_a, kRaise_a, kDict_a, kDput_a, kClr_a, kNst_a, fLc2_a, yVw_a, view_no, view_dat, view_own, view_scr, xC_a, xV_a, xOp_a, fOp_a, xUn_a, xNot_a, xAnd_a, xOr_a, xIf_a, xChain_a, zNil_a, zCons_a, xTup_a, fLst_a, xL_a, xCB_a, fCB_a, xF_a, xFc_a, fF_a, fFc_a, zApp_a, zKw_a, oNo_a, oAt_a, fSl_a, xSl_a, yV_a, yAnd_a, yOr_a, yNot_a, yYes_a, xIxO_a, xLenO_a, xDg_a, xDin_a, xDnotin_a, iS_a, iA_a, fLc_a, wipeS_nil, wipeS_cons, gN_a, gs0_a, gsC_a, gT_a, gU_a, ownL_a, ownD_a, asB_a, asI_a, asL_a, seqOf_l, seqOf_t, keyD_i, keyD_s, bind_ex, bind_bad, of_none, Rz.bind_ok, Rz.of_some, Rz.calm_ok, Option.bind_some, Option.bind_none, zAddV_i, zSub_i, zLt_i, zLe_i, zGt_i, zGe_i, zEq_i, zNe_i, zEq_r, zNe_r, zIx_r0, zIx_r1, zIx_t, zIx_l, zNeg_i, zLen_l, zLen_t, zAbs_i, zInt_b, zInt_i, zListV_l, zListV_t, zList_l, zList_t, zTuple_l, zTuple_t, zAll_l, zAny_l, zSlV_l, zSlV_t, zIsN_a, zNotN_a, slots, sel, Arg.get, List.filterMap_cons, List.filterMap_nil, List.length_cons, List.length_nil, List.map_cons, List.map_nil, List.cons_append, List.nil_append, List.append_nil, List.getElem?_cons_succ, List.getElem?_cons_zero, List.getElem?_nil, List.set_cons_zero, List.set_cons_succ, List.set_nil, List.replicate_succ, List.replicate_zero, if_true, Nat.sub_self, Nat.reduceAdd, Nat.reduceSub, Nat.reduceLeDiff, Nat.reduceEqDiff, Nat.reduceLT, Int.reduceLT, Int.reduceLE, Int.reduceNeg, Int.reduceEq, Nat.zero_add, and_self, if_false, Bool.not_true, Bool.not_false, Bool.false_eq_true, Nat.zero_le, decide_true, decide_false, reduceCtorEq, b1_look_a, len_rowD, hB, hd]
theorem len_lines (ls : List RRow) : zLen [PyData.tuple (ls.map rowD)] = some (.int (ls.length : Nat)) := by rw [zLen_t, List.length_map]
theorem z_look_raw {L : Nat} {b : List RMenu} (hL : L ≤ 1000) (h : Bk L b) : d_look [bookD b] = match bookV b with | none => .ok .none | some v => .ex ⟨v.cls, []⟩ := by
  unfold bookV
  by_cases hb : 1 ≤ b.length ∧ b.length ≤ 5
  · rw [if_pos hb]
    have e1 : decide ((1 : Int) ≤ (b.length : Nat)) = true := decide_eq_true (by omega)
    have e2 : decide (((b.length : Nat) : Int) ≤ 5) = true := decide_eq_true (by omega)
    obtain ⟨ρ', loop⟩ := forL_findX (g := gT 2 (gsC (gN 1) (gsC (gN 2) gs0))) (wp := [1, 2, 3]) (b := b2_look) (enc := menuD) (F := fun m ρ => (ρ.set 1 (.dat (.str m.1))).set 2 (.dat (.tuple (m.2.map rowD)))) (ρ := [.dat (bookD b), .no, .no, .no, .no]) (f := menuV b.length) (e := fun v => ⟨v.cls, []⟩) (xs := b) (fun m _ => rfl) (fun m hm => by
      obtain ⟨m1, m2, m3⟩ := h.all m hm
      have hh := z_need_hand_raw m.1 m1
      unfold menuV
      cases h1 : isH m.1 with
      | false =>
        rw [h1] at hh
        simp only [Bool.false_eq_true, if_false] at hh ⊢
        exact ⟨_, by simp only [fnD_a, kSeq_a, kNx_a, kE_a, kAsg_a, kOwn_a, kDrop_a, kRet_a, kRetP_a, kRetF_a, kRetO_a, kRetN_a, kIf_a, kBk_a, kCt_a, kTg_a, kPar_a, kApp_a, kPut_a, kFrz_a, kFor_a, kRaise_a, kDict_a, kDput_a, kClr_a, kNst_a, fLc2_a, yVw_a, view_no, view_dat, view_own, view_scr, xC_a, xV_a, xOp_a, fOp_a, xUn_a, xNot_a, xAnd_a, xOr_a, xIf_a, xChain_a, zNil_a, zCons_a, xTup_a, fLst_a, xL_a, xCB_a, fCB_a, xF_a, xFc_a, fF_a, fFc_a, zApp_a, zKw_a, oNo_a, oAt_a, fSl_a, xSl_a, yV_a, yAnd_a, yOr_a, yNot_a, yYes_a, xIxO_a, xLenO_a, xDg_a, xDin_a, xDnotin_a, iS_a, iA_a, fLc_a, wipeS_nil, wipeS_cons, gN_a, gs0_a, gsC_a, gT_a, gU_a, ownL_a, ownD_a, asB_a, asI_a, asL_a, seqOf_l, seqOf_t, keyD_i, keyD_s, bind_ex, bind_bad, of_none, Rz.bind_ok, Rz.of_some, Rz.calm_ok, Option.bind_some, Option.bind_none, zAddV_i, zSub_i, zLt_i, zLe_i, zGt_i, zGe_i, zEq_i, zNe_i, zEq_r, zNe_r, zIx_r0, zIx_r1, zIx_t, zIx_l, zNeg_i, zLen_l, zLen_t, zAbs_i, zInt_b, zInt_i, zListV_l, zListV_t, zList_l, zList_t, zTuple_l, zTuple_t, zAll_l, zAny_l, zSlV_l, zSlV_t, zIsN_a, zNotN_a, slots, sel, Arg.get, List.filterMap_cons, List.filterMap_nil, List.length_cons, List.length_nil, List.map_cons, List.map_nil, List.cons_append, List.nil_append, List.append_nil, List.getElem?_cons_succ, List.getElem?_cons_zero, List.getElem?_nil, List.set_cons_zero, List.set_cons_succ, List.set_nil, List.replicate_succ, List.replicate_zero, if_true, Nat.sub_self, Nat.reduceAdd, Nat.reduceSub, Nat.reduceLeDiff, Nat.reduceEqDiff, Nat.reduceLT, Int.reduceLT, Int.reduceLE, Int.reduceNeg, Int.reduceEq, Nat.zero_add, and_self, if_false, Bool.not_true, Bool.not_false, Bool.false_eq_true, Nat.zero_le, decide_true, decide_false, reduceCtorEq, b2_look_a, hh]; rfl⟩
      | true =>
        rw [h1] at hh
        simp only [if_true] at hh ⊢
        by_cases h2 : 1 ≤ m.2.length ∧ m.2.length ≤ 3
        · rw [if_pos h2]
          have e3 : decide ((1 : Int) ≤ (m.2.length : Nat)) = true := decide_eq_true (by omega)
          have e4 : decide (((m.2.length : Nat) : Int) ≤ 3) = true := decide_eq_true (by omega)
          obtain ⟨ρ2, inner⟩ := forL_findX (g := gN 3) (wp := [3]) (b := b1_look) (enc := rowD) (F := fun r ρ => ρ.set 3 (.dat (rowD r))) (ρ := [.dat (bookD b), .dat (.str m.1), .dat (.tuple (m.2.map rowD)), .no, .no]) (f := fun r => if rowBad b.length r then some V3.shares else none) (e := fun v => ⟨v.cls, []⟩) (xs := m.2) (fun r _ => rfl) (fun r hr => by
            have ht := look_turn (n := b.length) (dB := bookD b) (w := .dat (.str m.1)) (l := .dat (.tuple (m.2.map rowD))) (r := r) (len_bookD b) (by have := m3 r hr; omega)
            cases hrb : rowBad b.length r with
            | true => rw [hrb] at ht; exact ⟨_, ht⟩
            | false => rw [hrb] at ht; exact ⟨_, ht, rfl⟩)
          have st : b2_look [.dat (bookD b), .dat (.str m.1), .dat (.tuple (m.2.map rowD)), .no, .no] = forL (gN 3) [3] b1_look (m.2.map rowD) [.dat (bookD b), .dat (.str m.1), .dat (.tuple (m.2.map rowD)), .no, .no] := by
            simp only [fnD_a, kSeq_a, kNx_a, kE_a, kAsg_a, kOwn_a, kDrop_a, kRet_a, kRetP_a, kRetF_a, kRetO_a, kRetN_a, kIf_a, kBk_a, kCt_a, kTg_a, kPar_a, kApp_a, kPut_a, kFrz_a, kFor_a, kRaise_a, kDict_a, kDput_a, kClr_a, kNst_a, fLc2_a, yVw_a, view_no, view_dat, view_own, view_scr, xC_a, xV_a, xOp_a, fOp_a, xUn_a, xNot_a, xAnd_a, xOr_a, xIf_a, xChain_a, zNil_a, zCons_a, xTup_a, fLst_a, xL_a, xCB_a, fCB_a, xF_a, xFc_a, fF_a, fFc_a, zApp_a, zKw_a, oNo_a, oAt_a, fSl_a, xSl_a, yV_a, yAnd_a, yOr_a, yNot_a, yYes_a, xIxO_a, xLenO_a, xDg_a, xDin_a, xDnotin_a, iS_a, iA_a, fLc_a, wipeS_nil, wipeS_cons, gN_a, gs0_a, gsC_a, gT_a, gU_a, ownL_a, ownD_a, asB_a, asI_a, asL_a, seqOf_l, seqOf_t, keyD_i, keyD_s, bind_ex, bind_bad, of_none, Rz.bind_ok, Rz.of_some, Rz.calm_ok, Option.bind_some, Option.bind_none, zAddV_i, zSub_i, zLt_i, zLe_i, zGt_i, zGe_i, zEq_i, zNe_i, zEq_r, zNe_r, zIx_r0, zIx_r1, zIx_t, zIx_l, zNeg_i, zLen_l, zLen_t, zAbs_i, zInt_b, zInt_i, zListV_l, zListV_t, zList_l, zList_t, zTuple_l, zTuple_t, zAll_l, zAny_l, zSlV_l, zSlV_t, zIsN_a, zNotN_a, slots, sel, Arg.get, List.filterMap_cons, List.filterMap_nil, List.length_cons, List.length_nil, List.map_cons, List.map_nil, List.cons_append, List.nil_append, List.append_nil, List.getElem?_cons_succ, List.getElem?_cons_zero, List.getElem?_nil, List.set_cons_zero, List.set_cons_succ, List.set_nil, List.replicate_succ, List.replicate_zero, if_true, Nat.sub_self, Nat.reduceAdd, Nat.reduceSub, Nat.reduceLeDiff, Nat.reduceEqDiff, Nat.reduceLT, Int.reduceLT, Int.reduceLE, Int.reduceNeg, Int.reduceEq, Nat.zero_add, and_self, if_false, Bool.not_true, Bool.not_false, Bool.false_eq_true, Nat.zero_le, decide_true, decide_false, reduceCtorEq, b2_look_a, hh, List.length_map, e3, e4]
          have st' : b2_look ((([.dat (bookD b), .no, .no, .no, .no] : List Slot).set 1 (.dat (.str m.1))).set 2 (.dat (.tuple (m.2.map rowD)))) = _ := st.trans inner
          unfold rowsV
          cases hv : m.2.findSome? fun r => if rowBad b.length r then some V3.shares else none with
          | none => rw [hv] at st'; exact ⟨_, st', rfl⟩
          | some v => rw [hv] at st'; exact ⟨_, st'⟩
        · rw [if_neg h2]
          refine ⟨[.dat (bookD b), .dat (.str m.1), .dat (.tuple (m.2.map rowD)), .no, .no], ?_⟩
          · by_cases h3 : 1 ≤ m.2.length
            · have e3 : decide ((1 : Int) ≤ (m.2.length : Nat)) = true := decide_eq_true (by omega)
              have e4 : decide (((m.2.length : Nat) : Int) ≤ 3) = false := decide_eq_false (by omega)
              simp only [fnD_a, kSeq_a, kNx_a, kE_a, kAsg_a, kOwn_a, kDrop_a, kRet_a, kRetP_a, kRetF_a, kRetO_a, kRetN_a, kIf_a, kBk_a, kCt_a, kTg_a, kPar_a, kApp_a, kPut_a, kFrz_a, kFor_a, kRaise_a, kDict_a, kDput_a, kClr_a, kNst_a, fLc2_a, yVw_a, view_no, view_dat, view_own, view_scr, xC_a, xV_a, xOp_a, fOp_a, xUn_a, xNot_a, xAnd_a, xOr_a, xIf_a, xChain_a, zNil_a, zCons_a, xTup_a, fLst_a, xL_a, xCB_a, fCB_a, xF_a, xFc_a, fF_a, fFc_a, zApp_a, zKw_a, oNo_a, oAt_a, fSl_a, xSl_a, yV_a, yAnd_a, yOr_a, yNot_a, yYes_a, xIxO_a, xLenO_a, xDg_a, xDin_a, xDnotin_a, iS_a, iA_a, fLc_a, wipeS_nil, wipeS_cons, gN_a, gs0_a, gsC_a, gT_a, gU_a, ownL_a, ownD_a, asB_a, asI_a, asL_a, seqOf_l, seqOf_t, keyD_i, keyD_s, bind_ex, bind_bad, of_none, Rz.bind_ok, Rz.of_some, Rz.calm_ok, Option.bind_some, Option.bind_none, zAddV_i, zSub_i, zLt_i, zLe_i, zGt_i, zGe_i, zEq_i, zNe_i, zEq_r, zNe_r, zIx_r0, zIx_r1, zIx_t, zIx_l, zNeg_i, zLen_l, zLen_t, zAbs_i, zInt_b, zInt_i, zListV_l, zListV_t, zList_l, zList_t, zTuple_l, zTuple_t, zAll_l, zAny_l, zSlV_l, zSlV_t, zIsN_a, zNotN_a, slots, sel, Arg.get, List.filterMap_cons, List.filterMap_nil, List.length_cons, List.length_nil, List.map_cons, List.map_nil, List.cons_append, List.nil_append, List.append_nil, List.getElem?_cons_succ, List.getElem?_cons_zero, List.getElem?_nil, List.set_cons_zero, List.set_cons_succ, List.set_nil, List.replicate_succ, List.replicate_zero, if_true, Nat.sub_self, Nat.reduceAdd, Nat.reduceSub, Nat.reduceLeDiff, Nat.reduceEqDiff, Nat.reduceLT, Int.reduceLT, Int.reduceLE, Int.reduceNeg, Int.reduceEq, Nat.zero_add, and_self, if_false, Bool.not_true, Bool.not_false, Bool.false_eq_true, Nat.zero_le, decide_true, decide_false, reduceCtorEq, b2_look_a, hh, List.length_map, e3, e4]
              rfl
            · have e3 : decide ((1 : Int) ≤ (m.2.length : Nat)) = false := decide_eq_false (by omega)
              simp only [fnD_a, kSeq_a, kNx_a, kE_a, kAsg_a, kOwn_a, kDrop_a, kRet_a, kRetP_a, kRetF_a, kRetO_a, kRetN_a, kIf_a, kBk_a, kCt_a, kTg_a, kPar_a, kApp_a, kPut_a, kFrz_a, kFor_a, kRaise_a, kDict_a, kDput_a, kClr_a, kNst_a, fLc2_a, yVw_a, view_no, view_dat, view_own, view_scr, xC_a, xV_a, xOp_a, fOp_a, xUn_a, xNot_a, xAnd_a, xOr_a, xIf_a, xChain_a, zNil_a, zCons_a, xTup_a, fLst_a, xL_a, xCB_a, fCB_a, xF_a, xFc_a, fF_a, fFc_a, zApp_a, zKw_a, oNo_a, oAt_a, fSl_a, xSl_a, yV_a, yAnd_a, yOr_a, yNot_a, yYes_a, xIxO_a, xLenO_a, xDg_a, xDin_a, xDnotin_a, iS_a, iA_a, fLc_a, wipeS_nil, wipeS_cons, gN_a, gs0_a, gsC_a, gT_a, gU_a, ownL_a, ownD_a, asB_a, asI_a, asL_a, seqOf_l, seqOf_t, keyD_i, keyD_s, bind_ex, bind_bad, of_none, Rz.bind_ok, Rz.of_some, Rz.calm_ok, Option.bind_some, Option.bind_none, zAddV_i, zSub_i, zLt_i, zLe_i, zGt_i, zGe_i, zEq_i, zNe_i, zEq_r, zNe_r, zIx_r0, zIx_r1, zIx_t, zIx_l, zNeg_i, zLen_l, zLen_t, zAbs_i, zInt_b, zInt_i, zListV_l, zListV_t, zList_l, zList_t, zTuple_l, zTuple_t, zAll_l, zAny_l, zSlV_l, zSlV_t, zIsN_a, zNotN_a, slots, sel, Arg.get, List.filterMap_cons, List.filterMap_nil, List.length_cons, List.length_nil, List.map_cons, List.map_nil, List.cons_append, List.nil_append, List.append_nil, List.getElem?_cons_succ, List.getElem?_cons_zero, List.getElem?_nil, List.set_cons_zero, List.set_cons_succ, List.set_nil, List.replicate_succ, List.replicate_zero, if_true, Nat.sub_self, Nat.reduceAdd, Nat.reduceSub, Nat.reduceLeDiff, Nat.reduceEqDiff, Nat.reduceLT, Int.reduceLT, Int.reduceLE, Int.reduceNeg, Int.reduceEq, Nat.zero_add, and_self, if_false, Bool.not_true, Bool.not_false, Bool.false_eq_true, Nat.zero_le, decide_true, decide_false, reduceCtorEq, b2_look_a, hh, List.length_map, e3]
              rfl)
    have hsq : seqOf (bookD b) = some (b.map menuD) := rfl
    cases hv : b.findSome? (menuV b.length) with
    | none => rw [hv] at loop; simp only [fnD_a, kSeq_a, kNx_a, kE_a, kAsg_a, kOwn_a, kDrop_a, kRet_a, kRetP_a, kRetF_a, kRetO_a, kRetN_a, kIf_a, kBk_a, kCt_a, kTg_a, kPar_a, kApp_a, kPut_a, kFrz_a, kFor_a, kRaise_a, kDict_a, kDput_a, kClr_a, kNst_a, fLc2_a, yVw_a, view_no, view_dat, view_own, view_scr, xC_a, xV_a, xOp_a, fOp_a, xUn_a, xNot_a, xAnd_a, xOr_a, xIf_a, xChain_a, zNil_a, zCons_a, xTup_a, fLst_a, xL_a, xCB_a, fCB_a, xF_a, xFc_a, fF_a, fFc_a, zApp_a, zKw_a, oNo_a, oAt_a, fSl_a, xSl_a, yV_a, yAnd_a, yOr_a, yNot_a, yYes_a, xIxO_a, xLenO_a, xDg_a, xDin_a, xDnotin_a, iS_a, iA_a, fLc_a, wipeS_nil, wipeS_cons, gN_a, gs0_a, gsC_a, gT_a, gU_a, ownL_a, ownD_a, asB_a, asI_a, asL_a, seqOf_l, seqOf_t, keyD_i, keyD_s, bind_ex, bind_bad, of_none, Rz.bind_ok, Rz.of_some, Rz.calm_ok, Option.bind_some, Option.bind_none, zAddV_i, zSub_i, zLt_i, zLe_i, zGt_i, zGe_i, zEq_i, zNe_i, zEq_r, zNe_r, zIx_r0, zIx_r1, zIx_t, zIx_l, zNeg_i, zLen_l, zLen_t, zAbs_i, zInt_b, zInt_i, zListV_l, zListV_t, zList_l, zList_t, zTuple_l, zTuple_t, zAll_l, zAny_l, zSlV_l, zSlV_t, zIsN_a, zNotN_a, slots, sel, Arg.get, List.filterMap_cons, List.filterMap_nil, List.length_cons, List.length_nil, List.map_cons, List.map_nil, List.cons_append, List.nil_append, List.append_nil, List.getElem?_cons_succ, List.getElem?_cons_zero, List.getElem?_nil, List.set_cons_zero, List.set_cons_succ, List.set_nil, List.replicate_succ, List.replicate_zero, if_true, Nat.sub_self, Nat.reduceAdd, Nat.reduceSub, Nat.reduceLeDiff, Nat.reduceEqDiff, Nat.reduceLT, Int.reduceLT, Int.reduceLE, Int.reduceNeg, Int.reduceEq, Nat.zero_add, and_self, if_false, Bool.not_true, Bool.not_false, Bool.false_eq_true, Nat.zero_le, decide_true, decide_false, reduceCtorEq, d_look, m_look, len_bookD, e1, e2, hsq, loop]
    | some v => rw [hv] at loop; simp only [fnD_a, kSeq_a, kNx_a, kE_a, kAsg_a, kOwn_a, kDrop_a, kRet_a, kRetP_a, kRetF_a, kRetO_a, kRetN_a, kIf_a, kBk_a, kCt_a, kTg_a, kPar_a, kApp_a, kPut_a, kFrz_a, kFor_a, kRaise_a, kDict_a, kDput_a, kClr_a, kNst_a, fLc2_a, yVw_a, view_no, view_dat, view_own, view_scr, xC_a, xV_a, xOp_a, fOp_a, xUn_a, xNot_a, xAnd_a, xOr_a, xIf_a, xChain_a, zNil_a, zCons_a, xTup_a, fLst_a, xL_a, xCB_a, fCB_a, xF_a, xFc_a, fF_a, fFc_a, zApp_a, zKw_a, oNo_a, oAt_a, fSl_a, xSl_a, yV_a, yAnd_a, yOr_a, yNot_a, yYes_a, xIxO_a, xLenO_a, xDg_a, xDin_a, xDnotin_a, iS_a, iA_a, fLc_a, wipeS_nil, wipeS_cons, gN_a, gs0_a, gsC_a, gT_a, gU_a, ownL_a, ownD_a, asB_a, asI_a, asL_a, seqOf_l, seqOf_t, keyD_i, keyD_s, bind_ex, bind_bad, of_none, Rz.bind_ok, Rz.of_some, Rz.calm_ok, Option.bind_some, Option.bind_none, zAddV_i, zSub_i, zLt_i, zLe_i, zGt_i, zGe_i, zEq_i, zNe_i, zEq_r, zNe_r, zIx_r0, zIx_r1, zIx_t, zIx_l, zNeg_i, zLen_l, zLen_t, zAbs_i, zInt_b, zInt_i, zListV_l, zListV_t, zList_l, zList_t, zTuple_l, zTuple_t, zAll_l, zAny_l, zSlV_l, zSlV_t, zIsN_a, zNotN_a, slots, sel, Arg.get, List.filterMap_cons, List.filterMap_nil, List.length_cons, List.length_nil, List.map_cons, List.map_nil, List.cons_append, List.nil_append, List.append_nil, List.getElem?_cons_succ, List.getElem?_cons_zero, List.getElem?_nil, List.set_cons_zero, List.set_cons_succ, List.set_nil, List.replicate_succ, List.replicate_zero, if_true, Nat.sub_self, Nat.reduceAdd, Nat.reduceSub, Nat.reduceLeDiff, Nat.reduceEqDiff, Nat.reduceLT, Int.reduceLT, Int.reduceLE, Int.reduceNeg, Int.reduceEq, Nat.zero_add, and_self, if_false, Bool.not_true, Bool.not_false, Bool.false_eq_true, Nat.zero_le, decide_true, decide_false, reduceCtorEq, d_look, m_look, len_bookD, e1, e2, hsq, loop]
  · rw [if_neg hb]
    by_cases h3 : 1 ≤ b.length
    · have e3 : decide ((1 : Int) ≤ (b.length : Nat)) = true := decide_eq_true (by omega)
      have e4 : decide (((b.length : Nat) : Int) ≤ 5) = false := decide_eq_false (by omega)
      simp only [fnD_a, kSeq_a, kNx_a, kE_a, kAsg_a, kOwn_a, kDrop_a, kRet_a, kRetP_a, kRetF_a, kRetO_a, kRetN_a, kIf_a, kBk_a, kCt_a, kTg_a, kPar_a, kApp_a, kPut_a, kFrz_a, kFor_a, kRaise_a, kDict_a, kDput_a, kClr_a, kNst_a, fLc2_a, yVw_a, view_no, view_dat, view_own, view_scr, xC_a, xV_a, xOp_a, fOp_a, xUn_a, xNot_a, xAnd_a, xOr_a, xIf_a, xChain_a, zNil_a, zCons_a, xTup_a, fLst_a, xL_a, xCB_a, fCB_a, xF_a, xFc_a, fF_a, fFc_a, zApp_a, zKw_a, oNo_a, oAt_a, fSl_a, xSl_a, yV_a, yAnd_a, yOr_a, yNot_a, yYes_a, xIxO_a, xLenO_a, xDg_a, xDin_a, xDnotin_a, iS_a, iA_a, fLc_a, wipeS_nil, wipeS_cons, gN_a, gs0_a, gsC_a, gT_a, gU_a, ownL_a, ownD_a, asB_a, asI_a, asL_a, seqOf_l, seqOf_t, keyD_i, keyD_s, bind_ex, bind_bad, of_none, Rz.bind_ok, Rz.of_some, Rz.calm_ok, Option.bind_some, Option.bind_none, zAddV_i, zSub_i, zLt_i, zLe_i, zGt_i, zGe_i, zEq_i, zNe_i, zEq_r, zNe_r, zIx_r0, zIx_r1, zIx_t, zIx_l, zNeg_i, zLen_l, zLen_t, zAbs_i, zInt_b, zInt_i, zListV_l, zListV_t, zList_l, zList_t, zTuple_l, zTuple_t, zAll_l, zAny_l, zSlV_l, zSlV_t, zIsN_a, zNotN_a, slots, sel, Arg.get, List.filterMap_cons, List.filterMap_nil, List.length_cons, List.length_nil, List.map_cons, List.map_nil, List.cons_append, List.nil_append, List.append_nil, List.getElem?_cons_succ, List.getElem?_cons_zero, List.getElem?_nil, List.set_cons_zero, List.set_cons_succ, List.set_nil, List.replicate_succ, List.replicate_zero, if_true, Nat.sub_self, Nat.reduceAdd, Nat.reduceSub, Nat.reduceLeDiff, Nat.reduceEqDiff, Nat.reduceLT, Int.reduceLT, Int.reduceLE, Int.reduceNeg, Int.reduceEq, Nat.zero_add, and_self, if_false, Bool.not_true, Bool.not_false, Bool.false_eq_true, Nat.zero_le, decide_true, decide_false, reduceCtorEq, d_look, m_look, len_bookD, e3, e4]
      rfl
    · have e3 : decide ((1 : Int) ≤ (b.length : Nat)) = false := decide_eq_false (by omega)
      simp only [fnD_a, kSeq_a, kNx_a, kE_a, kAsg_a, kOwn_a, kDrop_a, kRet_a, kRetP_a, kRetF_a, kRetO_a, kRetN_a, kIf_a, kBk_a, kCt_a, kTg_a, kPar_a, kApp_a, kPut_a, kFrz_a, kFor_a, kRaise_a, kDict_a, kDput_a, kClr_a, kNst_a, fLc2_a, yVw_a, view_no, view_dat, view_own, view_scr, xC_a, xV_a, xOp_a, fOp_a, xUn_a, xNot_a, xAnd_a, xOr_a, xIf_a, xChain_a, zNil_a, zCons_a, xTup_a, fLst_a, xL_a, xCB_a, fCB_a, xF_a, xFc_a, fF_a, fFc_a, zApp_a, zKw_a, oNo_a, oAt_a, fSl_a, xSl_a, yV_a, yAnd_a, yOr_a, yNot_a, yYes_a, xIxO_a, xLenO_a, xDg_a, xDin_a, xDnotin_a, iS_a, iA_a, fLc_a, wipeS_nil, wipeS_cons, gN_a, gs0_a, gsC_a, gT_a, gU_a, ownL_a, ownD_a, asB_a, asI_a, asL_a, seqOf_l, seqOf_t, keyD_i, keyD_s, bind_ex, bind_bad, of_none, Rz.bind_ok, Rz.of_some, Rz.calm_ok, Option.bind_some, Option.bind_none, zAddV_i, zSub_i, zLt_i, zLe_i, zGt_i, zGe_i, zEq_i, zNe_i, zEq_r, zNe_r, zIx_r0, zIx_r1, zIx_t, zIx_l, zNeg_i, zLen_l, zLen_t, zAbs_i, zInt_b, zInt_i, zListV_l, zListV_t, zList_l, zList_t, zTuple_l, zTuple_t, zAll_l, zAny_l, zSlV_l, zSlV_t, zIsN_a, zNotN_a, slots, sel, Arg.get, List.filterMap_cons, List.filterMap_nil, List.length_cons, List.length_nil, List.map_cons, List.map_nil, List.cons_append, List.nil_append, List.append_nil, List.getElem?_cons_succ, List.getElem?_cons_zero, List.getElem?_nil, List.set_cons_zero, List.set_cons_succ, List.set_nil, List.replicate_succ, List.replicate_zero, if_true, Nat.sub_self, Nat.reduceAdd, Nat.reduceSub, Nat.reduceLeDiff, Nat.reduceEqDiff, Nat.reduceLT, Int.reduceLT, Int.reduceLE, Int.reduceNeg, Int.reduceEq, Nat.zero_add, and_self, if_false, Bool.not_true, Bool.not_false, Bool.false_eq_true, Nat.zero_le, decide_true, decide_false, reduceCtorEq, d_look, m_look, len_bookD, e3]
      rfl
/-! ### stores_of, all_plans, plans -/
theorem lc2L_map {α : Type} {vs1 : List Nat} {i0 i1 : Nat} {mi1 : MA} {me : ME} {ρ : List Slot} {enc : α → PyData} {out : α → List PyData} : ∀ {xs : List α}, (∀ x ∈ xs, lc2F vs1 i0 i1 mi1 me ρ (enc x) = .ok (out x)) → lc2L vs1 i0 i1 mi1 me ρ (xs.map enc) = .ok (xs.flatMap out)
  | [], _ => rfl
  | x :: xs, h => by
    have ih := lc2L_map (xs := xs) fun y hy => h y (List.mem_cons_of_mem _ hy)
    rw [List.map_cons, List.flatMap_cons]
    show (lc2F vs1 i0 i1 mi1 me ρ (enc x)).calm.bind _ = _
    rw [h x (List.mem_cons_self ..), ih]
    rfl
theorem z_stores_of {ms : List Menu} (h : okBook ms) (w : Bool) : d_stores_of [encBook ms, whoD w] = .ok (.list ((placesL ms w).map natD)) := by
  have h1 := z_look h
  have h2 := z_need_hand w
  have h3 := z_places_of (by have := h.hi; omega) w (ms := ms)
  simp only [fnD_a, kSeq_a, kNx_a, kE_a, kAsg_a, kOwn_a, kDrop_a, kRet_a, kRetP_a, kRetF_a, kRetO_a, kRetN_a, kIf_a, kBk_a, kCt_a, kTg_a, kPar_a, kApp_a, kPut_a, kFrz_a, kFor_a, kRaise_a, kDict_a, kDput_a, kClr_a, kNst_a, fLc2_a, yVw_a, view_no, view_dat, view_own, view_scr, xC_a, xV_a, xOp_a, fOp_a, xUn_a, xNot_a, xAnd_a, xOr_a, xIf_a, xChain_a, zNil_a, zCons_a, xTup_a, fLst_a, xL_a, xCB_a, fCB_a, xF_a, xFc_a, fF_a, fFc_a, zApp_a, zKw_a, oNo_a, oAt_a, fSl_a, xSl_a, yV_a, yAnd_a, yOr_a, yNot_a, yYes_a, xIxO_a, xLenO_a, xDg_a, xDin_a, xDnotin_a, iS_a, iA_a, fLc_a, wipeS_nil, wipeS_cons, gN_a, gs0_a, gsC_a, gT_a, gU_a, ownL_a, ownD_a, asB_a, asI_a, asL_a, seqOf_l, seqOf_t, keyD_i, keyD_s, bind_ex, bind_bad, of_none, Rz.bind_ok, Rz.of_some, Rz.calm_ok, Option.bind_some, Option.bind_none, zAddV_i, zSub_i, zLt_i, zLe_i, zGt_i, zGe_i, zEq_i, zNe_i, zEq_r, zNe_r, zIx_r0, zIx_r1, zIx_t, zIx_l, zNeg_i, zLen_l, zLen_t, zAbs_i, zInt_b, zInt_i, zListV_l, zListV_t, zList_l, zList_t, zTuple_l, zTuple_t, zAll_l, zAny_l, zSlV_l, zSlV_t, zIsN_a, zNotN_a, slots, sel, Arg.get, List.filterMap_cons, List.filterMap_nil, List.length_cons, List.length_nil, List.map_cons, List.map_nil, List.cons_append, List.nil_append, List.append_nil, List.getElem?_cons_succ, List.getElem?_cons_zero, List.getElem?_nil, List.set_cons_zero, List.set_cons_succ, List.set_nil, List.replicate_succ, List.replicate_zero, if_true, Nat.sub_self, Nat.reduceAdd, Nat.reduceSub, Nat.reduceLeDiff, Nat.reduceEqDiff, Nat.reduceLT, Int.reduceLT, Int.reduceLE, Int.reduceNeg, Int.reduceEq, Nat.zero_add, and_self, if_false, Bool.not_true, Bool.not_false, Bool.false_eq_true, Nat.zero_le, decide_true, decide_false, reduceCtorEq, d_stores_of, m_stores_of, h1, h2, h3]
theorem z_all_turn {ms : List Menu} {ds : PyData} {s : Nat} {m : Menu} {acc : List (List Int)} (hm : ms[s]? = some m) (hn : m.2.length ≤ 1000) (ha : ∀ p ∈ acc, p.length ≤ 1000) (hl : (addAll acc m.2.length).length ≤ 1000000) :
    b1_all_plans [.dat (encBook ms), .dat ds, .own (.lst (acc.map planD)), .dat (natD s), .no, .no] = .nx [.dat (encBook ms), .dat ds, .own (.lst ((addAll acc m.2.length).map planD)), .dat (natD s), .no, .no] := by
  have hx := ix_menu hm
  have hln : zLen [PyData.tuple (m.2.map encRow)] = some (.int (m.2.length : Nat)) := by rw [zLen_t, List.length_map]
  have hr : rng1 [.int (m.2.length : Nat)] = some ((List.range m.2.length).map natD) := by rw [rng1_n (by omega), rgD_map]; rfl
  have l2 := lc2L_map (vs1 := [5]) (i0 := 4) (i1 := 5) (mi1 := iA rng1 (zCons (xCB zLen (zCons (xOp zIx (xOp zIx (xV 0) (xV 3)) (xC (.int 1))) zNil)) zNil)) (me := xOp zAddV (xV 4) (xTup (zCons (xV 5) zNil))) (ρ := [.dat (encBook ms), .dat ds, .dat (.list (acc.map planD)), .dat (natD s), .no, .no]) (enc := planD) (out := fun p => (List.range m.2.length).map fun a : Nat => planD (p ++ [(a : Int)])) (xs := acc) (fun p hp => by
    have lc : lcL (gN 5) yYes (xOp zAddV (xV 4) (xTup (zCons (xV 5) zNil))) [.dat (encBook ms), .dat ds, .dat (.list (acc.map planD)), .dat (natD s), .dat (planD p), .no] ((List.range m.2.length).map natD) = .ok ((List.range m.2.length).map fun a : Nat => planD (p ++ [(a : Int)])) :=
      lcL_map (F := fun a ρ => ρ.set 5 (.dat (natD a))) (fun a _ => rfl) (fun a _ => rfl) (fun a _ => by
        have hz : zAddV (planD p) (.tuple [.int (a : Int)]) = some (planD (p ++ [(a : Int)])) := by
          unfold planD
          rw [zAddV_t (by rw [List.length_map]; have := ha p hp; simp; omega), List.map_append]
          rfl
        simp only [fnD_a, kSeq_a, kNx_a, kE_a, kAsg_a, kOwn_a, kDrop_a, kRet_a, kRetP_a, kRetF_a, kRetO_a, kRetN_a, kIf_a, kBk_a, kCt_a, kTg_a, kPar_a, kApp_a, kPut_a, kFrz_a, kFor_a, kRaise_a, kDict_a, kDput_a, kClr_a, kNst_a, fLc2_a, yVw_a, view_no, view_dat, view_own, view_scr, xC_a, xV_a, xOp_a, fOp_a, xUn_a, xNot_a, xAnd_a, xOr_a, xIf_a, xChain_a, zNil_a, zCons_a, xTup_a, fLst_a, xL_a, xCB_a, fCB_a, xF_a, xFc_a, fF_a, fFc_a, zApp_a, zKw_a, oNo_a, oAt_a, fSl_a, xSl_a, yV_a, yAnd_a, yOr_a, yNot_a, yYes_a, xIxO_a, xLenO_a, xDg_a, xDin_a, xDnotin_a, iS_a, iA_a, fLc_a, wipeS_nil, wipeS_cons, gN_a, gs0_a, gsC_a, gT_a, gU_a, ownL_a, ownD_a, asB_a, asI_a, asL_a, seqOf_l, seqOf_t, keyD_i, keyD_s, bind_ex, bind_bad, of_none, Rz.bind_ok, Rz.of_some, Rz.calm_ok, Option.bind_some, Option.bind_none, zAddV_i, zSub_i, zLt_i, zLe_i, zGt_i, zGe_i, zEq_i, zNe_i, zEq_r, zNe_r, zIx_r0, zIx_r1, zIx_t, zIx_l, zNeg_i, zLen_l, zLen_t, zAbs_i, zInt_b, zInt_i, zListV_l, zListV_t, zList_l, zList_t, zTuple_l, zTuple_t, zAll_l, zAny_l, zSlV_l, zSlV_t, zIsN_a, zNotN_a, slots, sel, Arg.get, List.filterMap_cons, List.filterMap_nil, List.length_cons, List.length_nil, List.map_cons, List.map_nil, List.cons_append, List.nil_append, List.append_nil, List.getElem?_cons_succ, List.getElem?_cons_zero, List.getElem?_nil, List.set_cons_zero, List.set_cons_succ, List.set_nil, List.replicate_succ, List.replicate_zero, if_true, Nat.sub_self, Nat.reduceAdd, Nat.reduceSub, Nat.reduceLeDiff, Nat.reduceEqDiff, Nat.reduceLT, Int.reduceLT, Int.reduceLE, Int.reduceNeg, Int.reduceEq, Nat.zero_add, and_self, if_false, Bool.not_true, Bool.not_false, Bool.false_eq_true, Nat.zero_le, decide_true, decide_false, reduceCtorEq, natD, hz])
    unfold lc2F
    simp only [fnD_a, kSeq_a, kNx_a, kE_a, kAsg_a, kOwn_a, kDrop_a, kRet_a, kRetP_a, kRetF_a, kRetO_a, kRetN_a, kIf_a, kBk_a, kCt_a, kTg_a, kPar_a, kApp_a, kPut_a, kFrz_a, kFor_a, kRaise_a, kDict_a, kDput_a, kClr_a, kNst_a, fLc2_a, yVw_a, view_no, view_dat, view_own, view_scr, xC_a, xV_a, xOp_a, fOp_a, xUn_a, xNot_a, xAnd_a, xOr_a, xIf_a, xChain_a, zNil_a, zCons_a, xTup_a, fLst_a, xL_a, xCB_a, fCB_a, xF_a, xFc_a, fF_a, fFc_a, zApp_a, zKw_a, oNo_a, oAt_a, fSl_a, xSl_a, yV_a, yAnd_a, yOr_a, yNot_a, yYes_a, xIxO_a, xLenO_a, xDg_a, xDin_a, xDnotin_a, iS_a, iA_a, fLc_a, wipeS_nil, wipeS_cons, gN_a, gs0_a, gsC_a, gT_a, gU_a, ownL_a, ownD_a, asB_a, asI_a, asL_a, seqOf_l, seqOf_t, keyD_i, keyD_s, bind_ex, bind_bad, of_none, Rz.bind_ok, Rz.of_some, Rz.calm_ok, Option.bind_some, Option.bind_none, zAddV_i, zSub_i, zLt_i, zLe_i, zGt_i, zGe_i, zEq_i, zNe_i, zEq_r, zNe_r, zIx_r0, zIx_r1, zIx_t, zIx_l, zNeg_i, zLen_l, zLen_t, zAbs_i, zInt_b, zInt_i, zListV_l, zListV_t, zList_l, zList_t, zTuple_l, zTuple_t, zAll_l, zAny_l, zSlV_l, zSlV_t, zIsN_a, zNotN_a, slots, sel, Arg.get, List.filterMap_cons, List.filterMap_nil, List.length_cons, List.length_nil, List.map_cons, List.map_nil, List.cons_append, List.nil_append, List.append_nil, List.getElem?_cons_succ, List.getElem?_cons_zero, List.getElem?_nil, List.set_cons_zero, List.set_cons_succ, List.set_nil, List.replicate_succ, List.replicate_zero, if_true, Nat.sub_self, Nat.reduceAdd, Nat.reduceSub, Nat.reduceLeDiff, Nat.reduceEqDiff, Nat.reduceLT, Int.reduceLT, Int.reduceLE, Int.reduceNeg, Int.reduceEq, Nat.zero_add, and_self, if_false, Bool.not_true, Bool.not_false, Bool.false_eq_true, Nat.zero_le, decide_true, decide_false, reduceCtorEq, natD, hx, ix_rows, hln, hr]
    exact lc)
  have eo : acc.flatMap (fun p => (List.range m.2.length).map fun a : Nat => planD (p ++ [(a : Int)])) = (addAll acc m.2.length).map planD := by
    unfold addAll
    rw [List.map_flatMap]
    congr 1
    funext p
    rw [List.map_map]
    rfl
  rw [eo] at l2
  have hl2 : ((addAll acc m.2.length).map planD).length ≤ 1000000 := by rw [List.length_map]; exact hl
  simp only [fnD_a, kSeq_a, kNx_a, kE_a, kAsg_a, kOwn_a, kDrop_a, kRet_a, kRetP_a, kRetF_a, kRetO_a, kRetN_a, kIf_a, kBk_a, kCt_a, kTg_a, kPar_a, kApp_a, kPut_a, kFrz_a, kFor_a, kRaise_a, kDict_a, kDput_a, kClr_a, kNst_a, fLc2_a, yVw_a, view_no, view_dat, view_own, view_scr, xC_a, xV_a, xOp_a, fOp_a, xUn_a, xNot_a, xAnd_a, xOr_a, xIf_a, xChain_a, zNil_a, zCons_a, xTup_a, fLst_a, xL_a, xCB_a, fCB_a, xF_a, xFc_a, fF_a, fFc_a, zApp_a, zKw_a, oNo_a, oAt_a, fSl_a, xSl_a, yV_a, yAnd_a, yOr_a, yNot_a, yYes_a, xIxO_a, xLenO_a, xDg_a, xDin_a, xDnotin_a, iS_a, iA_a, fLc_a, wipeS_nil, wipeS_cons, gN_a, gs0_a, gsC_a, gT_a, gU_a, ownL_a, ownD_a, asB_a, asI_a, asL_a, seqOf_l, seqOf_t, keyD_i, keyD_s, bind_ex, bind_bad, of_none, Rz.bind_ok, Rz.of_some, Rz.calm_ok, Option.bind_some, Option.bind_none, zAddV_i, zSub_i, zLt_i, zLe_i, zGt_i, zGe_i, zEq_i, zNe_i, zEq_r, zNe_r, zIx_r0, zIx_r1, zIx_t, zIx_l, zNeg_i, zLen_l, zLen_t, zAbs_i, zInt_b, zInt_i, zListV_l, zListV_t, zList_l, zList_t, zTuple_l, zTuple_t, zAll_l, zAny_l, zSlV_l, zSlV_t, zIsN_a, zNotN_a, slots, sel, Arg.get, List.filterMap_cons, List.filterMap_nil, List.length_cons, List.length_nil, List.map_cons, List.map_nil, List.cons_append, List.nil_append, List.append_nil, List.getElem?_cons_succ, List.getElem?_cons_zero, List.getElem?_nil, List.set_cons_zero, List.set_cons_succ, List.set_nil, List.replicate_succ, List.replicate_zero, if_true, Nat.sub_self, Nat.reduceAdd, Nat.reduceSub, Nat.reduceLeDiff, Nat.reduceEqDiff, Nat.reduceLT, Int.reduceLT, Int.reduceLE, Int.reduceNeg, Int.reduceEq, Nat.zero_add, and_self, if_false, Bool.not_true, Bool.not_false, Bool.false_eq_true, Nat.zero_le, decide_true, decide_false, reduceCtorEq, b1_all_plans_a, l2, if_pos hl2]
theorem z_all_loop {ms : List Menu} {ds : PyData} (hms : ∀ m ∈ ms, m.2.length ≤ 3) : ∀ (ss : List Nat) (acc : List (List Int)) (k : Nat), (∀ s ∈ ss, s < ms.length) → acc.length * 3 ^ ss.length ≤ 1000000 → (∀ p ∈ acc, p.length ≤ k) → k + ss.length ≤ 1000 →
    forL (gN 3) [3] b1_all_plans (ss.map natD) [.dat (encBook ms), .dat ds, .own (.lst (acc.map planD)), .no, .no, .no] = .nx [.dat (encBook ms), .dat ds, .own (.lst (((ss.map (rowsAt ms)).foldl addAll acc).map planD)), .no, .no, .no]
  | [], acc, k, _, _, _, _ => rfl
  | s :: ss, acc, k, hs, hl, hp, hk => by
    have hsl := hs s (List.mem_cons_self ..)
    have hm : ms[s]? = some ms[s] := List.getElem?_eq_getElem hsl
    have h3 := hms _ (List.getElem_mem hsl)
    rw [List.length_cons] at hk hl
    have e3 : acc.length * 3 ^ (ss.length + 1) = (acc.length * 3) * 3 ^ ss.length := by rw [Nat.pow_succ, Nat.mul_comm (3 ^ ss.length) 3, Nat.mul_assoc]
    have hll : (addAll acc ms[s].2.length).length ≤ acc.length * 3 := by rw [addAll_len]; exact Nat.mul_le_mul_left _ h3
    have hb : (addAll acc ms[s].2.length).length * 3 ^ ss.length ≤ 1000000 := Nat.le_trans (Nat.mul_le_mul_right _ hll) (by omega)
    have hb2 : (addAll acc ms[s].2.length).length ≤ 1000000 := Nat.le_trans (Nat.le_mul_of_pos_right _ (Nat.pow_pos (by decide))) hb
    have ht := z_all_turn (ds := ds) (acc := acc) hm (by omega) (fun p hp' => by have := hp p hp'; omega) hb2
    have ih := z_all_loop (ds := ds) hms ss (addAll acc ms[s].2.length) (k + 1) (fun x hx => hs x (List.mem_cons_of_mem _ hx)) hb (addAll_all (P := fun p => p.length ≤ k) hp fun p a h _ => by simp; omega) (by omega)
    rw [List.map_cons, forL_cons]
    simp only [gN_a, List.set_cons_zero, List.set_cons_succ, ht, wipeS_cons, wipeS_nil]
    rw [List.map_cons, List.foldl_cons, rowsAt_eq hm]
    exact ih
theorem z_all_plans {ms : List Menu} (h : okBook ms) (w : Bool) : d_all_plans [encBook ms, .list ((placesL ms w).map natD)] = .ok (.list ((plansQ ((placesL ms w).map (rowsAt ms))).map planD)) := by
  have h5 := h.hi
  have hl := placesL_len ms w
  have loop := z_all_loop (ds := .list ((placesL ms w).map natD)) (fun m hm => (h.all m hm).hi) (placesL ms w) [[]] 0 (fun s hs => placesL_lt s hs) (by have := pow3_le (n := (placesL ms w).length) (by omega); simp; omega) (fun p hp => by rw [List.mem_singleton.mp hp]; simp) (by omega)
  have loop : forL (gN 3) [3] b1_all_plans ((placesL ms w).map natD) [.dat (encBook ms), .dat (.list ((placesL ms w).map natD)), .own (.lst [.tuple []]), .no, .no, .no] = _ := loop
  simp only [fnD_a, kSeq_a, kNx_a, kE_a, kAsg_a, kOwn_a, kDrop_a, kRet_a, kRetP_a, kRetF_a, kRetO_a, kRetN_a, kIf_a, kBk_a, kCt_a, kTg_a, kPar_a, kApp_a, kPut_a, kFrz_a, kFor_a, kRaise_a, kDict_a, kDput_a, kClr_a, kNst_a, fLc2_a, yVw_a, view_no, view_dat, view_own, view_scr, xC_a, xV_a, xOp_a, fOp_a, xUn_a, xNot_a, xAnd_a, xOr_a, xIf_a, xChain_a, zNil_a, zCons_a, xTup_a, fLst_a, xL_a, xCB_a, fCB_a, xF_a, xFc_a, fF_a, fFc_a, zApp_a, zKw_a, oNo_a, oAt_a, fSl_a, xSl_a, yV_a, yAnd_a, yOr_a, yNot_a, yYes_a, xIxO_a, xLenO_a, xDg_a, xDin_a, xDnotin_a, iS_a, iA_a, fLc_a, wipeS_nil, wipeS_cons, gN_a, gs0_a, gsC_a, gT_a, gU_a, ownL_a, ownD_a, asB_a, asI_a, asL_a, seqOf_l, seqOf_t, keyD_i, keyD_s, bind_ex, bind_bad, of_none, Rz.bind_ok, Rz.of_some, Rz.calm_ok, Option.bind_some, Option.bind_none, zAddV_i, zSub_i, zLt_i, zLe_i, zGt_i, zGe_i, zEq_i, zNe_i, zEq_r, zNe_r, zIx_r0, zIx_r1, zIx_t, zIx_l, zNeg_i, zLen_l, zLen_t, zAbs_i, zInt_b, zInt_i, zListV_l, zListV_t, zList_l, zList_t, zTuple_l, zTuple_t, zAll_l, zAny_l, zSlV_l, zSlV_t, zIsN_a, zNotN_a, slots, sel, Arg.get, List.filterMap_cons, List.filterMap_nil, List.length_cons, List.length_nil, List.map_cons, List.map_nil, List.cons_append, List.nil_append, List.append_nil, List.getElem?_cons_succ, List.getElem?_cons_zero, List.getElem?_nil, List.set_cons_zero, List.set_cons_succ, List.set_nil, List.replicate_succ, List.replicate_zero, if_true, Nat.sub_self, Nat.reduceAdd, Nat.reduceSub, Nat.reduceLeDiff, Nat.reduceEqDiff, Nat.reduceLT, Int.reduceLT, Int.reduceLE, Int.reduceNeg, Int.reduceEq, Nat.zero_add, and_self, if_false, Bool.not_true, Bool.not_false, Bool.false_eq_true, Nat.zero_le, decide_true, decide_false, reduceCtorEq, d_all_plans, m_all_plans, loop]
  rfl
theorem z_plans {ms : List Menu} (h : okBook ms) (w : Bool) : d_plans [encBook ms, whoD w] = .ok (.list ((plansQ ((placesL ms w).map (rowsAt ms))).map planD)) := by
  have h1 := z_stores_of h w
  have h2 := z_all_plans h w
  simp only [fnD_a, kSeq_a, kNx_a, kE_a, kAsg_a, kOwn_a, kDrop_a, kRet_a, kRetP_a, kRetF_a, kRetO_a, kRetN_a, kIf_a, kBk_a, kCt_a, kTg_a, kPar_a, kApp_a, kPut_a, kFrz_a, kFor_a, kRaise_a, kDict_a, kDput_a, kClr_a, kNst_a, fLc2_a, yVw_a, view_no, view_dat, view_own, view_scr, xC_a, xV_a, xOp_a, fOp_a, xUn_a, xNot_a, xAnd_a, xOr_a, xIf_a, xChain_a, zNil_a, zCons_a, xTup_a, fLst_a, xL_a, xCB_a, fCB_a, xF_a, xFc_a, fF_a, fFc_a, zApp_a, zKw_a, oNo_a, oAt_a, fSl_a, xSl_a, yV_a, yAnd_a, yOr_a, yNot_a, yYes_a, xIxO_a, xLenO_a, xDg_a, xDin_a, xDnotin_a, iS_a, iA_a, fLc_a, wipeS_nil, wipeS_cons, gN_a, gs0_a, gsC_a, gT_a, gU_a, ownL_a, ownD_a, asB_a, asI_a, asL_a, seqOf_l, seqOf_t, keyD_i, keyD_s, bind_ex, bind_bad, of_none, Rz.bind_ok, Rz.of_some, Rz.calm_ok, Option.bind_some, Option.bind_none, zAddV_i, zSub_i, zLt_i, zLe_i, zGt_i, zGe_i, zEq_i, zNe_i, zEq_r, zNe_r, zIx_r0, zIx_r1, zIx_t, zIx_l, zNeg_i, zLen_l, zLen_t, zAbs_i, zInt_b, zInt_i, zListV_l, zListV_t, zList_l, zList_t, zTuple_l, zTuple_t, zAll_l, zAny_l, zSlV_l, zSlV_t, zIsN_a, zNotN_a, slots, sel, Arg.get, List.filterMap_cons, List.filterMap_nil, List.length_cons, List.length_nil, List.map_cons, List.map_nil, List.cons_append, List.nil_append, List.append_nil, List.getElem?_cons_succ, List.getElem?_cons_zero, List.getElem?_nil, List.set_cons_zero, List.set_cons_succ, List.set_nil, List.replicate_succ, List.replicate_zero, if_true, Nat.sub_self, Nat.reduceAdd, Nat.reduceSub, Nat.reduceLeDiff, Nat.reduceEqDiff, Nat.reduceLT, Int.reduceLT, Int.reduceLE, Int.reduceNeg, Int.reduceEq, Nat.zero_add, and_self, if_false, Bool.not_true, Bool.not_false, Bool.false_eq_true, Nat.zero_le, decide_true, decide_false, reduceCtorEq, d_plans, m_plans, h1, h2]
/-! ### law k06 -/
theorem wt_BadHand : wTry ⟨"BadHand", []⟩ = some "no BadHand" := wTry_of (c := ec_BadHand) (by rfl) ⟨by decide +kernel, by decide +kernel⟩ (by kernel_rfl)
theorem wt_BadRows : wTry ⟨"BadRows", []⟩ = some "no BadRows" := wTry_of (c := ec_BadRows) (by rfl) ⟨by decide +kernel, by decide +kernel⟩ (by kernel_rfl)
def prodN (ns : List Nat) : Nat := ns.foldr (· * ·) 1
theorem plansQ_prod : ∀ (ns : List Nat) (acc : List (List Int)), (ns.foldl addAll acc).length = acc.length * prodN ns
  | [], acc => by simp [prodN]
  | n :: ns, acc => by
    rw [List.foldl_cons, plansQ_prod ns, addAll_len]
    unfold prodN
    rw [List.foldr_cons, Nat.mul_assoc]
theorem prod_split : ∀ (ms all : List Menu) (k : Nat), (∀ j, all[k + j]? = ms[j]?) → prodN ((placesFrom false k ms).map (rowsAt all)) * prodN ((placesFrom true k ms).map (rowsAt all)) = prodN (ms.map fun m => m.2.length)
  | [], _, _, _ => rfl
  | m :: ms, all, k, h => by
    have ih := prod_split ms all (k + 1) fun j => by
      have := h (j + 1)
      rw [show k + (j + 1) = k + 1 + j from by omega] at this
      rw [this]
      rfl
    have h0 : rowsAt all k = m.2.length := rowsAt_eq (by have := h 0; rw [Nat.add_zero] at this; rw [this]; rfl)
    obtain ⟨b, rows⟩ := m
    unfold placesFrom
    cases b with
    | true =>
      simp only [Bool.true_eq_false, if_false, if_true, List.map_cons]
      unfold prodN at ih ⊢
      rw [List.foldr_cons, List.foldr_cons, h0, ← ih]
      show _ * (rows.length * _) = rows.length * _
      rw [Nat.mul_left_comm]
    | false =>
      simp only [Bool.false_eq_true, if_false, if_true, List.map_cons]
      unfold prodN at ih ⊢
      rw [List.foldr_cons, List.foldr_cons, h0, ← ih]
      show (rows.length * _) * _ = rows.length * _
      rw [Nat.mul_assoc]
theorem prod_le : ∀ {ns : List Nat}, (∀ n ∈ ns, n ≤ 3) → prodN ns ≤ 3 ^ ns.length
  | [], _ => by decide
  | n :: ns, h => by
    have ih := prod_le (ns := ns) fun x hx => h x (List.mem_cons_of_mem _ hx)
    unfold prodN at ih ⊢
    rw [List.foldr_cons, List.length_cons, Nat.pow_succ, Nat.mul_comm (3 ^ ns.length)]
    exact Nat.mul_le_mul (h n (List.mem_cons_self ..)) ih
theorem mul_fold : ∀ (ns : List Nat) (a : Nat), ns.foldl (· * ·) a = a * prodN ns
  | [], a => by simp [prodN]
  | n :: ns, a => by
    rw [List.foldl_cons, mul_fold ns]
    unfold prodN
    rw [List.foldr_cons, Nat.mul_assoc]
abbrev S06 (sc : Slot) (xs : List Int) (ms : List Menu) (whose go found many size lines odd words : Slot) : List Slot := [sc, .dat (.list (xs.map .int)), .dat (encBook ms), whose, go, found, many, size, lines, odd, words]
theorem k06_turn {sc t : Slot} {xs : List Int} {ms : List Menu} (h : okBook ms) (w : Bool) :
    b1_law (S06 sc xs ms (.dat (whoD w)) t .no .no .no .no .no .no) = .nx (S06 sc xs ms (.dat (whoD w)) t .no .no .no .no .no .no) := by
  have h1 := z_stores_of h w
  have h2 := z_plans h w
  have h3 := z__law_stores (by have := h.hi; omega) w (ms := ms)
  have h4 := z__law_plans h w
  have hl := plans_len h w
  have hg := plans_good (ms := ms) (b := w)
  have h5 := h.hi
  have pl := placesL_len ms w
  generalize plansQ ((placesL ms w).map (rowsAt ms)) = ps at h2 h4 hl hg
  have hs := same_ok (d := .list [.list ((placesL ms w).map natD), .list (ps.map planD)]) (.list (by simp) fun d hd => by
    rcases List.mem_cons.mp hd with z | z
    · subst z; exact pl_list (n := 6) (by omega) fun s _ => .int _
    · rw [List.mem_singleton.mp z]; exact pl_list (n := 6) (by omega) fun p hp => pl_plan (n := 5) (by rw [(goodPlan_iff.mp (hg p hp)).1]; omega))
  have hc : ((placesL ms w).map natD).length < 1000000 ∧ (ps.map planD).length < 1000000 ∧ 5 < (S06 sc xs ms (.dat (whoD w)) t .no .no .no .no .no .no).length := ⟨by rw [List.length_map]; omega, by rw [List.length_map]; omega, (by show 5 < 11; decide)⟩
  have e0 : fFc d_stores_of (zCons (xV 2) (zCons (xV 3) zNil)) (S06 sc xs ms (.dat (whoD w)) t .no .no .no .no .no .no) = .ok ((placesL ms w).map natD) := by simp only [fnD_a, kSeq_a, kNx_a, kE_a, kAsg_a, kOwn_a, kDrop_a, kRet_a, kRetP_a, kRetF_a, kRetO_a, kRetN_a, kIf_a, kBk_a, kCt_a, kTg_a, kPar_a, kApp_a, kPut_a, kFrz_a, kFor_a, kRaise_a, kDict_a, kDput_a, kClr_a, kNst_a, fLc2_a, yVw_a, view_no, view_dat, view_own, view_scr, xC_a, xV_a, xOp_a, fOp_a, xUn_a, xNot_a, xAnd_a, xOr_a, xIf_a, xChain_a, zNil_a, zCons_a, xTup_a, fLst_a, xL_a, xCB_a, fCB_a, xF_a, xFc_a, fF_a, fFc_a, zApp_a, zKw_a, oNo_a, oAt_a, fSl_a, xSl_a, yV_a, yAnd_a, yOr_a, yNot_a, yYes_a, xIxO_a, xLenO_a, xDg_a, xDin_a, xDnotin_a, iS_a, iA_a, fLc_a, wipeS_nil, wipeS_cons, gN_a, gs0_a, gsC_a, gT_a, gU_a, ownL_a, ownD_a, asB_a, asI_a, asL_a, seqOf_l, seqOf_t, keyD_i, keyD_s, bind_ex, bind_bad, of_none, Rz.bind_ok, Rz.of_some, Rz.calm_ok, Option.bind_some, Option.bind_none, zAddV_i, zSub_i, zLt_i, zLe_i, zGt_i, zGe_i, zEq_i, zNe_i, zEq_r, zNe_r, zIx_r0, zIx_r1, zIx_t, zIx_l, zNeg_i, zLen_l, zLen_t, zAbs_i, zInt_b, zInt_i, zListV_l, zListV_t, zList_l, zList_t, zTuple_l, zTuple_t, zAll_l, zAny_l, zSlV_l, zSlV_t, zIsN_a, zNotN_a, slots, sel, Arg.get, List.filterMap_cons, List.filterMap_nil, List.length_cons, List.length_nil, List.map_cons, List.map_nil, List.cons_append, List.nil_append, List.append_nil, List.getElem?_cons_succ, List.getElem?_cons_zero, List.getElem?_nil, List.set_cons_zero, List.set_cons_succ, List.set_nil, List.replicate_succ, List.replicate_zero, if_true, Nat.sub_self, Nat.reduceAdd, Nat.reduceSub, Nat.reduceLeDiff, Nat.reduceEqDiff, Nat.reduceLT, Int.reduceLT, Int.reduceLE, Int.reduceNeg, Int.reduceEq, Nat.zero_add, and_self, if_false, Bool.not_true, Bool.not_false, Bool.false_eq_true, Nat.zero_le, decide_true, decide_false, reduceCtorEq, h1]
  have e1 : fFc d_plans (zCons (xV 2) (zCons (xV 3) zNil)) (S06 sc xs ms (.dat (whoD w)) t .no .no .no .no .no .no) = .ok (ps.map planD) := by simp only [fnD_a, kSeq_a, kNx_a, kE_a, kAsg_a, kOwn_a, kDrop_a, kRet_a, kRetP_a, kRetF_a, kRetO_a, kRetN_a, kIf_a, kBk_a, kCt_a, kTg_a, kPar_a, kApp_a, kPut_a, kFrz_a, kFor_a, kRaise_a, kDict_a, kDput_a, kClr_a, kNst_a, fLc2_a, yVw_a, view_no, view_dat, view_own, view_scr, xC_a, xV_a, xOp_a, fOp_a, xUn_a, xNot_a, xAnd_a, xOr_a, xIf_a, xChain_a, zNil_a, zCons_a, xTup_a, fLst_a, xL_a, xCB_a, fCB_a, xF_a, xFc_a, fF_a, fFc_a, zApp_a, zKw_a, oNo_a, oAt_a, fSl_a, xSl_a, yV_a, yAnd_a, yOr_a, yNot_a, yYes_a, xIxO_a, xLenO_a, xDg_a, xDin_a, xDnotin_a, iS_a, iA_a, fLc_a, wipeS_nil, wipeS_cons, gN_a, gs0_a, gsC_a, gT_a, gU_a, ownL_a, ownD_a, asB_a, asI_a, asL_a, seqOf_l, seqOf_t, keyD_i, keyD_s, bind_ex, bind_bad, of_none, Rz.bind_ok, Rz.of_some, Rz.calm_ok, Option.bind_some, Option.bind_none, zAddV_i, zSub_i, zLt_i, zLe_i, zGt_i, zGe_i, zEq_i, zNe_i, zEq_r, zNe_r, zIx_r0, zIx_r1, zIx_t, zIx_l, zNeg_i, zLen_l, zLen_t, zAbs_i, zInt_b, zInt_i, zListV_l, zListV_t, zList_l, zList_t, zTuple_l, zTuple_t, zAll_l, zAny_l, zSlV_l, zSlV_t, zIsN_a, zNotN_a, slots, sel, Arg.get, List.filterMap_cons, List.filterMap_nil, List.length_cons, List.length_nil, List.map_cons, List.map_nil, List.cons_append, List.nil_append, List.append_nil, List.getElem?_cons_succ, List.getElem?_cons_zero, List.getElem?_nil, List.set_cons_zero, List.set_cons_succ, List.set_nil, List.replicate_succ, List.replicate_zero, if_true, Nat.sub_self, Nat.reduceAdd, Nat.reduceSub, Nat.reduceLeDiff, Nat.reduceEqDiff, Nat.reduceLT, Int.reduceLT, Int.reduceLE, Int.reduceNeg, Int.reduceEq, Nat.zero_add, and_self, if_false, Bool.not_true, Bool.not_false, Bool.false_eq_true, Nat.zero_le, decide_true, decide_false, reduceCtorEq, h2]
  rw [b1_law_a, kNst_a, e0, e1]
  simp only [if_pos hc]
  simp only [fnD_a, kSeq_a, kNx_a, kE_a, kAsg_a, kOwn_a, kDrop_a, kRet_a, kRetP_a, kRetF_a, kRetO_a, kRetN_a, kIf_a, kBk_a, kCt_a, kTg_a, kPar_a, kApp_a, kPut_a, kFrz_a, kFor_a, kRaise_a, kDict_a, kDput_a, kClr_a, kNst_a, fLc2_a, yVw_a, view_no, view_dat, view_own, view_scr, xC_a, xV_a, xOp_a, fOp_a, xUn_a, xNot_a, xAnd_a, xOr_a, xIf_a, xChain_a, zNil_a, zCons_a, xTup_a, fLst_a, xL_a, xCB_a, fCB_a, xF_a, xFc_a, fF_a, fFc_a, zApp_a, zKw_a, oNo_a, oAt_a, fSl_a, xSl_a, yV_a, yAnd_a, yOr_a, yNot_a, yYes_a, xIxO_a, xLenO_a, xDg_a, xDin_a, xDnotin_a, iS_a, iA_a, fLc_a, wipeS_nil, wipeS_cons, gN_a, gs0_a, gsC_a, gT_a, gU_a, ownL_a, ownD_a, asB_a, asI_a, asL_a, seqOf_l, seqOf_t, keyD_i, keyD_s, bind_ex, bind_bad, of_none, Rz.bind_ok, Rz.of_some, Rz.calm_ok, Option.bind_some, Option.bind_none, zAddV_i, zSub_i, zLt_i, zLe_i, zGt_i, zGe_i, zEq_i, zNe_i, zEq_r, zNe_r, zIx_r0, zIx_r1, zIx_t, zIx_l, zNeg_i, zLen_l, zLen_t, zAbs_i, zInt_b, zInt_i, zListV_l, zListV_t, zList_l, zList_t, zTuple_l, zTuple_t, zAll_l, zAny_l, zSlV_l, zSlV_t, zIsN_a, zNotN_a, slots, sel, Arg.get, List.filterMap_cons, List.filterMap_nil, List.length_cons, List.length_nil, List.map_cons, List.map_nil, List.cons_append, List.nil_append, List.append_nil, List.getElem?_cons_succ, List.getElem?_cons_zero, List.getElem?_nil, List.set_cons_zero, List.set_cons_succ, List.set_nil, List.replicate_succ, List.replicate_zero, if_true, Nat.sub_self, Nat.reduceAdd, Nat.reduceSub, Nat.reduceLeDiff, Nat.reduceEqDiff, Nat.reduceLT, Int.reduceLT, Int.reduceLE, Int.reduceNeg, Int.reduceEq, Nat.zero_add, and_self, if_false, Bool.not_true, Bool.not_false, Bool.false_eq_true, Nat.zero_le, decide_true, decide_false, reduceCtorEq, h3, h4, hs]
theorem pure_law (sc : Slot) (xs : List Int) (hx : xs.length = 104) (hf : Few xs) : m_law [sc, .dat (.list (xs.map .int)), .no, .no, .no, .no, .no, .no, .no, .no, .no] = .rt (.bool true) := by
  obtain ⟨ms, h, hm5, hmenus⟩ := z__law_menus (d := xs) (upto := 5) (by decide) (by decide) (by omega)
  have hmenus : d__law_menus [.list (xs.map .int), .int 5] = .ok (encBook ms) := hmenus
  have h5 := h.hi
  unfold m_law
  refine seq_step (ρ' := S06 sc xs ms .no .no .no .no .no .no .no .no) (by simp only [fnD_a, kSeq_a, kNx_a, kE_a, kAsg_a, kOwn_a, kDrop_a, kRet_a, kRetP_a, kRetF_a, kRetO_a, kRetN_a, kIf_a, kBk_a, kCt_a, kTg_a, kPar_a, kApp_a, kPut_a, kFrz_a, kFor_a, kRaise_a, kDict_a, kDput_a, kClr_a, kNst_a, fLc2_a, yVw_a, view_no, view_dat, view_own, view_scr, xC_a, xV_a, xOp_a, fOp_a, xUn_a, xNot_a, xAnd_a, xOr_a, xIf_a, xChain_a, zNil_a, zCons_a, xTup_a, fLst_a, xL_a, xCB_a, fCB_a, xF_a, xFc_a, fF_a, fFc_a, zApp_a, zKw_a, oNo_a, oAt_a, fSl_a, xSl_a, yV_a, yAnd_a, yOr_a, yNot_a, yYes_a, xIxO_a, xLenO_a, xDg_a, xDin_a, xDnotin_a, iS_a, iA_a, fLc_a, wipeS_nil, wipeS_cons, gN_a, gs0_a, gsC_a, gT_a, gU_a, ownL_a, ownD_a, asB_a, asI_a, asL_a, seqOf_l, seqOf_t, keyD_i, keyD_s, bind_ex, bind_bad, of_none, Rz.bind_ok, Rz.of_some, Rz.calm_ok, Option.bind_some, Option.bind_none, zAddV_i, zSub_i, zLt_i, zLe_i, zGt_i, zGe_i, zEq_i, zNe_i, zEq_r, zNe_r, zIx_r0, zIx_r1, zIx_t, zIx_l, zNeg_i, zLen_l, zLen_t, zAbs_i, zInt_b, zInt_i, zListV_l, zListV_t, zList_l, zList_t, zTuple_l, zTuple_t, zAll_l, zAny_l, zSlV_l, zSlV_t, zIsN_a, zNotN_a, slots, sel, Arg.get, List.filterMap_cons, List.filterMap_nil, List.length_cons, List.length_nil, List.map_cons, List.map_nil, List.cons_append, List.nil_append, List.append_nil, List.getElem?_cons_succ, List.getElem?_cons_zero, List.getElem?_nil, List.set_cons_zero, List.set_cons_succ, List.set_nil, List.replicate_succ, List.replicate_zero, if_true, Nat.sub_self, Nat.reduceAdd, Nat.reduceSub, Nat.reduceLeDiff, Nat.reduceEqDiff, Nat.reduceLT, Int.reduceLT, Int.reduceLE, Int.reduceNeg, Int.reduceEq, Nat.zero_add, and_self, if_false, Bool.not_true, Bool.not_false, Bool.false_eq_true, Nat.zero_le, decide_true, decide_false, reduceCtorEq, hmenus]) ?_
  have r2 : rng1 [.int 2] = some ((List.range 2).map natD) := rfl
  have inner : ∀ w : Bool, b2_law (S06 sc xs ms (.dat (whoD w)) .no .no .no .no .no .no .no) = .nx (S06 sc xs ms (.dat (whoD w)) .no .no .no .no .no .no .no) := fun w => by
    rw [b2_law_a, kFor_a, kE_a]
    simp only [fnD_a, kSeq_a, kNx_a, kE_a, kAsg_a, kOwn_a, kDrop_a, kRet_a, kRetP_a, kRetF_a, kRetO_a, kRetN_a, kIf_a, kBk_a, kCt_a, kTg_a, kPar_a, kApp_a, kPut_a, kFrz_a, kFor_a, kRaise_a, kDict_a, kDput_a, kClr_a, kNst_a, fLc2_a, yVw_a, view_no, view_dat, view_own, view_scr, xC_a, xV_a, xOp_a, fOp_a, xUn_a, xNot_a, xAnd_a, xOr_a, xIf_a, xChain_a, zNil_a, zCons_a, xTup_a, fLst_a, xL_a, xCB_a, fCB_a, xF_a, xFc_a, fF_a, fFc_a, zApp_a, zKw_a, oNo_a, oAt_a, fSl_a, xSl_a, yV_a, yAnd_a, yOr_a, yNot_a, yYes_a, xIxO_a, xLenO_a, xDg_a, xDin_a, xDnotin_a, iS_a, iA_a, fLc_a, wipeS_nil, wipeS_cons, gN_a, gs0_a, gsC_a, gT_a, gU_a, ownL_a, ownD_a, asB_a, asI_a, asL_a, seqOf_l, seqOf_t, keyD_i, keyD_s, bind_ex, bind_bad, of_none, Rz.bind_ok, Rz.of_some, Rz.calm_ok, Option.bind_some, Option.bind_none, zAddV_i, zSub_i, zLt_i, zLe_i, zGt_i, zGe_i, zEq_i, zNe_i, zEq_r, zNe_r, zIx_r0, zIx_r1, zIx_t, zIx_l, zNeg_i, zLen_l, zLen_t, zAbs_i, zInt_b, zInt_i, zListV_l, zListV_t, zList_l, zList_t, zTuple_l, zTuple_t, zAll_l, zAny_l, zSlV_l, zSlV_t, zIsN_a, zNotN_a, slots, sel, Arg.get, List.filterMap_cons, List.filterMap_nil, List.length_cons, List.length_nil, List.map_cons, List.map_nil, List.cons_append, List.nil_append, List.append_nil, List.getElem?_cons_succ, List.getElem?_cons_zero, List.getElem?_nil, List.set_cons_zero, List.set_cons_succ, List.set_nil, List.replicate_succ, List.replicate_zero, if_true, Nat.sub_self, Nat.reduceAdd, Nat.reduceSub, Nat.reduceLeDiff, Nat.reduceEqDiff, Nat.reduceLT, Int.reduceLT, Int.reduceLE, Int.reduceNeg, Int.reduceEq, Nat.zero_add, and_self, if_false, Bool.not_true, Bool.not_false, Bool.false_eq_true, Nat.zero_le, decide_true, decide_false, reduceCtorEq, r2]
    exact forL_id (F := fun n ρ => ρ.set 4 (.dat (natD n))) (fun n _ => rfl) fun n _ => ⟨_, k06_turn h w, rfl⟩
  have loop : forL (gN 3) [3, 4, 5] b2_law ([false, true].map whoD) (S06 sc xs ms .no .no .no .no .no .no .no .no) = .nx (S06 sc xs ms .no .no .no .no .no .no .no .no) :=
    forL_id (F := fun w ρ => ρ.set 3 (.dat (whoD w))) (fun w _ => rfl) fun w _ => ⟨_, inner w, rfl⟩
  refine seq_step (ρ' := S06 sc xs ms .no .no .no .no .no .no .no .no) (by rw [kFor_a, kE_a]; simp only [fnD_a, kSeq_a, kNx_a, kE_a, kAsg_a, kOwn_a, kDrop_a, kRet_a, kRetP_a, kRetF_a, kRetO_a, kRetN_a, kIf_a, kBk_a, kCt_a, kTg_a, kPar_a, kApp_a, kPut_a, kFrz_a, kFor_a, kRaise_a, kDict_a, kDput_a, kClr_a, kNst_a, fLc2_a, yVw_a, view_no, view_dat, view_own, view_scr, xC_a, xV_a, xOp_a, fOp_a, xUn_a, xNot_a, xAnd_a, xOr_a, xIf_a, xChain_a, zNil_a, zCons_a, xTup_a, fLst_a, xL_a, xCB_a, fCB_a, xF_a, xFc_a, fF_a, fFc_a, zApp_a, zKw_a, oNo_a, oAt_a, fSl_a, xSl_a, yV_a, yAnd_a, yOr_a, yNot_a, yYes_a, xIxO_a, xLenO_a, xDg_a, xDin_a, xDnotin_a, iS_a, iA_a, fLc_a, wipeS_nil, wipeS_cons, gN_a, gs0_a, gsC_a, gT_a, gU_a, ownL_a, ownD_a, asB_a, asI_a, asL_a, seqOf_l, seqOf_t, keyD_i, keyD_s, bind_ex, bind_bad, of_none, Rz.bind_ok, Rz.of_some, Rz.calm_ok, Option.bind_some, Option.bind_none, zAddV_i, zSub_i, zLt_i, zLe_i, zGt_i, zGe_i, zEq_i, zNe_i, zEq_r, zNe_r, zIx_r0, zIx_r1, zIx_t, zIx_l, zNeg_i, zLen_l, zLen_t, zAbs_i, zInt_b, zInt_i, zListV_l, zListV_t, zList_l, zList_t, zTuple_l, zTuple_t, zAll_l, zAny_l, zSlV_l, zSlV_t, zIsN_a, zNotN_a, slots, sel, Arg.get, List.filterMap_cons, List.filterMap_nil, List.length_cons, List.length_nil, List.map_cons, List.map_nil, List.cons_append, List.nil_append, List.append_nil, List.getElem?_cons_succ, List.getElem?_cons_zero, List.getElem?_nil, List.set_cons_zero, List.set_cons_succ, List.set_nil, List.replicate_succ, List.replicate_zero, if_true, Nat.sub_self, Nat.reduceAdd, Nat.reduceSub, Nat.reduceLeDiff, Nat.reduceEqDiff, Nat.reduceLT, Int.reduceLT, Int.reduceLE, Int.reduceNeg, Int.reduceEq, Nat.zero_add, and_self, if_false, Bool.not_true, Bool.not_false, Bool.false_eq_true, Nat.zero_le, decide_true, decide_false, reduceCtorEq]; exact loop) ?_
  have p1 : d_plans [encBook ms, .str "we"] = _ := z_plans h false
  have p2 : d_plans [encBook ms, .str "weather"] = _ := z_plans h true
  have l1 : (plansQ ((placesL ms false).map (rowsAt ms))).length = prodN ((placesL ms false).map (rowsAt ms)) := by have := plansQ_prod ((placesL ms false).map (rowsAt ms)) [[]]; rw [List.length_singleton, Nat.one_mul] at this; exact this
  have l2 : (plansQ ((placesL ms true).map (rowsAt ms))).length = prodN ((placesL ms true).map (rowsAt ms)) := by have := plansQ_prod ((placesL ms true).map (rowsAt ms)) [[]]; rw [List.length_singleton, Nat.one_mul] at this; exact this
  have sp := prod_split ms ms 0 fun j => by rw [Nat.zero_add]
  have b1 := plans_len h false
  have b2 := plans_len h true
  have hbn := prod_le (ns := ms.map fun m => m.2.length) fun n hn => by
    obtain ⟨m, hm, rfl⟩ := List.mem_map.mp hn
    exact (h.all m hm).hi
  have hb3 : prodN (ms.map fun m => m.2.length) ≤ 243 := by
    refine Nat.le_trans hbn ?_
    rw [List.length_map]
    exact pow3_le h5
  rw [← l1, ← l2] at sp
  generalize plansQ ((placesL ms false).map (rowsAt ms)) = ps at p1 sp b1 l1
  generalize plansQ ((placesL ms true).map (rowsAt ms)) = qs at p2 sp b2 l2
  have hml : zMulV (.int (ps.length : Nat)) (.int (qs.length : Nat)) = some (.int (prodN (ms.map fun m => m.2.length) : Nat)) := by
    rw [zMulV_l (by omega), ← sp]
    rfl
  refine seq_step (ρ' := S06 sc xs ms .no .no .no (.dat (natD (prodN (ms.map fun m => m.2.length)))) .no .no .no .no) (by simp only [fnD_a, kSeq_a, kNx_a, kE_a, kAsg_a, kOwn_a, kDrop_a, kRet_a, kRetP_a, kRetF_a, kRetO_a, kRetN_a, kIf_a, kBk_a, kCt_a, kTg_a, kPar_a, kApp_a, kPut_a, kFrz_a, kFor_a, kRaise_a, kDict_a, kDput_a, kClr_a, kNst_a, fLc2_a, yVw_a, view_no, view_dat, view_own, view_scr, xC_a, xV_a, xOp_a, fOp_a, xUn_a, xNot_a, xAnd_a, xOr_a, xIf_a, xChain_a, zNil_a, zCons_a, xTup_a, fLst_a, xL_a, xCB_a, fCB_a, xF_a, xFc_a, fF_a, fFc_a, zApp_a, zKw_a, oNo_a, oAt_a, fSl_a, xSl_a, yV_a, yAnd_a, yOr_a, yNot_a, yYes_a, xIxO_a, xLenO_a, xDg_a, xDin_a, xDnotin_a, iS_a, iA_a, fLc_a, wipeS_nil, wipeS_cons, gN_a, gs0_a, gsC_a, gT_a, gU_a, ownL_a, ownD_a, asB_a, asI_a, asL_a, seqOf_l, seqOf_t, keyD_i, keyD_s, bind_ex, bind_bad, of_none, Rz.bind_ok, Rz.of_some, Rz.calm_ok, Option.bind_some, Option.bind_none, zAddV_i, zSub_i, zLt_i, zLe_i, zGt_i, zGe_i, zEq_i, zNe_i, zEq_r, zNe_r, zIx_r0, zIx_r1, zIx_t, zIx_l, zNeg_i, zLen_l, zLen_t, zAbs_i, zInt_b, zInt_i, zListV_l, zListV_t, zList_l, zList_t, zTuple_l, zTuple_t, zAll_l, zAny_l, zSlV_l, zSlV_t, zIsN_a, zNotN_a, slots, sel, Arg.get, List.filterMap_cons, List.filterMap_nil, List.length_cons, List.length_nil, List.map_cons, List.map_nil, List.cons_append, List.nil_append, List.append_nil, List.getElem?_cons_succ, List.getElem?_cons_zero, List.getElem?_nil, List.set_cons_zero, List.set_cons_succ, List.set_nil, List.replicate_succ, List.replicate_zero, if_true, Nat.sub_self, Nat.reduceAdd, Nat.reduceSub, Nat.reduceLeDiff, Nat.reduceEqDiff, Nat.reduceLT, Int.reduceLT, Int.reduceLE, Int.reduceNeg, Int.reduceEq, Nat.zero_add, and_self, if_false, Bool.not_true, Bool.not_false, Bool.false_eq_true, Nat.zero_le, decide_true, decide_false, reduceCtorEq, p1, p2, List.length_map, hml]; rfl) ?_
  refine seq_step (ρ' := S06 sc xs ms .no .no .no (.dat (natD (prodN (ms.map fun m => m.2.length)))) (.dat (natD 1)) .no .no .no) (by simp only [fnD_a, kSeq_a, kNx_a, kE_a, kAsg_a, kOwn_a, kDrop_a, kRet_a, kRetP_a, kRetF_a, kRetO_a, kRetN_a, kIf_a, kBk_a, kCt_a, kTg_a, kPar_a, kApp_a, kPut_a, kFrz_a, kFor_a, kRaise_a, kDict_a, kDput_a, kClr_a, kNst_a, fLc2_a, yVw_a, view_no, view_dat, view_own, view_scr, xC_a, xV_a, xOp_a, fOp_a, xUn_a, xNot_a, xAnd_a, xOr_a, xIf_a, xChain_a, zNil_a, zCons_a, xTup_a, fLst_a, xL_a, xCB_a, fCB_a, xF_a, xFc_a, fF_a, fFc_a, zApp_a, zKw_a, oNo_a, oAt_a, fSl_a, xSl_a, yV_a, yAnd_a, yOr_a, yNot_a, yYes_a, xIxO_a, xLenO_a, xDg_a, xDin_a, xDnotin_a, iS_a, iA_a, fLc_a, wipeS_nil, wipeS_cons, gN_a, gs0_a, gsC_a, gT_a, gU_a, ownL_a, ownD_a, asB_a, asI_a, asL_a, seqOf_l, seqOf_t, keyD_i, keyD_s, bind_ex, bind_bad, of_none, Rz.bind_ok, Rz.of_some, Rz.calm_ok, Option.bind_some, Option.bind_none, zAddV_i, zSub_i, zLt_i, zLe_i, zGt_i, zGe_i, zEq_i, zNe_i, zEq_r, zNe_r, zIx_r0, zIx_r1, zIx_t, zIx_l, zNeg_i, zLen_l, zLen_t, zAbs_i, zInt_b, zInt_i, zListV_l, zListV_t, zList_l, zList_t, zTuple_l, zTuple_t, zAll_l, zAny_l, zSlV_l, zSlV_t, zIsN_a, zNotN_a, slots, sel, Arg.get, List.filterMap_cons, List.filterMap_nil, List.length_cons, List.length_nil, List.map_cons, List.map_nil, List.cons_append, List.nil_append, List.append_nil, List.getElem?_cons_succ, List.getElem?_cons_zero, List.getElem?_nil, List.set_cons_zero, List.set_cons_succ, List.set_nil, List.replicate_succ, List.replicate_zero, if_true, Nat.sub_self, Nat.reduceAdd, Nat.reduceSub, Nat.reduceLeDiff, Nat.reduceEqDiff, Nat.reduceLT, Int.reduceLT, Int.reduceLE, Int.reduceNeg, Int.reduceEq, Nat.zero_add, and_self, if_false, Bool.not_true, Bool.not_false, Bool.false_eq_true, Nat.zero_le, decide_true, decide_false, reduceCtorEq]; rfl) ?_
  have fold := (forL_fold (g := gT 2 (gsC (gN 3) (gsC (gN 8) gs0))) (wp := [3, 8]) (b := b3_law) (enc := encMenu) (F := fun m ρ => (ρ.set 3 (.dat (whoD m.1))).set 8 (.dat (.tuple (m.2.map encRow))))
    (R := fun s : Nat => S06 sc xs ms .no .no .no (.dat (natD (prodN (ms.map fun m => m.2.length)))) (.dat (natD s)) .no .no .no) (stp := fun s m => s * m.2.length) (I := fun _ => True) (xs := ms) (s := 1) (fun m _ => rfl) trivial (fun m hm s _ => by
      have h3 := (h.all m hm).hi
      have hl : zLen [PyData.tuple (m.2.map encRow)] = some (.int (m.2.length : Nat)) := by rw [zLen_t, List.length_map]
      have hz : zMulV (.int (s : Nat)) (.int (m.2.length : Nat)) = some (.int ((s * m.2.length : Nat) : Int)) := by rw [zMulV_r (by omega)]; rfl
      refine ⟨S06 sc xs ms (.dat (whoD m.1)) .no .no (.dat (natD (prodN (ms.map fun m => m.2.length)))) (.dat (natD (s * m.2.length))) (.dat (.tuple (m.2.map encRow))) .no .no, ?_, rfl, trivial⟩
      rw [b3_law_a]
      simp only [fnD_a, kSeq_a, kNx_a, kE_a, kAsg_a, kOwn_a, kDrop_a, kRet_a, kRetP_a, kRetF_a, kRetO_a, kRetN_a, kIf_a, kBk_a, kCt_a, kTg_a, kPar_a, kApp_a, kPut_a, kFrz_a, kFor_a, kRaise_a, kDict_a, kDput_a, kClr_a, kNst_a, fLc2_a, yVw_a, view_no, view_dat, view_own, view_scr, xC_a, xV_a, xOp_a, fOp_a, xUn_a, xNot_a, xAnd_a, xOr_a, xIf_a, xChain_a, zNil_a, zCons_a, xTup_a, fLst_a, xL_a, xCB_a, fCB_a, xF_a, xFc_a, fF_a, fFc_a, zApp_a, zKw_a, oNo_a, oAt_a, fSl_a, xSl_a, yV_a, yAnd_a, yOr_a, yNot_a, yYes_a, xIxO_a, xLenO_a, xDg_a, xDin_a, xDnotin_a, iS_a, iA_a, fLc_a, wipeS_nil, wipeS_cons, gN_a, gs0_a, gsC_a, gT_a, gU_a, ownL_a, ownD_a, asB_a, asI_a, asL_a, seqOf_l, seqOf_t, keyD_i, keyD_s, bind_ex, bind_bad, of_none, Rz.bind_ok, Rz.of_some, Rz.calm_ok, Option.bind_some, Option.bind_none, zAddV_i, zSub_i, zLt_i, zLe_i, zGt_i, zGe_i, zEq_i, zNe_i, zEq_r, zNe_r, zIx_r0, zIx_r1, zIx_t, zIx_l, zNeg_i, zLen_l, zLen_t, zAbs_i, zInt_b, zInt_i, zListV_l, zListV_t, zList_l, zList_t, zTuple_l, zTuple_t, zAll_l, zAny_l, zSlV_l, zSlV_t, zIsN_a, zNotN_a, slots, sel, Arg.get, List.filterMap_cons, List.filterMap_nil, List.length_cons, List.length_nil, List.map_cons, List.map_nil, List.cons_append, List.nil_append, List.append_nil, List.getElem?_cons_succ, List.getElem?_cons_zero, List.getElem?_nil, List.set_cons_zero, List.set_cons_succ, List.set_nil, List.replicate_succ, List.replicate_zero, if_true, Nat.sub_self, Nat.reduceAdd, Nat.reduceSub, Nat.reduceLeDiff, Nat.reduceEqDiff, Nat.reduceLT, Int.reduceLT, Int.reduceLE, Int.reduceNeg, Int.reduceEq, Nat.zero_add, and_self, if_false, Bool.not_true, Bool.not_false, Bool.false_eq_true, Nat.zero_le, decide_true, decide_false, reduceCtorEq, natD, hl, hz])).1
  have ef : ms.foldl (fun s m => s * m.2.length) 1 = prodN (ms.map fun m => m.2.length) := by
    have := mul_fold (ms.map fun m => m.2.length) 1
    rw [List.foldl_map, Nat.one_mul] at this
    exact this
  rw [ef] at fold
  have hsq : seqOf (encBook ms) = some (ms.map encMenu) := rfl
  refine seq_step (ρ' := S06 sc xs ms .no .no .no (.dat (natD (prodN (ms.map fun m => m.2.length)))) (.dat (natD (prodN (ms.map fun m => m.2.length)))) .no .no .no) (by rw [kFor_a, kE_a]; simp only [fnD_a, kSeq_a, kNx_a, kE_a, kAsg_a, kOwn_a, kDrop_a, kRet_a, kRetP_a, kRetF_a, kRetO_a, kRetN_a, kIf_a, kBk_a, kCt_a, kTg_a, kPar_a, kApp_a, kPut_a, kFrz_a, kFor_a, kRaise_a, kDict_a, kDput_a, kClr_a, kNst_a, fLc2_a, yVw_a, view_no, view_dat, view_own, view_scr, xC_a, xV_a, xOp_a, fOp_a, xUn_a, xNot_a, xAnd_a, xOr_a, xIf_a, xChain_a, zNil_a, zCons_a, xTup_a, fLst_a, xL_a, xCB_a, fCB_a, xF_a, xFc_a, fF_a, fFc_a, zApp_a, zKw_a, oNo_a, oAt_a, fSl_a, xSl_a, yV_a, yAnd_a, yOr_a, yNot_a, yYes_a, xIxO_a, xLenO_a, xDg_a, xDin_a, xDnotin_a, iS_a, iA_a, fLc_a, wipeS_nil, wipeS_cons, gN_a, gs0_a, gsC_a, gT_a, gU_a, ownL_a, ownD_a, asB_a, asI_a, asL_a, seqOf_l, seqOf_t, keyD_i, keyD_s, bind_ex, bind_bad, of_none, Rz.bind_ok, Rz.of_some, Rz.calm_ok, Option.bind_some, Option.bind_none, zAddV_i, zSub_i, zLt_i, zLe_i, zGt_i, zGe_i, zEq_i, zNe_i, zEq_r, zNe_r, zIx_r0, zIx_r1, zIx_t, zIx_l, zNeg_i, zLen_l, zLen_t, zAbs_i, zInt_b, zInt_i, zListV_l, zListV_t, zList_l, zList_t, zTuple_l, zTuple_t, zAll_l, zAny_l, zSlV_l, zSlV_t, zIsN_a, zNotN_a, slots, sel, Arg.get, List.filterMap_cons, List.filterMap_nil, List.length_cons, List.length_nil, List.map_cons, List.map_nil, List.cons_append, List.nil_append, List.append_nil, List.getElem?_cons_succ, List.getElem?_cons_zero, List.getElem?_nil, List.set_cons_zero, List.set_cons_succ, List.set_nil, List.replicate_succ, List.replicate_zero, if_true, Nat.sub_self, Nat.reduceAdd, Nat.reduceSub, Nat.reduceLeDiff, Nat.reduceEqDiff, Nat.reduceLT, Int.reduceLT, Int.reduceLE, Int.reduceNeg, Int.reduceEq, Nat.zero_add, and_self, if_false, Bool.not_true, Bool.not_false, Bool.false_eq_true, Nat.zero_le, decide_true, decide_false, reduceCtorEq, hsq]; exact fold) ?_
  have a103 := at_nthI (xs := xs) (i := 103) (by decide) (by omega)
  have k103 := fmod_in (a := nthI xs 103) (b := 4) (by decide)
  have z103 := zMod_i (i := nthI xs 103) (j := 4) (by decide)
  obtain ⟨odd, hodd, eodd⟩ := pick_data (f := fun s : Str => PyData.str s) (xs := ["", "us", "We", "weather "]) k103.1 (by simpa using k103.2)
  simp only [List.map_cons, List.map_nil] at eodd
  refine seq_step (ρ' := S06 sc xs ms .no .no .no (.dat (natD (prodN (ms.map fun m => m.2.length)))) (.dat (natD (prodN (ms.map fun m => m.2.length)))) .no (.dat (.str odd)) .no) (by simp only [fnD_a, kSeq_a, kNx_a, kE_a, kAsg_a, kOwn_a, kDrop_a, kRet_a, kRetP_a, kRetF_a, kRetO_a, kRetN_a, kIf_a, kBk_a, kCt_a, kTg_a, kPar_a, kApp_a, kPut_a, kFrz_a, kFor_a, kRaise_a, kDict_a, kDput_a, kClr_a, kNst_a, fLc2_a, yVw_a, view_no, view_dat, view_own, view_scr, xC_a, xV_a, xOp_a, fOp_a, xUn_a, xNot_a, xAnd_a, xOr_a, xIf_a, xChain_a, zNil_a, zCons_a, xTup_a, fLst_a, xL_a, xCB_a, fCB_a, xF_a, xFc_a, fF_a, fFc_a, zApp_a, zKw_a, oNo_a, oAt_a, fSl_a, xSl_a, yV_a, yAnd_a, yOr_a, yNot_a, yYes_a, xIxO_a, xLenO_a, xDg_a, xDin_a, xDnotin_a, iS_a, iA_a, fLc_a, wipeS_nil, wipeS_cons, gN_a, gs0_a, gsC_a, gT_a, gU_a, ownL_a, ownD_a, asB_a, asI_a, asL_a, seqOf_l, seqOf_t, keyD_i, keyD_s, bind_ex, bind_bad, of_none, Rz.bind_ok, Rz.of_some, Rz.calm_ok, Option.bind_some, Option.bind_none, zAddV_i, zSub_i, zLt_i, zLe_i, zGt_i, zGe_i, zEq_i, zNe_i, zEq_r, zNe_r, zIx_r0, zIx_r1, zIx_t, zIx_l, zNeg_i, zLen_l, zLen_t, zAbs_i, zInt_b, zInt_i, zListV_l, zListV_t, zList_l, zList_t, zTuple_l, zTuple_t, zAll_l, zAny_l, zSlV_l, zSlV_t, zIsN_a, zNotN_a, slots, sel, Arg.get, List.filterMap_cons, List.filterMap_nil, List.length_cons, List.length_nil, List.map_cons, List.map_nil, List.cons_append, List.nil_append, List.append_nil, List.getElem?_cons_succ, List.getElem?_cons_zero, List.getElem?_nil, List.set_cons_zero, List.set_cons_succ, List.set_nil, List.replicate_succ, List.replicate_zero, if_true, Nat.sub_self, Nat.reduceAdd, Nat.reduceSub, Nat.reduceLeDiff, Nat.reduceEqDiff, Nat.reduceLT, Int.reduceLT, Int.reduceLE, Int.reduceNeg, Int.reduceEq, Nat.zero_add, and_self, if_false, Bool.not_true, Bool.not_false, Bool.false_eq_true, Nat.zero_le, decide_true, decide_false, reduceCtorEq, a103, z103, eodd]) ?_
  have hnh : d_need_hand [.str odd] = .ex ⟨"BadHand", []⟩ := by
    simp only [List.mem_cons, List.not_mem_nil, or_false] at hodd
    rcases hodd with z | z | z | z <;> subst z <;> kernel_rfl
  have hlk := z_look h
  have s1 : d_stores_of [encBook ms, .str odd] = .ex ⟨"BadHand", []⟩ := by simp only [fnD_a, kSeq_a, kNx_a, kE_a, kAsg_a, kOwn_a, kDrop_a, kRet_a, kRetP_a, kRetF_a, kRetO_a, kRetN_a, kIf_a, kBk_a, kCt_a, kTg_a, kPar_a, kApp_a, kPut_a, kFrz_a, kFor_a, kRaise_a, kDict_a, kDput_a, kClr_a, kNst_a, fLc2_a, yVw_a, view_no, view_dat, view_own, view_scr, xC_a, xV_a, xOp_a, fOp_a, xUn_a, xNot_a, xAnd_a, xOr_a, xIf_a, xChain_a, zNil_a, zCons_a, xTup_a, fLst_a, xL_a, xCB_a, fCB_a, xF_a, xFc_a, fF_a, fFc_a, zApp_a, zKw_a, oNo_a, oAt_a, fSl_a, xSl_a, yV_a, yAnd_a, yOr_a, yNot_a, yYes_a, xIxO_a, xLenO_a, xDg_a, xDin_a, xDnotin_a, iS_a, iA_a, fLc_a, wipeS_nil, wipeS_cons, gN_a, gs0_a, gsC_a, gT_a, gU_a, ownL_a, ownD_a, asB_a, asI_a, asL_a, seqOf_l, seqOf_t, keyD_i, keyD_s, bind_ex, bind_bad, of_none, Rz.bind_ok, Rz.of_some, Rz.calm_ok, Option.bind_some, Option.bind_none, zAddV_i, zSub_i, zLt_i, zLe_i, zGt_i, zGe_i, zEq_i, zNe_i, zEq_r, zNe_r, zIx_r0, zIx_r1, zIx_t, zIx_l, zNeg_i, zLen_l, zLen_t, zAbs_i, zInt_b, zInt_i, zListV_l, zListV_t, zList_l, zList_t, zTuple_l, zTuple_t, zAll_l, zAny_l, zSlV_l, zSlV_t, zIsN_a, zNotN_a, slots, sel, Arg.get, List.filterMap_cons, List.filterMap_nil, List.length_cons, List.length_nil, List.map_cons, List.map_nil, List.cons_append, List.nil_append, List.append_nil, List.getElem?_cons_succ, List.getElem?_cons_zero, List.getElem?_nil, List.set_cons_zero, List.set_cons_succ, List.set_nil, List.replicate_succ, List.replicate_zero, if_true, Nat.sub_self, Nat.reduceAdd, Nat.reduceSub, Nat.reduceLeDiff, Nat.reduceEqDiff, Nat.reduceLT, Int.reduceLT, Int.reduceLE, Int.reduceNeg, Int.reduceEq, Nat.zero_add, and_self, if_false, Bool.not_true, Bool.not_false, Bool.false_eq_true, Nat.zero_le, decide_true, decide_false, reduceCtorEq, d_stores_of, m_stores_of, hlk, hnh]
  have q1 : d_plans [encBook ms, .str odd] = .ex ⟨"BadHand", []⟩ := by simp only [fnD_a, kSeq_a, kNx_a, kE_a, kAsg_a, kOwn_a, kDrop_a, kRet_a, kRetP_a, kRetF_a, kRetO_a, kRetN_a, kIf_a, kBk_a, kCt_a, kTg_a, kPar_a, kApp_a, kPut_a, kFrz_a, kFor_a, kRaise_a, kDict_a, kDput_a, kClr_a, kNst_a, fLc2_a, yVw_a, view_no, view_dat, view_own, view_scr, xC_a, xV_a, xOp_a, fOp_a, xUn_a, xNot_a, xAnd_a, xOr_a, xIf_a, xChain_a, zNil_a, zCons_a, xTup_a, fLst_a, xL_a, xCB_a, fCB_a, xF_a, xFc_a, fF_a, fFc_a, zApp_a, zKw_a, oNo_a, oAt_a, fSl_a, xSl_a, yV_a, yAnd_a, yOr_a, yNot_a, yYes_a, xIxO_a, xLenO_a, xDg_a, xDin_a, xDnotin_a, iS_a, iA_a, fLc_a, wipeS_nil, wipeS_cons, gN_a, gs0_a, gsC_a, gT_a, gU_a, ownL_a, ownD_a, asB_a, asI_a, asL_a, seqOf_l, seqOf_t, keyD_i, keyD_s, bind_ex, bind_bad, of_none, Rz.bind_ok, Rz.of_some, Rz.calm_ok, Option.bind_some, Option.bind_none, zAddV_i, zSub_i, zLt_i, zLe_i, zGt_i, zGe_i, zEq_i, zNe_i, zEq_r, zNe_r, zIx_r0, zIx_r1, zIx_t, zIx_l, zNeg_i, zLen_l, zLen_t, zAbs_i, zInt_b, zInt_i, zListV_l, zListV_t, zList_l, zList_t, zTuple_l, zTuple_t, zAll_l, zAny_l, zSlV_l, zSlV_t, zIsN_a, zNotN_a, slots, sel, Arg.get, List.filterMap_cons, List.filterMap_nil, List.length_cons, List.length_nil, List.map_cons, List.map_nil, List.cons_append, List.nil_append, List.append_nil, List.getElem?_cons_succ, List.getElem?_cons_zero, List.getElem?_nil, List.set_cons_zero, List.set_cons_succ, List.set_nil, List.replicate_succ, List.replicate_zero, if_true, Nat.sub_self, Nat.reduceAdd, Nat.reduceSub, Nat.reduceLeDiff, Nat.reduceEqDiff, Nat.reduceLT, Int.reduceLT, Int.reduceLE, Int.reduceNeg, Int.reduceEq, Nat.zero_add, and_self, if_false, Bool.not_true, Bool.not_false, Bool.false_eq_true, Nat.zero_le, decide_true, decide_false, reduceCtorEq, d_plans, m_plans, s1]
  have lk0 : d_look [.tuple []] = .ex ⟨"BadRows", []⟩ := by
    simp only [fnD_a, kSeq_a, kNx_a, kE_a, kAsg_a, kOwn_a, kDrop_a, kRet_a, kRetP_a, kRetF_a, kRetO_a, kRetN_a, kIf_a, kBk_a, kCt_a, kTg_a, kPar_a, kApp_a, kPut_a, kFrz_a, kFor_a, kRaise_a, kDict_a, kDput_a, kClr_a, kNst_a, fLc2_a, yVw_a, view_no, view_dat, view_own, view_scr, xC_a, xV_a, xOp_a, fOp_a, xUn_a, xNot_a, xAnd_a, xOr_a, xIf_a, xChain_a, zNil_a, zCons_a, xTup_a, fLst_a, xL_a, xCB_a, fCB_a, xF_a, xFc_a, fF_a, fFc_a, zApp_a, zKw_a, oNo_a, oAt_a, fSl_a, xSl_a, yV_a, yAnd_a, yOr_a, yNot_a, yYes_a, xIxO_a, xLenO_a, xDg_a, xDin_a, xDnotin_a, iS_a, iA_a, fLc_a, wipeS_nil, wipeS_cons, gN_a, gs0_a, gsC_a, gT_a, gU_a, ownL_a, ownD_a, asB_a, asI_a, asL_a, seqOf_l, seqOf_t, keyD_i, keyD_s, bind_ex, bind_bad, of_none, Rz.bind_ok, Rz.of_some, Rz.calm_ok, Option.bind_some, Option.bind_none, zAddV_i, zSub_i, zLt_i, zLe_i, zGt_i, zGe_i, zEq_i, zNe_i, zEq_r, zNe_r, zIx_r0, zIx_r1, zIx_t, zIx_l, zNeg_i, zLen_l, zLen_t, zAbs_i, zInt_b, zInt_i, zListV_l, zListV_t, zList_l, zList_t, zTuple_l, zTuple_t, zAll_l, zAny_l, zSlV_l, zSlV_t, zIsN_a, zNotN_a, slots, sel, Arg.get, List.filterMap_cons, List.filterMap_nil, List.length_cons, List.length_nil, List.map_cons, List.map_nil, List.cons_append, List.nil_append, List.append_nil, List.getElem?_cons_succ, List.getElem?_cons_zero, List.getElem?_nil, List.set_cons_zero, List.set_cons_succ, List.set_nil, List.replicate_succ, List.replicate_zero, if_true, Nat.sub_self, Nat.reduceAdd, Nat.reduceSub, Nat.reduceLeDiff, Nat.reduceEqDiff, Nat.reduceLT, Int.reduceLT, Int.reduceLE, Int.reduceNeg, Int.reduceEq, Nat.zero_add, and_self, if_false, Bool.not_true, Bool.not_false, Bool.false_eq_true, Nat.zero_le, decide_true, decide_false, reduceCtorEq, d_look, m_look]
    rfl
  have s2 : d_stores_of [.tuple [], .str odd] = .ex ⟨"BadRows", []⟩ := by simp only [fnD_a, kSeq_a, kNx_a, kE_a, kAsg_a, kOwn_a, kDrop_a, kRet_a, kRetP_a, kRetF_a, kRetO_a, kRetN_a, kIf_a, kBk_a, kCt_a, kTg_a, kPar_a, kApp_a, kPut_a, kFrz_a, kFor_a, kRaise_a, kDict_a, kDput_a, kClr_a, kNst_a, fLc2_a, yVw_a, view_no, view_dat, view_own, view_scr, xC_a, xV_a, xOp_a, fOp_a, xUn_a, xNot_a, xAnd_a, xOr_a, xIf_a, xChain_a, zNil_a, zCons_a, xTup_a, fLst_a, xL_a, xCB_a, fCB_a, xF_a, xFc_a, fF_a, fFc_a, zApp_a, zKw_a, oNo_a, oAt_a, fSl_a, xSl_a, yV_a, yAnd_a, yOr_a, yNot_a, yYes_a, xIxO_a, xLenO_a, xDg_a, xDin_a, xDnotin_a, iS_a, iA_a, fLc_a, wipeS_nil, wipeS_cons, gN_a, gs0_a, gsC_a, gT_a, gU_a, ownL_a, ownD_a, asB_a, asI_a, asL_a, seqOf_l, seqOf_t, keyD_i, keyD_s, bind_ex, bind_bad, of_none, Rz.bind_ok, Rz.of_some, Rz.calm_ok, Option.bind_some, Option.bind_none, zAddV_i, zSub_i, zLt_i, zLe_i, zGt_i, zGe_i, zEq_i, zNe_i, zEq_r, zNe_r, zIx_r0, zIx_r1, zIx_t, zIx_l, zNeg_i, zLen_l, zLen_t, zAbs_i, zInt_b, zInt_i, zListV_l, zListV_t, zList_l, zList_t, zTuple_l, zTuple_t, zAll_l, zAny_l, zSlV_l, zSlV_t, zIsN_a, zNotN_a, slots, sel, Arg.get, List.filterMap_cons, List.filterMap_nil, List.length_cons, List.length_nil, List.map_cons, List.map_nil, List.cons_append, List.nil_append, List.append_nil, List.getElem?_cons_succ, List.getElem?_cons_zero, List.getElem?_nil, List.set_cons_zero, List.set_cons_succ, List.set_nil, List.replicate_succ, List.replicate_zero, if_true, Nat.sub_self, Nat.reduceAdd, Nat.reduceSub, Nat.reduceLeDiff, Nat.reduceEqDiff, Nat.reduceLT, Int.reduceLT, Int.reduceLE, Int.reduceNeg, Int.reduceEq, Nat.zero_add, and_self, if_false, Bool.not_true, Bool.not_false, Bool.false_eq_true, Nat.zero_le, decide_true, decide_false, reduceCtorEq, d_stores_of, m_stores_of, lk0]
  have q2 : d_plans [.tuple [], .str odd] = .ex ⟨"BadRows", []⟩ := by simp only [fnD_a, kSeq_a, kNx_a, kE_a, kAsg_a, kOwn_a, kDrop_a, kRet_a, kRetP_a, kRetF_a, kRetO_a, kRetN_a, kIf_a, kBk_a, kCt_a, kTg_a, kPar_a, kApp_a, kPut_a, kFrz_a, kFor_a, kRaise_a, kDict_a, kDput_a, kClr_a, kNst_a, fLc2_a, yVw_a, view_no, view_dat, view_own, view_scr, xC_a, xV_a, xOp_a, fOp_a, xUn_a, xNot_a, xAnd_a, xOr_a, xIf_a, xChain_a, zNil_a, zCons_a, xTup_a, fLst_a, xL_a, xCB_a, fCB_a, xF_a, xFc_a, fF_a, fFc_a, zApp_a, zKw_a, oNo_a, oAt_a, fSl_a, xSl_a, yV_a, yAnd_a, yOr_a, yNot_a, yYes_a, xIxO_a, xLenO_a, xDg_a, xDin_a, xDnotin_a, iS_a, iA_a, fLc_a, wipeS_nil, wipeS_cons, gN_a, gs0_a, gsC_a, gT_a, gU_a, ownL_a, ownD_a, asB_a, asI_a, asL_a, seqOf_l, seqOf_t, keyD_i, keyD_s, bind_ex, bind_bad, of_none, Rz.bind_ok, Rz.of_some, Rz.calm_ok, Option.bind_some, Option.bind_none, zAddV_i, zSub_i, zLt_i, zLe_i, zGt_i, zGe_i, zEq_i, zNe_i, zEq_r, zNe_r, zIx_r0, zIx_r1, zIx_t, zIx_l, zNeg_i, zLen_l, zLen_t, zAbs_i, zInt_b, zInt_i, zListV_l, zListV_t, zList_l, zList_t, zTuple_l, zTuple_t, zAll_l, zAny_l, zSlV_l, zSlV_t, zIsN_a, zNotN_a, slots, sel, Arg.get, List.filterMap_cons, List.filterMap_nil, List.length_cons, List.length_nil, List.map_cons, List.map_nil, List.cons_append, List.nil_append, List.append_nil, List.getElem?_cons_succ, List.getElem?_cons_zero, List.getElem?_nil, List.set_cons_zero, List.set_cons_succ, List.set_nil, List.replicate_succ, List.replicate_zero, if_true, Nat.sub_self, Nat.reduceAdd, Nat.reduceSub, Nat.reduceLeDiff, Nat.reduceEqDiff, Nat.reduceLT, Int.reduceLT, Int.reduceLE, Int.reduceNeg, Int.reduceEq, Nat.zero_add, and_self, if_false, Bool.not_true, Bool.not_false, Bool.false_eq_true, Nat.zero_le, decide_true, decide_false, reduceCtorEq, d_plans, m_plans, s2]
  have t6 : zMulT (encBook ms) (.int 6) = some (bookD (List.replicate 6 (ms.map rawM)).flatten) := by
    rw [raw_book]
    exact zMulT_many (f := menuD) (j := 6) (by decide) (by decide) (by rw [List.length_map]; omega)
  have b6 : Bk 5 (List.replicate 6 (ms.map rawM)).flatten := ⟨by rw [flat_len, List.length_map]; omega, fun m hm => (Bk.of h).all m (flat_mem hm)⟩
  have lk6 := z_look_raw (L := 5) (by decide) b6
  have v6 : bookV (List.replicate 6 (ms.map rawM)).flatten = some .rows := by
    unfold bookV
    rw [if_neg (by rw [flat_len, List.length_map]; have := h.lo; omega)]
  rw [v6] at lk6
  generalize (List.replicate 6 (ms.map rawM)).flatten = b at t6 lk6
  have lk6 : d_look [bookD b] = .ex ⟨"BadRows", []⟩ := lk6
  have s3 : d_stores_of [bookD b, .str odd] = .ex ⟨"BadRows", []⟩ := by simp only [fnD_a, kSeq_a, kNx_a, kE_a, kAsg_a, kOwn_a, kDrop_a, kRet_a, kRetP_a, kRetF_a, kRetO_a, kRetN_a, kIf_a, kBk_a, kCt_a, kTg_a, kPar_a, kApp_a, kPut_a, kFrz_a, kFor_a, kRaise_a, kDict_a, kDput_a, kClr_a, kNst_a, fLc2_a, yVw_a, view_no, view_dat, view_own, view_scr, xC_a, xV_a, xOp_a, fOp_a, xUn_a, xNot_a, xAnd_a, xOr_a, xIf_a, xChain_a, zNil_a, zCons_a, xTup_a, fLst_a, xL_a, xCB_a, fCB_a, xF_a, xFc_a, fF_a, fFc_a, zApp_a, zKw_a, oNo_a, oAt_a, fSl_a, xSl_a, yV_a, yAnd_a, yOr_a, yNot_a, yYes_a, xIxO_a, xLenO_a, xDg_a, xDin_a, xDnotin_a, iS_a, iA_a, fLc_a, wipeS_nil, wipeS_cons, gN_a, gs0_a, gsC_a, gT_a, gU_a, ownL_a, ownD_a, asB_a, asI_a, asL_a, seqOf_l, seqOf_t, keyD_i, keyD_s, bind_ex, bind_bad, of_none, Rz.bind_ok, Rz.of_some, Rz.calm_ok, Option.bind_some, Option.bind_none, zAddV_i, zSub_i, zLt_i, zLe_i, zGt_i, zGe_i, zEq_i, zNe_i, zEq_r, zNe_r, zIx_r0, zIx_r1, zIx_t, zIx_l, zNeg_i, zLen_l, zLen_t, zAbs_i, zInt_b, zInt_i, zListV_l, zListV_t, zList_l, zList_t, zTuple_l, zTuple_t, zAll_l, zAny_l, zSlV_l, zSlV_t, zIsN_a, zNotN_a, slots, sel, Arg.get, List.filterMap_cons, List.filterMap_nil, List.length_cons, List.length_nil, List.map_cons, List.map_nil, List.cons_append, List.nil_append, List.append_nil, List.getElem?_cons_succ, List.getElem?_cons_zero, List.getElem?_nil, List.set_cons_zero, List.set_cons_succ, List.set_nil, List.replicate_succ, List.replicate_zero, if_true, Nat.sub_self, Nat.reduceAdd, Nat.reduceSub, Nat.reduceLeDiff, Nat.reduceEqDiff, Nat.reduceLT, Int.reduceLT, Int.reduceLE, Int.reduceNeg, Int.reduceEq, Nat.zero_add, and_self, if_false, Bool.not_true, Bool.not_false, Bool.false_eq_true, Nat.zero_le, decide_true, decide_false, reduceCtorEq, d_stores_of, m_stores_of, lk6]
  have x1 : ∀ s : Str, atI [PyData.none, .str s] 1 = some (.str s) := fun _ => rfl
  have hz : zEq (.list [.str "no BadHand", .str "no BadHand", .str "no BadRows", .str "no BadRows"]) (.list [.str "no BadHand", .str "no BadHand", .str "no BadRows", .str "no BadRows"]) = some (.bool true) := by kernel_rfl
  simp only [fnD_a, kSeq_a, kNx_a, kE_a, kAsg_a, kOwn_a, kDrop_a, kRet_a, kRetP_a, kRetF_a, kRetO_a, kRetN_a, kIf_a, kBk_a, kCt_a, kTg_a, kPar_a, kApp_a, kPut_a, kFrz_a, kFor_a, kRaise_a, kDict_a, kDput_a, kClr_a, kNst_a, fLc2_a, yVw_a, view_no, view_dat, view_own, view_scr, xC_a, xV_a, xOp_a, fOp_a, xUn_a, xNot_a, xAnd_a, xOr_a, xIf_a, xChain_a, zNil_a, zCons_a, xTup_a, fLst_a, xL_a, xCB_a, fCB_a, xF_a, xFc_a, fF_a, fFc_a, zApp_a, zKw_a, oNo_a, oAt_a, fSl_a, xSl_a, yV_a, yAnd_a, yOr_a, yNot_a, yYes_a, xIxO_a, xLenO_a, xDg_a, xDin_a, xDnotin_a, iS_a, iA_a, fLc_a, wipeS_nil, wipeS_cons, gN_a, gs0_a, gsC_a, gT_a, gU_a, ownL_a, ownD_a, asB_a, asI_a, asL_a, seqOf_l, seqOf_t, keyD_i, keyD_s, bind_ex, bind_bad, of_none, Rz.bind_ok, Rz.of_some, Rz.calm_ok, Option.bind_some, Option.bind_none, zAddV_i, zSub_i, zLt_i, zLe_i, zGt_i, zGe_i, zEq_i, zNe_i, zEq_r, zNe_r, zIx_r0, zIx_r1, zIx_t, zIx_l, zNeg_i, zLen_l, zLen_t, zAbs_i, zInt_b, zInt_i, zListV_l, zListV_t, zList_l, zList_t, zTuple_l, zTuple_t, zAll_l, zAny_l, zSlV_l, zSlV_t, zIsN_a, zNotN_a, slots, sel, Arg.get, List.filterMap_cons, List.filterMap_nil, List.length_cons, List.length_nil, List.map_cons, List.map_nil, List.cons_append, List.nil_append, List.append_nil, List.getElem?_cons_succ, List.getElem?_cons_zero, List.getElem?_nil, List.set_cons_zero, List.set_cons_succ, List.set_nil, List.replicate_succ, List.replicate_zero, if_true, Nat.sub_self, Nat.reduceAdd, Nat.reduceSub, Nat.reduceLeDiff, Nat.reduceEqDiff, Nat.reduceLT, Int.reduceLT, Int.reduceLE, Int.reduceNeg, Int.reduceEq, Nat.zero_add, and_self, if_false, Bool.not_true, Bool.not_false, Bool.false_eq_true, Nat.zero_le, decide_true, decide_false, reduceCtorEq, q1, s1, q2, s3, t6, xTry_a, tryD_ex wt_BadHand, tryD_ex wt_BadRows, x1, natD, hz]
/-! ### _law_numbers -/
abbrev s__law_numbers : Stmt := top 39
abbrev n__law_numbers : List Str := ["_law_script", "_law_many", "_law_drawn", "_law_seed", "_law_cell", "_law_rest", "_law_k"]
theorem sc__law_numbers : FnScope ["_law_script", "_law_many", "_law_drawn", "_law_seed", "_law_cell", "_law_rest", "_law_k"] ["_law_script", "_law_many"] (defScope s__law_numbers) := ⟨rfl, rfl, rfl, by decide +kernel, rfl, by decide +kernel, by decide +kernel⟩
theorem fmod_few {a b : Int} (hb : 0 < b) : 0 ≤ a.fmod b ∧ a.fmod b < b := by
  rw [Int.fmod_eq_emod_of_nonneg a (by omega)]
  exact ⟨Int.emod_nonneg a (by omega), Int.emod_lt_of_pos a hb⟩
theorem map_app (xs : List Int) (y : Int) : xs.map PyData.int ++ [PyData.int y] = (xs ++ [y]).map PyData.int := by simp
def numI (many : Nat) (ns : List Int) (n : Nat) (ρ : List Slot) : Prop := ∃ (xs : List Int) (seed : Int), Le [.scr (ns.map .int), .dat (.int many), .own (.lst (xs.map .int)), .dat (.int seed), .no, .no, .no] ρ ∧ Few xs ∧ xs.length ≤ n ∧ 0 ≤ seed ∧ seed < 2147483648
def numJ (many : Nat) (ns : List Int) (n : Nat) (ρ : List Slot) : Prop := ∃ (xs : List Int) (seed rest : Int), Le [.scr (ns.map .int), .dat (.int many), .own (.lst (xs.map .int)), .dat (.int seed), .no, .dat (.int rest), .no] ρ ∧ Few xs ∧ xs.length ≤ n ∧ 0 ≤ seed ∧ seed < 2147483648
theorem ok__law_numbers {P : Program} {w : World} {K : PySem.W.Frag} {T : Tb} {mg : Str → Option Value} {base : Heap} {f : Addr} {fd : FuncData} {dvs : List V} (F : FnP K "_law_numbers" s__law_numbers dvs f fd) (Z : Blt mg) :
    FnOk P w K mg base CX0 41 f fd ["_law_script", "_law_many"] (spA K T Rnumbers) := by
  refine fnA F sc__law_numbers (fun ds r h => ?_) (fun cdv A outer s H E hr => ?_)
  · obtain ⟨ns, many, hns, hm, rfl, rfl⟩ := h
    rfl
  · have nd := sc__law_numbers.nd
    refine ⟨_, (pss_cons (ps_set (i := 2) nd rfl (Or.inl rfl) (pe_lst pa_nil))
      (pss_cons (ps_set (i := 3) nd rfl (Or.inl rfl) pe_int)
      (pss_cons (ps_for PassesOwn.never rfl (pi_seqK K (pe_slice (sl_anyK K) (pv 0) po_none (po_some pe_int))) (pg_name (i := 4) nd rfl (Or.inl rfl)) (pss_cons (ps_set (i := 3) nd rfl (Or.inl rfl) (pe_op op_modN (pe_op (op_addK K) (pe_op (op_addK K) (pe_op op_mulA (pv 3) pe_int) (pe_op op_modN (pv 4) pe_int)) pe_int) pe_int))
      (pss_cons (ps_set (i := 5) nd rfl (Or.inl rfl) (pe_op op_sub (pv 4) (pe_op op_pow pe_int pe_int)))
      (pss_cons (ps_if (pt_cmpR op_lt (pv 5) pe_int (nomark _)) (pss_one (ps_expr (pe_bmK K PySem.F.plainAttrs_list PySem.F.slot_list_append PySem.F.type_list_append mt_append (pv 2) (pa_cons (pe_op op_modN (pv 4) pe_int) pa_nil)))) pss_nil)
      (pss_one (ps_for PassesOwn.never rfl (pi_range1 (by rfl) Z.range (pa_cons pe_int pa_nil)) (pg_name (i := 6) nd rfl (Or.inl rfl)) (pss_one (ps_if (pt_cmpR op_gt (pv 5) pe_int (nomark _)) (pss_cons (ps_expr (pe_bmK K PySem.F.plainAttrs_list PySem.F.slot_list_append PySem.F.type_list_append mt_append (pv 2) (pa_cons (pe_op op_modN (pv 5) pe_int) pa_nil)))
      (pss_one (ps_set (i := 5) nd rfl (Or.inl rfl) (pe_op op_fdX (pv 5) pe_int)))) pss_nil))))))))
      (pss_cons (ps_while PassesOwn.never (pt_cmpR op_lt (pe_callB (call_lenK K) (by rfl) Z.len PySem.boot_len (pa_cons (pv 2) pa_nil)) (pv 1) (nomark _)) (pss_cons (ps_set (i := 3) nd rfl (Or.inl rfl) (pe_op op_modN (pe_op (op_addK K) (pe_op (op_addK K) (pe_op (op_addK K) (pe_op op_mulA (pv 3) (pv 3)) (pe_op op_mulA pe_int (pv 3))) (pe_op op_mulA pe_int (pe_callB (call_lenK K) (by rfl) Z.len PySem.boot_len (pa_cons (pv 2) pa_nil)))) pe_int) pe_int))
      (pss_one (ps_expr (pe_bmK K PySem.F.plainAttrs_list PySem.F.slot_list_append PySem.F.type_list_append mt_append (pv 2) (pa_cons (pe_op op_modN (pe_op op_fdX (pv 3) pe_int) pe_int) pa_nil))))))
      (pss_one (ps_ret (pe_slice (sl_anyK K) (pv 2) po_none (po_some (pv 1))))))))), ?_⟩
    wtm_at "cx"
    rintro ss Po ⟨ns, many, hns, hm, rfl, rfl⟩ H0 C D hrt
    show Tri K T H0 _ C [.scr (ns.map .int), .dat (.int many), .no, .no, .no, .no, .no] _ D
    wtm_at "own"
    wtm_at "asg"
    have hit : IterD K T (iSeq K (tSl (rSlX K) (tVar 0) tNoPart (tPart (tC (.int 63))))) [.scr (ns.map .int), .dat (.int many), .own (.lst []), .dat (.int 97), .no, .no, .no] (cutD (ns.map .int) none (some 63)) :=
      it_list (ef_slS rfl ep_none (ep_some ev_int)).ev
    have hcut : cutD (ns.map .int) none (some 63) = ns.map .int := by
      unfold cutD
      have e1 : HT.sIx (ns.map PyData.int).length 0 none = 0 := rfl
      have e2 : HT.sIx (ns.map PyData.int).length (ns.map PyData.int).length (some 63) = ns.length := by
        rw [show (63 : Int) = ((63 : Nat) : Int) from rfl, HT.sIx_nat, List.length_map]
        omega
      rw [e1, e2, List.drop_zero, Nat.sub_zero]
      exact List.take_of_length_le (by simp)
    rw [hcut] at hit
    refine q_forG hit (fun i ρ => numI many ns (61 * i) ρ) ⟨[], 97, ?_, (fun x hx => by cases hx), by simp, by decide, by decide⟩ ?_ ?_
    · simp only [List.map_nil]
      wtm_at "le"
    · rintro B' i d ρi hB hd ⟨xs, seed, hle, hf, hl, h0, h1⟩
      rw [List.getElem?_map] at hd
      cases e : ns[i]? with
      | none => rw [e] at hd; cases hd
      | some cell =>
        rw [e] at hd
        cases hd
        have hi : i < ns.length := (List.getElem?_eq_some_iff.mp e).1
        refine ⟨_, _, tg_name, s_weak (hle.set 4 _) ?_⟩
        show Tri K T H0 B' C [.scr (ns.map .int), .dat (.int many), .own (.lst (xs.map .int)), .dat (.int seed), .dat (.int cell), .no, .no] _ _
        have b1 := fmod_few (a := cell) (b := 999979) (by decide)
        have b2 := fmod_few (a := seed * 40014 + cell.fmod 999979 + 41) (b := 2147483563) (by decide)
        wtm_at "asg"
        wtm_at "asg"
        have go : ∀ (ys : List Int) (rest : Int), Few ys → ys.length ≤ 61 * i + 1 → Tri K T H0 B' C [.scr (ns.map .int), .dat (.int many), .own (.lst (ys.map .int)), .dat (.int ((seed * 40014 + cell.fmod 999979 + 41).fmod 2147483563)), .dat (.int cell), .dat (.int rest), .no]
            (tFor (iRng1 (tCons (tC (.int 60)) tNil)) (gName 6) (tIfS (tTest (tOp (rI0 fun i j => .bl (decide (j < i))) (tVar 5) (tC (.int 0)))) (tSeq (tDrop (tBM K "list" rAppend (tVar 2) (tCons (tOp (rI (fun _ j => j ≠ 0) fun i j => .int (i.fmod j)) (tVar 5) (tC (.int 1013))) tNil))) (tAsg (tOp (rI CFd fun i j => .int (i.fdiv j)) (tVar 5) (tC (.int 1013))) (gName 5))) tNext))
            { nx := Nxt K T H0 B' C (numI many ns (61 * (i + 1))), rt := D.rt, bk := fun σ H => tSeq (tWhile (tTest (tOp (rI0 fun i j => .bl (decide (i < j))) (tCB (rLenA K) (tCons (tVar 2) tNil)) (tVar 1))) (tSeq (tAsg (tOp (rI (fun _ j => j ≠ 0) fun i j => .int (i.fmod j)) (tOp (rAddA K) (tOp (rAddA K) (tOp (rAddA K) (tOp rMulA (tVar 3) (tVar 3)) (tOp rMulA (tC (.int 52774)) (tVar 3))) (tOp rMulA (tC (.int 23)) (tCB (rLenA K) (tCons (tVar 2) tNil)))) (tC (.int 5))) (tC (.int 2147483629))) (gName 3)) (tDrop (tBM K "list" rAppend (tVar 2) (tCons (tOp (rI (fun _ j => j ≠ 0) fun i j => .int (i.fmod j)) (tOp (rI CFd fun i j => .int (i.fdiv j)) (tVar 3) (tC (.int 1019))) (tC (.int 9967))) tNil))))) (tRet (tSl (rSlX K) (tVar 2) tNoPart (tPart (tVar 1)))) D σ H, ct := Nxt K T H0 B' C (numI many ns (61 * (i + 1))) } := by
          intro ys rest hy hyl
          refine s_forG (it_range1 (by wtm_at "ea") (by decide) (by decide)) (fun k ρ => numJ many ns (61 * i + 1 + k) ρ) ⟨ys, _, rest, ?_, hy, hyl, b2.1, Int.lt_trans b2.2 (by decide)⟩ ?_ ?_
          · wtm_at "le"
          · rintro B2 k d2 ρk hB2 hd2 ⟨zs, sd, r2, hle2, hf2, hl2, h02, h12⟩
            obtain ⟨hk, rfl⟩ := rgD_get hd2
            refine ⟨_, _, tg_name, s_weak (hle2.set 6 _) ?_⟩
            show Tri K T H0 B2 C [.scr (ns.map .int), .dat (.int many), .own (.lst (zs.map .int)), .dat (.int sd), .no, .dat (.int r2), .dat (.int (0 + (k : Int)))] _ _
            have hk60 : k < 60 := hk
            refine s_if (by wtm_at "et") (fun c => ?_) (fun c => ?_)
            · have b3 := fmod_few (a := r2) (b := 1013) (by decide)
              refine q_app rfl (by wtm_at "ev") (by rw [List.length_map]; omega) ?_
              wtm_at "nf"
              rw [map_app]
              wtm_at "asg1"
              refine s_nxt (ρ' := [.scr (ns.map .int), .dat (.int many), .own (.lst ((zs ++ [r2.fmod 1013]).map .int)), .dat (.int sd), .no, .dat (.int (r2.fdiv 1013)), .no]) ⟨zs ++ [r2.fmod 1013], sd, r2.fdiv 1013, Le.refl _, hf2.app (.one b3.1 (by omega)), by simp; omega, h02, h12⟩ ?_ rfl
              wtm_at "le"
            · refine s_nxt (ρ' := [.scr (ns.map .int), .dat (.int many), .own (.lst (zs.map .int)), .dat (.int sd), .no, .dat (.int r2), .no]) ⟨zs, sd, r2, Le.refl _, hf2, by omega, h02, h12⟩ ?_ rfl
              wtm_at "le"
          · rintro ρn ⟨zs, sd, r2, hle2, hf2, hl2, h02, h12⟩
            rw [rgD_len] at hl2
            refine s_weak hle2 (s_nxt (ρ' := [.scr (ns.map .int), .dat (.int many), .own (.lst (zs.map .int)), .dat (.int sd), .no, .no, .no]) ⟨zs, sd, Le.refl _, hf2, by simp at hl2; omega, h02, h12⟩ ?_ rfl)
            wtm_at "le"
        refine q_when (by wtm_at "et") (fun c => ?_) (fun c => ?_)
        · have b3 := fmod_few (a := cell) (b := 9967) (by decide)
          refine s_app rfl (by wtm_at "ev") (by rw [List.length_map]; omega) ?_
          wtm_at "nf"
          rw [map_app]
          exact s_to (go _ _ (hf.app (.one b3.1 b3.2)) (by simp; omega))
        · exact go _ _ hf (by omega)
    · rintro ρn ⟨xs, seed, hle, hf, hl, h0, h1⟩
      rw [List.length_map] at hl
      refine s_weak hle ?_
      refine q_while (fun m ρ => ∃ (ys : List Int) (sd : Int), ρ = [.scr (ns.map .int), .dat (.int many), .own (.lst (ys.map .int)), .dat (.int sd), .no, .no, .no] ∧ Few ys ∧ ys.length ≤ 4000 + many ∧ 0 ≤ sd ∧ sd < 2147483648 ∧ m = many - ys.length) (many - xs.length) ⟨xs, seed, rfl, hf, by omega, h0, h1, rfl⟩ ?_
      rintro m ρ ⟨ys, sd, rfl, hf2, hl2, h02, h12, rfl⟩
      refine ⟨_, by wtm_at "et", fun c => ?_, fun c => ?_⟩
      · have c' := of_decide_eq_true c
        rw [List.length_map] at c'
        have mm : IntMulOk sd sd := mulOkL (by omega)
        have b2 := fmod_few (a := sd * sd + 52774 * sd + 23 * ((ys.map PyData.int).length : Int) + 5) (b := 2147483629) (by decide)
        wtm_at "asg"
        have b3 := fmod_few (a := ((sd * sd + 52774 * sd + 23 * ((ys.map PyData.int).length : Int) + 5).fmod 2147483629).fdiv 1019) (b := 9967) (by decide)
        refine s_app rfl (by wtm_at "ev") (by rw [List.length_map]; omega) ?_
        wtm_at "nf"
        rw [map_app]
        intro σ H g
        refine ⟨_, _, ?_, ⟨ys ++ [_], _, rfl, hf2.app (.one b3.1 b3.2), ?_, b2.1, Int.lt_trans b2.2 (by decide), rfl⟩, g⟩
        · simp; omega
        · simp; omega
      · have c' := of_decide_eq_false c
        rw [List.length_map] at c'
        refine s_freeze (i := 2) rfl ?_
        wtm_at "nf"
        refine s_ret (d := .list (cutD (ys.map .int) none (some many))) ?_ (hrt _ ⟨ys.take many, by rw [List.length_take]; omega, fun x hx => hf2 x (List.mem_of_mem_take hx), ?_⟩)
        · wtm_at "ev"
        · unfold cutD
          have e1 : HT.sIx (ys.map PyData.int).length 0 none = 0 := rfl
          have e2 : HT.sIx (ys.map PyData.int).length (ys.map PyData.int).length (some (many : Int)) = many := by
            rw [HT.sIx_nat, List.length_map]
            omega
          rw [e1, e2, List.drop_zero, Nat.sub_zero, List.map_take]
theorem ok_law {P : Program} {w : World} {K : PySem.W.Frag} {T : Tb} {mg : Str → Option Value} {base : Heap} {fd : FuncData} {dvs : List V} (F : FnP K "law" s_law dvs (He.ga K "law") fd) (Z : Blt mg) (Er : ErrT K mg erL)
    (cL : CalL K mg "_law_tried" s__law_tried "_law_ask") (cf : CalH P w K mg base 42 "_law_flags" ["_law_e"] (spX K T erL flD)) (cw : CalH P w K mg base 42 "_law_word" ["_law_flags_here"] (fun _ _ _ => spZ K T false fun ds => (d__law_word ds).calm)) (TL : LamTab K T mg base "law")
    (c__law_numbers : Cal P w K mg base 41 "_law_numbers" ["_law_script", "_law_many"] [] (spA K T Rnumbers))
    (c__law_menus : CalX P w K mg base 43 "_law_menus" ["_law_d", "_law_upto"] [] (spZ K T false d__law_menus))
    (c_plans : CalX P w K mg base 44 "plans" ["menus", "hand"] [] (spZ K T true d_plans))
    (c_stores_of : CalX P w K mg base 43 "stores_of" ["menus", "hand"] [] (spZ K T true d_stores_of))
    (c__law_same : Cal P w K mg base 50 "_law_same" ["_law_found", "_law_due"] [] (spR K T Rsame8))
    (c__law_stores : CalX P w K mg base 41 "_law_stores" ["_law_book", "_law_whose"] [] (spZ K T true d__law_stores))
    (c__law_plans : CalX P w K mg base 42 "_law_plans" ["_law_book", "_law_whose"] [] (spZ K T false d__law_plans)) :
    FnOk P w K mg base CX0 51 (He.ga K "law") fd ["_law_script"] (spA K T Rlaw) := by
  refine fnAL F sc_law (fun ds r h => ?_) (fun A outer s H E hr => ?_)
  · obtain ⟨_, _, rfl, _⟩ := h
    rfl
  · have nd := sc_law.nd
    refine ⟨_, (pss_cons (ps_set (i := 1) nd rfl (Or.inl rfl) (pe_callC c__law_numbers hr rfl (pa_cons (pv 0) (pa_cons pe_int pa_nil))))
      (pss_cons (ps_set (i := 2) nd rfl (Or.inr rfl) (pe_callC c__law_menus.calmZ hr rfl (pa_cons (pv 1) (pa_cons pe_int pa_nil))))
      (pss_cons (ps_for PassesOwn.never rfl (pi_seqK K (pe_lst (pa_cons pe_str (pa_cons pe_str pa_nil)))) (pg_name (i := 3) nd rfl (Or.inl rfl)) (pss_one (ps_for PassesOwn.never rfl (pi_range1 (by rfl) Z.range (pa_cons pe_int pa_nil)) (pg_name (i := 4) nd rfl (Or.inl rfl)) (pss_cons (ps_set (i := 5) nd rfl (Or.inl rfl) (pe_lst (pa_cons (pe_callC c_stores_of.calmZ hr rfl (pa_cons (pv 2) (pa_cons (pv 3) pa_nil))) (pa_cons (pe_callC c_plans.calmZ hr rfl (pa_cons (pv 2) (pa_cons (pv 3) pa_nil))) pa_nil))))
      (pss_cons (ps_if (pt_not (pt_val (pe_callC c__law_same hr rfl (pa_cons (pv 5) (pa_cons (pe_lst (pa_cons (pe_callC c__law_stores.calmZ hr rfl (pa_cons (pv 2) (pa_cons (pv 3) pa_nil))) (pa_cons (pe_callC c__law_plans.calmZ hr rfl (pa_cons (pv 2) (pa_cons (pv 3) pa_nil))) pa_nil))) pa_nil))))) (pss_one (ps_ret pe_bl)) pss_nil)
      (pss_cons (ps_expr (pe_bmK K PySem.F.plainAttrs_list PySem.F.slot_list_append PySem.F.type_list_append mt_append (pe_ix (ix_seqK K) (pv 5) pe_int (fun _ _ => rfl)) (pa_cons pe_int pa_nil)))
      (pss_one (ps_expr (pe_bm0K K PySem.F.plainAttrs_list PySem.F.slot_list_clear PySem.F.type_list_clear mt_clear (pe_ix (ix_seqK K) (pv 5) pe_int (fun _ _ => rfl)))))))))))
      (pss_cons (ps_set (i := 6) nd rfl (Or.inl rfl) (pe_op op_mulA (pe_callB (call_lenK K) (by rfl) Z.len PySem.boot_len (pa_cons (pe_callC c_plans.calmZ hr rfl (pa_cons (pv 2) (pa_cons pe_str pa_nil))) pa_nil)) (pe_callB (call_lenK K) (by rfl) Z.len PySem.boot_len (pa_cons (pe_callC c_plans.calmZ hr rfl (pa_cons (pv 2) (pa_cons pe_str pa_nil))) pa_nil))))
      (pss_cons (ps_set (i := 7) nd rfl (Or.inl rfl) pe_int)
      (pss_cons (ps_for PassesOwn.never rfl (pi_seqK K (pv 2)) (pg_tupK (n := 2) K rfl (pgs_cons (pg_name (i := 3) nd rfl (Or.inl rfl)) (pgs_cons (pg_name (i := 8) nd rfl (Or.inl rfl)) pgs_nil))) (pss_one (ps_set (i := 7) nd rfl (Or.inl rfl) (pe_op op_mulA (pv 7) (pe_callB (call_lenK K) (by rfl) Z.len PySem.boot_len (pa_cons (pv 8) pa_nil))))))
      (pss_cons (ps_set (i := 9) nd rfl (Or.inr rfl) (pe_ix (ix_seqK K) (pe_lst (pa_cons pe_str (pa_cons pe_str (pa_cons pe_str (pa_cons pe_str pa_nil))))) (pe_op op_modN (pe_ix (ix_seqK K) (pv 1) pe_int (fun _ _ => rfl)) pe_int) (fun _ _ => rfl)))
      (pss_cons (ps_set (i := 10) nd rfl (Or.inl rfl) (pe_lst (pa_cons (pe_ix (ix_seqK K) (pe_tried (y := "law") cL Er cf cw TL rfl rfl rfl hr (by decide) (LamX.lamS_by (sc := defScope s_law) (by decide +kernel)) rfl (fun _ _ _ _ _ => by rfl) (fun A outer s H E f c' hr => (pe_callX c_plans (L2N.takes_of rfl rfl rfl rfl) hr rfl (pa_cons (pv 2) (pa_cons (pv 9) pa_nil))))) pe_int (fun _ _ => rfl)) pa_nil)))
      (pss_cons (ps_expr (pe_bmK K PySem.F.plainAttrs_list PySem.F.slot_list_append PySem.F.type_list_append mt_append (pv 10) (pa_cons (pe_ix (ix_seqK K) (pe_tried (y := "law") cL Er cf cw TL rfl rfl rfl hr (by decide) (LamX.lamS_by (sc := defScope s_law) (by decide +kernel)) rfl (fun _ _ _ _ _ => by rfl) (fun A outer s H E f c' hr => (pe_callX c_stores_of (L2N.takes_of rfl rfl rfl rfl) hr rfl (pa_cons (pv 2) (pa_cons (pv 9) pa_nil))))) pe_int (fun _ _ => rfl)) pa_nil)))
      (pss_cons (ps_expr (pe_bmK K PySem.F.plainAttrs_list PySem.F.slot_list_append PySem.F.type_list_append mt_append (pv 10) (pa_cons (pe_ix (ix_seqK K) (pe_tried (y := "law") cL Er cf cw TL rfl rfl rfl hr (by decide) (LamX.lamS_by (sc := defScope s_law) (by decide +kernel)) rfl (fun _ _ _ _ _ => by rfl) (fun A outer s H E f c' hr => (pe_callX c_plans (L2N.takes_of rfl rfl rfl rfl) hr rfl (pa_cons (pe_tup pa_nil) (pa_cons (pv 9) pa_nil))))) pe_int (fun _ _ => rfl)) pa_nil)))
      (pss_cons (ps_expr (pe_bmK K PySem.F.plainAttrs_list PySem.F.slot_list_append PySem.F.type_list_append mt_append (pv 10) (pa_cons (pe_ix (ix_seqK K) (pe_tried (y := "law") cL Er cf cw TL rfl rfl rfl hr (by decide) (LamX.lamS_by (sc := defScope s_law) (by decide +kernel)) rfl (fun _ _ _ _ _ => by rfl) (fun A outer s H E f c' hr => (pe_callX c_stores_of (L2N.takes_of rfl rfl rfl rfl) hr rfl (pa_cons (pe_op (op_mulB K) (pv 2) pe_int) (pa_cons (pv 9) pa_nil))))) pe_int (fun _ _ => rfl)) pa_nil)))
      (pss_one (ps_ret (pe_and (pe_cmpR (op_eqK K hr.units) (pv 6) (pv 7) (nomark _)) (pe_one (pe_cmpR (op_eqK K hr.units) (pv 10) (pe_lst (pa_cons pe_str (pa_cons pe_str (pa_cons pe_str (pa_cons pe_str pa_nil))))) (nomark _))))))))))))))))), ?_⟩
    rintro ss Po ⟨ns, hl, rfl, rfl⟩ H0 C D hrt
    refine q_num (many := 104) rfl hl (by decide) fun xs hx hf => ?_
    refine tri_sim (fr := false) (W := fun _ _ _ _ => False) (m := m_law) ((sim_seq (sim_asg (sim_callC0 (sim_cons sim_V (sim_cons sim_int sim_nil))))
    (sim_seq (sim_for (sim_iS (sim_L (sim_lstF (sim_cons sim_str (sim_cons sim_str sim_nil))))) simG_N (sim_for (sim_rng1 (sim_cons sim_int sim_nil)) simG_N (sim_nst (sim_callCF0 (sim_cons sim_V (sim_cons sim_V sim_nil))) (sim_callCF0 (sim_cons sim_V (sim_cons sim_V sim_nil))) (sim_yNot (sim_yB (sim_rel (sim_cons sim_V (sim_cons (sim_L (sim_lstF (sim_cons (sim_callC0 (sim_cons sim_V (sim_cons sim_V sim_nil))) (sim_cons (sim_callC0 (sim_cons sim_V (sim_cons sim_V sim_nil))) sim_nil)))) sim_nil))))) mut_app mut_clr)))
    (sim_seq (sim_asg (sim_op r_mulV (sim_cb r_len (sim_cons (sim_callC0 (sim_cons sim_V (sim_cons sim_str sim_nil))) sim_nil)) (sim_cb r_len (sim_cons (sim_callC0 (sim_cons sim_V (sim_cons sim_str sim_nil))) sim_nil))))
    (sim_seq (sim_asg sim_int)
    (sim_seq (sim_for (sim_iS sim_V) (simG_T (simG_C simG_N (simG_C simG_N simG_0))) (sim_asg (sim_op r_mulV sim_V (sim_cb r_len (sim_cons sim_V sim_nil)))))
    (sim_seq (sim_asg (sim_op r_ix (sim_L (sim_lstF (sim_cons sim_str (sim_cons sim_str (sim_cons sim_str (sim_cons sim_str sim_nil)))))) (sim_op r_mod (sim_op r_ix sim_V sim_int) sim_int)))
    (sim_seq (sim_own (sim_lstF (sim_cons (sim_op r_ix (sim_try fun E => (sim_call0 (sim_cons sim_V (sim_cons sim_V sim_nil)))) sim_int) sim_nil)))
    (sim_seq (sim_app (sim_op r_ix (sim_try fun E => (sim_call0 (sim_cons sim_V (sim_cons sim_V sim_nil)))) sim_int))
    (sim_seq (sim_app (sim_op r_ix (sim_try fun E => (sim_call0 (sim_cons (sim_tup sim_nil) (sim_cons sim_V sim_nil)))) sim_int))
    (sim_seq (sim_app (sim_op r_ix (sim_try fun E => (sim_call0 (sim_cons (sim_op r_mulT sim_V sim_int) (sim_cons sim_V sim_nil)))) sim_int))
    (sim_frz (sim_ret (sim_and (sim_op r_eq sim_V sim_V) (sim_op r_eq sim_V (sim_L (sim_lstF (sim_cons sim_str (sim_cons sim_str (sim_cons sim_str (sim_cons sim_str sim_nil))))))))))))))))))))) ?_
    have e := pure_law (.scr (ns.map .int)) xs hx hf
    show PostS K T false H0 _ C D _ (m_law [.scr (ns.map .int), .dat (.list (xs.map .int)), .no, .no, .no, .no, .no, .no, .no, .no, .no])
    rw [e]
    exact hrt _ rfl
/-! ### the end -/
def dk (x : Str) (st : Stmt) (dfl : List He.Dv) (kwd : List (Str × He.Dv)) : He.DefD := ⟨(x, none), x, x, defArgs st, defBody st, defScope st, dfl, kwd⟩
def fnL : List He.DefD := [dk "is_share" s_is_share [] [], dk "need_hand" s_need_hand [] [], dk "look" s_look [] [], dk "places_of" s_places_of [] [], dk "stores_of" s_stores_of [] [], dk "all_plans" s_all_plans [] [], dk "plans" s_plans [] [], dk "_law_numbers" s__law_numbers [] [], dk "_law_part" s__law_part [] [], dk "_law_share" s__law_share [] [], dk "_law_times" s__law_times [] [], dk "_law_menus" s__law_menus [] [], dk "_law_same" s__law_same [] [], dk "_law_stores" s__law_stores [] [], dk "_law_plans" s__law_plans [] [], dk "_law_word" s__law_word [] [], dk "_law_flags" s__law_flags [] [], dk "_law_tried" s__law_tried [] [], dk "law" s_law [] []]
def ckL (K : PySem.W.Frag) : Bool := seerB K && He.tupB K "HANDS" [.str "we", .str "weather"] && erB erL K
def faL : List He.Fa := [.glo "is_share", .glo "need_hand", .glo "look", .glo "places_of", .glo "stores_of", .glo "all_plans", .glo "plans", .glo "_law_numbers", .glo "_law_part", .glo "_law_share", .glo "_law_times", .glo "_law_menus", .glo "_law_same", .glo "_law_stores", .glo "_law_plans", .glo "_law_word", .glo "_law_flags", .glo "_law_tried", .glo "law", .free "len", .free "range", .free "abs", .free "int", .free "list", .free "tuple", .free "all", .free "any", .free "str", .free "sum", .free "max", .free "min", .free "zip", .free "enumerate", .free "isinstance", .free "sorted", .free "reversed", .free "bool", .free "ValueError", .free "ZeroDivisionError", .glo "HANDS", .int "MOST_LOWER" 20, .int "MOST_ROWS" 3, .int "MOST_STORES" 5, .int "MOST_UPPER" 999]
abbrev rowL : PySem.W.OpenRow := PySem.W.OpenLaw.row PySem.Challenge.rw_lullworks_k06_hands_and_plans
def tfL : List He.Defn := [("law", none)]
abbrev hkL : PySem.W.Hook := hookQ 4 faL fnL tfL ckL
def obL (s : PySem.W.SharedT) : AlQ := obsQ 4 faL fnL tfL ckL (HandSHeadRun.getT s)
theorem obL_eq (s : PySem.W.SharedT) : obL s = hkL.obs s.abs := obsQ_eq (HandSHeadRun.getT_eq s)
def looseL : List Str := (["LullError", "BadPart", "BadHand", "BadRows", "BadShares", "BadPlan", "BadFilling", "BadRate", "BadLower", "BadSteps", "BadName", "Taken"] : List Str) ++ (["Full", "Last", "NotOurs", "Bare", "Unlike", "BadDeed", "BadText", "Broken", "Missing", "NoStore", "NoRow", "NoPaper"] : List Str) ++ (["HANDS", "MOST_STORES", "MOST_ROWS", "MOST_UPPER", "MOST_LOWER", "is_share", "need_hand", "look", "places_of", "stores_of", "all_plans", "plans"] : List Str) ++ (["_law_numbers", "_law_part", "_law_share", "_law_times", "_law_menus", "_law_same", "_law_stores", "_law_plans", "_law_word", "_law_flags", "_law_tried"] : List Str)
theorem runL (w : World) : HandSHeadRun.RunEq rowL (PySem.W.view rowL.prog [50]) hkL obL 12000 looseL w := by
  intro os
  kernel_rfl
theorem factsL {P : Program} {w : World} {K : PySem.W.Frag} {h : Heap} {mg : Str → Option Value} {f : Addr} (X : K.In h) (G : h.Ns mainGlobals mg) (hfa : mg ("law" : Str) = some (.ref f)) (c : He.SaysD faL fnL K) (hP : P.given.tree = none) (ck : ckL K = true) (ndT : (tfL.map fun p => (He.cT K p).2).Nodup) :
    ∃ fd : FuncData, (∀ (s : Shared) (v : Value), BindsTo s fd ⟨[v], []⟩ [("_law_script", v)]) ∧ ∀ base : Heap, K.In base → base.Ns mainGlobals mg → (∀ p ∈ tfL.map (He.cT K), LamX.TabB base mg p.1 p.2) → FnOk P w K mg base CX0 51 f fd ["_law_script"] (spA K (tabT tfL K) Rlaw) := by
  obtain ⟨fd_is_share, F_is_share⟩ := c.def_ 0 (d := dk "is_share" s_is_share [] []) rfl
  have m_is_share := He.glo_ok X G (c.fact 0 (f := .glo "is_share") rfl)
  replace F_is_share : FnQ K "is_share" s_is_share [] [] (He.ga K "is_share") fd_is_share := F_is_share
  obtain ⟨fd_need_hand, F_need_hand⟩ := c.def_ 1 (d := dk "need_hand" s_need_hand [] []) rfl
  have m_need_hand := He.glo_ok X G (c.fact 1 (f := .glo "need_hand") rfl)
  replace F_need_hand : FnQ K "need_hand" s_need_hand [] [] (He.ga K "need_hand") fd_need_hand := F_need_hand
  obtain ⟨fd_look, F_look⟩ := c.def_ 2 (d := dk "look" s_look [] []) rfl
  have m_look := He.glo_ok X G (c.fact 2 (f := .glo "look") rfl)
  replace F_look : FnQ K "look" s_look [] [] (He.ga K "look") fd_look := F_look
  obtain ⟨fd_places_of, F_places_of⟩ := c.def_ 3 (d := dk "places_of" s_places_of [] []) rfl
  have m_places_of := He.glo_ok X G (c.fact 3 (f := .glo "places_of") rfl)
  replace F_places_of : FnQ K "places_of" s_places_of [] [] (He.ga K "places_of") fd_places_of := F_places_of
  obtain ⟨fd_stores_of, F_stores_of⟩ := c.def_ 4 (d := dk "stores_of" s_stores_of [] []) rfl
  have m_stores_of := He.glo_ok X G (c.fact 4 (f := .glo "stores_of") rfl)
  replace F_stores_of : FnQ K "stores_of" s_stores_of [] [] (He.ga K "stores_of") fd_stores_of := F_stores_of
  obtain ⟨fd_all_plans, F_all_plans⟩ := c.def_ 5 (d := dk "all_plans" s_all_plans [] []) rfl
  have m_all_plans := He.glo_ok X G (c.fact 5 (f := .glo "all_plans") rfl)
  replace F_all_plans : FnQ K "all_plans" s_all_plans [] [] (He.ga K "all_plans") fd_all_plans := F_all_plans
  obtain ⟨fd_plans, F_plans⟩ := c.def_ 6 (d := dk "plans" s_plans [] []) rfl
  have m_plans := He.glo_ok X G (c.fact 6 (f := .glo "plans") rfl)
  replace F_plans : FnQ K "plans" s_plans [] [] (He.ga K "plans") fd_plans := F_plans
  obtain ⟨fd__law_numbers, F__law_numbers⟩ := c.def_ 7 (d := dk "_law_numbers" s__law_numbers [] []) rfl
  have m__law_numbers := He.glo_ok X G (c.fact 7 (f := .glo "_law_numbers") rfl)
  replace F__law_numbers : FnQ K "_law_numbers" s__law_numbers [] [] (He.ga K "_law_numbers") fd__law_numbers := F__law_numbers
  obtain ⟨fd__law_part, F__law_part⟩ := c.def_ 8 (d := dk "_law_part" s__law_part [] []) rfl
  have m__law_part := He.glo_ok X G (c.fact 8 (f := .glo "_law_part") rfl)
  replace F__law_part : FnQ K "_law_part" s__law_part [] [] (He.ga K "_law_part") fd__law_part := F__law_part
  obtain ⟨fd__law_share, F__law_share⟩ := c.def_ 9 (d := dk "_law_share" s__law_share [] []) rfl
  have m__law_share := He.glo_ok X G (c.fact 9 (f := .glo "_law_share") rfl)
  replace F__law_share : FnQ K "_law_share" s__law_share [] [] (He.ga K "_law_share") fd__law_share := F__law_share
  obtain ⟨fd__law_times, F__law_times⟩ := c.def_ 10 (d := dk "_law_times" s__law_times [] []) rfl
  have m__law_times := He.glo_ok X G (c.fact 10 (f := .glo "_law_times") rfl)
  replace F__law_times : FnQ K "_law_times" s__law_times [] [] (He.ga K "_law_times") fd__law_times := F__law_times
  obtain ⟨fd__law_menus, F__law_menus⟩ := c.def_ 11 (d := dk "_law_menus" s__law_menus [] []) rfl
  have m__law_menus := He.glo_ok X G (c.fact 11 (f := .glo "_law_menus") rfl)
  replace F__law_menus : FnQ K "_law_menus" s__law_menus [] [] (He.ga K "_law_menus") fd__law_menus := F__law_menus
  obtain ⟨fd__law_same, F__law_same⟩ := c.def_ 12 (d := dk "_law_same" s__law_same [] []) rfl
  have m__law_same := He.glo_ok X G (c.fact 12 (f := .glo "_law_same") rfl)
  replace F__law_same : FnQ K "_law_same" s__law_same [] [] (He.ga K "_law_same") fd__law_same := F__law_same
  obtain ⟨fd__law_stores, F__law_stores⟩ := c.def_ 13 (d := dk "_law_stores" s__law_stores [] []) rfl
  have m__law_stores := He.glo_ok X G (c.fact 13 (f := .glo "_law_stores") rfl)
  replace F__law_stores : FnQ K "_law_stores" s__law_stores [] [] (He.ga K "_law_stores") fd__law_stores := F__law_stores
  obtain ⟨fd__law_plans, F__law_plans⟩ := c.def_ 14 (d := dk "_law_plans" s__law_plans [] []) rfl
  have m__law_plans := He.glo_ok X G (c.fact 14 (f := .glo "_law_plans") rfl)
  replace F__law_plans : FnQ K "_law_plans" s__law_plans [] [] (He.ga K "_law_plans") fd__law_plans := F__law_plans
  obtain ⟨fd__law_word, F__law_word⟩ := c.def_ 15 (d := dk "_law_word" s__law_word [] []) rfl
  have m__law_word := He.glo_ok X G (c.fact 15 (f := .glo "_law_word") rfl)
  replace F__law_word : FnQ K "_law_word" s__law_word [] [] (He.ga K "_law_word") fd__law_word := F__law_word
  obtain ⟨fd__law_flags, F__law_flags⟩ := c.def_ 16 (d := dk "_law_flags" s__law_flags [] []) rfl
  have m__law_flags := He.glo_ok X G (c.fact 16 (f := .glo "_law_flags") rfl)
  replace F__law_flags : FnQ K "_law_flags" s__law_flags [] [] (He.ga K "_law_flags") fd__law_flags := F__law_flags
  obtain ⟨fd__law_tried, F__law_tried⟩ := c.def_ 17 (d := dk "_law_tried" s__law_tried [] []) rfl
  have m__law_tried := He.glo_ok X G (c.fact 17 (f := .glo "_law_tried") rfl)
  replace F__law_tried : FnQ K "_law_tried" s__law_tried [] [] (He.ga K "_law_tried") fd__law_tried := F__law_tried
  obtain ⟨fd_law, F_law⟩ := c.def_ 18 (d := dk "law" s_law [] []) rfl
  have m_law := He.glo_ok X G (c.fact 18 (f := .glo "law") rfl)
  replace F_law : FnQ K "law" s_law [] [] (He.ga K "law") fd_law := F_law
  have Z : Blt mg := ⟨He.free_ok X G (c.fact 19 (f := .free "len") rfl), He.free_ok X G (c.fact 20 (f := .free "range") rfl), He.free_ok X G (c.fact 21 (f := .free "abs") rfl), He.free_ok X G (c.fact 22 (f := .free "int") rfl), He.free_ok X G (c.fact 23 (f := .free "list") rfl), He.free_ok X G (c.fact 24 (f := .free "tuple") rfl), He.free_ok X G (c.fact 25 (f := .free "all") rfl), He.free_ok X G (c.fact 26 (f := .free "any") rfl), He.free_ok X G (c.fact 27 (f := .free "str") rfl), He.free_ok X G (c.fact 28 (f := .free "sum") rfl), He.free_ok X G (c.fact 29 (f := .free "max") rfl), He.free_ok X G (c.fact 30 (f := .free "min") rfl), He.free_ok X G (c.fact 31 (f := .free "zip") rfl), He.free_ok X G (c.fact 32 (f := .free "enumerate") rfl), He.free_ok X G (c.fact 33 (f := .free "isinstance") rfl), He.free_ok X G (c.fact 34 (f := .free "sorted") rfl), He.free_ok X G (c.fact 35 (f := .free "reversed") rfl), He.free_ok X G (c.fact 36 (f := .free "bool") rfl), He.free_ok X G (c.fact 37 (f := .free "ValueError") rfl), He.free_ok X G (c.fact 38 (f := .free "ZeroDivisionError") rfl)⟩
  have ckk : ckL K = true := ck
  unfold ckL at ckk
  obtain ⟨ckk, ck_2⟩ := He.ba ckk
  obtain ⟨ckk, ck_1⟩ := He.ba ckk
  have Se : Seer P K := ⟨hP, ckk⟩
  have Er : ErrT K mg erL := erB_ok X G ck_2
  have g_HANDS : Cst mg K "HANDS" (.tuple [.str "we", .str "weather"]) := cst_tup (He.glo_ok X G (c.fact 39 (f := .glo "HANDS") rfl)) ck_1 (fun H => .cons (.str _) (.cons (.str _) .nil))
  have g_MOST_LOWER : Cst mg K "MOST_LOWER" (.int 20) := cst_int (He.int_ok X G (c.fact 40 (f := .int "MOST_LOWER" 20) rfl))
  have g_MOST_ROWS : Cst mg K "MOST_ROWS" (.int 3) := cst_int (He.int_ok X G (c.fact 41 (f := .int "MOST_ROWS" 3) rfl))
  have g_MOST_STORES : Cst mg K "MOST_STORES" (.int 5) := cst_int (He.int_ok X G (c.fact 42 (f := .int "MOST_STORES" 5) rfl))
  have g_MOST_UPPER : Cst mg K "MOST_UPPER" (.int 999) := cst_int (He.int_ok X G (c.fact 43 (f := .int "MOST_UPPER" 999) rfl))
  cases hfa.symm.trans m_law
  refine ⟨fd_law, fun s v => FunD.bindsA (ps := ["_law_script"]) F_law (fun _ _ _ _ _ _ us hl => match us, hl with | [_], _ => rfl) s [v] rfl, fun base _ _ tbs => ?_⟩
  have TL_law : LamTab K (tabT tfL K) mg base "law" := ⟨tbs _ (List.mem_map.mpr ⟨("law", none), List.mem_of_getElem? (i := 0) rfl, rfl⟩), tabT_mem (p := ("law", none)) (List.mem_of_getElem? (i := 0) rfl), tabT_one ndT (p := ("law", none)) (List.mem_of_getElem? (i := 0) rfl)⟩
  have cL : CalL K mg "_law_tried" s__law_tried "_law_ask" := ⟨⟨_, _, F__law_tried, m__law_tried, F__law_tried.bindsN (ps := ["_law_ask"]) (fun _ _ _ _ _ _ us hl => match us, hl with | [_], _ => rfl)⟩⟩
  have cf : CalH P w K mg base 42 "_law_flags" ["_law_e"] (spX K (tabT tfL K) erL flD) := ⟨⟨_, _, okH__law_flags F__law_flags Z Er, m__law_flags, F__law_flags.kp, F__law_flags.bindsN (ps := ["_law_e"]) (fun _ _ _ _ _ _ us hl => match us, hl with | [_], _ => rfl)⟩⟩
  have cw : CalH P w K mg base 42 "_law_word" ["_law_flags_here"] (fun _ _ _ => spZ K (tabT tfL K) false fun ds => (d__law_word ds).calm) := ⟨⟨_, _, okH__law_word F__law_word Z, m__law_word, F__law_word.kp, F__law_word.bindsN (ps := ["_law_flags_here"]) (fun _ _ _ _ _ _ us hl => match us, hl with | [_], _ => rfl)⟩⟩
  have G__law_numbers : FnOk P w K mg base CX0 41 _ fd__law_numbers ["_law_script", "_law_many"] (spA K (tabT tfL K) Rnumbers) := ok__law_numbers F__law_numbers Z
  have c__law_numbers := cal_mk (x := "_law_numbers") G__law_numbers m__law_numbers F__law_numbers.kp (F__law_numbers.bindsN (ps := ["_law_script", "_law_many"]) (fun _ _ _ _ _ _ us hl => match us, hl with | [_, _], _ => rfl))
  have G__law_part : FnOk P w K mg base (L2N.CX P w) 41 _ fd__law_part ["_law_up", "_law_down"] (spZ K (tabT tfL K) false d__law_part) := ok__law_part F__law_part Z Se
  have c__law_part : CalX P w K mg base 41 "_law_part" ["_law_up", "_law_down"] [] (spZ K (tabT tfL K) false d__law_part) := calX_mk G__law_part m__law_part F__law_part.kp (F__law_part.bindsN (ps := ["_law_up", "_law_down"]) (fun _ _ _ _ _ _ us hl => match us, hl with | [_, _], _ => rfl))
  have G__law_share : FnOk P w K mg base (L2N.CX P w) 42 _ fd__law_share ["_law_number"] (spZ K (tabT tfL K) false d__law_share) := ok__law_share F__law_share Z c__law_part
  have c__law_share : CalX P w K mg base 42 "_law_share" ["_law_number"] [] (spZ K (tabT tfL K) false d__law_share) := calX_mk G__law_share m__law_share F__law_share.kp (F__law_share.bindsN (ps := ["_law_number"]) (fun _ _ _ _ _ _ us hl => match us, hl with | [_], _ => rfl))
  have G__law_times : FnOk P w K mg base (L2N.CX P w) 42 _ fd__law_times ["_law_this", "_law_that"] (spZ K (tabT tfL K) false d__law_times) := ok__law_times F__law_times Z c__law_part
  have c__law_times : CalX P w K mg base 42 "_law_times" ["_law_this", "_law_that"] [] (spZ K (tabT tfL K) false d__law_times) := calX_mk G__law_times m__law_times F__law_times.kp (F__law_times.bindsN (ps := ["_law_this", "_law_that"]) (fun _ _ _ _ _ _ us hl => match us, hl with | [_, _], _ => rfl))
  have G__law_menus : FnOk P w K mg base (L2N.CX P w) 43 _ fd__law_menus ["_law_d", "_law_upto"] (spZ K (tabT tfL K) false d__law_menus) := ok__law_menus F__law_menus Z c__law_share c__law_times
  have c__law_menus : CalX P w K mg base 43 "_law_menus" ["_law_d", "_law_upto"] [] (spZ K (tabT tfL K) false d__law_menus) := calX_mk G__law_menus m__law_menus F__law_menus.kp (F__law_menus.bindsN (ps := ["_law_d", "_law_upto"]) (fun _ _ _ _ _ _ us hl => match us, hl with | [_, _], _ => rfl))
  have G_all_plans : FnOk P w K mg base (L2N.CX P w) 41 _ fd_all_plans ["menus", "stores"] (spZ K (tabT tfL K) true d_all_plans) := ok_all_plans F_all_plans Z
  have c_all_plans : CalX P w K mg base 41 "all_plans" ["menus", "stores"] [] (spZ K (tabT tfL K) true d_all_plans) := calX_mk G_all_plans m_all_plans F_all_plans.kp (F_all_plans.bindsN (ps := ["menus", "stores"]) (fun _ _ _ _ _ _ us hl => match us, hl with | [_, _], _ => rfl))
  have G_need_hand : FnOk P w K mg base (L2N.CX P w) 41 _ fd_need_hand ["hand"] (spZ K (tabT tfL K) false d_need_hand) := ok_need_hand F_need_hand Z g_HANDS Er
  have c_need_hand : CalX P w K mg base 41 "need_hand" ["hand"] [] (spZ K (tabT tfL K) false d_need_hand) := calX_mk G_need_hand m_need_hand F_need_hand.kp (F_need_hand.bindsN (ps := ["hand"]) (fun _ _ _ _ _ _ us hl => match us, hl with | [_], _ => rfl))
  have G_is_share : FnOk P w K mg base (L2N.CX P w) 41 _ fd_is_share ["one"] (spZ K (tabT tfL K) false d_is_share) := ok_is_share F_is_share Z g_MOST_UPPER g_MOST_LOWER
  have c_is_share : CalX P w K mg base 41 "is_share" ["one"] [] (spZ K (tabT tfL K) false d_is_share) := calX_mk G_is_share m_is_share F_is_share.kp (F_is_share.bindsN (ps := ["one"]) (fun _ _ _ _ _ _ us hl => match us, hl with | [_], _ => rfl))
  have G_look : FnOk P w K mg base (L2N.CX P w) 42 _ fd_look ["menus"] (spZ K (tabT tfL K) false d_look) := ok_look F_look Z g_MOST_STORES g_MOST_ROWS Er c_need_hand c_is_share
  have c_look : CalX P w K mg base 42 "look" ["menus"] [] (spZ K (tabT tfL K) false d_look) := calX_mk G_look m_look F_look.kp (F_look.bindsN (ps := ["menus"]) (fun _ _ _ _ _ _ us hl => match us, hl with | [_], _ => rfl))
  have G_places_of : FnOk P w K mg base (L2N.CX P w) 41 _ fd_places_of ["menus", "hand"] (spZ K (tabT tfL K) true d_places_of) := ok_places_of F_places_of Z
  have c_places_of : CalX P w K mg base 41 "places_of" ["menus", "hand"] [] (spZ K (tabT tfL K) true d_places_of) := calX_mk G_places_of m_places_of F_places_of.kp (F_places_of.bindsN (ps := ["menus", "hand"]) (fun _ _ _ _ _ _ us hl => match us, hl with | [_, _], _ => rfl))
  have G_stores_of : FnOk P w K mg base (L2N.CX P w) 43 _ fd_stores_of ["menus", "hand"] (spZ K (tabT tfL K) true d_stores_of) := ok_stores_of F_stores_of Z c_look c_need_hand c_places_of
  have c_stores_of : CalX P w K mg base 43 "stores_of" ["menus", "hand"] [] (spZ K (tabT tfL K) true d_stores_of) := calX_mk G_stores_of m_stores_of F_stores_of.kp (F_stores_of.bindsN (ps := ["menus", "hand"]) (fun _ _ _ _ _ _ us hl => match us, hl with | [_, _], _ => rfl))
  have G_plans : FnOk P w K mg base (L2N.CX P w) 44 _ fd_plans ["menus", "hand"] (spZ K (tabT tfL K) true d_plans) := ok_plans F_plans Z c_all_plans c_stores_of
  have c_plans : CalX P w K mg base 44 "plans" ["menus", "hand"] [] (spZ K (tabT tfL K) true d_plans) := calX_mk G_plans m_plans F_plans.kp (F_plans.bindsN (ps := ["menus", "hand"]) (fun _ _ _ _ _ _ us hl => match us, hl with | [_, _], _ => rfl))
  have self : ∀ (k : Nat) (R : List PyData → PyData → Prop), FnOk P w K mg base CX0 k _ fd__law_same ["_law_found", "_law_due"] (spR K (tabT tfL K) R) → Cal P w K mg base k "_law_same" ["_law_found", "_law_due"] [] (spR K (tabT tfL K) R) := fun k R G => cal_mk G m__law_same F__law_same.kp (F__law_same.bindsN (ps := ["_law_found", "_law_due"]) (fun _ _ _ _ _ _ us hl => match us, hl with | [_, _], _ => rfl))
  have c__law_same := self 50 Rsame8 (ok__law_same F__law_same Z self)
  have G__law_stores : FnOk P w K mg base (L2N.CX P w) 41 _ fd__law_stores ["_law_book", "_law_whose"] (spZ K (tabT tfL K) true d__law_stores) := ok__law_stores F__law_stores Z
  have c__law_stores : CalX P w K mg base 41 "_law_stores" ["_law_book", "_law_whose"] [] (spZ K (tabT tfL K) true d__law_stores) := calX_mk G__law_stores m__law_stores F__law_stores.kp (F__law_stores.bindsN (ps := ["_law_book", "_law_whose"]) (fun _ _ _ _ _ _ us hl => match us, hl with | [_, _], _ => rfl))
  have G__law_plans : FnOk P w K mg base (L2N.CX P w) 42 _ fd__law_plans ["_law_book", "_law_whose"] (spZ K (tabT tfL K) false d__law_plans) := ok__law_plans F__law_plans Z c__law_stores
  have c__law_plans : CalX P w K mg base 42 "_law_plans" ["_law_book", "_law_whose"] [] (spZ K (tabT tfL K) false d__law_plans) := calX_mk G__law_plans m__law_plans F__law_plans.kp (F__law_plans.bindsN (ps := ["_law_book", "_law_whose"]) (fun _ _ _ _ _ _ us hl => match us, hl with | [_, _], _ => rfl))
  exact ok_law F_law Z Er cL cf cw TL_law c__law_numbers c__law_menus c_plans c_stores_of c__law_same c__law_stores c__law_plans
end Lw
open PySem PySem.W PySem.Calls PyProof.Rows
set_option maxRecDepth 100000 in
set_option maxHeartbeats 0 in
theorem PySem.Challenge.cw_lullworks_k06_hands_and_plans_holds : PySem.Challenge.rw_lullworks_k06_hands_and_plans.Holds := by
  w_on; o_law
  refine HandSHeadRun.head_any (r := OpenLaw.row PySem.Challenge.rw_lullworks_k06_hands_and_plans) (q := view (OpenLaw.row PySem.Challenge.rw_lullworks_k06_hands_and_plans).prog [50]) (H := Lw.hkL) (ob := Lw.obL) (M := 12000) (loose := Lw.looseL) (d := HandSHeadRun.topDef (OpenLaw.row PySem.Challenge.rw_lullworks_k06_hands_and_plans).prog 50) (kwd := []) Lw.obL_eq
    (by kernel_rfl) (fun s => by kernel_rfl) Lw.runL (by kernel_rfl) (by kernel_rfl) (by kernel_rfl) (by rfl) (by first | assumption | decide +kernel) (by decide +kernel) ⟨rfl, rfl, rfl, rfl, rfl, by decide +kernel⟩ ?hw ?hc
  case hw => w_witness2
  case hc =>
    refine Lw.walk_ofTE (l := PySem.Challenge.rw_lullworks_k06_hands_and_plans) (n := 63) (k := 51) (x := "_law_script") (CX := L2.CX0) rfl (by decide) (by kernel_rfl) ⟨rfl, by decide, by decide⟩ ?F (fun _ _ _ _ z => z)
    intro w mg fa h Y G hmg0
    obtain ⟨K, KX, c⟩ := Y
    have hmg : mg ("law" : PySem.Str) = some (.ref fa) := by
      have e : (HandSHeadRun.topDef (OpenLaw.row PySem.Challenge.rw_lullworks_k06_hands_and_plans).prog 50).name = ("law" : PySem.Str) := by kernel_rfl
      rw [← e]
      exact hmg0
    obtain ⟨fd, hb, hF⟩ := Lw.factsL (P := (PySem.Challenge.rw_lullworks_k06_hands_and_plans).prog) (w := w) KX G hmg c.d rfl c.ck c.nd
    exact ⟨K, KX, fd, Lw.tfL.map (He.cT K), Lw.spA K (Lw.tabT Lw.tfL K) Lw.Rlaw, fun p hp => (by obtain ⟨q, hq, rfl⟩ := List.mem_map.mp hp; exact c.empty q hq), fun p hp => (by obtain ⟨q, hq, rfl⟩ := List.mem_map.mp hp; exact c.out q hq),
      fun p hp => (by obtain ⟨q, hq, rfl⟩ := List.mem_map.mp hp; exact PySem.W.codeHd_of_K KX (c.hd q hq)), hb, fun H a ns hl _ hT hS => Lw.law_wish hl hS (Lw.tabs_start hT), hF⟩
